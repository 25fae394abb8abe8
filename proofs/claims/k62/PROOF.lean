import PyProof.Rows.All
import Wide.All
import OpenK.AllK
import Wide.FinOn
import HandS.ForMost
import HandS.Defaults
import HandS.Style
import HandS.Flow
import HandS.More
import HandS.Small
import HandS.HeadHook1
import HandS.HeadHook2
import HandS.Wide
import KE.KDictPairs
import HandS.OwnEq
import HandS.DeepEq
import KE.KSuper
import HandS.Nested
import HandS.Star
import HandS.TryOnly
import HandS.Strs
import KE.GoesMore
import HandS.Set
import HandS.Head0
import HandS.Head1
import HandS.Head2
import KE.KStateDown
import Lean
import HandS.Ends
import HandS.Words
import HandS.WordsExc
import HandS.HeadEnd
import PySem.Challenge.RW_caughtup_k62_main_pictures_that_are_move
set_option Elab.async false
set_option linter.all false
set_option maxRecDepth 100000
set_option maxHeartbeats 0
/-! Kx0: a def with its promise in one word (Fn), calls by it, constants of the module, steps of readings by their heads. -/
namespace Kx
open PySem PySem.Spec PyProof.Rows L2

/-! ### a def and its promise -/
def Fn (P : Program) (w : World) (K : PySem.W.Frag) (mg : Str → Option Value) (base : Heap) (CX : CXT) (k : Nat) (f : Addr) (ps : List Str) (sp : Sp) : Prop :=
  ∃ fd : FuncData, FnOk P w K mg base CX k f fd ps sp ∧ Binds K fd ps [] ∧ PySem.W.keepIn K (.ref f) = true
section
variable {P : Program} {w : World} {K : PySem.W.Frag} {mg : Str → Option Value} {base : Heap} {CX : CXT} {j k : Nat} {f : Addr} {ps : List Str} {sp sp' : Sp}
theorem Fn.mono (F : Fn P w K mg base CX j f ps sp) (h : j ≤ k) : Fn P w K mg base CX k f ps sp := by
  obtain ⟨fd, F, b, kp⟩ := F
  exact ⟨fd, F.mono h, b, kp⟩
theorem Fn.imp (F : Fn P w K mg base CX k f ps sp) (h : ∀ vs H Q E, sp' vs H Q E → sp vs H Q E) : Fn P w K mg base CX k f ps sp' := by
  obtain ⟨fd, F, b, kp⟩ := F
  exact ⟨fd, F.imp h, b, kp⟩
/-- a def that lets nothing out, told for any way out -/
theorem Fn.toCX (F : Fn P w K mg base CX0 k f ps sp) : Fn P w K mg base CX k f ps sp := by
  obtain ⟨fd, F, b, kp⟩ := F
  refine ⟨fd, ⟨F.len, fun A outer s H args us vs Q E hr e0 hb r hs => codeAny_mono (F.run A outer s H args us vs Q E hr e0 hb r hs) fun r s' h => ?_⟩, b, kp⟩
  cases r with
  | ok fl => cases fl <;> exact h
  | error e => exact False.elim h
end
section
variable {X : Cx} {CX : CXT} {k j : Nat} {f C : Addr} {ps : List Str} {sp : Sp} {E : XK} {x m : Str} {p pos apos : Pos} {e o : Expr} {es : List Expr} {ta : TE} {t : TA}
theorem pe_f (F : Fn X.prog X.w X.K X.mg X.base CX k f ps sp) (hr : Room j X.A) (hk : k ≤ j) (hm : X.mg x = some (.ref f)) (hx : Passes CX X E) (ha : PA X (e :: es) t) (hg : Gl X x := by rfl)
    (hdb : (x == ("__debug__" : Str)) = false := by decide) (he : starEach (e :: es) X.env = (false, eval e X.env) :: starEach es X.env := by rfl) (hpl : (backTo pos (starEach es X.env)).any (·.1) = false := by rfl) :
    PE X (.Call (.Name x p) (e :: es) [] pos) (tCall sp [] E t) := by
  obtain ⟨fd, F, b, kp⟩ := F
  exact pe_call F (hr.mono hk) hg hm kp b .nil hx ha hdb he hpl
theorem pe_f0 (F : Fn X.prog X.w X.K X.mg X.base CX k f ps sp) (hr : Room j X.A) (hk : k ≤ j) (hm : X.mg x = some (.ref f)) (hx : Passes CX X E) (hg : Gl X x := by rfl)
    (hdb : (x == ("__debug__" : Str)) = false := by decide) : PE X (.Call (.Name x p) [] [] pos) (tCall sp [] E tNil) := by
  obtain ⟨fd, F, b, kp⟩ := F
  exact pe_call0 F (hr.mono hk) hg hm kp b .nil hx hdb
theorem pe_m {pl : Sem Bool} (F : Fn X.prog X.w X.K X.mg X.base CX k f ps sp) (hr : Room j X.A) (hk : k ≤ j) (c : Cls X.K C) (hm : Meth X.K C m f) (hx : Passes CX X E) (he : PE X o ta) (ha : PA X (e :: es) t)
    (hst : starEach (e :: es) X.env = (false, eval e X.env) :: starEach es X.env := by rfl) (hpl : (backTo pos (starEach es X.env)).any (·.1) = false := by rfl)
    (ht : eval (.Call (.Attribute o m apos) (e :: es) [] pos) X.env = (do
      let ov ← eval o X.env
      standAt apos.atName
      let (f, first) ← holding [ov] (getMethod ov m pl)
      callWith pos f first (backTo pos (starEach (e :: es) X.env)) (backToKw pos (keywordEach [] X.env))) := by rfl) : PE X (.Call (.Attribute o m apos) (e :: es) [] pos) (tMeth C m sp [] E ta t) := by
  obtain ⟨fd, F, b, kp⟩ := F
  exact pe_meth he c hm F (hr.mono hk) b .nil hx ha hst hpl ht
theorem pe_m0 {pl : Sem Bool} (F : Fn X.prog X.w X.K X.mg X.base CX k f ps sp) (hr : Room j X.A) (hk : k ≤ j) (c : Cls X.K C) (hm : Meth X.K C m f) (hx : Passes CX X E) (he : PE X o ta)
    (ht : eval (.Call (.Attribute o m apos) [] [] pos) X.env = (do
      let ov ← eval o X.env
      standAt apos.atName
      let (f, first) ← holding [ov] (getMethod ov m pl)
      callWith pos f first (backTo pos (starEach [] X.env)) (backToKw pos (keywordEach [] X.env))) := by rfl) : PE X (.Call (.Attribute o m apos) [] [] pos) (tMeth C m sp [] E ta tNil) := by
  obtain ⟨fd, F, b, kp⟩ := F
  exact pe_meth0 he c hm F (hr.mono hk) b .nil hx ht
theorem pe_mk (F : Fn X.prog X.w X.K X.mg X.base CX k f ps sp) (hr : Room j X.A) (hk : k + 1 ≤ j) (M : Mk X.K C f) (hm : X.mg x = some (.ref C)) (hx : Passes CX X E) (ha : PA X (e :: es) t) (hg : Gl X x := by rfl)
    (hdb : (x == ("__debug__" : Str)) = false := by decide) (he : starEach (e :: es) X.env = (false, eval e X.env) :: starEach es X.env := by rfl) (hpl : (backTo pos (starEach es X.env)).any (·.1) = false := by rfl) :
    PE X (.Call (.Name x p) (e :: es) [] pos) (tMake C sp [] E t) := by
  obtain ⟨fd, F, b, kp⟩ := F
  exact pe_make M F (hr.mono hk) hg hm b .nil hx ha hdb he hpl
theorem pe_mk0 (F : Fn X.prog X.w X.K X.mg X.base CX k f ps sp) (hr : Room j X.A) (hk : k + 1 ≤ j) (M : Mk X.K C f) (hm : X.mg x = some (.ref C)) (hx : Passes CX X E) (hg : Gl X x := by rfl)
    (hdb : (x == ("__debug__" : Str)) = false := by decide) : PE X (.Call (.Name x p) [] [] pos) (tMake C sp [] E tNil) := by
  obtain ⟨fd, F, b, kp⟩ := F
  exact pe_make0 M F (hr.mono hk) hg hm b .nil hx hdb
/-- a whole number, a text, of the module -/
theorem pe_gi {i : Int} (hm : ∃ t, X.mg x = some (.int i t)) (hg : Gl X x := by rfl) (hd : (x == ("__debug__" : Str)) = false := by decide) : PE X (.Name x pos) (tC (.int i)) := by
  obtain ⟨t, hm⟩ := hm
  exact pe_glob hg hm ⟨t, rfl⟩ hd
theorem pe_gs {z : Str} (hm : ∃ t, X.mg x = some (.str z t)) (hg : Gl X x := by rfl) (hd : (x == ("__debug__" : Str)) = false := by decide) : PE X (.Name x pos) (tC (.str z)) := by
  obtain ⟨t, hm⟩ := hm
  exact pe_glob hg hm ⟨t, rfl⟩ hd
/-- an object of the module -/
theorem pe_gr {a : Addr} (hm : X.mg x = some (.ref a)) (hg : Gl X x := by rfl) (hd : (x == ("__debug__" : Str)) = false := by decide) : PE X (.Name x pos) (tC (.ref a)) := pe_glob hg hm rfl hd
end
/-! ### readings by names -/
def rAbs : List V → Hp → VK → Prop := fun xs H Q => ∃ i, xs = [.int i] ∧ Q (.int (if i < 0 then -i else i)) H
def rMin2 : List V → Hp → VK → Prop := fun xs H Q => ∃ i j, xs = [.int i, .int j] ∧ Q (.int (if j < i then j else i)) H
def rMax2 : List V → Hp → VK → Prop := fun xs H Q => ∃ i j, xs = [.int i, .int j] ∧ Q (.int (if j > i then j else i)) H
def rInt1 : List V → Hp → VK → Prop := fun xs H Q => (∃ i, xs = [.int i] ∧ Q (.int i) H) ∨ ∃ k, xs = [.bl k] ∧ Q (.int (if k then 1 else 0)) H
def rDictD : List V → Hp → VK → Prop := fun xs H Q => ∃ (a : Addr) (kvs : List (Key × V)), xs = [.ref a] ∧ Rd H a (.dK kvs) ∧ ∀ p, H p = none → Q (.ref p) (upd H p (.dK kvs))
def rListOf (K : PySem.W.Frag) : List V → Hp → VK → Prop := fun xs H Q => ∃ p ys, xs = [.ref p] ∧ (SqL K H p ys ∨ SqT K H p ys) ∧ ∀ l, H l = none → Q (.ref l) (upd H l (.lst ys))
def rTupleOf (K : PySem.W.Frag) : List V → Hp → VK → Prop := fun xs H Q => ∃ p ys, xs = [.ref p] ∧ ((SqL K H p ys ∧ ∀ l, H l = none → Q (.ref l) (upd H l (.tup ys))) ∨ (SqT K H p ys ∧ Q (.ref p) H))
def rLenD : List V → Hp → VK → Prop := fun xs H Q => ∃ a kvs, xs = [V.ref a] ∧ H a = some (.dK kvs) ∧ Q (.int kvs.length) H
def rAddS : R2 := fun x y H Q => ∃ i j, x = .str i ∧ y = .str j ∧ i.length + j.length ≤ sizeLine ∧ Q (.str (i ++ j)) H
def rInStr : R2 := fun x y H Q => ∃ i j, x = .str i ∧ y = .str j ∧ Q (.bl (!(Builtin.Str.occurrences j i 0 j.length 1).isEmpty)) H
def rNotInStr : R2 := fun x y H Q => ∃ i j, x = .str i ∧ y = .str j ∧ Q (.bl (!(!(Builtin.Str.occurrences j i 0 j.length 1).isEmpty))) H
/-- a test by its value's truth -/
def tTru (K : PySem.W.Frag) (ta : TE) : TT := fun σ H Q => ta σ H fun x H' => ∃ k, TruV K x H' k ∧ Q k H'
/-! ### d.update(pairs) -/
def rUpdP (K : PySem.W.Frag) : V → List V → Hp → VK → Prop := fun x xs H Q => ∃ (d a : Addr) (ps : List Addr) (acc kvs : List (Key × V)), x = .ref d ∧ xs = [.ref a] ∧ H d = some (.dK acc) ∧ SqL K H a (ps.map V.ref) ∧
  Paired (fun p kv => SqT K H p [kV kv.1, kv.2]) ps kvs ∧ acc.length + kvs.length ≤ sizeLine ∧ Q .non (upd H d (.dK (mergeK acc kvs)))
theorem mt_updateP {X : Cx} (hc : X.calm = true) : MtR X "dict.update" (rUpdP X.K) := by
  intro pins s σ H x xs v us Q I rx r q
  obtain ⟨d, a, ps, acc, kvs, ex, exs, hd, hq, hp, hz, q⟩ := q
  subst ex exs
  cases rx
  obtain ⟨u, eu, ra⟩ := vals1 r
  subst eu
  cases ra
  obtain ⟨its, rv, pl, hz2⟩ := I.list hq
  have ei := refs_at rv
  subst ei
  rw [List.length_map] at hz2
  obtain ⟨prs, rel, hl, hpr⟩ := pairs_of I hp
  obtain ⟨z, lo, vs, relA, dd⟩ := dk_of I.hok hd
  obtain ⟨o, n, ho, hcl, hdc, hdat⟩ := pl
  have hlen := rel.length
  obtain ⟨f, hf⟩ := Classical.axiomOfChoice (show ∀ j : Nat, ∃ y : Addr × Value × Value, ∀ q', prs[j]? = some q' → ps[j]? = some y.1 ∧ IsTup s.heap y.1 #[y.2.1, y.2.2] ∧ keyIs q'.1 y.2.1 = true ∧ y.2.2 = q'.2 from fun j => by
    cases e : prs[j]? with
    | none => exact ⟨(0, .none, .none), fun q' h => by cases h⟩
    | some q0 =>
      obtain ⟨b, u, e1, e2, e3⟩ := hpr j q0 e
      exact ⟨(b, u, q0.2), fun q' h => by
        cases h
        exact ⟨e1, e2, e3, rfl⟩⟩)
  have hat : ∀ j, j < prs.length → ∃ q', prs[j]? = some q' := fun j hj => ⟨_, List.getElem?_eq_getElem hj⟩
  have hne : d ∉ a :: (List.range ((List.range prs.length).map fun j => ((f j).2.1, (f j).2.2)).length).map fun j => (f j).1 := by
    intro hm
    rcases List.mem_cons.mp hm with e | hm
    · rcases hq with (hq | ⟨o', hq⟩) | ⟨o', its', n', hq, hcl', _⟩
      · rw [← e, hd] at hq
        cases hq
      · rw [← e, hd] at hq
        cases hq
      · have h1 := I.kIn a o' hq
        rw [ho] at h1
        obtain ⟨od, es', ep', h2, h3, h4⟩ := dd
        rw [← e] at ho
        rw [h2] at ho
        have := h3.1
        cases ho
        rw [hcl] at this
        exact absurd this (by decide)
    · obtain ⟨j, hj, e⟩ := List.mem_map.mp hm
      rw [List.length_map, List.length_range] at hj
      have hj := List.mem_range.mp hj
      obtain ⟨q', hq'⟩ := hat j hj
      obtain ⟨_, ⟨ot, g1, g2, _⟩, _⟩ := hf j q' hq'
      obtain ⟨od, es', ep', h2, h3, h4⟩ := dd
      rw [e, h2] at g1
      cases g1
      have := h3.1
      rw [g2] at this
      exact absurd this (by decide)
  have hmk : ∀ (h' : Heap) (tk : Nat), h'.DictOf (mixKind X.prog X.w) d (merged vs prs) → (∀ b o, b ≠ d → b ∉ ([] : List Addr) → s.heap.get? b = some o → h'.get? b = some o) → EP X pins σ Q .none { s with heap := h', toks := tk } := fun h' tk hd' hk => by
    refine ⟨.non, _, ?_, rfl, q⟩
    have he : ∃ q, h'.get? d = some q := let ⟨q, _, _, hq, _⟩ := hd'; ⟨q, hq⟩
    have hs : ∀ b u, b ≠ d → s.heap.get? b = some u → h'.get? b = some u := fun b u hb e => hk b u hb (by simp) e
    exact I.write (by rw [hd]; exact True.intro) (.inl rfl) hs he (dk_new (Nat.le_trans (length_mergeK kvs acc) hz) lo (KV.merge rel relA) hd')
  refine call_update_pairs (PairArg.list (prog := X.prog) (w := X.w) a (ps.map Value.ref).toArray (fun j => (f j).1) ((List.range prs.length).map fun j => ((f j).2.1, (f j).2.2))) (I.ok.hd hc)
    ⟨⟨o, n, ho, hcl, hdc, hdat⟩, by simp [hl], fun j k v hj => ?_⟩ hne (kvs := prs) ⟨by simp, fun i key v h => ?_⟩ dd (by rw [List.length_map, List.length_range, ← relA.length, ← rel.length]; exact hz) hmk
  · rw [List.getElem?_map] at hj
    by_cases hl2 : j < prs.length
    · rw [List.getElem?_range hl2] at hj
      obtain ⟨q', hq'⟩ := hat j hl2
      obtain ⟨g1, ⟨ot, g2, g3, m, g4⟩, _⟩ := hf j q' hq'
      have hj := Option.some.inj hj
      have e1 : (f j).2.1 = k := congrArg Prod.fst hj
      have e2 : (f j).2.2 = v := congrArg Prod.snd hj
      refine ⟨by simp [g1], .inl ⟨ot, g2, g3, m, ?_⟩⟩
      rw [g4, e1, e2]
    · rw [List.getElem?_eq_none (by simpa using hl2)] at hj
      cases hj
  · have h : ((List.range prs.length).map fun j => ((f j).2.1, (f j).2.2))[i]? = some (key, v) := h
    rw [List.getElem?_map] at h
    by_cases hl2 : i < prs.length
    · rw [List.getElem?_range hl2] at h
      obtain ⟨q', hq'⟩ := hat i hl2
      obtain ⟨_, _, g3, g4⟩ := hf i q' hq'
      have hj := Option.some.inj h
      have e1 : (f i).2.1 = key := congrArg Prod.fst hj
      have e2 : (f i).2.2 = v := congrArg Prod.snd hj
      refine ⟨q'.1, ?_, ?_⟩
      · rw [hq', ← e2, g4]
      · rw [← e1]
        exact g3
    · rw [List.getElem?_eq_none (by simpa using hl2)] at h
      cases h
end Kx
/-! KxNe: two tuples of equal items, compared by !=, by ==; items at any depth, dicts too. -/
namespace Kx
open PySem PySem.Spec PyProof.Rows L2
section
open PySem.SeqAt AutoSeq1 MeetsSeq MeetsSeq2 MeetsSeq3
variable {prog : Program} {w : World} {A : Around} {R : Result → Shared → Prop}
/-- tuple.__ne__ of two tuples whose items are equal -/
theorem tup_ne_run {l b : Addr} {xs ys : Array Value} {n m : Nat} {dx dy : Option Addr} {sx sy : Array (Option Value)} (hsz : xs.size = ys.size) {s : Shared}
    (he : ∀ i (h1 : i < xs.size) (h2 : i < ys.size), EqP prog w A.in1 s xs[i] ys[i] true)
    (hx : s.heap.get? l = some { cls := .type "tuple", dict := dx, data := .seq xs n, slots := sx })
    (hy : s.heap.get? b = some { cls := .type "tuple", dict := dy, data := .seq ys m, slots := sy }) (q : R (.ok (.ret (.bool false))) s) :
    wpAny (model prog w) A.in1 (Builtin.«tuple.__ne__» ⟨[.ref l, .ref b], []⟩) (GQ.FinOf prog w A R) (fun e s' => R (.error e) s') s := by
  have tt := AutoSeq1.sub_tuple_tuple
  have zl : (xs.toList.zip ys.toList).length = xs.size := by simp [hsz]
  have q0 := q
  obtain ⟨hp, g, d, tk, os⟩ := s
  wp_walk using wpAny_loadPart' hx, wpAny_loadPart' hy, wpAny_forIn_list _ (fun rest z s' => z.1 = none ∧ s' = ⟨hp, g, d, tk, os⟩ ∧ ∃ i, rest = (xs.toList.zip ys.toList).drop i ∧ i ≤ xs.size) _
  case turn =>
    rintro ⟨y, x⟩ rest z s' ⟨hz1, rfl, i, hz, hi⟩
    have il : i < (xs.toList.zip ys.toList).length := by
      by_cases h' : i < (xs.toList.zip ys.toList).length
      · exact h'
      · exfalso
        rw [List.drop_of_length_le (Nat.le_of_not_lt h')] at hz
        cases hz
    have i1 : i < xs.size := by omega
    have i2 : i < ys.size := by omega
    rw [List.drop_eq_getElem_cons il] at hz
    injection hz with e1 e2
    have ey : y = xs[i] := by
      have := congrArg Prod.fst e1
      simpa using this
    have ex : x = ys[i] := by
      have := congrArg Prod.snd e1
      simpa using this
    subst ey ex
    refine wpAny_bind (he i i1 i2 _ _ ?_)
    wp_walk
    exact ⟨rfl, rfl, i + 1, e2, i1⟩
  case fin =>
    rintro ⟨z1, z2⟩ s' ⟨hz1, rfl, i, hz, hi⟩
    simp only at hz1
    subst hz1
    wp_walk
    have ne : (xs.size != ys.size) = false := by rw [hsz]; simp
    simpa [Builtin.Tuple.tupleCompareSizes, hsz] using q0
  case h =>
    exact ⟨rfl, rfl, 0, rfl, Nat.zero_le _⟩
end
/-! ### equal at any depth: scalars, lists, tuples, dicts -/
def SqX (K : PySem.W.Frag) (H : Hp) (E : V → V → Prop) (x y : V) : Prop :=
  EqR K H E x y ∨ ∃ a b xs ys, x = .ref a ∧ y = .ref b ∧ SqT K H a xs ∧ SqT K H b ys ∧ Paired E xs ys
def EqX (K : PySem.W.Frag) (H : Hp) : Nat → V → V → Prop
  | 0 => fun _ _ => False
  | n + 1 => fun x y => (x = y ∧ flatB x = true) ∨ (∃ a, x = .ref a ∧ y = .ref a) ∨ SqX K H (EqX K H n) x y
section
variable {X : Cx} {pins : List (Addr × Obj)} {σ : L2.St} {H : Hp} {s : Shared}
theorem tup_facts {us ws : List Value} {xs ys : List V} {F : V → V → Prop} {A : Around} (ih : ∀ x y v u, F x y → RelV x v → RelV y u → SeqAt.EqP X.prog X.w A s v u true) (hp : Paired F xs ys)
    (r1 : Vals xs us) (r2 : Vals ys ws) : us.toArray.size = ws.toArray.size ∧ ∀ i (h1 : i < us.toArray.size) (h2 : i < ws.toArray.size), SeqAt.EqP X.prog X.w A s us.toArray[i] ws.toArray[i] true := by
  refine ⟨?_, fun j h1 h2 => ?_⟩
  · rw [List.size_toArray, List.size_toArray, ← r1.length, ← r2.length]
    exact Paired.length hp
  · have k := items_run ih hp r1 r2 j (by simpa using h1) (by simpa using h2)
    simpa using k
theorem isTuple_of {h : Heap} {a : Addr} {its : Array Value} (t : IsTup h a its) : ∃ (dx : Option Addr) (n : Nat) (sx : Array (Option Value)), h.get? a = some { cls := .type "tuple", dict := dx, data := .seq its n, slots := sx } := by
  obtain ⟨⟨c, dx, dt, sx⟩, h1, h2, n, h3⟩ := t
  simp only at h2 h3
  subst h2 h3
  exact ⟨dx, n, sx, h1⟩
theorem sqX_run (I : Inv X pins σ H s) {A : Around} {F : V → V → Prop} (hu : A.units < cLine) (ih : ∀ x y v u, F x y → RelV x v → RelV y u → SeqAt.EqP X.prog X.w A.in1 s v u true) {x y : V} {v u : Value} (h : SqX X.K H F x y) (rx : RelV x v) (ry : RelV y u)
    (E Q : Value → Shared → Prop) (q : Q (.bool true) s) : wpAny (model X.prog X.w) A (richCompare .Eq v u) Q E s := by
  rcases h with h | ⟨a, b, xs, ys, rfl, rfl, ha, hb, hp⟩
  · exact eqR_run I hu ih h rx ry E Q q
  · cases (show v = Value.ref a from rx)
    cases (show u = Value.ref b from ry)
    obtain ⟨us, r1, p1, _⟩ := I.tuple ha
    obtain ⟨ws, r2, p2, _⟩ := I.tuple hb
    obtain ⟨hsz, he⟩ := tup_facts ih hp r1 r2
    refine GQ.rc_tupG hsz hu (fun _ s' => s' = s) p1 p2 (fun i h1 h2 s' e => ?_) (fun s' e => ?_) rfl
    · subst e
      exact he i h1 h2 _ _ ⟨rfl, rfl⟩
    · subst e
      exact q
theorem eqX_run (I : Inv X pins σ H s) : ∀ (n : Nat) (A : Around), A.units + n < cLine → ∀ (x y : V) (v u : Value), EqX X.K H n x y → RelV x v → RelV y u → SeqAt.EqP X.prog X.w A s v u true
  | 0, _, _, _, _, _, _, h, _, _ => (show False from h).elim
  | n + 1, A, hu, x, y, v, u, h, rx, ry => by
    rcases h with ⟨rfl, f⟩ | ⟨a, rfl, rfl⟩ | h
    · exact (eqAt_same rx ry f).eqP
    · cases (show v = Value.ref a from rx)
      cases (show u = Value.ref a from ry)
      exact (SeqAt.EqAt.same _).eqP
    · have step := sqX_run I (A := A) (by omega) (eqX_run I n A.in1 (by show A.units + 1 + n < cLine; omega)) h rx ry
      obtain ⟨a, b, rfl, rfl⟩ : ∃ a b, x = .ref a ∧ y = .ref b := by
        rcases h with (⟨a, b, _, _, e1, e2, _⟩ | ⟨a, b, _, _, e1, e2, _⟩) | ⟨a, b, _, _, e1, e2, _⟩
        · exact ⟨a, b, e1, e2⟩
        · exact ⟨a, b, e1, e2⟩
        · exact ⟨a, b, e1, e2⟩
      cases (show v = Value.ref a from rx)
      cases (show u = Value.ref b from ry)
      by_cases e : a = b
      · subst e
        exact (SeqAt.EqAt.same _).eqP
      · exact SeqAt.eqP_refs e step
/-- x != y of two tuples whose items are equal at any depth: False -/
def rNeX (K : PySem.W.Frag) : R2 := fun x y H Q => ∃ n a b xs ys, n ≤ 60 ∧ x = .ref a ∧ y = .ref b ∧ SqT K H a xs ∧ SqT K H b ys ∧ Paired (EqX K H n) xs ys ∧ Q (.bl false) H
theorem op_neX {X : Cx} (hu : X.A.units + 64 < cLine) : OpR X (compareOp .NotEq) (rNeX X.K) := by
  intro pins s σ H x y v u Q I rx ry h
  obtain ⟨n, a, b, xs, ys, hn, rfl, rfl, ha, hb, hp, q⟩ := h
  cases (show v = Value.ref a from rx)
  cases (show u = Value.ref b from ry)
  obtain ⟨us, r1, p1, _⟩ := I.tuple ha
  obtain ⟨ws, r2, p2, _⟩ := I.tuple hb
  obtain ⟨hsz, he⟩ := tup_facts (A := X.A.in1) (eqX_run I n X.A.in1 (by show X.A.units + 1 + n < cLine; omega)) hp r1 r2
  obtain ⟨d1, n1, s1, g1⟩ := isTuple_of p1
  obtain ⟨d2, n2, s2, g2⟩ := isTuple_of p2
  refine wpAny_richCompare_same_room (op := .NotEq) ⟨_, g1, rfl⟩ ⟨_, g2, rfl⟩ PySem.F.slot_tuple_ne (GQ.call_here PySem.F.slot_tuple_ne ⟨_, g1, rfl⟩ PySem.F.entry_tuple_ne (PySem.F.args_tuple_ne_2 _ _) ?_) (by omega)
  exact tup_ne_run (R := wants (fun v s' => v ≠ .notImplemented ∧ EP X pins σ Q v s') X.xe) hsz he g1 g2 ⟨(fun x => nomatch x), .bl false, H, I, rfl, q⟩
end
end Kx
/-! Kx1: one step of a reading by its head; the walk that takes them in turn. -/
namespace Kx
open PySem PySem.Spec PyProof.Rows L2
/-! ### heaps -/
/-- a new object at p, all else as it was -/
def New (H : Hp) (p : Addr) (o : HO) (H' : Hp) : Prop := H p = none ∧ Same H H' ∧ H' p = some o
theorem New.upd {H : Hp} {p : Addr} {o : HO} (h : H p = none) : New H p o (upd H p o) := ⟨h, fun b u e => by rw [upd_ne (ne_of_none e h)]; exact e, upd_same⟩
theorem same_upd {H : Hp} {p : Addr} {o : HO} (h : H p = none) : Same H (upd H p o) := (New.upd (o := o) h).2.1
theorem New.put {H H' : Hp} {p : Addr} {o u : HO} (h : New H p o H') : New H p u (L2.upd H' p u) := ⟨h.1, fun b w e => by rw [upd_ne (ne_of_none e h.1)]; exact h.2.1 _ _ e, upd_same⟩
theorem New.trans {H H' H2 : Hp} {p : Addr} {o : HO} (h : New H p o H') (s : Same H' H2) : New H p o H2 := ⟨h.1, h.2.1.trans s, s _ _ h.2.2⟩
/-- what does not lie in F is as it was -/
def Keep (F : List Addr) (H H' : Hp) : Prop := ∀ b o, H b = some o → b ∉ F → H' b = some o
theorem Keep.of_same {F : List Addr} {H H' : Hp} (h : Same H H') : Keep F H H' := fun b o e _ => h b o e
theorem Keep.refl (F : List Addr) (H : Hp) : Keep F H H := fun _ _ e _ => e
theorem Keep.trans {F : List Addr} {H H1 H2 : Hp} (a : Keep F H H1) (b : Keep F H1 H2) : Keep F H H2 := fun c o e n => b c o (a c o e n) n
theorem Keep.mono {F G : List Addr} {H H' : Hp} (a : Keep F H H') (h : ∀ b ∈ F, b ∈ G) : Keep G H H' := fun c o e n => a c o e fun m => n (h c m)
theorem Keep.upd {F : List Addr} {H : Hp} {p : Addr} {o : HO} (h : p ∈ F) : Keep F H (upd H p o) := fun b u e n => by
  rw [upd_ne fun z => n (by rw [z]; exact h)]
  exact e
theorem Keep.same {H H' : Hp} (a : Keep [] H H') : Same H H' := fun b o e => a b o e (by simp)
theorem upd_eq {H : Hp} {p : Addr} {o u : HO} (e : o = u) : upd H p o = upd H p u := by rw [e]
theorem Same.tup {K : PySem.W.Frag} {H H' : Hp} {a : Addr} {xs : List V} (e : Same H H') (h : SqT K H a xs) : SqT K H' a xs := by
  rcases h with (h | ⟨o, h⟩) | h
  · exact .inl (.inl (e _ _ h))
  · exact .inl (.inr ⟨o, e _ _ h⟩)
  · exact .inr h

section
variable {X : Cx} {K : PySem.W.Frag} {σ : L2.St} {H : Hp} {Q : VK} {v x y : V} {ta tb tc te to tk tv : TE} {t u : TT} {t1 t2 ts : TS} {D : Ends} {tl : TA} {tr : TA} {i j : Nat} {a b n : Int} {p d l C dx : Addr} {f m : Str} {fs : List (Str × V)} {xs ys : List V} {r r2 : R2} {g : TG} {gs : TGs} {E : XK} {sp : Sp} {kvs : List (Key × V)}
/-! ### expressions -/
theorem xVar (h : σ[i]? = some (some v)) (q : Q v H) : tVar i σ H Q := ⟨v, h, q⟩
theorem xC (q : Q v H) : tC v σ H Q := q
theorem xOp (h : ta σ H fun x H1 => tb σ H1 fun y H2 => r x y H2 Q) : tOp r ta tb σ H Q := h
theorem xUn {r : V → Hp → VK → Prop} (h : ta σ H fun x H1 => r x H1 Q) : tUn r ta σ H Q := h
theorem xI0 {g : Int → Int → V} (q : Q (g a b) H) : rI0 g (.int a) (.int b) H Q := ⟨a, b, rfl, rfl, q⟩
theorem xI {c : Int → Int → Prop} {g : Int → Int → V} (h : c a b) (q : Q (g a b) H) : rI c g (.int a) (.int b) H Q := ⟨a, b, rfl, rfl, h, q⟩
theorem xU {g : Int → V} (q : Q (g a) H) : rU g (.int a) H Q := ⟨a, rfl, q⟩
theorem xEqI (q : Q (.bl (decide (a = b))) H) : rEq (.int a) (.int b) H Q := ⟨rfl, by
  have e : decide (V.int a = V.int b) = decide (a = b) := by simp
  rw [e]
  exact q⟩
theorem xNeI (q : Q (.bl (!decide (a = b))) H) : rNe (.int a) (.int b) H Q := ⟨rfl, by
  have e : decide (V.int a = V.int b) = decide (a = b) := by simp
  rw [e]
  exact q⟩
theorem xEqB {a b : Bool} (q : Q (.bl (decide (a = b))) H) : rEq (.bl a) (.bl b) H Q := ⟨rfl, by
  have e : decide (V.bl a = V.bl b) = decide (a = b) := by simp
  rw [e]
  exact q⟩
theorem xNeB {a b : Bool} (q : Q (.bl (!decide (a = b))) H) : rNe (.bl a) (.bl b) H Q := ⟨rfl, by
  have e : decide (V.bl a = V.bl b) = decide (a = b) := by simp
  rw [e]
  exact q⟩
theorem xEqS {a b : Str} (q : Q (.bl (decide (a = b))) H) : rEq (.str a) (.str b) H Q := ⟨rfl, by
  have e : decide (V.str a = V.str b) = decide (a = b) := by simp
  rw [e]
  exact q⟩
theorem xNeS {a b : Str} (q : Q (.bl (!decide (a = b))) H) : rNe (.str a) (.str b) H Q := ⟨rfl, by
  have e : decide (V.str a = V.str b) = decide (a = b) := by simp
  rw [e]
  exact q⟩
theorem xIsN (h : ta σ H fun x H1 => Q (.bl (decide (x = .non))) H1) : tIsN ta σ H Q := h
theorem xNotN (h : ta σ H fun x H1 => Q (.bl (!decide (x = .non))) H1) : tNotN ta σ H Q := h
theorem xChain (h : ta σ H fun x H1 => tb σ H1 fun y H2 => r x y H2 fun z H3 => ∃ k, z = .bl k ∧ (if k = true then tc σ H3 fun w' H4 => r2 y w' H4 Q else Q (.bl false) H3)) : tChain r r2 ta tb tc σ H Q := h
theorem xIf (h : t σ H fun c H1 => if c = true then ta σ H1 Q else tb σ H1 Q) : tIf t ta tb σ H Q := h
theorem xAndV (h : ta σ H fun x H1 => ∃ c, x = .bl c ∧ if c = true then tb σ H1 Q else Q (.bl false) H1) : tAndV ta tb σ H Q := h
theorem xOrV (h : ta σ H fun x H1 => ∃ c, x = .bl c ∧ if c = true then Q (.bl true) H1 else tb σ H1 Q) : tOrV ta tb σ H Q := h
theorem xNotV (h : ta σ H fun x H1 => ∃ c, x = .bl c ∧ Q (.bl (!c)) H1) : tNotV ta σ H Q := h
theorem xBl {c : Bool} {P : Bool → Prop} (h : P c) : ∃ k, V.bl c = .bl k ∧ P k := ⟨c, rfl, h⟩
/-! ### tests -/
theorem xTest {Q : Bool → Hp → Prop} (h : te σ H fun x H' => ∃ k, x = .bl k ∧ Q k H') : tTest te σ H Q := h
theorem xB {Q : Bool → Hp → Prop} (h : te σ H fun x H' => ∃ k, x = .bl k ∧ Q k H') : tB te σ H Q := h
theorem xAnd {Q : Bool → Hp → Prop} (h : t σ H fun c H1 => if c = true then u σ H1 Q else Q false H1) : tAnd t u σ H Q := h
theorem xOr {Q : Bool → Hp → Prop} (h : t σ H fun c H1 => if c = true then Q true H1 else u σ H1 Q) : tOr t u σ H Q := h
theorem xNot {Q : Bool → Hp → Prop} (h : t σ H fun c H1 => Q (!c) H1) : tNot t σ H Q := h
theorem xYes {Q : Bool → Hp → Prop} (q : Q true H) : tYes σ H Q := q
/-! ### arguments, displays -/
theorem xNil {Q : List V → Hp → Prop} (q : Q [] H) : tNil σ H Q := q
theorem xCons {Q : List V → Hp → Prop} (h : te σ H fun x H1 => tl σ H1 fun xs H2 => Q (x :: xs) H2) : tCons te tl σ H Q := h
theorem xTup (h : tl σ H fun xs H1 => xs.length ≤ sizeLine ∧ ∀ p, H1 p = none → Q (.ref p) (upd H1 p (.tup xs))) : tTup tl σ H Q := h
theorem xLst (h : tl σ H fun xs H1 => xs.length ≤ sizeLine ∧ ∀ p, H1 p = none → Q (.ref p) (upd H1 p (.lst xs))) : tLst tl σ H Q := h
theorem xCB {r : List V → Hp → VK → Prop} (h : tl σ H fun vs H1 => r vs H1 Q) : tCB r tl σ H Q := h
theorem xInt1I (q : Q (.int a) H) : rInt1 [.int a] H Q := .inl ⟨a, rfl, q⟩
theorem xInt1B {c : Bool} (q : Q (.int (if c then 1 else 0)) H) : rInt1 [.bl c] H Q := .inr ⟨c, rfl, q⟩
theorem xAbs (q : Q (.int (if a < 0 then -a else a)) H) : rAbs [.int a] H Q := ⟨a, rfl, q⟩
theorem xMin2 (q : Q (.int (if b < a then b else a)) H) : rMin2 [.int a, .int b] H Q := ⟨a, b, rfl, q⟩
theorem xMax2 (q : Q (.int (if b > a then b else a)) H) : rMax2 [.int a, .int b] H Q := ⟨a, b, rfl, q⟩
theorem xLenL (h : SqL K H p xs) (q : Q (.int (xs.length : Int)) H) : rLen K [.ref p] H Q := ⟨_, xs.length, rfl, .inl ⟨xs, h, rfl⟩, q⟩
theorem xLenT (h : SqT K H p xs) (q : Q (.int (xs.length : Int)) H) : rLen K [.ref p] H Q := ⟨_, xs.length, rfl, .inr ⟨xs, h, rfl⟩, q⟩
theorem xSum {ns : List Int} (h : SqL K H p (ns.map V.int)) (q : Q (.int ns.sum) H) : rSum K [.ref p] H Q := ⟨p, ns, rfl, h, q⟩
/-! ### fields, places -/
def rFld (K : PySem.W.Frag) (f : Str) : V → Hp → VK → Prop := fun x H1 Q => ∃ a C dx fs v, x = .ref a ∧ H1 a = some (.ins C dx fs) ∧ Cls K C ∧ NoAttr K C f ∧ fs.lookup f = some v ∧ Q v H1
theorem xFld (h : ta σ H fun x H1 => rFld K f x H1 Q) : tFld K ta f σ H Q := h
theorem yFld (h : H p = some (.ins C dx fs)) (c : Cls K C) (n : NoAttr K C f) (lk : fs.lookup f = some v) (q : Q v H) : rFld K f (.ref p) H Q := ⟨p, C, dx, fs, v, rfl, h, c, n, lk, q⟩
def rFldS (K : PySem.W.Frag) (f : Str) (y : V) (D : Ends) (σ : L2.St) : V → Hp → Prop := fun x H2 => ∃ a C dx fs, x = .ref a ∧ H2 a = some (.ins C dx fs) ∧ Cls K C ∧ NoAttr K C f ∧ fs.length < 1000 ∧ D.nx σ (upd H2 a (.ins C dx (putF f y fs)))
theorem xFldS (h : tv σ H fun y H1 => ta σ H1 fun x H2 => rFldS K f y D σ x H2) : sFld K ta tv f D σ H := h
theorem yFldS (h : H p = some (.ins C dx fs)) (c : Cls K C) (n : NoAttr K C f) (lk : fs.length < 1000) (q : D.nx σ (upd H p (.ins C dx (putF f y fs)))) : rFldS K f y D σ (.ref p) H := ⟨p, C, dx, fs, rfl, h, c, n, lk, q⟩
def rDG : R2 := fun x y H2 Q => ∃ a v, x = .ref a ∧ DGet H2 a y (some v) ∧ Q v H2
theorem xDG (h : ta σ H fun x H1 => tb σ H1 fun y H2 => rDG x y H2 Q) : tDGet ta tb σ H Q := h
theorem yDGs {z : Str} (h : Rd H d (.dK kvs)) (e : valV kvs (Sum.inr z) = some v) (q : Q v H) : rDG (.ref d) (.str z) H Q := ⟨d, v, rfl, .inl ⟨kvs, Sum.inr z, h, rfl, e.symm⟩, q⟩
theorem yDGi (h : Rd H d (.dK kvs)) (e : valV kvs (Sum.inl a) = some v) (q : Q v H) : rDG (.ref d) (.int a) H Q := ⟨d, v, rfl, .inl ⟨kvs, Sum.inl a, h, rfl, e.symm⟩, q⟩
def rDP (v : V) (D : Ends) (σ : L2.St) : V → V → Hp → Prop := fun x y H3 => ∃ a H4, x = .ref a ∧ DPut H3 a y v H4 ∧ D.nx σ H4
theorem xDP (h : tv σ H fun v H1 => ta σ H1 fun x H2 => tb σ H2 fun y H3 => rDP v D σ x y H3) : sDPut ta tb tv D σ H := h
theorem yDPs {z : Str} (h : H d = some (.dK kvs)) (hl : kvs.length < sizeLine) (q : D.nx σ (upd H d (.dK (putK kvs (Sum.inr z) v)))) : rDP v D σ (.ref d) (.str z) H := ⟨d, _, rfl, DPut.k (k := Sum.inr z) h hl, q⟩
theorem yDPi (h : H d = some (.dK kvs)) (hl : kvs.length < sizeLine) (q : D.nx σ (upd H d (.dK (putK kvs (Sum.inl a) v)))) : rDP v D σ (.ref d) (.int a) H := ⟨d, _, rfl, DPut.k (k := Sum.inl a) h hl, q⟩
theorem yIxL (h : SqL K H p xs) (e : atI xs a = some v) (q : Q v H) : rIxL K (.ref p) (.int a) H Q := ⟨p, xs, a, v, rfl, rfl, h, e, q⟩
theorem yIxT (h : SqT K H p xs) (e : atI xs a = some v) (q : Q v H) : rIxT K (.ref p) (.int a) H Q := ⟨p, xs, a, v, rfl, rfl, h, e, q⟩
/-! ### calls -/
theorem xCall {dvs : List V} (h : tl σ H fun vs H1 => sp (vs ++ dvs) H1 Q E) : tCall sp dvs E tl σ H Q := h
def rMeth (m : Str) (σ : L2.St) (tl : TA) (sp : Sp) (dvs : List V) (E : XK) : V → Hp → VK → Prop := fun x H1 Q => ∃ a dx fs, x = .ref a ∧ (∃ C, H1 a = some (.ins C dx fs)) ∧ fs.lookup m = none ∧ tl σ H1 fun vs H2 => sp (x :: (vs ++ dvs)) H2 Q E
theorem yMeth {dvs : List V} (h : ta σ H fun x H1 => ∃ a dx fs, x = .ref a ∧ H1 a = some (.ins C dx fs) ∧ fs.lookup m = none ∧ tl σ H1 fun vs H2 => sp (x :: (vs ++ dvs)) H2 Q E) : tMeth C m sp dvs E ta tl σ H Q := h
theorem xBM {T : String} {r : V → List V → Hp → VK → Prop} (h : ta σ H fun x H1 => tyV K T x H1 ∧ tl σ H1 fun xs H2 => r x xs H2 Q) : tBM K T r ta tl σ H Q := h
theorem xBM0 {T : String} {r : V → List V → Hp → VK → Prop} (h : ta σ H fun x H1 => tyV K T x H1 ∧ r x [] H1 Q) : tBM0 K T r ta σ H Q := h
theorem yAppend (h : H l = some (.lst xs)) (hl : xs.length < sizeLine) (q : Q .non (upd H l (.lst (xs ++ [v])))) : rAppend (.ref l) [v] H Q := ⟨l, xs, v, rfl, rfl, h, hl, q⟩
theorem tyL (h : H l = some (.lst xs)) : tyV K "list" (.ref l) H := .inl ⟨rfl, xs, SqL.of h⟩
theorem tyD (h : H d = some (.dK kvs)) : tyV K "dict" (.ref d) H := .inr (.inr (.inl ⟨rfl, .inl ⟨kvs, h⟩⟩))
theorem yCat {b : Addr} (h : H l = some (.lst xs)) (h2 : H b = some (.lst ys)) (hl : xs.length + ys.length ≤ sizeLine) (q : ∀ p, H p = none → Q (.ref p) (upd H p (.lst (xs ++ ys)))) : rCat (.ref l) (.ref b) H Q := ⟨l, b, xs, ys, rfl, rfl, h, h2, hl, q⟩
theorem yRep (h : H l = some (.lst xs)) (h1 : -(2 ^ 63) ≤ a) (h2 : a < 2 ^ 63) (hl : xs.length * a.toNat ≤ sizeLine) (q : ∀ p, H p = none → Q (.ref p) (upd H p (.lst (List.replicate a.toNat xs).flatten))) : rRep (.ref l) (.int a) H Q := ⟨l, a, xs, rfl, rfl, h, h1, h2, hl, q⟩
/-! ### statements -/
theorem xSeq (h : t1 { D with nx := t2 D } σ H) : tSeq t1 t2 D σ H := h
theorem xNext (q : D.nx σ H) : tNext D σ H := q
theorem xAsg (h : te σ H fun x H1 => g x σ H1 D.nx) : tAsg te g D σ H := h
theorem xNm {Q : L2.St → Hp → Prop} (q : Q (σ.set i (some v)) H) : gName i v σ H Q := q
theorem xDrop (h : te σ H fun _ H1 => D.nx σ H1) : tDrop te D σ H := h
theorem xRet (h : te σ H D.rt) : tRet te D σ H := h
theorem xRetN (q : D.rt .non H) : tRetN D σ H := q
theorem xIfS (h : t σ H fun b H1 => if b = true then t1 D σ H1 else t2 D σ H1) : tIfS t t1 t2 D σ H := h
theorem xPar (h : tl σ H fun vs H1 => ∃ v w, vs = [v, w] ∧ D.nx ((σ.set i (some v)).set j (some w)) H1) : tPar i j tl D σ H := h
theorem xPar3 {k : Nat} (h : tl σ H fun vs H1 => ∃ u v w, vs = [u, v, w] ∧ D.nx (((σ.set i (some u)).set j (some v)).set k (some w)) H1) : tPar3 i j k tl D σ H := h
theorem yPar {P : V → V → Prop} (q : P x y) : ∃ v w, [x, y] = [v, w] ∧ P v w := ⟨x, y, rfl, q⟩
theorem yPar3 {z : V} {P : V → V → V → Prop} (q : P x y z) : ∃ u v w, [x, y, z] = [u, v, w] ∧ P u v w := ⟨x, y, z, rfl, q⟩
theorem yGT {Q : L2.St → Hp → Prop} {k : Nat} (h : SqT K H p xs) (hl : xs.length = k) (q : gs xs σ H Q) : gTup K k gs (.ref p) σ H Q := ⟨p, xs, rfl, h, hl, q⟩
theorem xGNil {Q : L2.St → Hp → Prop} (q : Q σ H) : gNil [] σ H Q := ⟨rfl, q⟩
theorem xGCons {Q : L2.St → Hp → Prop} (q : g v σ H fun σ' H' => gs xs σ' H' Q) : gCons g gs (v :: xs) σ H Q := ⟨v, xs, rfl, q⟩
theorem xGSub {Q : L2.St → Hp → Prop} {ts : TSet} (h : ta σ H fun o H1 => tb σ H1 fun i H2 => ts o i v H2 fun H3 => Q σ H3) : gSub ta tb ts v σ H Q := h
theorem xSetD {Q : Hp → Prop} (h : ∃ H', DPut H d y v H' ∧ Q H') : rSetD (.ref d) y v H Q := by
  obtain ⟨H', h1, h2⟩ := h
  exact ⟨d, H', rfl, h1, h2⟩
end
/-! ### for -/
section
variable {K : PySem.W.Frag} {σ : L2.St} {H : Hp} {D : Ends} {g : TG} {tb : TS} {ta : TE} {tl : TA}
/-- over a list, by a word of the turn -/
theorem xForL {a : Addr} {xs : List V} (Pv : Nat → L2.St → Hp → Prop) (h : ta σ H fun x H1 => x = .ref a ∧ SqL K H1 a xs ∧ Pv 0 σ H1) (hl : ∀ i σ H, i ≤ xs.length → Pv i σ H → SqL K H a xs)
    (hs : ∀ i x σ H, xs[i]? = some x → Pv i σ H → g x σ H fun σ2 H2 => tb { D with nx := Pv (i + 1), ct := Pv (i + 1), bk := D.nx } σ2 H2) (hd : ∀ σ H, Pv xs.length σ H → D.nx σ H)
    (mono : ∀ Q Q' : VK, (∀ x H1, Q x H1 → Q' x H1) → ta σ H Q → ta σ H Q') : tFor (iList K ta) g tb D σ H :=
  mono _ _ (fun x H1 ⟨e, hq, h0⟩ => ⟨a, e, ⟨xs, hq⟩, for_list Pv h0 hl hs hd⟩) h
theorem yForL {a : Addr} {xs : List V} (hq : SqL K H a xs) (Pv : Nat → L2.St → Hp → Prop) (h0 : Pv 0 σ H) (hl : ∀ i σ H, i ≤ xs.length → Pv i σ H → SqL K H a xs)
    (hs : ∀ i x σ H, xs[i]? = some x → Pv i σ H → g x σ H fun σ2 H2 => tb { D with nx := Pv (i + 1), ct := Pv (i + 1), bk := D.nx } σ2 H2) (hd : ∀ σ H, Pv xs.length σ H → D.nx σ H) :
    ∃ c, V.ref a = .ref c ∧ (∃ ys, SqL K H c ys) ∧ ∃ W : Nat → Nat → L2.St → Hp → Prop, (∃ m, W 0 m σ H) ∧ ∀ i m σ H, W i m σ H → ((Itl K c).stop i H ∧ D.nx σ H) ∨ ((Itl K c).go i H ∧ ∃ N : L2.St → Hp → Prop, (∀ σ' H', N σ' H' → ∃ m', m' < m ∧ W (i + 1) m' σ' H') ∧
      ∀ x H', (Itl K c).yld i H x H' → g x σ H' fun σ2 H2 => tb { D with nx := N, ct := N, bk := D.nx } σ2 H2) := ⟨a, rfl, ⟨xs, hq⟩, for_list Pv h0 hl hs hd⟩
theorem xForLU (h : ta σ H fun x H1 => ∃ a, x = .ref a ∧ (∃ xs, SqL K H1 a xs) ∧ ∃ W : Nat → Nat → L2.St → Hp → Prop, (∃ m, W 0 m σ H1) ∧ ∀ i m σ H, W i m σ H → ((Itl K a).stop i H ∧ D.nx σ H) ∨ ((Itl K a).go i H ∧ ∃ N : L2.St → Hp → Prop, (∀ σ' H', N σ' H' → ∃ m', m' < m ∧ W (i + 1) m' σ' H') ∧
      ∀ x H', (Itl K a).yld i H x H' → g x σ H' fun σ2 H2 => tb { D with nx := N, ct := N, bk := D.nx } σ2 H2)) : tFor (iList K ta) g tb D σ H := h
/-- over range(n) -/
theorem xForR1 (h : tl σ H fun vs H1 => ∃ j : Int, vs = [.int j] ∧ (-(2 ^ 62) ≤ j ∧ j < 2 ^ 62) ∧ ∃ W : Nat → Nat → L2.St → Hp → Prop, (∃ m, W 0 m σ H1) ∧ ∀ i m σ H, W i m σ H → ((Itr 0 j.toNat).stop i H ∧ D.nx σ H) ∨ ((Itr 0 j.toNat).go i H ∧ ∃ N : L2.St → Hp → Prop, (∀ σ' H', N σ' H' → ∃ m', m' < m ∧ W (i + 1) m' σ' H') ∧
      ∀ x H', (Itr 0 j.toNat).yld i H x H' → g x σ H' fun σ2 H2 => tb { D with nx := N, ct := N, bk := D.nx } σ2 H2)) (mono : ∀ Q Q' : List V → Hp → Prop, (∀ x H1, Q x H1 → Q' x H1) → tl σ H Q → tl σ H Q') : tFor (iRng1 tl) g tb D σ H :=
  mono _ _ (fun vs H1 ⟨j, e, ⟨b1, b2⟩, r⟩ => ⟨j, e, b1, b2, r⟩) h
theorem xForR1U (h : tl σ H fun vs H1 => ∃ j : Int, vs = [.int j] ∧ -(2 ^ 62) ≤ j ∧ j < 2 ^ 62 ∧ ∃ W : Nat → Nat → L2.St → Hp → Prop, (∃ m, W 0 m σ H1) ∧ ∀ i m σ H, W i m σ H → ((Itr 0 j.toNat).stop i H ∧ D.nx σ H) ∨ ((Itr 0 j.toNat).go i H ∧ ∃ N : L2.St → Hp → Prop, (∀ σ' H', N σ' H' → ∃ m', m' < m ∧ W (i + 1) m' σ' H') ∧
      ∀ x H', (Itr 0 j.toNat).yld i H x H' → g x σ H' fun σ2 H2 => tb { D with nx := N, ct := N, bk := D.nx } σ2 H2)) : tFor (iRng1 tl) g tb D σ H := h
theorem yForR1 {j : Int} {n : Nat} (e : j = (n : Int)) (hn : n < 2 ^ 62) (Pv : Nat → L2.St → Hp → Prop) (h0 : Pv 0 σ H)
    (hs : ∀ (i : Nat) σ H, i < n → Pv i σ H → g (.int (i : Int)) σ H fun σ2 H2 => tb { D with nx := Pv (i + 1), ct := Pv (i + 1), bk := D.nx } σ2 H2) (hd : ∀ σ H, Pv n σ H → D.nx σ H) :
    ∃ k : Int, [V.int j] = [.int k] ∧ -(2 ^ 62) ≤ k ∧ k < 2 ^ 62 ∧ ∃ W : Nat → Nat → L2.St → Hp → Prop, (∃ m, W 0 m σ H) ∧ ∀ i m σ H, W i m σ H → ((Itr 0 k.toNat).stop i H ∧ D.nx σ H) ∨ ((Itr 0 k.toNat).go i H ∧ ∃ N : L2.St → Hp → Prop, (∀ σ' H', N σ' H' → ∃ m', m' < m ∧ W (i + 1) m' σ' H') ∧
      ∀ x H', (Itr 0 k.toNat).yld i H x H' → g x σ H' fun σ2 H2 => tb { D with nx := N, ct := N, bk := D.nx } σ2 H2) := by
  subst e
  refine ⟨(n : Int), rfl, by omega, by omega, ?_⟩
  rw [show ((n : Int)).toNat = n from by omega]
  refine for_range (lo := 0) (n := n) Pv h0 (fun i σ H hi h => ?_) hd
  rw [Int.zero_add]
  exact hs i σ H hi h
/-- over enumerate(xs), the target a pair of names -/
theorem xForEU (h : tl σ H fun vs H1 => ∃ a xs, vs = [.ref a] ∧ SqL K H1 a xs ∧ ∃ W : Nat → Nat → L2.St → Hp → Prop, (∃ m, W 0 m σ H1) ∧ ∀ i m σ H, W i m σ H → ((Ite K a).stop i H ∧ D.nx σ H) ∨ ((Ite K a).go i H ∧ ∃ N : L2.St → Hp → Prop, (∀ σ' H', N σ' H' → ∃ m', m' < m ∧ W (i + 1) m' σ' H') ∧
      ∀ x H', (Ite K a).yld i H x H' → g x σ H' fun σ2 H2 => tb { D with nx := N, ct := N, bk := D.nx } σ2 H2)) : tFor (iEnum K tl) g tb D σ H := h
theorem for_enum {a : Addr} {xs : List V} (Pv : Nat → L2.St → Hp → Prop) (h0 : Pv 0 σ H) (hl : ∀ i σ H, i ≤ xs.length → Pv i σ H → SqL K H a xs)
    (hs : ∀ (i : Nat) (x : V) (T : Addr) σ H, xs[i]? = some x → Pv i σ H → H T = none → g (.ref T) σ (upd H T (.tup [.int (i : Int), x])) fun σ2 H2 => tb { D with nx := Pv (i + 1), ct := Pv (i + 1), bk := D.nx } σ2 H2) (hd : ∀ σ H, Pv xs.length σ H → D.nx σ H) :
    ∃ W : Nat → Nat → L2.St → Hp → Prop, (∃ m, W 0 m σ H) ∧ ∀ i m σ H, W i m σ H → ((Ite K a).stop i H ∧ D.nx σ H) ∨ ((Ite K a).go i H ∧ ∃ N : L2.St → Hp → Prop, (∀ σ' H', N σ' H' → ∃ m', m' < m ∧ W (i + 1) m' σ' H') ∧
      ∀ x H', (Ite K a).yld i H x H' → g x σ H' fun σ2 H2 => tb { D with nx := N, ct := N, bk := D.nx } σ2 H2) := by
  refine ⟨fun i m σ H => i + m = xs.length ∧ Pv i σ H, ⟨xs.length, by omega, h0⟩, fun i m σ H ⟨hm, hp⟩ => ?_⟩
  by_cases hi : i < xs.length
  · refine .inr ⟨⟨xs, xs[i], hl i σ H (Nat.le_of_lt hi) hp, List.getElem?_eq_getElem hi⟩, Pv (i + 1), fun σ' H' h => ⟨m - 1, by omega, by omega, h⟩, fun x H' hy => ?_⟩
    obtain ⟨T, y, rfl, hT, rfl, hy⟩ := hy
    exact hs i y T σ H (hy xs (hl i σ H (Nat.le_of_lt hi) hp)) hp hT
  · have e : i = xs.length := by omega
    subst e
    exact .inl ⟨⟨xs, hl _ σ H (Nat.le_refl _) hp, Nat.le_refl _⟩, hd σ H hp⟩
end
/-! ### ways -/
theorem iteD {c A B : Prop} [Decidable c] (h1 : c → A) (h2 : ¬ c → B) : if decide c = true then A else B := by
  by_cases h : c
  · rw [if_pos (decide_eq_true h)]
    exact h1 h
  · rw [if_neg (by simpa using h)]
    exact h2 h
theorem iteDN {c A B : Prop} [Decidable c] (h1 : ¬ c → A) (h2 : c → B) : if (!decide c) = true then A else B := by
  by_cases h : c
  · rw [if_neg (by simpa using h)]
    exact h2 h
  · rw [if_pos (by simpa using h)]
    exact h1 h
theorem iteB {b : Bool} {A B : Prop} (h1 : b = true → A) (h2 : b = false → B) : if b = true then A else B := by
  cases b with
  | true => exact iteT (h1 rfl)
  | false => exact iteF (h2 rfl)
theorem Same.keep {H0 H H' : Hp} {F : List Addr} (a : Same H0 H) (b : Keep F H H') (h : ∀ d ∈ F, H0 d = none) : Same H0 H' := fun c o e => b c o (a c o e) fun m => by
  rw [h c m] at e
  cases e
/-! ### comprehensions -/
/-- what a comprehension over J asks, from the heap H1 on -/
def lcEnd (J : It) (g : TG) (tt : TT) (te : TE) (vs : List Nat) (σ : L2.St) (H1 : Hp) (Q : VK) : Prop := ∀ D, H1 D = none → ∃ W : Nat → Nat → Hp → Prop, (∃ m, W 0 m (upd H1 D (.lst []))) ∧ ∀ i m H, W i m H →
  (J.stop i H ∧ Q (.ref D) H) ∨ (J.go i H ∧ ∃ Nx : Hp → Prop, (∀ H', Nx H' → ∃ m', m' < m ∧ W (i + 1) m' H') ∧ ∀ x H', J.yld i H x H' → g x (wipe σ vs) H' fun σ2 H2 => wipe σ2 vs = wipe σ vs ∧ tt σ2 H2 fun b H3 =>
    if b = true then te σ2 H3 fun y H4 => ∃ acc, H4 D = some (.lst acc) ∧ acc.length < sizeLine ∧ Nx (upd H4 D (.lst (acc ++ [y]))) else Nx H3)
/-- one turn: the new list is at D -/
def lcTurn (D : Addr) (tt : TT) (te : TE) (vs : List Nat) (σ : L2.St) (Nx : Hp → Prop) : L2.St → Hp → Prop := fun σ2 H2 => wipe σ2 vs = wipe σ vs ∧ tt σ2 H2 fun b H3 =>
  if b = true then te σ2 H3 fun y H4 => ∃ acc, H4 D = some (.lst acc) ∧ acc.length < sizeLine ∧ Nx (upd H4 D (.lst (acc ++ [y]))) else Nx H3
section
variable {K : PySem.W.Frag} {σ : L2.St} {H : Hp} {Q : VK} {g : TG} {tt : TT} {te ta : TE} {tl : TA} {vs : List Nat}
theorem xLcR (h : tl σ H fun ws H1 => ∃ k : Int, ws = [.int k] ∧ -(2 ^ 62) ≤ k ∧ k < 2 ^ 62 ∧ lcEnd (Itr 0 k.toNat) g tt te vs σ H1 Q) : tLc (iRng1 tl) g tt te vs σ H Q := h
theorem yLcR {j : Int} (n : Nat) (e : j = (n : Int)) (hn : n < 2 ^ 62) (Pv : Addr → Nat → Hp → Prop) (h0 : ∀ D, H D = none → Pv D 0 (upd H D (.lst [])))
    (hs : ∀ D (i : Nat) H', i < n → Pv D i H' → g (.int (i : Int)) (wipe σ vs) H' (lcTurn D tt te vs σ (Pv D (i + 1)))) (hd : ∀ D H', H D = none → Pv D n H' → Q (.ref D) H') :
    ∃ k : Int, [V.int j] = [.int k] ∧ -(2 ^ 62) ≤ k ∧ k < 2 ^ 62 ∧ lcEnd (Itr 0 k.toNat) g tt te vs σ H Q := by
  subst e
  refine ⟨(n : Int), rfl, by omega, by omega, fun D hD => ?_⟩
  rw [show ((n : Int)).toNat = n from by omega]
  refine lc_range (lo := 0) (n := n) (Pv D) (h0 D hD) (fun i H hi h => ?_) (fun H' h => hd D H' hD h)
  rw [Int.zero_add]
  exact hs D i H hi h
theorem xLcL (h : ta σ H fun x H1 => ∃ a, x = .ref a ∧ (∃ xs, SqL K H1 a xs) ∧ lcEnd (Itl K a) g tt te vs σ H1 Q) : tLc (iList K ta) g tt te vs σ H Q := h
theorem yLcL {a : Addr} {xs : List V} (hq : SqL K H a xs) (Pv : Addr → Nat → Hp → Prop) (h0 : ∀ D, H D = none → Pv D 0 (upd H D (.lst []))) (hl : ∀ D i H', i ≤ xs.length → Pv D i H' → SqL K H' a xs)
    (hs : ∀ D (i : Nat) x H', xs[i]? = some x → Pv D i H' → g x (wipe σ vs) H' (lcTurn D tt te vs σ (Pv D (i + 1)))) (hd : ∀ D H', H D = none → Pv D xs.length H' → Q (.ref D) H') :
    ∃ c, V.ref a = .ref c ∧ (∃ ys, SqL K H c ys) ∧ lcEnd (Itl K c) g tt te vs σ H Q :=
  ⟨a, rfl, ⟨xs, hq⟩, fun D hD => lc_list (Pv D) (h0 D hD) (hl D) (hs D) (fun H' h => hd D H' hD h)⟩
theorem xLcE (h : tl σ H fun ws H1 => ∃ a xs, ws = [.ref a] ∧ SqL K H1 a xs ∧ lcEnd (Ite K a) g tt te vs σ H1 Q) : tLc (iEnum K tl) g tt te vs σ H Q := h
theorem yLcE {a : Addr} {xs : List V} (hq : SqL K H a xs) (Pv : Addr → Nat → Hp → Prop) (h0 : ∀ D, H D = none → Pv D 0 (upd H D (.lst []))) (hl : ∀ D i H', i ≤ xs.length → Pv D i H' → SqL K H' a xs)
    (hs : ∀ D (i : Nat) x T H', xs[i]? = some x → Pv D i H' → H' T = none → g (.ref T) (wipe σ vs) (upd H' T (.tup [.int (i : Int), x])) (lcTurn D tt te vs σ (Pv D (i + 1))))
    (hd : ∀ D H', H D = none → Pv D xs.length H' → Q (.ref D) H') : ∃ c ys, [V.ref a] = [.ref c] ∧ SqL K H c ys ∧ lcEnd (Ite K c) g tt te vs σ H Q := by
  refine ⟨a, xs, rfl, hq, fun D hD => ⟨fun i m H => i + m = xs.length ∧ Pv D i H, ⟨xs.length, by omega, h0 D hD⟩, fun i m H ⟨hm, hp⟩ => ?_⟩⟩
  by_cases hi : i < xs.length
  · refine .inr ⟨⟨xs, xs[i], hl D i H (Nat.le_of_lt hi) hp, List.getElem?_eq_getElem hi⟩, Pv D (i + 1), fun H' h => ⟨m - 1, by omega, by omega, h⟩, fun x H' hy => ?_⟩
    obtain ⟨T, y, rfl, hT, rfl, hy⟩ := hy
    exact hs D i y T H (hy xs (hl D i H (Nat.le_of_lt hi) hp)) hp hT
  · have e : i = xs.length := by omega
    subst e
    exact .inl ⟨⟨xs, hl D _ H (Nat.le_refl _) hp, Nat.le_refl _⟩, hd D H hD hp⟩
/-- the turn: no test -/
theorem yTurn {D : Addr} {Nx : Hp → Prop} {σ2 : L2.St} (hw : wipe σ2 vs = wipe σ vs) (h : te σ2 H fun y H4 => ∃ acc, H4 D = some (.lst acc) ∧ acc.length < sizeLine ∧ Nx (upd H4 D (.lst (acc ++ [y])))) : lcTurn D tYes te vs σ Nx σ2 H :=
  ⟨hw, iteT (B := Nx H) h⟩
theorem yTurnT {D : Addr} {Nx : Hp → Prop} {σ2 : L2.St} (hw : wipe σ2 vs = wipe σ vs) (h : tt σ2 H fun b H3 => if b = true then te σ2 H3 fun y H4 => ∃ acc, H4 D = some (.lst acc) ∧ acc.length < sizeLine ∧ Nx (upd H4 D (.lst (acc ++ [y]))) else Nx H3) : lcTurn D tt te vs σ Nx σ2 H := ⟨hw, h⟩
theorem yAcc {D : Addr} {Nx : Hp → Prop} {acc : List V} {y : V} (h : H D = some (.lst acc)) (hl : acc.length < sizeLine) (q : Nx (upd H D (.lst (acc ++ [y])))) : ∃ acc, H D = some (.lst acc) ∧ acc.length < sizeLine ∧ Nx (upd H D (.lst (acc ++ [y]))) := ⟨acc, h, hl, q⟩
end
/-! ### while -/
theorem yWhile {c : TT} {tb : TS} {D : Ends} {σ : L2.St} {H : Hp} (W : Nat → L2.St → Hp → Prop) (m : Nat) (h0 : W m σ H)
    (hs : ∀ m σ H, W m σ H → c σ H fun b H1 => if b = true then ∃ N : L2.St → Hp → Prop, (∀ σ' H', N σ' H' → ∃ m', m' < m ∧ W m' σ' H') ∧ tb { D with nx := N, ct := N, bk := D.nx } σ H1 else D.nx σ H1) : tWhile c tb D σ H := ⟨W, ⟨m, h0⟩, hs⟩
/-! ### displays of dicts, methods of own classes -/
section
variable {K : PySem.W.Frag} {σ : L2.St} {H : Hp} {Q : VK} {tk tv : TE} {tl : TA} {trs : List (TE × TE)} {p C dx : Addr} {fs : List (Str × V)} {m : Str} {sp : Sp} {dvs : List V} {E : XK}
theorem xDisp (h : ∀ p, H p = none → tPairs trs σ (upd H p (.dK [])) fun ps H2 => H2 p = some (.dK []) ∧ ∃ kvs : List (Key × V), ps = kvs.map (fun kv => (kV kv.1, kv.2)) ∧ kvs.length ≤ 15 ∧ Q (.ref p) (upd H2 p (.dK (mergeK [] kvs)))) : tDisp trs σ H Q := h
theorem xPairs {Q : List (V × V) → Hp → Prop} (h : tk σ H fun x H1 => tv σ H1 fun y H2 => tPairs trs σ H2 fun ps H3 => Q ((x, y) :: ps) H3) : tPairs ((tk, tv) :: trs) σ H Q := h
theorem xPairs0 {Q : List (V × V) → Hp → Prop} (h : Q [] H) : tPairs [] σ H Q := h
theorem yMe (h : H p = some (.ins C dx fs)) (lk : fs.lookup m = none) (q : tl σ H fun vs H2 => sp (.ref p :: (vs ++ dvs)) H2 Q E) :
    ∃ a dx fs, V.ref p = .ref a ∧ H a = some (.ins C dx fs) ∧ fs.lookup m = none ∧ tl σ H fun vs H2 => sp (.ref p :: (vs ++ dvs)) H2 Q E := ⟨p, dx, fs, rfl, h, lk, q⟩
theorem xMake (h : tl σ H fun vs H1 => ∀ x dx, H1 x = none → H1 dx = none → dx ≠ x → sp (.ref x :: (vs ++ dvs)) (upd (upd H1 dx (.own x)) x (.ins C dx [])) (fun v H2 => v = .non ∧ Q (.ref x) H2) E) : tMake C sp dvs E tl σ H Q := h
theorem same_make {x dx : Addr} (nx : H x = none) (nd : H dx = none) : Same H (upd (upd H dx (.own x)) x (.ins C dx [])) := fun b o e => by
  rw [upd_ne (ne_of_none e nx), upd_ne (ne_of_none e nd)]
  exact e
end
end Kx
/-! KxS: super().m(..) in a method of an ordinary class; a def whose closure is the cell of its class. -/
namespace Kx
open PySem PySem.Spec PyProof.Rows L2 NdefX
/-- an expression, a statement, a suite within the def's body bd: it asks where it stands -/
structure PEt (X : Cx) (bd : List Stmt) (e : Expr) (t : TE) : Prop where
  run : ∀ (pins : List (Addr × Obj)) (s : Shared) (σ : L2.St) (H : Hp) (Q : VK), Inv X pins σ H s → t σ H Q → _root_.PySem.wpAt (model X.prog X.w) X.A (.func bd X.env) (eval e X.env) (EP X pins σ Q) X.xe s
structure PSt (X : Cx) (bd : List Stmt) (st : Stmt) (t : TS) : Prop where
  run : ∀ (pins : List (Addr × Obj)) (s : Shared) (σ : L2.St) (H : Hp) (D : Ends), Inv X pins σ H s → t D σ H → _root_.PySem.wpAt (model X.prog X.w) X.A (.func bd X.env) (exec st X.env) (SP X pins D) X.xe s
structure PSts (X : Cx) (bd : List Stmt) (st : List Stmt) (t : TS) : Prop where
  run : ∀ (pins : List (Addr × Obj)) (s : Shared) (σ : L2.St) (H : Hp) (D : Ends), Inv X pins σ H s → t D σ H → _root_.PySem.wpAt (model X.prog X.w) X.A (.func bd X.env) (execs st X.env) (SP X pins D) X.xe s
section
variable {X : Cx} {bd rest : List Stmt} {st : Stmt} {e : Expr} {te : TE} {t u : TS} {pos : Pos}
theorem PSt.of (h : PS X st t) : PSt X bd st t := ⟨fun pins s σ H D I hq => wpAt_of_wpAny (h.run pins s σ H D I hq)⟩
theorem PSts.of {sts : List Stmt} (h : PSs X sts t) : PSts X bd sts t := ⟨fun pins s σ H D I hq => wpAt_of_wpAny (h.run pins s σ H D I hq)⟩
theorem psts_cons (h1 : PSt X bd st t) (h2 : PSts X bd rest u) : PSts X bd (st :: rest) (tSeq t u) := ⟨fun pins s σ H D I hq => by
  refine ks_wpAt_execs_cons (ks_wpAt_mono (h1.run pins s σ H { D with nx := u D } I hq) (fun f s' hf => ?_) fun _ _ z => z)
  cases f with
  | next =>
    obtain ⟨σ', H', I', q⟩ := hf
    exact h2.run pins s' σ' H' D I' q
  | brk => exact hf
  | cont => exact hf
  | ret v => exact hf⟩
theorem pst_expr (he : PEt X bd e te) (hs : swapsWith e none pos.line X.env = pure false := by rfl) : PSt X bd (.Expr e pos) (tDrop te) := ⟨fun pins s σ H D I hq =>
  ks_wpAt_Expr_any (ks_wpAt_mono (he.run pins s σ H (fun _ H1 => D.nx σ H1) I hq) (fun v s' ⟨_, H', I', _, q⟩ => ⟨σ, H', I', q⟩) fun _ _ z => z) I.quiet hs⟩
theorem pst_ret (he : PEt X bd e te) : PSt X bd (.Return (some e) pos) (tRet te) := ⟨fun pins s σ H D I hq =>
  ks_wpAt_Return_some (ks_wpAt_mono (he.run pins s σ H D.rt I hq) (fun v s' ⟨x, H', I', r, q⟩ => ⟨x, σ, H', I', r, q⟩) fun _ _ z => z)⟩
theorem pst_if {c : Expr} {a b : List Stmt} {tc : TT} (hc : PT X c tc) (ha : PSts X bd a t) (hb : PSts X bd b u) : PSt X bd (.If c a b pos) (tIfS tc t u) := ⟨fun pins s σ H D I hq => by
  refine ks_wpAt_If (ks_wpAt_mono (wpAt_of_wpAny (hc.run pins s σ H _ I hq)) (fun v s' ⟨H', I', q⟩ => ?_) fun _ _ z => z)
  cases v with
  | true => exact ha.run pins s' σ H' D I' (by simpa using q)
  | false => exact hb.run pins s' σ H' D I' (by simpa using q)⟩
end
/-- what the text has of the method that super() of a D finds for an object of C -/
structure Sup (K : PySem.W.Frag) (C D : Addr) (m : Str) (g : Addr) : Prop where
  at_ : PySem.W.ks_superIn K C D m = some (some (.ref g))
  fn : PySem.W.typeIn K (.ref g) = some (.type "function")
  fi : PySem.W.fnIn K g = true
  sub : PySem.W.mroIn K C (.ref D) = some true
  cls : (PySem.W.clsIn K D).isSome = true
  cc : (PySem.W.clsIn K C).isSome = true
  op : PySem.W.nsIn K cStatics "thirdparty.any" = some none
def supB (K : PySem.W.Frag) (C D : Addr) (m : Str) (g : Addr) : Bool :=
  decide (PySem.W.ks_superIn K C D m = some (some (.ref g))) && decide (PySem.W.typeIn K (.ref g) = some (.type "function")) && PySem.W.fnIn K g && decide (PySem.W.mroIn K C (.ref D) = some true) && (PySem.W.clsIn K D).isSome && (PySem.W.clsIn K C).isSome && decide (PySem.W.nsIn K cStatics "thirdparty.any" = some none)
theorem Sup.by_ {K : PySem.W.Frag} {C D : Addr} {m : Str} {g : Addr} (h : supB K C D m g = true) : Sup K C D m g := by
  unfold supB at h
  simp only [Bool.and_eq_true, decide_eq_true_eq] at h
  obtain ⟨⟨⟨⟨⟨⟨h1, h2⟩, h3⟩, h4⟩, h5⟩, h6⟩, h7⟩ := h
  exact ⟨h1, h2, h3, h4, h5, h6, h7⟩
/-- a method with the cell of its class: f the function, cda its code, cc the cell, D the class -/
structure SupD (P : Program) (K : PySem.W.Frag) (x qual : Str) (params : Arguments) (body : List Stmt) (scope : Scope) (f cda cc D : Addr) (fd : FuncData) : Prop where
  ex : ∃ (oc : Value) (od : Option Addr) (kV doc pm : Value) (an : Option Addr) (ct : Value) (osl : Array (Option Value)),
    fd = PySem.W.ksFn x qual params body scope .none kV doc pm an (.ref cda) ct cc ∧ K.lookup f = some ⟨oc, od, .func fd, osl⟩
  code : PySem.W.codeIn K (.ref cda) qual = true
  file : ∃ (ccl : Value) (cdd : Option Addr) (vs : Array Value) (ccs : Array (Option Value)) (file : Str) (tf : Tok), K.lookup cda = some ⟨ccl, cdd, .fields vs, ccs⟩ ∧ vs[2]? = some (.str file tf) ∧ ((P.main.file : Str) == file) = true
  cell : ∃ (cl : Value) (cld : Option Addr) (csl : Array (Option Value)), K.lookup cc = some ⟨cl, cld, .cell (some (.ref D)), csl⟩
  kp : PySem.W.keepIn K (.ref f) = true
/-- what super().m(..) reads -/
def tSup (C : Addr) (sp : Sp) (dvs : List V) (E : XK) (t : TA) : TE := fun σ H Q => ∃ a dx fs, σ[0]? = some (some (.ref a)) ∧ H a = some (.ins C dx fs) ∧ t σ H fun vs H2 => sp (.ref a :: (vs ++ dvs)) H2 Q E
section
variable {X : Cx} {CX : CXT} {j k : Nat} {g f cda cc C D L : Addr} {ps : List Str} {sp : Sp} {E : XK} {m x qual : Str} {params : Arguments} {body : List Stmt} {scope : Scope} {fd fg : FuncData} {pos apos p0 p1 : Pos} {es : List Expr} {t : TA} {dvs : List V} {ds : List Value} {ar : Arg}
theorem pin_new {pins : List (Addr × Obj)} {σ : L2.St} {H : Hp} {s : Shared} {h' : Heap} {o : Obj} {t' : Nat} (I : Inv X pins σ H s) (e : h'.get? s.heap.objs.size = some o) (k : ∀ b u, s.heap.get? b = some u → h'.get? b = some u) (nc : ∀ v, o.data ≠ .cell v) :
    Inv X ((s.heap.objs.size, o) :: pins) σ H { s with heap := h', toks := t' } := by
  have I' := I.kept (t' := t') k
  refine I'.pins_of fun p hp => ?_
  rcases List.mem_cons.mp hp with h | h
  · subst h
    exact ⟨e, I.hok.fresh (Nat.le_refl _), (Nat.ne_of_lt I.lt).symm, I.nofs (Nat.le_refl _), nc⟩
  · exact I'.pin p (List.mem_append_right _ h)
theorem unpin {pins : List (Addr × Obj)} {p : Addr × Obj} {σ : L2.St} {H : Hp} {s : Shared} (I : Inv X (p :: pins) σ H s) : Inv X pins σ H s := I.pins_of fun q hq => I.pin q (List.mem_append_right _ (List.mem_cons_of_mem _ hq))
theorem run_bound {pins : List (Addr × Obj)} {σ : L2.St} {H : Hp} {s : Shared} {Q : VK} {us : List Value} {vs : List V} {a q : Addr} (F : FnOk X.prog X.w X.K X.mg X.base CX k g fg ps sp) (hr : Room k X.A) (hb : Binds X.K fg ps ds) (hd : Vals dvs ds) (hx : Passes CX X E)
    (I : Inv X pins σ H s) (ho : s.heap.get? q = some (PySem.W.methodObj (.ref g) (.ref a))) (r : Vals vs us) (h : sp (.ref a :: (vs ++ dvs)) H Q E) : wpAny (model X.prog X.w) X.A (call (.ref q) us) (EP X pins σ Q) X.xe s := by
  have r2 : Vals (V.ref a :: (vs ++ dvs)) (Value.ref a :: (us ++ ds)) := .cons rfl (r.append hd)
  have hl : (Value.ref a :: us ++ ds).length = ps.length := by
    have e := r2.length
    rw [F.len _ _ _ _ h] at e
    exact e.symm
  refine wpAny_call (ks_codeAny_call_bound (f := g) (x := .ref a) ho (codeAny_mono (F.run X.A X.stack s H ⟨.ref a :: us, []⟩ (.ref a :: us ++ ds) (.ref a :: (vs ++ dvs)) Q E hr I.env0 (hb s (.ref a :: us) I.kIn hl) r2 h) fun r s' hq => ?_))
  cases r with
  | error e => exact hx pins σ H s e s' I hq
  | ok fl =>
    cases fl with
    | ret u => exact I.after hq
    | next => exact False.elim hq
    | brk => exact False.elim hq
    | cont => exact False.elim hq
theorem sup_base {pins : List (Addr × Obj)} {σ : L2.St} {H : Hp} {s : Shared} {a dx : Addr} {fs : List (Str × V)} {whole : Sem Value} {Q : Value → Shared → Prop} (SD : SupD X.prog X.K x qual params body scope f cda cc D fd) (S : Sup X.K C D m g)
    (henv : X.env = PySem.W.ksEnv qual scope L f (.ref cda) cc) (hp : (params.posonlyargs ++ params.args).head? = some ar) (hN : X.N[0]? = some ar.arg) (hks : scope.names.lookup ("super" : Str) = some .globalImplicit) (hkc : scope.names.lookup ("__class__" : Str) = some .free)
    (hka : scope.names.lookup ar.arg = some .local) (hat : (m == ("__class__" : Str)) = false) (hg : X.mg "super" = none) (htop : (X.prog.main.scope.names.lookup ("super" : Str)).isSome = false)
    (I : Inv X pins σ H s) (e0 : σ[0]? = some (some (.ref a))) (ea : H a = some (.ins C dx fs))
    (h : ∀ h', Inv X ((s.heap.objs.size, PySem.W.ks_superObj D a C) :: pins) σ H { s with heap := h' } → Q (.ref s.heap.objs.size) { s with heap := h' }) :
    _root_.PySem.wpAt (model X.prog X.w) X.A (.func body X.env) (attributeBase (.Call (.Name "super" p0) [] [] p1) m X.env whole) Q X.xe s := by
  obtain ⟨oc, od, kV, doc, pm, an, ct, osl, rfl, lk⟩ := SD.ex
  obtain ⟨ccl, cdd, cvs, ccs, file, tf, hcode, hvs, hfile⟩ := SD.file
  obtain ⟨cl, cld, csl, hcell⟩ := SD.cell
  have KX := I.kIn
  have hkind : scope.kind = .function := by
    have e := I.ok.kind
    rw [henv] at e
    exact e
  obtain ⟨mL, hn, hl⟩ := I.loc
  obtain ⟨u, ru, lu⟩ := hl 0 ar.arg (.ref a) hN e0 (by rw [henv]; exact .inl hka)
  have hu : mL ar.arg = some u := by
    rcases lu with ⟨_, hm⟩ | ⟨hk, _⟩
    · exact hm
    · rw [henv] at hk
      have hk : scope.names.lookup ar.arg = some .cell ∨ scope.names.lookup ar.arg = some .free := hk
      rw [hka] at hk
      rcases hk with z | z <;> cases z
  obtain rfl : u = Value.ref a := ru
  obtain ⟨mA, O, _, _, _, _⟩ := ins_get I.hok ea
  obtain ⟨odx, J, _⟩ := O.look
  obtain ⟨mb, hb, hmb⟩ := I.mod.blt
  have glob := I.mod.glob.keeps I.bk
  have hb := hb.keeps I.bk
  have hcls := S.cls
  obtain ⟨cdD, hD⟩ := Option.isSome_iff_exists.mp hcls
  obtain ⟨oD, hD1, hD2⟩ : ∃ oD, s.heap.get? D = some oD ∧ oD.data = .cls cdD := by
    unfold PySem.W.clsIn at hD
    split at hD
    · rename_i c d cd' sl ho
      cases hD
      exact ⟨_, KX _ _ ho, rfl⟩
    · cases hD
  have hsub := PySem.W.looks_mroIn (M := model X.prog X.w) KX S.sub
  have fin := fun (h' : Heap) (e : h'.get? s.heap.objs.size = some (PySem.W.ks_superObj D a C)) (k : ∀ b u, s.heap.get? b = some u → h'.get? b = some u) => h h' (pin_new (t' := s.toks) I e k fun v z => by cases z)
  have glob2 : s.heap.Ns (PySem.W.ksEnv qual scope L f (.ref cda) cc).globals X.mg := glob
  have hn2 : s.heap.Ns (PySem.W.ksEnv qual scope L f (.ref cda) cc).locals mL := by
    rw [henv] at hn
    exact hn
  rw [henv]
  obtain ⟨hh, gg, d, tk, os⟩ := s
  refine ks_wpAt_super_base (env := PySem.W.ksEnv qual scope L f (.ref cda) cc) hks hkc hat rfl (KX _ _ lk) rfl hp rfl (KX _ _ hcode) rfl hvs hfile htop ?_
  refine PySem.W.ks_loadName_global hkind hks (Calls.loadGlobal_builtin (env := PySem.W.ksEnv qual scope L f (.ref cda) cc) glob2 hg hb ((hmb _ (by decide +kernel)).trans (by decide +kernel)) ⟨rfl, ?_⟩)
  refine wpAny_loadName_free hkind hkc rfl ⟨_, KX _ _ hcell, rfl⟩ ?_
  refine wpAny_loadName_local hkind hka hn2 hu ?_
  refine ks_wpAny_isType_cls hD1 hD2 ⟨rfl, ?_⟩
  refine ks_wpAny_call_super hD1 hD2 J.at_ J.cls (fun c e => ?_) hsub (fun h' e k => ?_)
  · have := J.no
    unfold PySem.W.notCls at this
    rw [e] at this
    exact Bool.noConfusion this
  · exact fin h' e k
theorem sup_method {pins : List (Addr × Obj)} {σ : L2.St} {H : Hp} {s : Shared} {a dx so : Addr} {fs : List (Str × V)} {pl : Sem Bool} {Q : Value × List Value → Shared → Prop} (S : Sup X.K C D m g) (hat : (m == ("__class__" : Str)) = false)
    (I : Inv X ((so, PySem.W.ks_superObj D a C) :: pins) σ H s) (ea : H a = some (.ins C dx fs))
    (h : ∀ h' t', Inv X ((s.heap.objs.size, PySem.W.methodObj (.ref g) (.ref a)) :: pins) σ H { s with heap := h', toks := t' } → Q (.ref s.heap.objs.size, []) { s with heap := h', toks := t' }) :
    wpAny (model X.prog X.w) X.A (getMethod (.ref so) m pl) Q X.xe s := by
  have KX := I.kIn
  obtain ⟨mA, O, _, _, _, _⟩ := ins_get I.hok ea
  obtain ⟨odx, J, _⟩ := O.look
  have hso := (I.pin (so, PySem.W.ks_superObj D a C) (List.mem_append_right _ List.mem_cons_self)).1
  obtain ⟨cd, hc⟩ := Option.isSome_iff_exists.mp S.cc
  have hm := S.at_
  unfold PySem.W.ks_superIn at hm
  rw [hc] at hm
  obtain ⟨of, hof, hofc⟩ : ∃ of, s.heap.get? g = some of ∧ of.cls = .type "function" := by
    have ht' : (X.K.lookup g).map (·.cls) = some (.type "function") := S.fn
    cases z : X.K.lookup g with
    | none => rw [z] at ht'; cases ht'
    | some of => rw [z] at ht'; exact ⟨of, KX _ _ z, Option.some.inj ht'⟩
  have I0 := unpin I
  have fin := h (s.heap.push (PySem.W.methodObj (.ref g) (.ref a))) (s.toks + 1) (pin_new I0 (Heap.get?_push_at rfl rfl) (fun b o e => Heap.get?_push_of_some _ e) fun v z => by cases z)
  have op := PySem.W.looks_opaque (M := model X.prog X.w) (C := C) KX S.op
  have mro : PySem.W.Looks (model X.prog X.w) s.heap (mroOf (.ref C)) cd.mro := fun A Q E s k q => wpAny_bind ((PySem.W.looks_clsIn KX hc) A _ E s k (wpAny_pure q))
  have hne := PySem.W.ks_ne KX J hc
  obtain ⟨hh, gg, d, tk, os⟩ := s
  exact ks_wpAny_getMethod_super hso op (l₀ := cd.mro) mro rfl KX hm hof hofc hne hat fin
/-- super().m(e, ..) -/
theorem pet_sup {e : Expr} {pl : Sem Bool} (SD : SupD X.prog X.K x qual params body scope f cda cc D fd) (S : Sup X.K C D m g) (F : FnOk X.prog X.w X.K X.mg X.base CX k g fg ps sp) (hr : Room k X.A) (hb : Binds X.K fg ps ds) (hd : Vals dvs ds) (hx : Passes CX X E)
    (henv : X.env = PySem.W.ksEnv qual scope L f (.ref cda) cc) (hp : (params.posonlyargs ++ params.args).head? = some ar) (hN : X.N[0]? = some ar.arg) (hks : scope.names.lookup ("super" : Str) = some .globalImplicit) (hkc : scope.names.lookup ("__class__" : Str) = some .free)
    (hka : scope.names.lookup ar.arg = some .local) (hat : (m == ("__class__" : Str)) = false) (hg : X.mg "super" = none) (htop : (X.prog.main.scope.names.lookup ("super" : Str)).isSome = false) (ha : PA X (e :: es) t)
    (hst : starEach (e :: es) X.env = (false, eval e X.env) :: starEach es X.env := by rfl) (hpl : (backTo pos (starEach es X.env)).any (·.1) = false := by rfl)
    (ht : eval (.Call (.Attribute (.Call (.Name "super" p0) [] [] p1) m apos) (e :: es) [] pos) X.env = (do
      let ov ← attributeBase (.Call (.Name "super" p0) [] [] p1) m X.env (eval (.Call (.Name "super" p0) [] [] p1) X.env)
      standAt apos.atName
      let (f, first) ← holding [ov] (getMethod ov m pl)
      callWith pos f first (backTo pos (starEach (e :: es) X.env)) []) := by rfl) : PEt X body (.Call (.Attribute (.Call (.Name "super" p0) [] [] p1) m apos) (e :: es) [] pos) (tSup C sp dvs E t) := by
  refine ⟨fun pins s σ H Q I hq => ?_⟩
  obtain ⟨a, dx, fs, e0, ea, hq⟩ := hq
  refine ks_wpAt_MethodCall (pl := pl) ?_ ht
  refine sup_base SD S henv hp hN hks hkc hka hat hg htop I e0 ea fun h' I1 => ?_
  refine sup_method S hat I1 ea fun h2 t2 I2 => ?_
  show wpAny _ _ (callWith pos (.ref _) [] (backTo pos (starEach (e :: es) X.env)) []) _ _ _
  rw [hst]
  have ha2 := thn (ha.run pos _ _ σ H _ I2 hq) fun us s3 ⟨vs, H3, I3, r, q3⟩ =>
    (show PySem.W.MethP X.K _ g (.ref a) s3.heap ∧ wpAny (model X.prog X.w) X.A (call (.ref _) ([] ++ us)) (EP X pins σ Q) X.xe s3 from
      ⟨⟨(I3.pin _ (List.mem_append_right _ List.mem_cons_self)).1, I3.kIn⟩, run_bound F hr hb hd hx (unpin I3) (I3.pin _ (List.mem_append_right _ List.mem_cons_self)).1 r q3⟩)
  rw [hst] at ha2
  exact PySem.W.callWith_of (by show ((false || (backTo pos (starEach es X.env)).any (·.1)) || false) = false; rw [hpl]; rfl) (PySem.W.keeps_M S.fi) (Calls.evalArgs_plain ha2)
/-- super().m() -/
theorem pet_sup0 {pl : Sem Bool} (SD : SupD X.prog X.K x qual params body scope f cda cc D fd) (S : Sup X.K C D m g) (F : FnOk X.prog X.w X.K X.mg X.base CX k g fg ps sp) (hr : Room k X.A) (hb : Binds X.K fg ps ds) (hd : Vals dvs ds) (hx : Passes CX X E)
    (henv : X.env = PySem.W.ksEnv qual scope L f (.ref cda) cc) (hp : (params.posonlyargs ++ params.args).head? = some ar) (hN : X.N[0]? = some ar.arg) (hks : scope.names.lookup ("super" : Str) = some .globalImplicit) (hkc : scope.names.lookup ("__class__" : Str) = some .free)
    (hka : scope.names.lookup ar.arg = some .local) (hat : (m == ("__class__" : Str)) = false) (hg : X.mg "super" = none) (htop : (X.prog.main.scope.names.lookup ("super" : Str)).isSome = false)
    (ht : eval (.Call (.Attribute (.Call (.Name "super" p0) [] [] p1) m apos) [] [] pos) X.env = (do
      let ov ← attributeBase (.Call (.Name "super" p0) [] [] p1) m X.env (eval (.Call (.Name "super" p0) [] [] p1) X.env)
      standAt apos.atName
      let (f, first) ← holding [ov] (getMethod ov m pl)
      callWith pos f first (backTo pos (starEach [] X.env)) []) := by rfl) : PEt X body (.Call (.Attribute (.Call (.Name "super" p0) [] [] p1) m apos) [] [] pos) (tSup C sp dvs E tNil) := by
  refine ⟨fun pins s σ H Q I hq => ?_⟩
  obtain ⟨a, dx, fs, e0, ea, hq⟩ := hq
  refine ks_wpAt_MethodCall (pl := pl) ?_ ht
  refine sup_base SD S henv hp hN hks hkc hka hat hg htop I e0 ea fun h' I1 => ?_
  refine sup_method S hat I1 ea fun h2 t2 I2 => ?_
  have hm := (I2.pin _ (List.mem_append_right _ List.mem_cons_self)).1
  exact PySem.W.callWith_M0 (first := []) ⟨hm, I2.kIn⟩ S.fi (run_bound F hr hb hd hx (unpin I2) hm .nil hq)
end
/-! ### the def -/
section
variable {CX : CXT} {P : Program} {w : World} {K : PySem.W.Frag} {mg : Str → Option Value} {base : Heap} {N ps : List Str} {x qual : Str} {params : Arguments} {body : List Stmt} {scope : Scope} {f cda cc D : Addr} {fd : FuncData} {k : Nat} {sp : Sp}
abbrev supF (x qual : Str) (params : Arguments) (body : List Stmt) (scope : Scope) (cda cc : Addr) : NF := ⟨x, qual, params, body, scope, [("__class__", cc)], cda⟩
theorem fn_sup (SD : SupD P K x qual params body scope f cda cc D fd) (S : NScope N ps ["__class__"] scope) (len : ∀ vs H Q E, sp vs H Q E → vs.length = ps.length)
    (hbody : ∀ (A : Around) (outer : List Env) (s : Shared) (H : Hp) (vs : List V) (Q : VK) (E : XK), Room k (A.deeper (PySem.W.ksEnv qual scope s.heap.objs.size f (.ref cda) cc)) → sp vs H Q E →
      ∃ t, PSts (ncx CX P w K mg base N (supF x qual params body scope cda cc) f A outer s H E) body body t ∧ t { nx := fun _ H' => Q .non H', rt := Q } (startF N vs [some (.ref D)]) H) :
    FnOk P w K mg base CX (k + 1) f fd ps sp := by
  refine ⟨len, fun A outer s H args us vs Q E hr e0 hb r hsp => ?_⟩
  obtain ⟨oc, od, kV, doc, pm, an, ct, osl, rfl, lk⟩ := SD.ex
  obtain ⟨cl, cld, csl, hcell⟩ := SD.cell
  have hl := len _ _ _ _ hsp
  have KX : K.In s.heap := e0.mod.kin.keeps fun b o e => (e0.bs b o e).1
  have lim : s.heap.NoLimit := e0.mod.nolimit.keeps fun b o e => (e0.bs b o e).1
  have C : CellsAt [("__class__", cc)] ["__class__"] [some (.ref D)] s.heap H := by
    have one : ∀ (y : Str) (c : Addr), ([("__class__", cc)] : List (Str × Addr)).lookup y = some c → y = "__class__" ∧ c = cc := fun y c e => by
      rw [List.lookup_cons] at e
      split at e
      · rename_i h
        exact ⟨beq_iff_eq.mp h, (Option.some.inj e).symm⟩
      · cases e
    refine ⟨rfl, fun y c e => ?_, fun a b c e1 e2 => by rw [(one a c e1).1, (one b c e2).1], fun i y e => ?_⟩
    · obtain ⟨_, rfl⟩ := one y c e
      exact ⟨(e0.bs _ _ (e0.mod.kin _ _ hcell)).2, _, _, KX _ _ hcell, rfl⟩
    · cases i with
      | zero =>
        cases e
        refine ⟨cc, rfl, fun v hv => ?_⟩
        cases hv
        exact ⟨.ref D, rfl, _, KX _ _ hcell, rfl⟩
      | succ i => cases e
  have hloc : ∀ y ∈ ps.zip us, scope.names.lookup y.1 = some .local := fun ⟨n, _⟩ hy => S.par n (List.of_mem_zip hy).1
  refine ks_codeAny_call_defAt (body := body) (binds := ps.zip us) hr.depth (KX _ _ lk) rfl lim (PySem.W.codeRec_of KX SD.code) rfl hb S.nocell hloc (fun h₁ hns kp => ?_) S.co S.gen S.kind
  obtain ⟨t, ht, hq⟩ := hbody A outer s H vs Q E (hr.deeper _) hsp
  have I : Inv (ncx CX P w K mg base N (supF x qual params body scope cda cc) f A outer s H E) [] (startF N vs [some (.ref D)]) H { s with heap := h₁, toks := s.toks + (ps.zip us).length } := inv_startN S hr.hd e0 hl r C hns kp
  refine ks_wpAt_mono (ht.run [] _ (startF N vs [some (.ref D)]) H _ I hq) (fun fl s' hs => ?_) fun e s' hs => hs
  have fin : ∀ {σ' : L2.St} {H' : Hp} {v : V} {u : Value}, Inv (ncx CX P w K mg base N (supF x qual params body scope cda cc) f A outer s H E) [] σ' H' s' → L2.RelV v u → Q v H' → CE outer P w H s Q u s' :=
    fun {σ' H' v u} J rv q => ⟨v, H', J.os, J.bare, J.base, J.hok, rv, q⟩
  cases fl with
  | ret u =>
    obtain ⟨v, σ', H', J, rv, q⟩ := hs
    exact fin J rv q
  | next =>
    obtain ⟨σ', H', J, q⟩ := hs
    exact fin (v := V.non) (u := Value.none) J rfl q
  | brk =>
    obtain ⟨_, _, _, q⟩ := hs
    exact False.elim q
  | cont =>
    obtain ⟨_, _, _, q⟩ := hs
    exact False.elim q
theorem SupD.bindsN (SD : SupD P K x qual params body scope f cda cc D fd)
    (h : ∀ (kV doc pm : Value) (an : Option Addr) (cdv ct : Value) (us : List Value), us.length = ps.length → bindArgs (PySem.W.ksFn x qual params body scope .none kV doc pm an cdv ct cc) ⟨us, []⟩ = pure (ps.zip us)) : Binds K fd ps [] := by
  obtain ⟨oc, od, kV, doc, pm, an, ct, osl, rfl, lk⟩ := SD.ex
  exact .all (h kV doc pm an _ ct)
theorem PSts.nox {X : Cx} {bd st : List Stmt} {t : TS} (h : PSts X.nox bd st t) : PSts X bd st t := ⟨fun pins s σ H D I hw =>
  ks_wpAt_mono (h.run pins s σ H D (I.wish _) hw) (fun _ _ q => q.unwish) fun _ _ z => False.elim z⟩
end
end Kx
/-! KxT: enumerate over a tuple; an attribute among several targets; sorted(set(list of ints)). -/
namespace Kx
open PySem PySem.Spec PyProof.Rows L2
/-! ### o.f among targets -/
def gFld (K : PySem.W.Frag) (ta : TE) (f : Str) : TG := fun y σ H Q => ta σ H fun x H2 => ∃ a C dx fs, x = .ref a ∧ H2 a = some (.ins C dx fs) ∧ Cls K C ∧ NoAttr K C f ∧ fs.length < 1000 ∧ Q σ (upd H2 a (.ins C dx (putF f y fs)))
theorem pg_fld {X : Cx} {o : Expr} {f : Str} {ta : TE} {pos : Pos} (ha : PE X o ta) : PG X (.Attribute o f pos) (gFld X.K ta f) := by
  refine ⟨fun pins s σ H v u Q I r h => ?_⟩
  rw [assign_Attribute]
  refine wpAny_bind (wpAny_holding (thn (ha.run pins s σ H _ I h) fun ov s2 ⟨x, H2, I2, rx, a, C, dx, fs, ex, ea, c, n, l, q2⟩ => ?_))
  subst ex
  obtain rfl : ov = Value.ref a := rx
  refine wpAny_bind (wpAny_standAt (wpAny_bind (wpAny_holding (setattr_ok I2 ea c n l r fun s3 I3 => ?_))))
  exact wpAny_release ⟨σ, _, I3, q2⟩
/-! ### enumerate(tuple) -/
def IteT (K : PySem.W.Frag) (a : Addr) : It :=
  ⟨fun i H => ∃ (xs : List V) (x : V), SqT K H a xs ∧ xs[i]? = some x, fun i H v H' => ∃ T x, v = .ref T ∧ H T = none ∧ H' = upd H T (.tup [.int (i : Nat), x]) ∧ ∀ xs, SqT K H a xs → xs[i]? = some x, fun i H => ∃ xs : List V, SqT K H a xs ∧ xs.length = i⟩
theorem turn_enumT {P : Program} {w : World} {K : PySem.W.Frag} {elts : List Expr} {kk : Nat} {tpos : Pos} (a e it : Addr) :
    Turn P w K (.Tuple elts kk tpos) (IteT K a) [e, it] e (fun i h => (∃ old, IsEnum h e it ((i : Nat) : Int) old) ∧ h.IsTupleIter it a i ∧ e ≠ it ∧ a ≠ it ∧ e ≠ a) where
  mem := by simp
  obj := fun i h st b hb => by
    obtain ⟨⟨old, he⟩, ⟨o, ho, hc, hd⟩, _⟩ := st
    have e' : b = e ∨ b = it := by simpa using hb
    rcases e' with z | z
    · rw [z]; exact ⟨_, he, fun v q => nomatch q⟩
    · rw [z]; exact ⟨o, ho, fun v q => by rw [hd] at q; cases q⟩
  keep := fun i h h' st k => let ⟨⟨old, he⟩, hi, hne⟩ := st; ⟨⟨old, k e (by simp) _ he⟩, hi.at fun o q => k it (by simp) o q, hne⟩
  item := by
    intro X hP hw hK hc i pins s σ H E I hf st hg
    subst hP hw hK
    obtain ⟨⟨old, he⟩, hit, hne, hni, hea⟩ := st
    obtain ⟨xs, x, hq, hx⟩ := hg
    obtain ⟨its, rv, p, hz⟩ := I.tuple hq
    obtain ⟨u, hu, ru⟩ := rv.get hx
    have hel : e < s.heap.objs.size := Heap.lt_size he
    have hil : it < s.heap.objs.size := by obtain ⟨_, q, _⟩ := hit; exact Heap.lt_size q
    have hlt : i < its.toArray.size := by
      rw [List.size_toArray]
      exact (List.getElem?_eq_some_iff.mp hu).1
    refine wpAny_pyNext_enum_itemD (Draws.tuple (show X.A.in1.handled = none from I.ok.hd hc) it a hni its.toArray) he ⟨hit, p⟩ hlt hne (by simp [hne, hea]) fun y h' tk hP ho hst' hT hsz hk => ?_
    have ey : y = u := by
      have hP : its.toArray[i]? = some y := hP
      rw [List.getElem?_toArray, hu] at hP
      exact (Option.some.inj hP).symm
    subst ey
    obtain ⟨hit', _⟩ := hst'
    refine ⟨_, rfl, wpAny_letOwnedTupleGo_enum (s := { s with heap := h', toks := tk + 1 }) ho fun h'' he' sb => ?_⟩
    have hT2 : h''.get? s.heap.objs.size = some { cls := .type "tuple", data := .seq #[.int i tk, y] } := (sb.2 _ (Nat.ne_of_gt hel)).trans hT
    have new : ObjOk X.prog X.w (upd H s.heap.objs.size (.tup [.int (i : Nat), x])) h'' s.heap.objs.size (.tup [.int (i : Nat), x]) :=
      ⟨by show 2 ≤ sizeLine; decide, [.int i tk, y], .cons ⟨_, rfl⟩ (.cons ru .nil), ⟨_, hT2, rfl, _, rfl⟩⟩
    have I1 : Inv X pins σ (upd H s.heap.objs.size (.tup [.int (i : Nat), x])) { s with heap := h'', toks := tk + 1 } :=
      I.turnedNew (ch := [e, it]) (fun b ob hb q => (sb.2 b (fun z => hb (by simp [z]))).trans (hk b ob (fun z => hb (by simp [z])) (fun z => hb (by simp [z])) q)) hf (Nat.le_refl _) new
    refine ⟨.ref s.heap.objs.size, _, I1, rfl, ⟨_, x, rfl, I.hok.fresh (Nat.le_refl _), rfl, fun ys hy => by rw [I.tuple_inj hy hq]; exact hx⟩, ⟨⟨y, ?_⟩, hit'.at fun o q => (sb.2 it (Ne.symm hne)).trans q, hne, hni, hea⟩, fun b hb => ?_⟩
    · have e1 : ((i + 1 : Nat) : Int) = (i : Int) + 1 := by omega
      rw [e1]; exact he'
    · have hb' : b < s.heap.objs.size := by
        have e' : b = e ∨ b = it := by simpa using hb
        rcases e' with z | z
        · rw [z]; exact hel
        · rw [z]; exact hil
      rw [upd_ne (Nat.ne_of_lt hb')]
      exact (hf b hb).1
  done := by
    intro X hP hw hK hc i pins s σ H E I hf st hg
    subst hP hw hK
    obtain ⟨⟨old, he⟩, hit, hne, hni, hea⟩ := st
    obtain ⟨xs, hq, hx⟩ := hg
    obtain ⟨its, rv, p, hz⟩ := I.tuple hq
    obtain ⟨f0, f1, f2, f3, f4, f5⟩ := hf it (by simp)
    have hl := rv.length
    have hn : i = its.toArray.size := by rw [List.size_toArray, ← hl, hx]
    rw [hn] at hit
    exact wpAny_pyNext_enum_endD (Draws.tuple (show X.A.in1.handled = none from I.ok.hd hc) it a hni its.toArray) he ⟨hit, p⟩ fun h' eb => ⟨rfl, I.turned (t' := s.toks) (fun b o hb q => eb b o hb q) f0 f1 f3 f4 f5⟩
  self := fun A i s Q E st h => let ⟨⟨_, he⟩, _⟩ := st; wpAny_pyIter_enum he h
theorem meets_enumT (v : Value) (o : Obj) (H : Heap → Prop) (B : Begins v o H) :
    Meets (Builtin.«enumerate.__new__» ⟨[.type "enumerate", v], []⟩) (fun _ R s => H s.heap ∧
      R (.ok (.ret (.ref (s.heap.push o).objs.size))) { s with heap := (s.heap.push o).push { cls := .type "enumerate", data := .fields #[.none, .bool false, .ref s.heap.objs.size, rawInt 0, .none, .none] } }) :=
  .of_wp fun prog w A R s h => by
    obtain ⟨hp, g, d, tk, os⟩ := s
    obtain ⟨h1, h⟩ := h
    have hsub := sub_enumerate
    have q1 : ∀ {A' : Around} {E : Value → Shared → Prop} {Q : Value → Shared → Prop}, Q (.ref hp.objs.size) ⟨hp.push o, g, d, tk, os⟩ → wpAny (model prog w) A' (pyIter v) Q E ⟨hp, g, d, tk, os⟩ :=
      fun q => B.iter prog w _ _ ⟨hp, g, d, tk, os⟩ _ h1 q
    wp_walk using q1
    refine wpAny_stack_any fun st => wpAny_pure ?_
    split
    · rename_i c _ _ _ _ _
      cases (c == Value.type "enumerate") <;> (wp_walk using q1; exact ⟨_, rfl, h⟩)
    · wp_walk using q1
      exact ⟨_, rfl, h⟩
section
variable {prog : Program} {w : World} {A : Around} {E : Value → Shared → Prop} {s : Shared}
theorem call_enumT {v : Value} {o : Obj} {H : Heap → Prop} {Q : Value → Shared → Prop} (B : Begins v o H) (h1 : H s.heap)
    (h : ∀ h', IsEnum h' (s.heap.objs.size + 1) s.heap.objs.size 0 .none → h'.get? s.heap.objs.size = some o → (∀ b o, s.heap.get? b = some o → h'.get? b = some o) → Q (.ref (s.heap.objs.size + 1)) { s with heap := h' }) :
    wpAny (model prog w) A (call (.type "enumerate") [v]) Q E s := by
  refine callType_new F.called_enumerate (by decide) (F.typeCall_enumerate_1 _) (F.newCall_enumerate_1 _) (fun obj => F.args_object_init_2 obj _) F.entry_enumerate_new (meets_enumT v o H B) ⟨h1, ?_⟩
  have hz : (s.heap.push o).objs.size = s.heap.objs.size + 1 := Heap.size_push ..
  show _ ∧ _
  rw [hz]
  have he : IsEnum ((s.heap.push o).push { cls := .type "enumerate", data := .fields #[.none, .bool false, .ref s.heap.objs.size, rawInt 0, .none, .none] }) (s.heap.objs.size + 1) s.heap.objs.size 0 .none := by
    have q := Heap.get?_push_size (s.heap.push o) (o := { cls := .type "enumerate", data := .fields #[.none, .bool false, .ref s.heap.objs.size, rawInt 0, .none, .none] }) rfl
    rw [hz] at q
    exact q
  exact ⟨⟨_, he, rfl⟩, h _ he (Heap.get?_push_of_some _ (Heap.get?_push_size _ B.free)) fun b o x => Heap.get?_push_of_some _ (Heap.get?_push_of_some _ x)⟩
end
def iEnumT (K : PySem.W.Frag) (ta : TA) : TI := fun σ H R => ta σ H fun vs H1 => ∃ a xs, vs = [.ref a] ∧ SqT K H1 a xs ∧ R (IteT K a) H1
theorem pi_enumT {X : Cx} {e : Expr} {ta : TA} {p pos tpos : Pos} {elts : List Expr} {kk : Nat} (hg : Gl X "enumerate") (hm : X.mg "enumerate" = none) (ha : PA X [e] ta) (hs : starEach [e] X.env = [(false, eval e X.env)] := by rfl) :
    PI X (.Tuple elts kk tpos) (.Call (.Name "enumerate" p) [e] [] pos) (iEnumT X.K ta) := by
  refine ⟨fun pins s σ H R I h => ?_⟩
  refine Call_ (ld_blt I hg hm boot_enumerate (PyProof.Rows.callWith_type1 (thn (ha.run pos pins s σ H _ I h) fun us s1 ⟨vs, H1, I1, r1, q1⟩ => ?_) hs rfl))
  obtain ⟨a, xs, ex, hq, q⟩ := q1
  subst ex
  cases r1 with
  | cons r rr =>
    cases rr
    cases r
    obtain ⟨its, rv, pt, hz⟩ := I1.tuple hq
    refine call_enumT (begins_tuple a its.toArray) pt fun h' he hit hk => wpAny_pyIter_enum he ?_
    have hal : a < s1.heap.objs.size := by
      obtain ⟨o, ho, _⟩ := pt
      exact Heap.lt_size ho
    have I2 : Inv X pins σ H1 { s1 with heap := h' } := I1.kept (t' := s1.toks) hk
    refine ⟨s1.heap.objs.size + 1, [s1.heap.objs.size + 1, s1.heap.objs.size], _, _, H1, rfl, I2, turn_enumT a (s1.heap.objs.size + 1) s1.heap.objs.size, ⟨⟨.none, he⟩, ⟨_, hit, rfl, rfl⟩, Nat.succ_ne_self _, Nat.ne_of_lt hal, Nat.ne_of_gt (Nat.lt_succ_of_lt hal)⟩, fun b hb => ?_, q⟩
    have hle : s1.heap.objs.size ≤ b := by
      have e' : b = s1.heap.objs.size + 1 ∨ b = s1.heap.objs.size := by simpa using hb
      rcases e' with z | z
      · rw [z]; exact Nat.le_succ _
      · rw [z]; exact Nat.le_refl _
    exact I1.fpOk hle (I1.hok.fresh hle)
end Kx
/-! KxU: sorted(set(list of ints)): the set is filled one by one, its order told by the World's ledger. -/
namespace Kx
open PySem PySem.Spec PyProof.Rows L2
theorem setR_congr {w : World} {h : Heap} {a : Addr} {S S' : Int → Bool} {n n' : Nat} (R : SetR w h a S n) (e : ∀ k, S k = S' k) (en : n = n') : SetR w h a S' n' := by
  have q : S = S' := funext e
  rw [← q, ← en]
  exact R
section
variable {P : Program} {w : World} {A : Around} {R : Result → Shared → Prop} {I : Addr} {fp wr : List Addr} {G : Array GenState → Array GenState → Prop} {n : Nat} {Pv : Nat → Value → Prop} {St : Nat → Shared → Prop}
/-- the rest of the filling, from turn i on -/
theorem fill_set (W : WalksS P w A.in1 I fp wr G n Pv St) (S : Addr) (hSf : S ∉ fp) (val : Nat → Int) (hval : ∀ i v, Pv i v → ∃ t, v = .int (val i) t) (hb : n + 1 < scanBound) :
    ∀ (k i : Nat) (s : Shared), n - i = k → i ≤ n → St i s → SetR w s.heap S (fun z => (firstMet val i).any (· == z)) (firstMet val i).length →
      (∀ s', Moved (S :: wr) G s s' → SetR w s'.heap S (fun z => (firstMet val n).any (· == z)) (firstMet val n).length → R (.ok (.ret .none)) s') →
      codeAny (model P w) A (.builtin "set.update.loop" ⟨[.ref S, .ref I], []⟩) R s := by
  have hSw : S ∉ wr := fun h => hSf (W.sub _ h)
  intro k
  induction k with
  | zero =>
    intro i s hk hi hst hS hR
    obtain rfl : i = n := by omega
    refine codeAny_builtin F.entry_set_update_loop ?_
    rw [Around.under_plainId F.plain_set_update_loop _]
    show wpAny _ A.in1 (pyNext (.ref I) >>= _) _ _ s
    refine wpAny_bind (W.done s _ _ hst fun s' hm => ?_)
    exact wpAny_pure (hR s' (hm.mono fun b hb => List.mem_cons_of_mem _ hb) (SetR.at hS fun o ho => hm.heap S _ hSw ho))
  | succ k ih =>
    intro i s hk hi hst hS hR
    refine codeAny_builtin F.entry_set_update_loop ?_
    rw [Around.under_plainId F.plain_set_update_loop _]
    show wpAny _ A.in1 (pyNext (.ref I) >>= _) _ _ s
    refine wpAny_bind (W.item i s _ _ (by omega) hst fun v s' hP hst' hm => ?_)
    obtain ⟨t, rfl⟩ := hval i v hP
    have hS' := SetR.at (h' := s'.heap) hS fun o ho => hm.heap S _ hSw ho
    show wpAny _ A.in1 (holding [Value.int (val i) t] (setAdd S (.int (val i) t)) >>= _) _ _ s'
    refine wpAny_bind (wpAny_holding ?_)
    unfold setAdd
    refine wpAny_holding (wpAny_bind ((intKind P w).pyHash (k := val i) (intKind_is _ _ _ _) ?_))
    have hroom : (firstMet val i).length + 1 < scanBound := by
      have := firstMet_length_le val i
      omega
    refine setR_add_hashed (s := { s' with toks := s'.toks + 1 }) hS' hroom fun h' hsb hS2 => ?_
    have hSi : SetR w h' S (fun z => (firstMet val (i + 1)).any (· == z)) (firstMet val (i + 1)).length := setR_congr hS2 (fun z => by rw [firstMet_succ, step_any]) (by rw [firstMet_succ, step_length])
    refine wpAny_pure ⟨plainId_quiet F.plain_set_update_loop _, ih (i + 1) _ (by omega) (by omega) (W.frame _ s' _ _ hst' (Nat.le_succ _) fun b hb o e => ?_) hSi fun s'' hm'' hS'' => ?_⟩
    · rw [hsb.2 b fun h : b = S => hSf (by rw [← h]; exact hb)]
      exact e
    · refine hR s'' (Moved.trans W.gtrans ((hm.mono fun b hb => List.mem_cons_of_mem _ hb).then_heap (Nat.le_succ _) fun b o hb e => ?_) hm'') hS''
      rw [hsb.2 b fun h : b = S => hb (by rw [h]; exact List.mem_cons_self)]
      exact e
end
section
variable {P : Program} {w : World} {A : Around} {E : Value → Shared → Prop} {s : Shared}
abbrev freshSet (w : World) : Obj := { cls := .type "set", dict := none, data := .set #[] 0 (.fresh 0 0 (!w.params.followText "set-order")) }
theorem code_set_one (a : Value) {Q₁ : Value → Shared → Prop} (h : Q₁ (.ref s.heap.objs.size) { s with heap := s.heap.push (freshSet w) }) :
    codeAny (model P w) A (.call (.builtin "set.__new__") ⟨[.type "set", a], []⟩) (wants Q₁ E) s := by
  refine codeAny_of_tree ?_
  show wpAny _ A.in1 (checkBuiltinCall "set.__new__" ⟨[.type "set", a], []⟩ >>= fun _ => again (.builtin "set.__new__" ⟨[.type "set", a], []⟩)) _ _ s
  refine wpAny_bind (wpAny_of_eq (F.newCall_set_1 a) (wpAny_pure ⟨plainId_quiet F.plain_set_new _, codeAny_builtin F.entry_set_new ?_⟩))
  rw [Around.under_plainId F.plain_set_new _]
  unfold Builtin.«set.__new__» Builtin.Frozenset.newClass
  have hsub := sub_set_self
  obtain ⟨hp, g, d, tk, os⟩ := s
  dsimp only
  wp_walk
  refine wpAny_askSetting (wpAny_pure ?_)
  dsimp only
  simp only [newObj]
  exact wpAny_bind (wpAny_alloc (wpAny_pure (wpAny_pure h)))
theorem call_set_R {l : Addr} {items : Array Value} {ns : List Int} {Q : Value → Shared → Prop} (hh : A.handled = none) (hl : s.heap.IsList l items) (hi : PyProof.Rows.IntsAre items.toList ns) (hb : items.size + 1 < scanBound)
    (h : ∀ (h' : Heap) (tk : Nat), SetR w h' s.heap.objs.size (fun z => (firstMet (fun i => ns.getD i 0) items.size).any (· == z)) (firstMet (fun i => ns.getD i 0) items.size).length →
      (∀ b o, s.heap.get? b = some o → h'.get? b = some o) → Q (.ref s.heap.objs.size) { s with heap := h', toks := tk }) :
    wpAny (model P w) A (call (.type "set") [.ref l]) Q E s := by
  obtain ⟨c, tl, hmro⟩ := F.called_set.mro
  have hmade := F.called_set.made
  have hsub := F.called_set.sub
  refine wpAny_call (codeAny_of_tree ?_)
  show wpAny _ _ (callAny (.type "set") _) _ _ _
  refine wpAny_pure ⟨Code.quiet_builtin _ (by decide +kernel), codeAny_builtin F.entry_type_call ?_⟩
  rw [Around.under_plain (weight_type_call_type "set" [.ref l] []) rfl]
  have h1 := F.called_set.notType
  have h2 := F.called_set.canCreate
  have hct := F.typeCall_set_1 (.ref l)
  repeat (any_goals (first | assumption | wp_step))
  have hS : (s.heap.push (freshSet w)).get? s.heap.objs.size = some (freshSet w) := Heap.get?_push_size _ rfl
  refine codeAny_mono (code_set_one (.ref l) (E := E) (Q₁ := fun obj s₁ => obj = .ref s.heap.objs.size ∧ s₁ = { s with heap := s.heap.push (freshSet w) }) ⟨rfl, rfl⟩) fun r s₁ hr => ?_
  match r, hr with
  | .error e, hr => exact hr
  | .ok (.ret obj), hr =>
    obtain ⟨rfl, rfl⟩ := hr
    have hT : Shared.TypeIs { s with heap := s.heap.push (freshSet w) } (.ref s.heap.objs.size) "set" := ⟨_, hS, rfl⟩
    have hli := F.called_set.init.lookup
    have hbi := F.called_set.init.bind (.ref s.heap.objs.size)
    repeat (any_goals (first | assumption | wp_step))
    refine codeAny_mono (codeAny_call_builtin (R := wants (fun r s₂ => r = .none ∧ ∃ h' tk, s₂ = { s with heap := h', toks := tk } ∧ SetR w h' s.heap.objs.size (fun z => (firstMet (fun i => ns.getD i 0) items.size).any (· == z)) (firstMet (fun i => ns.getD i 0) items.size).length ∧
        ∀ b o, s.heap.get? b = some o → h'.get? b = some o) E) F.called_set.init.plain F.entry_set_init (check_set_init_1 hT ?_)) fun r₂ s₂ hr₂ => ?_
    · obtain ⟨ol, hol, hcl, nl, hdl⟩ := hl
      obtain ⟨ocls, odict, odata, oslots⟩ := ol
      simp only at hcl hdl
      subst hcl hdl
      have hol' : (s.heap.push (freshSet w)).get? l = some { cls := .type "list", dict := odict, data := .seq items nl, slots := oslots } := Heap.get?_push_of_some _ hol
      have hsls := F.sub_list_set
      have hslf := F.sub_list_frozenset
      have hne : (Value.type "list" == Value.type "dict") = false := by decide
      have hl1 : (s.heap.push (freshSet w)).IsList l items := ⟨_, hol', rfl, nl, rfl⟩
      unfold Builtin.«set.__init__» noKeywords Builtin.Frozenset.updateFrom
      generalize hPI : pyIter = PI
      wp_walk
      subst hPI
      refine wpAny_pyIter_list hl1 (wpAny_bind (wpAny_runValue ?_))
      have hlS : l < s.heap.objs.size := Heap.lt_size hol
      have hh3 : A.in1.in1.in1.handled = none := by simp [hh]
      have hsz : (s.heap.push (freshSet w)).objs.size = s.heap.objs.size + 1 := Heap.size_push ..
      have hneI : l ≠ (s.heap.push (freshSet w)).objs.size := by
        rw [hsz]
        exact Nat.ne_of_lt (Nat.lt_succ_of_lt hlS)
      have hSf : s.heap.objs.size ∉ [(s.heap.push (freshSet w)).objs.size, l] := by
        rw [hsz]
        simp only [List.mem_cons, List.not_mem_nil, or_false, not_or]
        exact ⟨Nat.ne_of_lt (Nat.lt_succ_self _), Nat.ne_of_gt hlS⟩
      have hval : ∀ (i : Nat) (v : Value), items[i]? = some v → ∃ t, v = .int ((fun i => ns.getD i 0) i) t := fun i v hv => PyProof.Rows.IntsAre.int_at hi i v (by rw [Array.getElem?_toList]; exact hv)
      refine fill_set ((Walks.list hh3 _ l hneI items).toS) s.heap.objs.size hSf (fun i => ns.getD i 0) hval hb (items.size - 0) 0 _ (by omega) (Nat.zero_le _) ⟨⟨_, Heap.get?_push_size _ rfl, rfl, rfl⟩, hl1.push _⟩ ?_ ?_
      · exact SetR.at (setR_fresh w) fun o ho => Heap.get?_push_of_some _ ho
      · intro s' hm hS'
        obtain ⟨h', g', d', tk', os'⟩ := s'
        obtain rfl : g' = s.gens := hm.gens
        obtain rfl : d' = s.drawn := hm.drawn
        obtain rfl : os' = s.os := hm.os
        show wpAny _ _ _ _ _ _
        refine wpAny_pure ?_
        show wpAny _ _ (ret Value.none) _ _ _
        refine wpAny_pure ⟨rfl, h', tk', rfl, hS', fun b o e => ?_⟩
        have hb := Heap.lt_size e
        refine hm.heap b o ?_ (Heap.get?_push_of_some _ (Heap.get?_push_of_some _ e))
        rw [hsz]
        simp only [List.mem_cons, List.not_mem_nil, or_false, not_or]
        exact ⟨Nat.ne_of_lt hb, Nat.ne_of_lt (Nat.lt_succ_of_lt hb)⟩
    · match r₂, hr₂ with
      | .error e, hr₂ => exact hr₂
      | .ok (.ret r), hr₂ =>
        obtain ⟨rfl, h', tk, rfl, hS', hk'⟩ := hr₂
        repeat (any_goals (first | assumption | wp_step))
        exact h _ _ hS' hk'
end
/-- sorted(set(e)), fewer than 64 -/
def tSoS (K : PySem.W.Frag) (ta : TE) : TE := fun σ H Q => ta σ H fun x H1 => ∃ (l : Addr) (ns : List Int), x = .ref l ∧ SqL K H1 l (ns.map V.int) ∧ ns.length < 64 ∧
  ∀ (ms : List Int) (p : Addr) (H' : Hp), ms.Pairwise (· < ·) → (∀ k, k ∈ ms ↔ k ∈ ns) → New H1 p (.lst (ms.map V.int)) H' → Q (.ref p) H'
theorem met_any {ns : List Int} (k : Int) : (firstMet (fun i => ns.getD i 0) ns.length).any (· == k) = true ↔ k ∈ ns := by
  have e : (List.range ns.length).map (fun i => ns.getD i 0) = ns := by
    apply List.ext_getElem?
    intro i
    rw [List.getElem?_map]
    by_cases h : i < ns.length
    · rw [List.getElem?_range h, List.getElem?_eq_getElem h]
      show some (ns.getD i 0) = _
      rw [List.getD_eq_getElem?_getD, List.getElem?_eq_getElem h]
      rfl
    · rw [List.getElem?_eq_none (by simpa using Nat.le_of_not_lt h), List.getElem?_eq_none (Nat.le_of_not_lt h)]
      rfl
  rw [firstMet_any, e, List.any_eq_true]
  constructor
  · rintro ⟨x, hx, h⟩
    rw [← beq_iff_eq.mp h]
    exact hx
  · exact fun h => ⟨k, h, by simp⟩
theorem pe_sortedSet {X : Cx} {e : Expr} {ta : TE} {p p2 q pos : Pos} (hg : Gl X "sorted") (hm : X.mg "sorted" = none) (hg2 : Gl X "set") (hm2 : X.mg "set" = none) (ha : PE X e ta) (hc : X.calm = true := by rfl)
    (na : starEach [e] X.env = (false, eval e X.env) :: starEach [] X.env := by rfl) (nb : starEach [.Call (.Name "set" p2) [e] [] q] X.env = (false, eval (.Call (.Name "set" p2) [e] [] q) X.env) :: starEach [] X.env := by rfl) :
    PE X (.Call (.Name "sorted" p) [.Call (.Name "set" p2) [e] [] q] [] pos) (tSoS X.K ta) := by
  refine ⟨fun pins s σ H Q I h => ?_⟩
  refine Call_ (ld_blt I hg hm boot_sorted ?_)
  refine PyProof.Rows.callWith_builtin1 (PyProof.Rows.args_cons ?_ nb) nb rfl
  refine Call_ (ld_blt I hg2 hm2 boot_set ?_)
  refine PyProof.Rows.callWith_type1 (PyProof.Rows.args_cons (thn (ha.run pins s σ H _ I h) fun v s1 ⟨x, H1, I1, r1, q1⟩ => PyProof.Rows.args_nil ?_) na) na rfl
  obtain ⟨l, ns, rfl, hq, hl, q1⟩ := q1
  cases r1
  obtain ⟨its, r, pl, hz⟩ := I1.list hq
  have hlen : its.toArray.size = ns.length := by rw [List.size_toArray, ← r.length, List.length_map]
  refine call_set_R (I1.ok.hd hc) pl.isList (ns := ns) (by simpa using r.ints) (by rw [hlen]; unfold scanBound; omega) fun h' tk hS hk => ?_
  rw [hlen] at hS
  have I2 : Inv X pins σ (upd H1 s1.heap.objs.size (SetO X.w s1.heap.objs.size (fun z => (firstMet (fun i => ns.getD i 0) ns.length).any (· == z)) (firstMet (fun i => ns.getD i 0) ns.length).length)) { s1 with heap := h', toks := tk } := I1.laid hk (Nat.le_refl _) (setO_new hS)
  have hn : H1 s1.heap.objs.size = none := I1.hok.fresh (Nat.le_refl _)
  refine PyProof.Rows.args_nil ?_
  refine cr_sortedSet hc pins _ σ _ [.ref s1.heap.objs.size] [.ref s1.heap.objs.size] Q I2 (.cons rfl .nil) ⟨_, _, _, rfl, upd_same, Nat.lt_of_le_of_lt (firstMet_length_le _ _) hl, fun ms p h1 h2 _ hp => ?_⟩
  have sA := (same_upd (o := SetO X.w s1.heap.objs.size (fun z => (firstMet (fun i => ns.getD i 0) ns.length).any (· == z)) (firstMet (fun i => ns.getD i 0) ns.length).length) hn)
  exact q1 ms p _ h1 (fun k => (h2 k).trans (met_any k)) ⟨sA.free hp, sA.trans (same_upd hp), upd_same⟩
end Kx
/-! Kx2: more steps by their heads: slices, stars, ranges of two, places of lists, dicts by numbers. -/
namespace Kx
open PySem PySem.Spec PyProof.Rows L2 StX
section
variable {K : PySem.W.Frag} {σ : L2.St} {H : Hp} {Q : VK} {v x y : V} {te ta tb : TE} {tl : TA} {lo hi : Option Int} {a i : Int} {j : Nat} {p l d : Addr} {xs ys : List V} {kvs : List (Key × V)}
theorem xSl {r : V → Option Int → Option Int → Hp → VK → Prop} {t1 t2 : TO} (h : te σ H fun x H1 => t1 σ H1 fun l H2 => t2 σ H2 fun u H3 => r x l u H3 Q) : L2.tSl r te t1 t2 σ H Q := h
theorem xNoPart {Q : Option Int → Hp → Prop} (q : Q none H) : tNoPart σ H Q := q
theorem xPart {Q : Option Int → Hp → Prop} (h : te σ H fun x H1 => ∃ i, x = .int i ∧ Q (some i) H1) : tPart te σ H Q := h
theorem xPI {P : Int → Prop} (h : P a) : ∃ i, V.int a = .int i ∧ P i := ⟨a, rfl, h⟩
theorem ySlL (h : SqL K H p xs) (q : ∀ r, H r = none → Q (.ref r) (upd H r (.lst (cutV xs lo hi)))) : rSlL K (.ref p) lo hi H Q := ⟨p, xs, rfl, h, q⟩
theorem xStar {Q : List V → Hp → Prop} (h : te σ H fun x H1 => ∃ p xs, x = V.ref p ∧ (SqT K H1 p xs ∨ SqL K H1 p xs) ∧ tl σ H1 fun ys H2 => Q (xs ++ ys) H2) : tStar K te tl σ H Q := h
theorem xDNew (h : ∀ p, H p = none → Q (.ref p) (upd H p (.dK []))) : tDNewK σ H Q := h
theorem ySetL {Q : Hp → Prop} (h : H p = some (.lst xs)) (e : ixN xs.length i = some j) (q : Q (upd H p (.lst (xs.set j v)))) : rSetL (.ref p) (.int i) v H Q := ⟨p, xs, i, j, rfl, rfl, h, e, q⟩
theorem ix_nat {n : Nat} (h0 : 0 ≤ i) (h1 : i < n) : ixN n i = some i.toNat := by
  unfold ixN
  rw [if_pos h0, if_pos h1]
theorem yExtend {b : Addr} {zs : List V} (h : H l = some (.lst xs)) (h2 : H b = some (.lst zs)) (hl : xs.length + zs.length ≤ sizeLine) (q : Q .non (upd H l (.lst (xs ++ zs)))) : rExtend (.ref l) [.ref b] H Q := ⟨l, b, xs, zs, rfl, rfl, h, h2, hl, q⟩
theorem xIn {ty td : TE} (h : ty σ H fun y H1 => td σ H1 fun x H2 => ∃ a o, x = .ref a ∧ DGet H2 a y o ∧ Q (.bl o.isSome) H2) : tDIn ty td σ H Q := h
theorem xNotIn {ty td : TE} (h : ty σ H fun y H1 => td σ H1 fun x H2 => ∃ a o, x = .ref a ∧ DGet H2 a y o ∧ Q (.bl (!o.isSome)) H2) : tDNotIn ty td σ H Q := h
theorem yInI {P : Option V → Prop} (h : H d = some (.dK kvs)) (q : P (valV kvs (Sum.inl a))) : ∃ b o, V.ref d = .ref b ∧ DGet H b (.int a) o ∧ P o := ⟨d, _, rfl, DGet.k (k := Sum.inl a) h, q⟩
theorem yGL {Q : L2.St → Hp → Prop} {gs : TGs} {n : Nat} (h : SqL K H p xs) (hl : xs.length = n) (q : gs xs σ H Q) : gLst K n gs (.ref p) σ H Q := ⟨p, xs, rfl, h, hl, q⟩
theorem xGF {Q : L2.St → Hp → Prop} {f : Str} (h : ta σ H fun x H2 => ∃ a C dx fs, x = .ref a ∧ H2 a = some (.ins C dx fs) ∧ Cls K C ∧ NoAttr K C f ∧ fs.length < 1000 ∧ Q σ (upd H2 a (.ins C dx (putF f v fs)))) : gFld K ta f v σ H Q := h
theorem xAll {bs : List Bool} (h : SqL K H p (bs.map V.bl)) (q : Q (.bl (bs.all id)) H) : rAll K [.ref p] H Q := ⟨p, bs, rfl, h, q⟩
theorem yListOf (h : SqL K H p xs) (q : ∀ l, H l = none → Q (.ref l) (upd H l (.lst xs))) : rListOf K [.ref p] H Q := ⟨p, xs, rfl, .inl h, q⟩
theorem yTupleOf (h : SqL K H p xs) (q : ∀ l, H l = none → Q (.ref l) (upd H l (.tup xs))) : rTupleOf K [.ref p] H Q := ⟨p, xs, rfl, .inl ⟨h, q⟩⟩
end
section
variable {K : PySem.W.Frag} {σ : L2.St} {H : Hp} {D : Ends} {g : TG} {tb : TS} {tl : TA} {Q : VK} {tt : TT} {te : TE} {vs : List Nat}
/-- over range(a, b) -/
theorem xForR2 (h : tl σ H fun vs H1 => ∃ i j : Int, vs = [.int i, .int j] ∧ (-(2 ^ 62) ≤ i ∧ i < 2 ^ 62 ∧ -(2 ^ 62) ≤ j ∧ j < 2 ^ 62) ∧ ∃ W : Nat → Nat → L2.St → Hp → Prop, (∃ m, W 0 m σ H1) ∧ ∀ k m σ H, W k m σ H → ((Itr i (j - i).toNat).stop k H ∧ D.nx σ H) ∨ ((Itr i (j - i).toNat).go k H ∧ ∃ N : L2.St → Hp → Prop, (∀ σ' H', N σ' H' → ∃ m', m' < m ∧ W (k + 1) m' σ' H') ∧
      ∀ x H', (Itr i (j - i).toNat).yld k H x H' → g x σ H' fun σ2 H2 => tb { D with nx := N, ct := N, bk := D.nx } σ2 H2)) : tFor (iRng2 tl) g tb D σ H := h
theorem yForR2 {i j : Int} (n : Nat) (e : (j - i).toNat = n) (bi : -1000000 ≤ i ∧ i < 1000000) (bj : -1000000 ≤ j ∧ j < 1000000) (Pv : Nat → L2.St → Hp → Prop) (h0 : Pv 0 σ H)
    (hs : ∀ (k : Nat) σ H, k < n → Pv k σ H → g (.int (i + (k : Int))) σ H fun σ2 H2 => tb { D with nx := Pv (k + 1), ct := Pv (k + 1), bk := D.nx } σ2 H2) (hd : ∀ σ H, Pv n σ H → D.nx σ H) :
    ∃ i' j' : Int, [V.int i, V.int j] = [.int i', .int j'] ∧ (-(2 ^ 62) ≤ i' ∧ i' < 2 ^ 62 ∧ -(2 ^ 62) ≤ j' ∧ j' < 2 ^ 62) ∧ ∃ W : Nat → Nat → L2.St → Hp → Prop, (∃ m, W 0 m σ H) ∧ ∀ k m σ H, W k m σ H → ((Itr i' (j' - i').toNat).stop k H ∧ D.nx σ H) ∨ ((Itr i' (j' - i').toNat).go k H ∧ ∃ N : L2.St → Hp → Prop, (∀ σ' H', N σ' H' → ∃ m', m' < m ∧ W (k + 1) m' σ' H') ∧
      ∀ x H', (Itr i' (j' - i').toNat).yld k H x H' → g x σ H' fun σ2 H2 => tb { D with nx := N, ct := N, bk := D.nx } σ2 H2) := by
  subst e
  exact ⟨i, j, rfl, ⟨by omega, by omega, by omega, by omega⟩, for_range (lo := i) (n := (j - i).toNat) Pv h0 hs hd⟩
theorem xLcR2 (h : tl σ H fun ws H1 => ∃ i j : Int, ws = [.int i, .int j] ∧ (-(2 ^ 62) ≤ i ∧ i < 2 ^ 62 ∧ -(2 ^ 62) ≤ j ∧ j < 2 ^ 62) ∧ lcEnd (Itr i (j - i).toNat) g tt te vs σ H1 Q) : tLc (iRng2 tl) g tt te vs σ H Q := h
theorem yLcR2 {i j : Int} (n : Nat) (e : (j - i).toNat = n) (bi : -1000000 ≤ i ∧ i < 1000000) (bj : -1000000 ≤ j ∧ j < 1000000) (Pv : Addr → Nat → Hp → Prop) (h0 : ∀ D, H D = none → Pv D 0 (upd H D (.lst [])))
    (hs : ∀ D (k : Nat) H', k < n → Pv D k H' → g (.int (i + (k : Int))) (wipe σ vs) H' (lcTurn D tt te vs σ (Pv D (k + 1)))) (hd : ∀ D H', H D = none → Pv D n H' → Q (.ref D) H') :
    ∃ i' j' : Int, [V.int i, V.int j] = [.int i', .int j'] ∧ (-(2 ^ 62) ≤ i' ∧ i' < 2 ^ 62 ∧ -(2 ^ 62) ≤ j' ∧ j' < 2 ^ 62) ∧ lcEnd (Itr i' (j' - i').toNat) g tt te vs σ H Q := by
  subst e
  exact ⟨i, j, rfl, ⟨by omega, by omega, by omega, by omega⟩, fun D hD => lc_range (lo := i) (n := (j - i).toNat) (Pv D) (h0 D hD) (hs D) fun H' h => hd D H' hD h⟩
theorem xLcET (h : tl σ H fun ws H1 => ∃ a xs, ws = [.ref a] ∧ SqT K H1 a xs ∧ lcEnd (IteT K a) g tt te vs σ H1 Q) : tLc (iEnumT K tl) g tt te vs σ H Q := h
theorem yLcET {a : Addr} {xs : List V} (hq : SqT K H a xs) (Pv : Addr → Nat → Hp → Prop) (h0 : ∀ D, H D = none → Pv D 0 (upd H D (.lst []))) (hl : ∀ D i H', i ≤ xs.length → Pv D i H' → SqT K H' a xs)
    (hs : ∀ D (i : Nat) x T H', xs[i]? = some x → Pv D i H' → H' T = none → g (.ref T) (wipe σ vs) (upd H' T (.tup [.int (i : Int), x])) (lcTurn D tt te vs σ (Pv D (i + 1))))
    (hd : ∀ D H', H D = none → Pv D xs.length H' → Q (.ref D) H') : ∃ c ys, [V.ref a] = [.ref c] ∧ SqT K H c ys ∧ lcEnd (IteT K c) g tt te vs σ H Q := by
  refine ⟨a, xs, rfl, hq, fun D hD => ⟨fun i m H => i + m = xs.length ∧ Pv D i H, ⟨xs.length, by omega, h0 D hD⟩, fun i m H ⟨hm, hp⟩ => ?_⟩⟩
  by_cases hi : i < xs.length
  · refine .inr ⟨⟨xs, xs[i], hl D i H (Nat.le_of_lt hi) hp, List.getElem?_eq_getElem hi⟩, Pv D (i + 1), fun H' h => ⟨m - 1, by omega, by omega, h⟩, fun x H' hy => ?_⟩
    obtain ⟨T, y, rfl, hT, rfl, hy⟩ := hy
    exact hs D i y T H (hy xs (hl D i H (Nat.le_of_lt hi) hp)) hp hT
  · have e : i = xs.length := by omega
    subst e
    exact .inl ⟨⟨xs, hl D _ H (Nat.le_refl _) hp, rfl⟩, hd D H hD hp⟩
end
/-- a word of the state between two statements -/
theorem xSeqW {t1 t2 : TS} {D : Ends} {σ : L2.St} {H : Hp} (P : L2.St → Hp → Prop) (h : ∀ nx : L2.St → Hp → Prop, (∀ σ H, P σ H → nx σ H) → t1 { D with nx := nx } σ H) (h2 : ∀ σ H, P σ H → t2 D σ H) : tSeq t1 t2 D σ H := h _ h2
end Kx
/-! KxH: the head's facts, with methods that ask super() and any test of one's own. -/
namespace Kx
open PySem PySem.Spec PyProof.Rows L2 NdefX
/-- a method with the cell of its class -/
structure SuD where
  at_ : Str × Option Str
  name : Str
  qual : Str
  params : Arguments
  body : List Stmt
  scope : Scope
  cls : Str
abbrev FnS : Type := Option (Str × Str × Arguments × FuncBody × Scope × Addr × List Str × Addr)
def fnS (K : PySem.W.Frag) (p : Str × Option Str) : FnS := match K.lookup (He.fAd K p) with
  | some ⟨_, _, .func fd, _⟩ => some (fd.name, fd.qualname, fd.params, fd.body, fd.scope, fd.globals, fd.closure.map (·.1), fd.builtins)
  | _ => none
def SuD.val (d : SuD) : FnS := some (d.name, d.qual, d.params, .stmts d.body, d.scope, mainGlobals, ["__class__"], builtinsNs)
def fileB (P : Program) (K : PySem.W.Frag) (cda : Addr) : Bool := match K.lookup cda with
  | some ⟨_, _, .fields vs, _⟩ => (match (vs[2]? : Option Value) with
    | some (.str file _) => (P.main.file : Str) == file
    | _ => false)
  | _ => false
def cellB (K : PySem.W.Frag) (cl : List (Str × Addr)) (D : Addr) : Bool := match cl with
  | [q] => (match K.lookup q.2 with
    | some ⟨_, _, .cell (some (.ref e)), _⟩ => decide (e = D)
    | _ => false)
  | _ => false
def codB (P : Program) (K : PySem.W.Frag) (q : Str) (cl : List (Str × Addr)) (D : Addr) : Value → Bool
  | .ref cda => PySem.W.codeIn K (.ref cda) q && (fileB P K cda && cellB K cl D)
  | _ => false
def noneB : Value → Bool
  | .none => true
  | _ => false
theorem noneB_ok {v : Value} (h : noneB v = true) : v = .none := by
  cases v <;> first | rfl | cases h
def SuD.ok (P : Program) (K : PySem.W.Frag) (d : SuD) : Bool := PySem.W.keepIn K (.ref (He.fAd K d.at_)) && (match K.lookup (He.fAd K d.at_) with
  | some ⟨_, _, .func fd, _⟩ => noneB fd.defaults && codB P K d.qual fd.closure (He.ga K d.cls) fd.code
  | _ => false)
theorem SuD.supD {P : Program} {K : PySem.W.Frag} {d : SuD} (e : fnS K d.at_ = d.val) (c : d.ok P K = true) : ∃ fd cda cc, SupD P K d.name d.qual d.params d.body d.scope (He.fAd K d.at_) cda cc (He.ga K d.cls) fd := by
  obtain ⟨kp, c2⟩ := He.ba c
  unfold fnS at e
  cases q : K.lookup (He.fAd K d.at_) with
  | none =>
    rw [q] at c2
    cases c2
  | some o =>
    obtain ⟨oc, od, dt, osl⟩ := o
    rw [q] at c2 e
    cases dt with
    | func fd =>
      obtain ⟨n1, n2, n3, n4, n5, n6, n7, n8, n9, n10, n11, n12, n13, n14, n15⟩ := fd
      have e2 : (some (n1, n2, n3, n4, n5, n6, n7.map (·.1), n15) : FnS) = some (d.name, d.qual, d.params, FuncBody.stmts d.body, d.scope, mainGlobals, [("__class__" : Str)], builtinsNs) := e
      simp only [Option.some.injEq, Prod.mk.injEq] at e2
      obtain ⟨h1, h2, h3, h4, h5, h6, h7, h8⟩ := e2
      subst h1 h2 h3 h4 h5 h6 h8
      obtain ⟨c0, c3⟩ := He.ba (show (noneB n8 && codB P K d.qual n7 (He.ga K d.cls) n13) = true from c2)
      have h8' := noneB_ok c0
      subst h8'
      cases n13 with
      | ref cda =>
        obtain ⟨k1, k2⟩ := He.ba (show (PySem.W.codeIn K (.ref cda) d.qual && (fileB P K cda && cellB K n7 (He.ga K d.cls))) = true from c3)
        obtain ⟨k3, k4⟩ := He.ba k2
        match n7, h7 with
        | [(y, cc)], h7 =>
          have hy : y = "__class__" := by
            have h : [y] = (["__class__"] : List Str) := h7
            exact (List.cons.inj h).1
          subst hy
          refine ⟨_, cda, cc, ⟨⟨oc, od, n9, n10, n11, n12, n14, osl, rfl, q⟩, k1, ?_, ?_, kp⟩⟩
          · unfold fileB at k3
            cases z : K.lookup cda with
            | none =>
              rw [z] at k3
              cases k3
            | some o2 =>
              obtain ⟨oc2, od2, dt2, osl2⟩ := o2
              rw [z] at k3
              cases dt2 with
              | fields vs =>
                have k3 : (match (vs[2]? : Option Value) with
                  | some (.str file _) => (P.main.file : Str) == file
                  | _ => false) = true := k3
                cases zz : vs[2]? with
                | none =>
                  rw [zz] at k3
                  cases k3
                | some v =>
                  rw [zz] at k3
                  cases v with
                  | str file tf => exact ⟨_, _, _, _, file, tf, rfl, zz, k3⟩
                  | _ => cases k3
              | _ => cases k3
          · have k4 : (match K.lookup cc with
              | some ⟨_, _, .cell (some (.ref e)), _⟩ => decide (e = He.ga K d.cls)
              | _ => false) = true := k4
            cases z : K.lookup cc with
            | none =>
              rw [z] at k4
              cases k4
            | some o2 =>
              obtain ⟨oc2, od2, dt2, osl2⟩ := o2
              rw [z] at k4
              cases dt2 with
              | cell v =>
                cases v with
                | none => cases k4
                | some v =>
                  cases v with
                  | ref e =>
                    have ee : e = He.ga K d.cls := of_decide_eq_true k4
                    exact ⟨_, _, _, by rw [ee]⟩
                  | _ => cases k4
              | _ => cases k4
        | [], h7 => exact absurd (congrArg List.length h7) (by decide)
        | _ :: _ :: _, h7 => exact absurd (congrArg List.length h7) (by simp)
      | _ => cases c3
    | _ => cases c2
/-! ### the Hook -/
def asS (g : Addr → Option Obj) : Nat → List Addr
  | 0 => [mainGlobals, cStatics]
  | n + 1 => He.growD g (asS g n)
abbrev AlS : Type := Bool × List He.FnW × List FnS
def obsS (P : Program) (fa : List He.Fa) (fn : List He.DefD) (su : List SuD) (ex : PySem.W.Frag → Bool) (K : PySem.W.Frag) : AlS :=
  (((fa.all fun f => f.ok K) && fn.all fun d => d.ok K) && ((su.all fun d => d.ok P K) && ex K), fn.map fun d => He.fnW K d.at_, su.map fun d => fnS K d.at_)
def valS (fn : List He.DefD) (su : List SuD) : AlS := (true, fn.map He.DefD.val, su.map SuD.val)
def SaysS (P : Program) (fa : List He.Fa) (fn : List He.DefD) (su : List SuD) (ex : PySem.W.Frag → Bool) (K : PySem.W.Frag) : Prop := obsS P fa fn su ex K = valS fn su
def obsSG (P : Program) (n : Nat) (fa : List He.Fa) (fn : List He.DefD) (su : List SuD) (ex : PySem.W.Frag → Bool) (g : Addr → Option Obj) : AlS := obsS P fa fn su ex (He.frG g (asS g n))
def hookS (P : Program) (n : Nat) (fa : List He.Fa) (fn : List He.DefD) (su : List SuD) (ex : PySem.W.Frag → Bool) : PySem.W.Hook where
  α := AlS
  obs := fun s => obsSG P n fa fn su ex s.heap.get?
  val := fun _ => valS fn su
  says := fun _ h => ∃ K : PySem.W.Frag, K.In h ∧ SaysS P fa fn su ex K
  of := fun _ _ e => ⟨_, He.frG_in, e⟩
  keeps := fun _ _ _ ⟨K, hK, c⟩ k => ⟨K, PySem.W.Frag.In.keeps hK k, c⟩
theorem obsSG_eq {P : Program} {n : Nat} {fa : List He.Fa} {fn : List He.DefD} {su : List SuD} {ex : PySem.W.Frag → Bool} {g : Addr → Option Obj} {s : Shared} (h : ∀ a, g a = s.heap.get? a) : obsSG P n fa fn su ex g = (hookS P n fa fn su ex).obs s := by
  have e : g = s.heap.get? := funext h
  rw [e] <;> rfl
section
variable {P : Program} {fa : List He.Fa} {fn : List He.DefD} {su : List SuD} {ex : PySem.W.Frag → Bool} {K : PySem.W.Frag}
theorem SaysS.all (c : SaysS P fa fn su ex K) : (((fa.all fun f => f.ok K) && fn.all fun d => d.ok K) && ((su.all fun d => d.ok P K) && ex K)) = true := congrArg (fun z : AlS => z.1) c
theorem SaysS.fact (c : SaysS P fa fn su ex K) (i : Nat) {f : He.Fa} (h : fa[i]? = some f := by rfl) : f.ok K = true :=
  List.all_eq_true.mp (He.ba (He.ba c.all).1).1 f (List.mem_of_getElem? h)
theorem SaysS.def_ (c : SaysS P fa fn su ex K) (i : Nat) {d : He.DefD} (h : fn[i]? = some d := by rfl) : ∃ fd, FunD K d.name d.qual d.params d.body d.scope (d.dvs K) (d.kws K) (He.fAd K d.at_) fd := by
  have c2 := (He.ba (He.ba c.all).1).2
  have e : fn.map (fun d => He.fnW K d.at_) = fn.map He.DefD.val := congrArg (fun z : AlS => z.2.1) c
  have e2 : (fn.map fun d => He.fnW K d.at_)[i]? = (fn.map He.DefD.val)[i]? := by rw [e]
  rw [List.getElem?_map, List.getElem?_map, h] at e2
  exact He.DefD.funD (Option.some.inj e2) (List.all_eq_true.mp c2 d (List.mem_of_getElem? h))
theorem SaysS.sup_ (c : SaysS P fa fn su ex K) (i : Nat) {d : SuD} (h : su[i]? = some d := by rfl) : ∃ fd cda cc, SupD P K d.name d.qual d.params d.body d.scope (He.fAd K d.at_) cda cc (He.ga K d.cls) fd := by
  have c2 := (He.ba (He.ba c.all).2).1
  have e : su.map (fun d => fnS K d.at_) = su.map SuD.val := congrArg (fun z : AlS => z.2.2) c
  have e2 : (su.map fun d => fnS K d.at_)[i]? = (su.map SuD.val)[i]? := by rw [e]
  rw [List.getElem?_map, List.getElem?_map, h] at e2
  exact SuD.supD (Option.some.inj e2) (List.all_eq_true.mp c2 d (List.mem_of_getElem? h))
theorem SaysS.ex_ (c : SaysS P fa fn su ex K) : ex K = true := (He.ba (He.ba c.all).2).2
end
end Kx
namespace K62
open PySem PySem.Spec PyProof.Rows L2 StX Kx
/-! ### the text by places -/
def top (i : Nat) : Stmt := PySem.Challenge.pw_caughtup_k62_main_pictures_that_are_move.main.body.getD i (.Pass ⟨0, 0, 0, 0⟩)
def N_check_sheet : List Str := ["sheet", "byte"]
abbrev s_check_sheet : Stmt := top 13
theorem sc_check_sheet : FnScope N_check_sheet ["sheet"] (defScope s_check_sheet) := ⟨rfl, rfl, rfl, by decide +kernel, rfl, by decide +kernel, by decide +kernel⟩
def N_bit : List Str := ["byte", "k"]
abbrev s_bit : Stmt := top 14
theorem sc_bit : FnScope N_bit ["byte", "k"] (defScope s_bit) := ⟨rfl, rfl, rfl, by decide +kernel, rfl, by decide +kernel, by decide +kernel⟩
def N_pixel_in : List Str := ["sheet", "tile", "row", "column", "place"]
abbrev s_pixel_in : Stmt := top 15
theorem sc_pixel_in : FnScope N_pixel_in ["sheet", "tile", "row", "column"] (defScope s_pixel_in) := ⟨rfl, rfl, rfl, by decide +kernel, rfl, by decide +kernel, by decide +kernel⟩
def N_ground_in : List Str := ["sheet", "settings", "column", "line", "right", "down", "_", "on", "x", "y", "byte"]
abbrev s_ground_in : Stmt := top 16
theorem sc_ground_in : FnScope N_ground_in ["sheet", "settings", "column", "line"] (defScope s_ground_in) := ⟨rfl, rfl, rfl, by decide +kernel, rfl, by decide +kernel, by decide +kernel⟩
def N_movers_in : List Str := ["sheet", "settings", "line", "found", "k", "place"]
abbrev s_movers_in : Stmt := top 17
theorem sc_movers_in : FnScope N_movers_in ["sheet", "settings", "line"] (defScope s_movers_in) := ⟨rfl, rfl, rfl, by decide +kernel, rfl, by decide +kernel, by decide +kernel⟩
def N_movers_at : List Str := ["sheet", "settings", "line"]
abbrev s_movers_at : Stmt := top 18
theorem sc_movers_at : FnScope N_movers_at ["sheet", "settings", "line"] (defScope s_movers_at) := ⟨rfl, rfl, rfl, by decide +kernel, rfl, by decide +kernel, by decide +kernel⟩
def N_mover_pixel : List Str := ["sheet", "mover", "column", "line", "_", "y", "tile", "looks", "x", "row", "place"]
abbrev s_mover_pixel : Stmt := top 19
theorem sc_mover_pixel : FnScope N_mover_pixel ["sheet", "mover", "column", "line"] (defScope s_mover_pixel) := ⟨rfl, rfl, rfl, by decide +kernel, rfl, by decide +kernel, by decide +kernel⟩
def N_showing : List Str := ["sheet", "movers", "column", "line", "mover", "number"]
abbrev s_showing : Stmt := top 20
theorem sc_showing : FnScope N_showing ["sheet", "movers", "column", "line"] (defScope s_showing) := ⟨rfl, rfl, rfl, by decide +kernel, rfl, by decide +kernel, by decide +kernel⟩
def N_dot_in : List Str := ["sheet", "settings", "movers", "column", "line", "number", "group", "shown", "hit", "place"]
abbrev s_dot_in : Stmt := top 21
theorem sc_dot_in : FnScope N_dot_in ["sheet", "settings", "movers", "column", "line"] (defScope s_dot_in) := ⟨rfl, rfl, rfl, by decide +kernel, rfl, by decide +kernel, by decide +kernel⟩
def N_dot_at : List Str := ["sheet", "settings", "movers", "column", "line"]
abbrev s_dot_at : Stmt := top 22
theorem sc_dot_at : FnScope N_dot_at ["sheet", "settings", "movers", "column", "line"] (defScope s_dot_at) := ⟨rfl, rfl, rfl, by decide +kernel, rfl, by decide +kernel, by decide +kernel⟩
def N_column_of : List Str := ["now"]
abbrev s_column_of : Stmt := top 28
theorem sc_column_of : FnScope N_column_of ["now"] (defScope s_column_of) := ⟨rfl, rfl, rfl, by decide +kernel, rfl, by decide +kernel, by decide +kernel⟩
def N_line_of : List Str := ["now"]
abbrev s_line_of : Stmt := top 29
theorem sc_line_of : FnScope N_line_of ["now"] (defScope s_line_of) := ⟨rfl, rfl, rfl, by decide +kernel, rfl, by decide +kernel, by decide +kernel⟩
def N_Picture___init___LatePicture : List Str := ["self"]
abbrev s_Picture___init__ : Stmt := inClass (top 30) 0
theorem sc_Picture___init___LatePicture : FnScope N_Picture___init___LatePicture ["self"] (defScope s_Picture___init__) := ⟨rfl, rfl, rfl, by decide +kernel, rfl, by decide +kernel, by decide +kernel⟩
def N_Picture__begin_LatePicture : List Str := ["self", "line", "asks", "blank", "hit", "full", "many"]
abbrev s_Picture__begin : Stmt := inClass (top 30) 1
theorem sc_Picture__begin_LatePicture : FnScope N_Picture__begin_LatePicture ["self", "line"] (defScope s_Picture__begin) := ⟨rfl, rfl, rfl, by decide +kernel, rfl, by decide +kernel, by decide +kernel⟩
def N_Picture_put_LatePicture : List Str := ["self", "place", "byte"]
abbrev s_Picture_put : Stmt := inClass (top 30) 4
theorem sc_Picture_put_LatePicture : FnScope N_Picture_put_LatePicture ["self", "place", "byte"] (defScope s_Picture_put) := ⟨rfl, rfl, rfl, by decide +kernel, rfl, by decide +kernel, by decide +kernel⟩
def N_Picture_let_LatePicture : List Str := ["self", "which", "byte", "told", "k", "one"]
abbrev s_Picture_let : Stmt := inClass (top 30) 7
theorem sc_Picture_let_LatePicture : FnScope N_Picture_let_LatePicture ["self", "which", "byte"] (defScope s_Picture_let) := ⟨rfl, rfl, rfl, by decide +kernel, rfl, by decide +kernel, by decide +kernel⟩
def N_Picture_marks_LatePicture : List Str := ["self"]
abbrev s_Picture_marks : Stmt := inClass (top 30) 8
theorem sc_Picture_marks_LatePicture : FnScope N_Picture_marks_LatePicture ["self"] (defScope s_Picture_marks) := ⟨rfl, rfl, rfl, by decide +kernel, rfl, by decide +kernel, by decide +kernel⟩
def N_Picture_picture_LatePicture : List Str := ["self"]
abbrev s_Picture_picture : Stmt := inClass (top 30) 11
theorem sc_Picture_picture_LatePicture : FnScope N_Picture_picture_LatePicture ["self"] (defScope s_Picture_picture) := ⟨rfl, rfl, rfl, by decide +kernel, rfl, by decide +kernel, by decide +kernel⟩
def N_tile_dots : List Str := ["sheet", "tile", "row", "first", "last", "place", "low", "high", "k"]
abbrev s_tile_dots : Stmt := top 34
theorem sc_tile_dots : FnScope N_tile_dots ["sheet", "tile", "row", "first", "last"] (defScope s_tile_dots) := ⟨rfl, rfl, rfl, by decide +kernel, rfl, by decide +kernel, by decide +kernel⟩
def N_ground_dots : List Str := ["sheet", "settings", "line", "first", "last", "right", "down", "_", "on", "y", "found", "column", "x", "byte", "stop", "numbers", "number"]
abbrev s_ground_dots : Stmt := top 35
theorem sc_ground_dots : FnScope N_ground_dots ["sheet", "settings", "line", "first", "last"] (defScope s_ground_dots) := ⟨rfl, rfl, rfl, by decide +kernel, rfl, by decide +kernel, by decide +kernel⟩
def N_mover_dots : List Str := ["sheet", "movers", "line", "first", "last", "found", "mover", "column", "number"]
abbrev s_mover_dots : Stmt := top 36
theorem sc_mover_dots : FnScope N_mover_dots ["sheet", "movers", "line", "first", "last"] (defScope s_mover_dots) := ⟨rfl, rfl, rfl, by decide +kernel, rfl, by decide +kernel, by decide +kernel⟩
def N_dots_of : List Str := ["sheet", "settings", "movers", "line", "first", "last", "shown", "found", "hit", "k", "number", "group", "place", "mover", "dot"]
abbrev s_dots_of : Stmt := top 37
theorem sc_dots_of : FnScope N_dots_of ["sheet", "settings", "movers", "line", "first", "last"] (defScope s_dots_of) := ⟨rfl, rfl, rfl, by decide +kernel, rfl, by decide +kernel, by decide +kernel⟩
def N_LatePicture__draw : List Str := ["self", "line", "first", "last", "row", "hit", "k", "number"]
abbrev s_LatePicture__draw : Stmt := inClass (top 39) 3
theorem sc_LatePicture__draw : FnScope N_LatePicture__draw ["self", "line", "first", "last"] (defScope s_LatePicture__draw) := ⟨rfl, rfl, rfl, by decide +kernel, rfl, by decide +kernel, by decide +kernel⟩
def N_LatePicture__run : List Str := ["self", "line", "first", "last", "found"]
abbrev s_LatePicture__run : Stmt := inClass (top 39) 4
theorem sc_LatePicture__run : FnScope N_LatePicture__run ["self", "line", "first", "last"] (defScope s_LatePicture__run) := ⟨rfl, rfl, rfl, by decide +kernel, rfl, by decide +kernel, by decide +kernel⟩
def N_LatePicture_live_to : List Str := ["self", "goal", "found", "column", "last"]
abbrev s_LatePicture_live_to : Stmt := inClass (top 39) 5
theorem sc_LatePicture_live_to : FnScope N_LatePicture_live_to ["self", "goal"] (defScope s_LatePicture_live_to) := ⟨rfl, rfl, rfl, by decide +kernel, rfl, by decide +kernel, by decide +kernel⟩
def N__law_draws : List Str := ["script", "draws", "k", "rest", "turn", "stirred"]
abbrev s__law_draws : Stmt := top 41
theorem sc__law_draws : FnScope N__law_draws ["script"] (defScope s__law_draws) := ⟨rfl, rfl, rfl, by decide +kernel, rfl, by decide +kernel, by decide +kernel⟩
def N__law_mix : List Str := ["draws", "k", "many", "cell"]
abbrev s__law_mix : Stmt := top 42
theorem sc__law_mix : FnScope N__law_mix ["draws", "k", "many"] (defScope s__law_mix) := ⟨rfl, rfl, rfl, by decide +kernel, rfl, by decide +kernel, by decide +kernel⟩
def N__law_bit : List Str := ["byte", "place"]
abbrev s__law_bit : Stmt := top 43
theorem sc__law_bit : FnScope N__law_bit ["byte", "place"] (defScope s__law_bit) := ⟨rfl, rfl, rfl, by decide +kernel, rfl, by decide +kernel, by decide +kernel⟩
def N__law_pixel : List Str := ["sheet", "tile", "row", "column", "at"]
abbrev s__law_pixel : Stmt := top 44
theorem sc__law_pixel : FnScope N__law_pixel ["sheet", "tile", "row", "column"] (defScope s__law_pixel) := ⟨rfl, rfl, rfl, by decide +kernel, rfl, by decide +kernel, by decide +kernel⟩
def N__law_showing : List Str := ["sheet", "there", "column", "line", "top", "tile", "looks", "left", "k", "row", "over", "dot"]
abbrev s__law_showing : Stmt := top 45
theorem sc__law_showing : FnScope N__law_showing ["sheet", "there", "column", "line"] (defScope s__law_showing) := ⟨rfl, rfl, rfl, by decide +kernel, rfl, by decide +kernel, by decide +kernel⟩
def N__law_due : List Str := ["sheet", "settings", "right", "down", "watched", "on", "found", "hit", "full", "line", "k", "there", "column", "x", "y", "byte", "number", "place", "looks", "dot"]
abbrev s__law_due : Stmt := top 46
theorem sc__law_due : FnScope N__law_due ["sheet", "settings"] (defScope s__law_due) := ⟨rfl, rfl, rfl, by decide +kernel, rfl, by decide +kernel, by decide +kernel⟩
def N__law_shown : List Str := ["sheet", "settings", "unit", "place", "which"]
abbrev s__law_shown : Stmt := top 47
theorem sc__law_shown : FnScope N__law_shown ["sheet", "settings"] (defScope s__law_shown) := ⟨rfl, rfl, rfl, by decide +kernel, rfl, by decide +kernel, by decide +kernel⟩
def N__law_sheet : List Str := ["draws", "k", "t", "found", "tall"]
abbrev s__law_sheet : Stmt := top 48
theorem sc__law_sheet : FnScope N__law_sheet ["draws", "k"] (defScope s__law_sheet) := ⟨rfl, rfl, rfl, by decide +kernel, rfl, by decide +kernel, by decide +kernel⟩
def N__law_map : List Str := ["sheet", "over", "up", "t"]
abbrev s__law_map : Stmt := top 49
theorem sc__law_map : FnScope N__law_map ["sheet", "over", "up"] (defScope s__law_map) := ⟨rfl, rfl, rfl, by decide +kernel, rfl, by decide +kernel, by decide +kernel⟩
def N__law_turned : List Str := ["sheet", "k", "place", "at", "looks", "found", "t", "byte", "j"]
abbrev s__law_turned : Stmt := top 50
theorem sc__law_turned : FnScope N__law_turned ["sheet", "k", "place"] (defScope s__law_turned) := ⟨rfl, rfl, rfl, by decide +kernel, rfl, by decide +kernel, by decide +kernel⟩
def N__law_less : List Str := ["sheet", "part", "found", "k"]
abbrev s__law_less : Stmt := top 51
theorem sc__law_less : FnScope N__law_less ["sheet", "part"] (defScope s__law_less) := ⟨rfl, rfl, rfl, by decide +kernel, rfl, by decide +kernel, by decide +kernel⟩
def N_law : List Str := ["script", "draws", "sheet", "right", "down", "on", "settings", "due", "over", "up", "other", "k", "row", "t", "line", "column", "movers", "byte", "dot"]
abbrev s_law : Stmt := top 52
theorem sc_law : FnScope N_law ["script"] (defScope s_law) := ⟨rfl, rfl, rfl, by decide +kernel, rfl, by decide +kernel, by decide +kernel⟩
abbrev s_LatePicture___init__ : Stmt := inClass (top 39) 0
structure Txt (K : PySem.W.Frag) (mg : Str → Option Value) : Prop where
  cls_LatePicture : Cls K (He.ga K "LatePicture")
  free_abs : mg "abs" = none
  free_all : mg "all" = none
  free_enumerate : mg "enumerate" = none
  free_int : mg "int" = none
  free_len : mg "len" = none
  free_list : mg "list" = none
  free_max : mg "max" = none
  free_min : mg "min" = none
  free_range : mg "range" = none
  free_set : mg "set" = none
  free_sorted : mg "sorted" = none
  free_sum : mg "sum" = none
  free_tuple : mg "tuple" = none
  glo_LatePicture : mg "LatePicture" = some (.ref (He.ga K "LatePicture"))
  glo_POWERS : mg "POWERS" = some (.ref (He.ga K "POWERS"))
  glo__law_bit : mg "_law_bit" = some (.ref (He.ga K "_law_bit"))
  glo__law_draws : mg "_law_draws" = some (.ref (He.ga K "_law_draws"))
  glo__law_due : mg "_law_due" = some (.ref (He.ga K "_law_due"))
  glo__law_less : mg "_law_less" = some (.ref (He.ga K "_law_less"))
  glo__law_map : mg "_law_map" = some (.ref (He.ga K "_law_map"))
  glo__law_mix : mg "_law_mix" = some (.ref (He.ga K "_law_mix"))
  glo__law_pixel : mg "_law_pixel" = some (.ref (He.ga K "_law_pixel"))
  glo__law_sheet : mg "_law_sheet" = some (.ref (He.ga K "_law_sheet"))
  glo__law_showing : mg "_law_showing" = some (.ref (He.ga K "_law_showing"))
  glo__law_shown : mg "_law_shown" = some (.ref (He.ga K "_law_shown"))
  glo__law_turned : mg "_law_turned" = some (.ref (He.ga K "_law_turned"))
  glo_bit : mg "bit" = some (.ref (He.ga K "bit"))
  glo_check_sheet : mg "check_sheet" = some (.ref (He.ga K "check_sheet"))
  glo_column_of : mg "column_of" = some (.ref (He.ga K "column_of"))
  glo_dot_at : mg "dot_at" = some (.ref (He.ga K "dot_at"))
  glo_dot_in : mg "dot_in" = some (.ref (He.ga K "dot_in"))
  glo_dots_of : mg "dots_of" = some (.ref (He.ga K "dots_of"))
  glo_ground_dots : mg "ground_dots" = some (.ref (He.ga K "ground_dots"))
  glo_ground_in : mg "ground_in" = some (.ref (He.ga K "ground_in"))
  glo_line_of : mg "line_of" = some (.ref (He.ga K "line_of"))
  glo_mover_dots : mg "mover_dots" = some (.ref (He.ga K "mover_dots"))
  glo_mover_pixel : mg "mover_pixel" = some (.ref (He.ga K "mover_pixel"))
  glo_movers_at : mg "movers_at" = some (.ref (He.ga K "movers_at"))
  glo_movers_in : mg "movers_in" = some (.ref (He.ga K "movers_in"))
  glo_pixel_in : mg "pixel_in" = some (.ref (He.ga K "pixel_in"))
  glo_showing : mg "showing" = some (.ref (He.ga K "showing"))
  glo_tile_dots : mg "tile_dots" = some (.ref (He.ga K "tile_dots"))
  int_COLOURS : ∃ t, mg "COLOURS" = some (.int 96 t)
  int_COLUMNS : ∃ t, mg "COLUMNS" = some (.int 48 t)
  int_DOTS : ∃ t, mg "DOTS" = some (.int 768 t)
  int_LINES : ∃ t, mg "LINES" = some (.int 24 t)
  int_MAP : ∃ t, mg "MAP" = some (.int 64 t)
  int_MOST_SHOWN : ∃ t, mg "MOST_SHOWN" = some (.int 4 t)
  int_MOVERS : ∃ t, mg "MOVERS" = some (.int 64 t)
  int_MOVER_COLOURS : ∃ t, mg "MOVER_COLOURS" = some (.int 112 t)
  int_ROWS : ∃ t, mg "ROWS" = some (.int 32 t)
  int_SHEET : ∃ t, mg "SHEET" = some (.int 1024 t)
  int_TILE : ∃ t, mg "TILE" = some (.int 8 t)
  int_TILES : ∃ t, mg "TILES" = some (.int 128 t)
  int_WIDE : ∃ t, mg "WIDE" = some (.int 32 t)
  meth_LatePicture__begin : Meth K (He.ga K "LatePicture") "_begin" (He.ma K (He.ga K "LatePicture") "_begin")
  meth_LatePicture__draw : Meth K (He.ga K "LatePicture") "_draw" (He.ma K (He.ga K "LatePicture") "_draw")
  meth_LatePicture__run : Meth K (He.ga K "LatePicture") "_run" (He.ma K (He.ga K "LatePicture") "_run")
  meth_LatePicture_let : Meth K (He.ga K "LatePicture") "let" (He.ma K (He.ga K "LatePicture") "let")
  meth_LatePicture_live_to : Meth K (He.ga K "LatePicture") "live_to" (He.ma K (He.ga K "LatePicture") "live_to")
  meth_LatePicture_marks : Meth K (He.ga K "LatePicture") "marks" (He.ma K (He.ga K "LatePicture") "marks")
  meth_LatePicture_picture : Meth K (He.ga K "LatePicture") "picture" (He.ma K (He.ga K "LatePicture") "picture")
  meth_LatePicture_put : Meth K (He.ga K "LatePicture") "put" (He.ma K (He.ga K "LatePicture") "put")
  mkr_LatePicture : Mk K (He.ga K "LatePicture") (He.ma K (He.ga K "LatePicture") "__init__")
  noat_LatePicture__marks : NoAttr K (He.ga K "LatePicture") "_marks"
  noat_LatePicture__movers : NoAttr K (He.ga K "LatePicture") "_movers"
  noat_LatePicture__next : NoAttr K (He.ga K "LatePicture") "_next"
  noat_LatePicture__number : NoAttr K (He.ga K "LatePicture") "_number"
  noat_LatePicture__picture : NoAttr K (He.ga K "LatePicture") "_picture"
  noat_LatePicture__screen : NoAttr K (He.ga K "LatePicture") "_screen"
  noat_LatePicture__settings : NoAttr K (He.ga K "LatePicture") "_settings"
  noat_LatePicture__sheet : NoAttr K (He.ga K "LatePicture") "_sheet"
  def_check_sheet : ∃ fd, FunD K "check_sheet" "check_sheet" (defArgs s_check_sheet) (defBody s_check_sheet) (defScope s_check_sheet) [] [] (He.fAd K ("check_sheet", none)) fd
  def_bit : ∃ fd, FunD K "bit" "bit" (defArgs s_bit) (defBody s_bit) (defScope s_bit) [] [] (He.fAd K ("bit", none)) fd
  def_pixel_in : ∃ fd, FunD K "pixel_in" "pixel_in" (defArgs s_pixel_in) (defBody s_pixel_in) (defScope s_pixel_in) [] [] (He.fAd K ("pixel_in", none)) fd
  def_ground_in : ∃ fd, FunD K "ground_in" "ground_in" (defArgs s_ground_in) (defBody s_ground_in) (defScope s_ground_in) [] [] (He.fAd K ("ground_in", none)) fd
  def_movers_in : ∃ fd, FunD K "movers_in" "movers_in" (defArgs s_movers_in) (defBody s_movers_in) (defScope s_movers_in) [] [] (He.fAd K ("movers_in", none)) fd
  def_movers_at : ∃ fd, FunD K "movers_at" "movers_at" (defArgs s_movers_at) (defBody s_movers_at) (defScope s_movers_at) [] [] (He.fAd K ("movers_at", none)) fd
  def_mover_pixel : ∃ fd, FunD K "mover_pixel" "mover_pixel" (defArgs s_mover_pixel) (defBody s_mover_pixel) (defScope s_mover_pixel) [] [] (He.fAd K ("mover_pixel", none)) fd
  def_showing : ∃ fd, FunD K "showing" "showing" (defArgs s_showing) (defBody s_showing) (defScope s_showing) [] [] (He.fAd K ("showing", none)) fd
  def_dot_in : ∃ fd, FunD K "dot_in" "dot_in" (defArgs s_dot_in) (defBody s_dot_in) (defScope s_dot_in) [] [] (He.fAd K ("dot_in", none)) fd
  def_dot_at : ∃ fd, FunD K "dot_at" "dot_at" (defArgs s_dot_at) (defBody s_dot_at) (defScope s_dot_at) [] [] (He.fAd K ("dot_at", none)) fd
  def_column_of : ∃ fd, FunD K "column_of" "column_of" (defArgs s_column_of) (defBody s_column_of) (defScope s_column_of) [] [] (He.fAd K ("column_of", none)) fd
  def_line_of : ∃ fd, FunD K "line_of" "line_of" (defArgs s_line_of) (defBody s_line_of) (defScope s_line_of) [] [] (He.fAd K ("line_of", none)) fd
  def_Picture___init___LatePicture : ∃ fd, FunD K "__init__" "Picture.__init__" (defArgs s_Picture___init__) (defBody s_Picture___init__) (defScope s_Picture___init__) [] [] (He.fAd K ("Picture", some "__init__")) fd
  def_Picture__begin_LatePicture : ∃ fd, FunD K "_begin" "Picture._begin" (defArgs s_Picture__begin) (defBody s_Picture__begin) (defScope s_Picture__begin) [] [] (He.fAd K ("LatePicture", some "_begin")) fd
  def_Picture_put_LatePicture : ∃ fd, FunD K "put" "Picture.put" (defArgs s_Picture_put) (defBody s_Picture_put) (defScope s_Picture_put) [] [] (He.fAd K ("LatePicture", some "put")) fd
  def_Picture_let_LatePicture : ∃ fd, FunD K "let" "Picture.let" (defArgs s_Picture_let) (defBody s_Picture_let) (defScope s_Picture_let) [] [] (He.fAd K ("LatePicture", some "let")) fd
  def_Picture_marks_LatePicture : ∃ fd, FunD K "marks" "Picture.marks" (defArgs s_Picture_marks) (defBody s_Picture_marks) (defScope s_Picture_marks) [] [] (He.fAd K ("LatePicture", some "marks")) fd
  def_Picture_picture_LatePicture : ∃ fd, FunD K "picture" "Picture.picture" (defArgs s_Picture_picture) (defBody s_Picture_picture) (defScope s_Picture_picture) [] [] (He.fAd K ("LatePicture", some "picture")) fd
  def_tile_dots : ∃ fd, FunD K "tile_dots" "tile_dots" (defArgs s_tile_dots) (defBody s_tile_dots) (defScope s_tile_dots) [] [] (He.fAd K ("tile_dots", none)) fd
  def_ground_dots : ∃ fd, FunD K "ground_dots" "ground_dots" (defArgs s_ground_dots) (defBody s_ground_dots) (defScope s_ground_dots) [] [] (He.fAd K ("ground_dots", none)) fd
  def_mover_dots : ∃ fd, FunD K "mover_dots" "mover_dots" (defArgs s_mover_dots) (defBody s_mover_dots) (defScope s_mover_dots) [] [] (He.fAd K ("mover_dots", none)) fd
  def_dots_of : ∃ fd, FunD K "dots_of" "dots_of" (defArgs s_dots_of) (defBody s_dots_of) (defScope s_dots_of) [] [] (He.fAd K ("dots_of", none)) fd
  def_LatePicture__draw : ∃ fd, FunD K "_draw" "LatePicture._draw" (defArgs s_LatePicture__draw) (defBody s_LatePicture__draw) (defScope s_LatePicture__draw) [] [] (He.fAd K ("LatePicture", some "_draw")) fd
  def_LatePicture__run : ∃ fd, FunD K "_run" "LatePicture._run" (defArgs s_LatePicture__run) (defBody s_LatePicture__run) (defScope s_LatePicture__run) [] [] (He.fAd K ("LatePicture", some "_run")) fd
  def_LatePicture_live_to : ∃ fd, FunD K "live_to" "LatePicture.live_to" (defArgs s_LatePicture_live_to) (defBody s_LatePicture_live_to) (defScope s_LatePicture_live_to) [] [] (He.fAd K ("LatePicture", some "live_to")) fd
  def__law_draws : ∃ fd, FunD K "_law_draws" "_law_draws" (defArgs s__law_draws) (defBody s__law_draws) (defScope s__law_draws) [] [] (He.fAd K ("_law_draws", none)) fd
  def__law_mix : ∃ fd, FunD K "_law_mix" "_law_mix" (defArgs s__law_mix) (defBody s__law_mix) (defScope s__law_mix) [] [] (He.fAd K ("_law_mix", none)) fd
  def__law_bit : ∃ fd, FunD K "_law_bit" "_law_bit" (defArgs s__law_bit) (defBody s__law_bit) (defScope s__law_bit) [] [] (He.fAd K ("_law_bit", none)) fd
  def__law_pixel : ∃ fd, FunD K "_law_pixel" "_law_pixel" (defArgs s__law_pixel) (defBody s__law_pixel) (defScope s__law_pixel) [] [] (He.fAd K ("_law_pixel", none)) fd
  def__law_showing : ∃ fd, FunD K "_law_showing" "_law_showing" (defArgs s__law_showing) (defBody s__law_showing) (defScope s__law_showing) [] [] (He.fAd K ("_law_showing", none)) fd
  def__law_due : ∃ fd, FunD K "_law_due" "_law_due" (defArgs s__law_due) (defBody s__law_due) (defScope s__law_due) [] [] (He.fAd K ("_law_due", none)) fd
  def__law_shown : ∃ fd, FunD K "_law_shown" "_law_shown" (defArgs s__law_shown) (defBody s__law_shown) (defScope s__law_shown) [] [] (He.fAd K ("_law_shown", none)) fd
  def__law_sheet : ∃ fd, FunD K "_law_sheet" "_law_sheet" (defArgs s__law_sheet) (defBody s__law_sheet) (defScope s__law_sheet) [] [] (He.fAd K ("_law_sheet", none)) fd
  def__law_map : ∃ fd, FunD K "_law_map" "_law_map" (defArgs s__law_map) (defBody s__law_map) (defScope s__law_map) [] [] (He.fAd K ("_law_map", none)) fd
  def__law_turned : ∃ fd, FunD K "_law_turned" "_law_turned" (defArgs s__law_turned) (defBody s__law_turned) (defScope s__law_turned) [] [] (He.fAd K ("_law_turned", none)) fd
  def__law_less : ∃ fd, FunD K "_law_less" "_law_less" (defArgs s__law_less) (defBody s__law_less) (defScope s__law_less) [] [] (He.fAd K ("_law_less", none)) fd
  def_law : ∃ fd, FunD K "law" "law" (defArgs s_law) (defBody s_law) (defScope s_law) [] [] (He.fAd K ("law", none)) fd
end K62
/-! Ma62: sheets, movers, dots as plain data. -/
namespace K62
open PySem PySem.Spec PyProof.Rows L2 Kx
structure Sett where
  r : Int
  d : Int
  w : Int
  on : Int
def setV (t : Sett) : List V := [.int t.r, .int t.d, .int t.w, .int t.on]
structure Mov where
  k : Int
  y : Int
  tile : Int
  looks : Int
  x : Int
def movV (m : Mov) : List V := [.int m.k, .int m.y, .int m.tile, .int m.looks, .int m.x]
def SheetOk (s : List Int) : Prop := s.length = 1024 ∧ ∀ b ∈ s, 0 ≤ b ∧ b < 256
structure SettOk (t : Sett) : Prop where
  r0 : 0 ≤ t.r
  r1 : t.r < 256
  d0 : 0 ≤ t.d
  d1 : t.d < 256
  w0 : 0 ≤ t.w
  w1 : t.w < 256
  o0 : 0 ≤ t.on
  o1 : t.on < 16
def at_ (s : List Int) (i : Int) : Int := s.getD i.toNat 0
def bitM (b k : Int) : Int := b / 2 ^ k.toNat % 2
def pixM (s : List Int) (tile row col : Int) : Int := bitM (at_ s (128 + 16 * tile + 2 * row)) (7 - col) + 2 * bitM (at_ s (128 + 16 * tile + 2 * row + 1)) (7 - col)
def groundM (s : List Int) (t : Sett) (col line : Int) : Int × Int :=
  if bitM t.on 0 = 0 then (0, 0) else (pixM s (at_ s ((line + t.d) % 64 / 8 * 8 + (col + t.r) % 64 / 8) % 32) ((line + t.d) % 64 % 8) ((col + t.r) % 64 % 8), at_ s ((line + t.d) % 64 / 8 * 8 + (col + t.r) % 64 / 8) / 32 % 4)
def movM (s : List Int) (k : Nat) : Mov := ⟨(k : Int), at_ s (64 + 4 * (k : Int)), at_ s (64 + 4 * (k : Int) + 1), at_ s (64 + 4 * (k : Int) + 2), at_ s (64 + 4 * (k : Int) + 3)⟩
def onB (s : List Int) (line : Int) (k : Nat) : Bool := decide (at_ s (64 + 4 * (k : Int)) ≤ line) && decide (line < at_ s (64 + 4 * (k : Int)) + 8)
def listM (s : List Int) (line : Int) (n : Nat) : List Mov := ((List.range n).filter (onB s line)).map (movM s)
def allM (s : List Int) (t : Sett) (line : Int) : List Mov := if bitM t.on 1 = 0 ∨ 24 ≤ line then [] else listM s line 8
def moversM (s : List Int) (t : Sett) (line : Int) : List Mov := (allM s t line).take 4
def manyM (s : List Int) (t : Sett) (line : Int) : Bool := decide (4 < (allM s t line).length)
def mpixM (s : List Int) (m : Mov) (col line : Int) : Int := pixM s (m.tile % 32) (if bitM m.looks 7 = 1 then 7 - (line - m.y) else line - m.y) (if bitM m.looks 6 = 1 then 7 - (col - m.x) else col - m.x)
def showM (s : List Int) (col line : Int) : List Mov → Option (Mov × Int)
  | [] => none
  | m :: ms => if m.x ≤ col ∧ col < m.x + 8 ∧ mpixM s m col line ≠ 0 then some (m, mpixM s m col line) else showM s col line ms
def placeM (g : Int × Int) : Option (Mov × Int) → Int
  | some (m, n) => if bitM m.looks 5 = 0 ∨ g.1 = 0 then 112 + 4 * (m.looks % 4) + n else 96 + (if g.1 ≠ 0 then 4 * g.2 + g.1 else 0)
  | none => 96 + (if g.1 ≠ 0 then 4 * g.2 + g.1 else 0)
def hitM (g : Int × Int) : Option (Mov × Int) → Bool
  | some (m, _) => decide (m.k = 0) && !decide (g.1 = 0)
  | none => false
def dotM (s : List Int) (t : Sett) (ms : List Mov) (col line : Int) : Int × Bool :=
  (at_ s (placeM (groundM s t col line) (showM s col line ms)) % 64, hitM (groundM s t col line) (showM s col line ms))
/-- a row's dots from a column on -/
def rowM (s : List Int) (t : Sett) (ms : List Mov) (line first : Int) (n : Nat) : List Int := (List.range n).map fun j : Nat => (dotM s t ms (first + (j : Int)) line).1
def rowH (s : List Int) (t : Sett) (ms : List Mov) (line first : Int) (n : Nat) : Bool := (List.range n).any fun j : Nat => (dotM s t ms (first + (j : Int)) line).2
def MovOk (line : Int) (m : Mov) : Prop := (m.y ≤ line ∧ line < m.y + 8) ∧ (0 ≤ m.tile ∧ m.tile < 256) ∧ (0 ≤ m.looks ∧ m.looks < 256) ∧ (0 ≤ m.x ∧ m.x < 256)
/-! ### what the law tells -/
def dotsU (s : List Int) (t : Sett) : Nat → List Int
  | 0 => []
  | l + 1 => dotsU s t l ++ rowM s t (moversM s t (l : Int)) (l : Int) 0 32
def hitU (s : List Int) (t : Sett) : Nat → Bool
  | 0 => false
  | l + 1 => hitU s t l || rowH s t (moversM s t (l : Int)) (l : Int) 0 32
def fullU (s : List Int) (t : Sett) : Nat → Bool
  | 0 => false
  | l + 1 => fullU s t l || manyM s t (l : Int)
/-! ### the unit -/
structure Pic where
  sheet : List Int
  set : Sett
  blank : Bool
  hit : Bool
  full : Bool
  movers : List Mov
  screen : List Int
  pic : Option (List Int)
  number : Int
def beginM (line : Int) (p : Pic) : Pic :=
  { p with
    blank := if line = 24 then true else if line = 0 then false else p.blank
    hit := if line = 0 then false else p.hit
    full := (if line = 0 then false else p.full) || manyM p.sheet p.set line
    movers := moversM p.sheet p.set line
    pic := if line = 24 then some p.screen else p.pic
    number := if line = 24 then p.number + 1 else p.number }
def asksM (line : Int) (p : Pic) : Bool := decide (line = 24) && decide (bitM p.set.on 2 = 1)
def setsN (at0 : Nat) (row scr : List Int) : Nat → List Int
  | 0 => scr
  | k + 1 => (setsN at0 row scr k).set (at0 + k) (row.getD k 0)
def drawM (line first : Int) (n : Nat) (p : Pic) : Pic :=
  { p with screen := setsN (32 * line + first).toNat (rowM p.sheet p.set p.movers line first n) p.screen n, hit := p.hit || rowH p.sheet p.set p.movers line first n }
def runM (line first last : Int) (p : Pic) : Pic :=
  let p1 := if first = 0 then beginM line p else p
  if line < 24 ∧ first < 32 then drawM line first ((if 32 < last then 32 else last) - first).toNat p1 else p1
def askM (line first last : Int) (p : Pic) : List Int :=
  (if first = 0 ∧ asksM line p = true then [0] else []) ++ (if first ≤ 32 ∧ 32 < last ∧ line = p.set.w ∧ bitM p.set.on 3 = 1 then [1] else [])
def lastM (goal n : Int) : Int := if n % 48 + goal - n < 48 then n % 48 + goal - n else 48
def liveM : Nat → Int → Pic → Int → Pic × Int
  | 0, _, p, n => (p, n)
  | k + 1, goal, p, n => if n < goal then liveM k goal (runM (n / 48 % 32) (n % 48) (lastM goal n) p) (n + lastM goal n - n % 48) else (p, n)
def pic0 : Pic := ⟨List.replicate 1024 0, ⟨0, 0, 0, 0⟩, false, false, false, [], List.replicate 768 0, none, 0⟩
def letM (which byte : Int) (t : Sett) : Sett := ⟨if which = 0 then byte else t.r, if which = 1 then byte else t.d, if which = 2 then byte else t.w, if which = 3 then byte % 16 else t.on⟩
end K62
/-! Sp62: the promises. -/
namespace K62
open PySem PySem.Spec PyProof.Rows L2 StX Kx
abbrev ShL (K : PySem.W.Frag) (H : Hp) (a : Addr) (s : List Int) : Prop := SqL K H a (s.map V.int)
def MovH (H : Hp) (q : Addr) (ms : List Mov) : Prop := ∃ ts : List Addr, H q = some (.lst (ts.map V.ref)) ∧ Paired (fun t m => H t = some (.tup (movV m))) ts ms
def Tab (K : PySem.W.Frag) : Prop := ∀ H, SqT K H (He.ga K "POWERS") [.int 1, .int 2, .int 4, .int 8, .int 16, .int 32, .int 64, .int 128]
def sp_check_sheet (K : PySem.W.Frag) : Sp := fun vs H Q _ => ∃ a s, vs = [.ref a] ∧ ShL K H a s ∧ SheetOk s ∧ ∀ H', Same H H' → Q .non H'
def sp_bit (K : PySem.W.Frag) : Sp := fun vs H Q _ => ∃ b k, vs = [.int b, .int k] ∧ (0 ≤ k ∧ k < 8) ∧ Q (.int (bitM b k)) H
def sp_pixel_in (K : PySem.W.Frag) : Sp := fun vs H Q _ => ∃ a s tile row col, vs = [.ref a, .int tile, .int row, .int col] ∧ ShL K H a s ∧ SheetOk s ∧ (0 ≤ tile ∧ tile < 32) ∧ (0 ≤ row ∧ row < 8) ∧ (0 ≤ col ∧ col < 8) ∧ Q (.int (pixM s tile row col)) H
def sp_ground_in (K : PySem.W.Frag) : Sp := fun vs H Q _ => ∃ a b s t col line, vs = [.ref a, .ref b, .int col, .int line] ∧ ShL K H a s ∧ SheetOk s ∧ SqT K H b (setV t) ∧
  ∀ p H', New H p (.tup [.int (groundM s t col line).1, .int (groundM s t col line).2]) H' → Q (.ref p) H'
def spMovers (K : PySem.W.Frag) : Sp := fun vs H Q _ => ∃ a b s t line, vs = [.ref a, .ref b, .int line] ∧ ShL K H a s ∧ SheetOk s ∧ SqT K H b (setV t) ∧ 0 ≤ line ∧
  ∀ p q H', Same H H' → H q = none → H' p = some (.tup [.ref q, .bl (manyM s t line)]) → MovH H' q (moversM s t line) → Q (.ref p) H'
def sp_movers_in (K : PySem.W.Frag) : Sp := spMovers K
def sp_movers_at (K : PySem.W.Frag) : Sp := spMovers K
def sp_mover_pixel (K : PySem.W.Frag) : Sp := fun vs H Q _ => ∃ a b s m col line, vs = [.ref a, .ref b, .int col, .int line] ∧ ShL K H a s ∧ SheetOk s ∧ SqT K H b (movV m) ∧ MovOk line m ∧ (m.x ≤ col ∧ col < m.x + 8) ∧ Q (.int (mpixM s m col line)) H
def sp_showing (K : PySem.W.Frag) : Sp := fun vs H Q _ => ∃ a q s ms col line, vs = [.ref a, .ref q, .int col, .int line] ∧ ShL K H a s ∧ SheetOk s ∧ MovH H q ms ∧ (∀ m ∈ ms, MovOk line m) ∧
  (showM s col line ms = none → Q .non H) ∧ ∀ m n, showM s col line ms = some (m, n) → ∀ p t H', New H p (.tup [.ref t, .int n]) H' → H t = some (.tup (movV m)) → Q (.ref p) H'
def spDot (K : PySem.W.Frag) : Sp := fun vs H Q _ => ∃ a b q s t ms col line, vs = [.ref a, .ref b, .ref q, .int col, .int line] ∧ ShL K H a s ∧ SheetOk s ∧ SqT K H b (setV t) ∧ MovH H q ms ∧ (∀ m ∈ ms, MovOk line m) ∧
  ∀ p H', Same H H' → H' p = some (.tup [.int (dotM s t ms col line).1, .bl (dotM s t ms col line).2]) → Q (.ref p) H'
def sp_dot_in (K : PySem.W.Frag) : Sp := spDot K
def sp_dot_at (K : PySem.W.Frag) : Sp := spDot K
def sp_column_of (K : PySem.W.Frag) : Sp := fun vs H Q _ => ∃ n, vs = [.int n] ∧ Q (.int (n % 48)) H
def sp_line_of (K : PySem.W.Frag) : Sp := fun vs H Q _ => ∃ n, vs = [.int n] ∧ Q (.int (n / 48 % 32)) H
/-! ### the unit -/
def pf (sa st mk mv ca : Addr) (pv : V) (n : Int) : Option Int → List (Str × V)
  | none => [("_sheet", .ref sa), ("_settings", .ref st), ("_marks", .ref mk), ("_movers", .ref mv), ("_screen", .ref ca), ("_picture", pv), ("_number", .int n)]
  | some nx => [("_sheet", .ref sa), ("_settings", .ref st), ("_marks", .ref mk), ("_movers", .ref mv), ("_screen", .ref ca), ("_picture", pv), ("_number", .int n), ("_next", .int nx)]
structure Un (C : Addr) (H : Hp) (p sa ca : Addr) (P : Pic) (nx : Option Int) : Prop where
  ob : ∃ dx st mk mv pv, H p = some (.ins C dx (pf sa st mk mv ca pv P.number nx)) ∧ H st = some (.tup (setV P.set)) ∧ H mk = some (.tup [.bl P.blank, .bl P.hit, .bl P.full]) ∧ (mv ≠ sa ∧ mv ≠ ca ∧ MovH H mv P.movers) ∧
    (P.pic = none → pv = .non) ∧ ∀ d, P.pic = some d → ∃ q, pv = .ref q ∧ q ≠ sa ∧ q ≠ ca ∧ H q = some (.lst (d.map V.int))
  sh : H sa = some (.lst (P.sheet.map V.int))
  sc : H ca = some (.lst (P.screen.map V.int))
  ne : sa ≠ ca
/-- the object's movers and picture are not the list f -/
def Off (f : Addr) (H : Hp) (p : Addr) : Prop := ∀ C dx fs, H p = some (.ins C dx fs) → fs.lookup ("_movers" : Str) ≠ some (.ref f) ∧ fs.lookup ("_picture" : Str) ≠ some (.ref f)
def OffK (H H' : Hp) (p : Addr) : Prop := ∀ f o, H f = some o → Off f H p → Off f H' p ∧ ∃ o', H' f = some o'
abbrev LP (K : PySem.W.Frag) : Addr := He.ga K "LatePicture"
def sp_Picture___init___LatePicture (K : PySem.W.Frag) : Sp := fun vs H Q _ => ∃ p dx, vs = [.ref p] ∧ H p = some (.ins (LP K) dx []) ∧ ∀ sa ca H', Un (LP K) H' p sa ca pic0 none → H sa = none → H ca = none → Keep [p] H H' → Q .non H'
def sp_LatePicture___init__ (K : PySem.W.Frag) : Sp := fun vs H Q _ => ∃ p dx, vs = [.ref p] ∧ H p = some (.ins (LP K) dx []) ∧ ∀ sa ca H', Un (LP K) H' p sa ca pic0 (some 0) → H sa = none → H ca = none → Keep [p] H H' → Q .non H'
def sp_Picture__begin_LatePicture (K : PySem.W.Frag) : Sp := fun vs H Q _ => ∃ p line sa ca P nx, vs = [.ref p, .int line] ∧ Un (LP K) H p sa ca P nx ∧ SheetOk P.sheet ∧ 0 ≤ line ∧ ∀ H', Un (LP K) H' p sa ca (beginM line P) nx → Keep [p] H H' → OffK H H' p → Q (.bl (asksM line P)) H'
def sp_Picture_put_LatePicture (K : PySem.W.Frag) : Sp := fun vs H Q _ => ∃ p place byte sa ca P nx, vs = [.ref p, .int place, .int byte] ∧ Un (LP K) H p sa ca P nx ∧ P.sheet.length = 1024 ∧ (0 ≤ place ∧ place < 1024) ∧
  ∀ H', Un (LP K) H' p sa ca { P with sheet := P.sheet.set place.toNat byte } nx → Keep [sa] H H' → Q .non H'
def sp_Picture_let_LatePicture (K : PySem.W.Frag) : Sp := fun vs H Q _ => ∃ p which byte sa ca P nx, vs = [.ref p, .int which, .int byte] ∧ Un (LP K) H p sa ca P nx ∧ (0 ≤ which ∧ which < 4) ∧
  ∀ H', Un (LP K) H' p sa ca { P with set := letM which byte P.set } nx → Keep [p] H H' → Q .non H'
def sp_Picture_marks_LatePicture (K : PySem.W.Frag) : Sp := fun vs H Q _ => ∃ p sa ca P nx, vs = [.ref p] ∧ Un (LP K) H p sa ca P nx ∧ ∀ q, H q = some (.tup [.bl P.blank, .bl P.hit, .bl P.full]) → Q (.ref q) H
def sp_Picture_picture_LatePicture (K : PySem.W.Frag) : Sp := fun vs H Q _ => ∃ p sa ca P nx, vs = [.ref p] ∧ Un (LP K) H p sa ca P nx ∧ (P.pic = none → Q .non H) ∧ ∀ d, P.pic = some d → ∀ q H', New H q (.lst (d.map V.int)) H' → Q (.ref q) H'
def sp_tile_dots (K : PySem.W.Frag) : Sp := fun vs H Q _ => ∃ a s tile row first last, vs = [.ref a, .int tile, .int row, .int first, .int last] ∧ ShL K H a s ∧ SheetOk s ∧ (0 ≤ tile ∧ tile < 32) ∧ (0 ≤ row ∧ row < 8) ∧ (0 ≤ first ∧ first ≤ last ∧ last ≤ 8) ∧
  ∀ q H', New H q (.lst (((List.range (last - first).toNat).map fun j : Nat => pixM s tile row (first + (j : Int))).map V.int)) H' → Q (.ref q) H'
def GrL (H : Hp) (q : Addr) (gs : List (Int × Int)) : Prop := ∃ ts : List Addr, H q = some (.lst (ts.map V.ref)) ∧ Paired (fun t g => H t = some (.tup [.int g.1, .int g.2])) ts gs
def sp_ground_dots (K : PySem.W.Frag) : Sp := fun vs H Q _ => ∃ a b s t line first last, vs = [.ref a, .ref b, .int line, .int first, .int last] ∧ ShL K H a s ∧ SheetOk s ∧ SqT K H b (setV t) ∧ (0 ≤ first ∧ first ≤ last ∧ last ≤ 32) ∧
  ∀ q H', Same H H' → H q = none → GrL H' q ((List.range (last - first).toNat).map fun j : Nat => groundM s t (first + (j : Int)) line) → Q (.ref q) H'
def DotAt (H : Hp) (o : Option V) : Option (Mov × Int) → Prop
  | none => o = none
  | some (m, n) => ∃ p t, o = some (.ref p) ∧ H p = some (.tup [.ref t, .int n]) ∧ H t = some (.tup (movV m))
def sp_mover_dots (K : PySem.W.Frag) : Sp := fun vs H Q _ => ∃ a q s ms line first last, vs = [.ref a, .ref q, .int line, .int first, .int last] ∧ ShL K H a s ∧ SheetOk s ∧ MovH H q ms ∧ (∀ m ∈ ms, MovOk line m) ∧ ms.length ≤ 4 ∧ (0 ≤ first ∧ first ≤ last ∧ last ≤ 32) ∧
  ∀ d kvs H', Same H H' → H' d = some (.dK kvs) → (∀ c, first ≤ c → c < last → DotAt H' (valV kvs (Sum.inl c)) (showM s c line ms)) → Q (.ref d) H'
def sp_dots_of (K : PySem.W.Frag) : Sp := fun vs H Q _ => ∃ a b q s t ms line first last, vs = [.ref a, .ref b, .ref q, .int line, .int first, .int last] ∧ ShL K H a s ∧ SheetOk s ∧ SqT K H b (setV t) ∧ MovH H q ms ∧ (∀ m ∈ ms, MovOk line m) ∧ ms.length ≤ 4 ∧ (0 ≤ first ∧ first ≤ last ∧ last ≤ 32) ∧
  ∀ p x H', Same H H' → H' p = some (.tup [.ref x, .bl (rowH s t ms line first (last - first).toNat)]) → H' x = some (.lst ((rowM s t ms line first (last - first).toNat).map V.int)) → H x = none → Q (.ref p) H'
def sp_LatePicture__draw (K : PySem.W.Frag) : Sp := fun vs H Q _ => ∃ p line first last sa ca P nx, vs = [.ref p, .int line, .int first, .int last] ∧ Un (LP K) H p sa ca P nx ∧ SheetOk P.sheet ∧ P.screen.length = 768 ∧ ((∀ m ∈ P.movers, MovOk line m) ∧ P.movers.length ≤ 4) ∧ (0 ≤ line ∧ line < 24) ∧ (0 ≤ first ∧ first ≤ last ∧ last ≤ 32) ∧
  ∀ H', Un (LP K) H' p sa ca (drawM line first (last - first).toNat P) nx → Keep [p, ca] H H' → OffK H H' p → Q .non H'
def sp_LatePicture__run (K : PySem.W.Frag) : Sp := fun vs H Q _ => ∃ p line first last sa ca P nx, vs = [.ref p, .int line, .int first, .int last] ∧ Un (LP K) H p sa ca P nx ∧ SheetOk P.sheet ∧ P.screen.length = 768 ∧ (first = 0 ∨ ((∀ m ∈ P.movers, MovOk line m) ∧ P.movers.length ≤ 4)) ∧ (0 ≤ line ∧ line < 32) ∧ (0 ≤ first ∧ first < last ∧ last ≤ 48) ∧
  ∀ q H', H q = none → Un (LP K) H' p sa ca (runM line first last P) nx → Keep [p, ca] H H' → OffK H H' p → H' q = some (.lst ((askM line first last P).map V.int)) → Q (.ref q) H'
def sp_LatePicture_live_to (K : PySem.W.Frag) : Sp := fun vs H Q _ => ∃ p goal sa ca P n, vs = [.ref p, .int goal] ∧ Un (LP K) H p sa ca P (some n) ∧ SheetOk P.sheet ∧ P.screen.length = 768 ∧ (n % 48 = 0 ∨ ((∀ m ∈ P.movers, MovOk (n / 48 % 32) m) ∧ P.movers.length ≤ 4)) ∧ (0 ≤ n ∧ goal - n ≤ 1200) ∧
  ∀ q H', Un (LP K) H' p sa ca (liveM (goal - n).toNat goal P n).1 (some (liveM (goal - n).toNat goal P n).2) → Keep [p, ca] H H' → Q (.ref q) H'
/-! ### the law's own -/
def DrOk (ds : List Int) : Prop := ds.length ≤ 4000 ∧ ∀ d ∈ ds, 0 ≤ d ∧ d < 65536
def sp__law_draws (K : PySem.W.Frag) : Sp := fun vs H Q _ => ∃ (a : Addr) (ns : List Int), vs = [.ref a] ∧ SqL K H a (ns.map V.int) ∧ ns.length ≤ 63 ∧ ∀ q ds H', DrOk ds → New H q (.lst (ds.map V.int)) H' → Q (.ref q) H'
def sp__law_mix (K : PySem.W.Frag) : Sp := fun vs H Q _ => ∃ (a : Addr) (ds : List Int) (k many : Int), vs = [.ref a, .int k, .int many] ∧ SqL K H a (ds.map V.int) ∧ DrOk ds ∧ (0 ≤ k ∧ k < 1000000) ∧ 0 < many ∧ ∀ m : Int, 0 ≤ m → m < many → Q (.int m) H
def sp__law_bit (K : PySem.W.Frag) : Sp := fun vs H Q _ => ∃ b k, vs = [.int b, .int k] ∧ (0 ≤ k ∧ k < 8) ∧ ∀ H', Same H H' → Q (.int (bitM b k)) H'
def sp__law_pixel (K : PySem.W.Frag) : Sp := fun vs H Q _ => ∃ a s tile row col, vs = [.ref a, .int tile, .int row, .int col] ∧ ShL K H a s ∧ SheetOk s ∧ (0 ≤ tile ∧ tile < 32) ∧ (0 ≤ row ∧ row < 8) ∧ (0 ≤ col ∧ col < 8) ∧ ∀ H', Same H H' → Q (.int (pixM s tile row col)) H'
def ThL (K : PySem.W.Frag) (H : Hp) (q : Addr) (ms : List Mov) : Prop := ∃ ts : List Addr, SqL K H q (ts.map V.ref) ∧ Paired (fun t m => H t = some (.lst [.int m.y, .int m.tile, .int m.looks, .int m.x, .int m.k])) ts ms
def ShowL (H : Hp) (q : Addr) : Option (Mov × Int) → Prop
  | none => H q = some (.lst [])
  | some (m, n) => ∃ t, H q = some (.lst [.ref t]) ∧ H t = some (.tup [.int m.k, .int m.looks, .int n])
def sp__law_showing (K : PySem.W.Frag) : Sp := fun vs H Q _ => ∃ a q s ms col line, vs = [.ref a, .ref q, .int col, .int line] ∧ ShL K H a s ∧ SheetOk s ∧ ThL K H q ms ∧ (∀ m ∈ ms, MovOk line m) ∧
  ∀ r H', Same H H' → ShowL H' r (showM s col line ms) → Q (.ref r) H'
def DueR (H : Hp) (q : Addr) (s : List Int) (t : Sett) : Prop := ∃ f, H q = some (.tup [.ref f, .bl (hitU s t 24), .bl (fullU s t 24)]) ∧ H f = some (.lst ((dotsU s t 24).map V.int))
def spDue (K : PySem.W.Frag) : Sp := fun vs H Q _ => ∃ a b s t, vs = [.ref a, .ref b] ∧ ShL K H a s ∧ SheetOk s ∧ SqT K H b (setV t) ∧ SettOk t ∧ ∀ q H', Same H H' → DueR H' q s t → Q (.ref q) H'
def sp__law_due (K : PySem.W.Frag) : Sp := spDue K
def sp__law_shown (K : PySem.W.Frag) : Sp := spDue K
/-- a sheet as the law draws it -/
structure SheetW (s : List Int) : Prop where
  ok : SheetOk s
  map : ∀ t : Int, 0 ≤ t → t < 64 → at_ s t % 32 < 16
  mov : ∀ k : Int, 0 ≤ k → k < 8 → (1 ≤ at_ s (64 + 4 * k) ∧ at_ s (64 + 4 * k) ≤ 40) ∧ at_ s (64 + 4 * k + 1) % 32 = 16 + k ∧ (1 ≤ at_ s (64 + 4 * k + 3) ∧ at_ s (64 + 4 * k + 3) ≤ 40)
def sp__law_sheet (K : PySem.W.Frag) : Sp := fun vs H Q _ => ∃ (a : Addr) (ds : List Int) (k : Int), vs = [.ref a, .int k] ∧ SqL K H a (ds.map V.int) ∧ DrOk ds ∧ (0 ≤ k ∧ k < 900000) ∧ ∀ q s H', SheetW s → New H q (.lst (s.map V.int)) H' → Q (.ref q) H'
def mapM (s : List Int) (over up : Int) : List Int := ((List.range 64).map fun t : Nat => at_ s (8 * (((t : Int) / 8 + up) % 8) + ((t : Int) + over) % 8)) ++ s.drop 64
def sp__law_map (K : PySem.W.Frag) : Sp := fun vs H Q _ => ∃ a s over up, vs = [.ref a, .int over, .int up] ∧ ShL K H a s ∧ SheetOk s ∧ (0 ≤ over ∧ 0 ≤ up) ∧ ∀ q H', New H q (.lst ((mapM s over up).map V.int)) H' → Q (.ref q) H'
/-- a byte's bits from the other end -/
def revB (b : Int) : Int := ((List.range 8).map fun j : Nat => bitM b (j : Int) * [128, 64, 32, 16, 8, 4, 2, 1].getD j 0).sum
def tileAt (s : List Int) (k : Int) : Int := 128 + 16 * (at_ s (65 + 4 * k) % 32)
def turnStep (s : List Int) (a place : Int) (f : List Int) (t : Nat) : List Int :=
  if place = 6 then f.set (a + (t : Int)).toNat (revB (at_ s (a + (t : Int)))) else f.set (a + 14 - 2 * ((t : Int) / 2) + (t : Int) % 2).toNat (at_ s (a + (t : Int)))
def turnM (s : List Int) (k place : Int) : List Int :=
  ((List.range 16).foldl (turnStep s (tileAt s k) place) s).set (66 + 4 * k).toNat (at_ s (66 + 4 * k) + (if place = 6 then 64 else 128) * (1 - 2 * bitM (at_ s (66 + 4 * k)) place))
def sp__law_turned (K : PySem.W.Frag) : Sp := fun vs H Q _ => ∃ a s k place, vs = [.ref a, .int k, .int place] ∧ ShL K H a s ∧ SheetOk s ∧ (0 ≤ k ∧ k < 8) ∧ (place = 6 ∨ place = 7) ∧ ∀ q H', New H q (.lst ((turnM s k place).map V.int)) H' → Q (.ref q) H'
def lessM (s : List Int) (part : Int) : List Int := (List.range 8).foldl (fun (f : List Int) (k : Nat) => f.set (64 + 4 * (k : Int) + part).toNat (at_ f (64 + 4 * (k : Int) + part) - 1)) s
def sp__law_less (K : PySem.W.Frag) : Sp := fun vs H Q _ => ∃ a s part, vs = [.ref a, .int part] ∧ ShL K H a s ∧ SheetOk s ∧ (0 ≤ part ∧ part < 4) ∧ ∀ q H', New H q (.lst ((lessM s part).map V.int)) H' → Q (.ref q) H'
def sp_law (K : PySem.W.Frag) : Sp := fun vs H Q _ => ∃ (a : Addr) (ns : List Int), vs = [.ref a] ∧ SqL K H a (ns.map V.int) ∧ ns.length ≤ 63 ∧ ∀ H', Q (.bl true) H'
end K62
namespace K62
open PySem PySem.Spec PyProof.Rows L2 StX Kx
def t_check_sheet (K : PySem.W.Frag) : TS :=
  tIfS (tOr (tTest (tOp (rNe) (tCB (rLen K) (tCons (tVar 0) tNil)) (tC (.int 1024)))) (tNot (tB (tCB (rAll K) (tCons (tLc (iList K (tVar 0)) (gName 1) tYes (tChain (rI0 fun i j => .bl (decide (i ≤ j))) (rI0 fun i j => .bl (decide (i ≤ j))) (tC (.int 0)) (tVar 1) (tC (.int 255))) [1]) tNil))))) tNever tNext
def t_bit (K : PySem.W.Frag) : TS :=
  tRet (tOp (rI (fun _ j => 0 < j) fun i j => .int (i % j)) (tOp (rI CDiv fun i j => .int (i / j)) (tVar 0) (tOp (rIxT K) (tC (.ref (He.ga K "POWERS"))) (tVar 1))) (tC (.int 2)))
def t_pixel_in (K : PySem.W.Frag) : TS :=
  tSeq (tAsg (tOp (rI0 fun i j => .int (i + j)) (tOp (rI0 fun i j => .int (i + j)) (tC (.int 128)) (tOp (rI CMul fun i j => .int (i * j)) (tC (.int 16)) (tVar 1))) (tOp (rI CMul fun i j => .int (i * j)) (tC (.int 2)) (tVar 2))) (gName 4))
  (tRet (tOp (rI0 fun i j => .int (i + j)) (tCall (sp_bit K) [] E0 (tCons (tOp (rIxL K) (tVar 0) (tVar 4)) (tCons (tOp (rI0 fun i j => .int (i - j)) (tC (.int 7)) (tVar 3)) tNil))) (tOp (rI CMul fun i j => .int (i * j)) (tC (.int 2)) (tCall (sp_bit K) [] E0 (tCons (tOp (rIxL K) (tVar 0) (tOp (rI0 fun i j => .int (i + j)) (tVar 4) (tC (.int 1)))) (tCons (tOp (rI0 fun i j => .int (i - j)) (tC (.int 7)) (tVar 3)) tNil))))))
def t_ground_in (K : PySem.W.Frag) : TS :=
  tSeq (tAsg (tVar 1) (gTup K 4 (gCons (gName 4) (gCons (gName 5) (gCons (gName 6) (gCons (gName 7) gNil))))))
  (tSeq (tIfS (tTest (tOp (rEq) (tCall (sp_bit K) [] E0 (tCons (tVar 7) (tCons (tC (.int 0)) tNil))) (tC (.int 0)))) (tRet (tTup (tCons (tC (.int 0)) (tCons (tC (.int 0)) tNil)))) tNext)
  (tSeq (tPar 8 9 (tCons (tOp (rI (fun _ j => 0 < j) fun i j => .int (i % j)) (tOp (rI0 fun i j => .int (i + j)) (tVar 2) (tVar 4)) (tC (.int 64))) (tCons (tOp (rI (fun _ j => 0 < j) fun i j => .int (i % j)) (tOp (rI0 fun i j => .int (i + j)) (tVar 3) (tVar 5)) (tC (.int 64))) tNil)))
  (tSeq (tAsg (tOp (rIxL K) (tVar 0) (tOp (rI0 fun i j => .int (i + j)) (tOp (rI CMul fun i j => .int (i * j)) (tOp (rI CDiv fun i j => .int (i / j)) (tVar 9) (tC (.int 8))) (tC (.int 8))) (tOp (rI CDiv fun i j => .int (i / j)) (tVar 8) (tC (.int 8))))) (gName 10))
  (tRet (tTup (tCons (tCall (sp_pixel_in K) [] E0 (tCons (tVar 0) (tCons (tOp (rI (fun _ j => 0 < j) fun i j => .int (i % j)) (tVar 10) (tC (.int 32))) (tCons (tOp (rI (fun _ j => 0 < j) fun i j => .int (i % j)) (tVar 9) (tC (.int 8))) (tCons (tOp (rI (fun _ j => 0 < j) fun i j => .int (i % j)) (tVar 8) (tC (.int 8))) tNil))))) (tCons (tOp (rI (fun _ j => 0 < j) fun i j => .int (i % j)) (tOp (rI CDiv fun i j => .int (i / j)) (tVar 10) (tC (.int 32))) (tC (.int 4))) tNil)))))))
def t_movers_in (K : PySem.W.Frag) : TS :=
  tSeq (tIfS (tOr (tTest (tOp (rEq) (tCall (sp_bit K) [] E0 (tCons (tOp (rIxT K) (tVar 1) (tC (.int 3))) (tCons (tC (.int 1)) tNil))) (tC (.int 0)))) (tTest (tOp (rI0 fun i j => .bl (decide (j ≤ i))) (tVar 2) (tC (.int 24))))) (tRet (tTup (tCons (tLst tNil) (tCons (tC (.bl false)) tNil)))) tNext)
  (tSeq (tAsg (tLst tNil) (gName 3))
  (tSeq (tFor (iRng1 (tCons (tC (.int 8)) tNil)) (gName 4) (tSeq (tAsg (tOp (rI0 fun i j => .int (i + j)) (tC (.int 64)) (tOp (rI CMul fun i j => .int (i * j)) (tC (.int 4)) (tVar 4))) (gName 5))
  (tIfS (tTest (tChain (rI0 fun i j => .bl (decide (i ≤ j))) (rI0 fun i j => .bl (decide (i < j))) (tOp (rIxL K) (tVar 0) (tVar 5)) (tVar 2) (tOp (rI0 fun i j => .int (i + j)) (tOp (rIxL K) (tVar 0) (tVar 5)) (tC (.int 8))))) (tDrop (tBM K "list" (rAppend) (tVar 3) (tCons (tTup (tCons (tVar 4) (tStar K (tSl (rSlL K) (tVar 0) (tPart (tVar 5)) (tPart (tOp (rI0 fun i j => .int (i + j)) (tVar 5) (tC (.int 4))))) tNil))) tNil))) tNext)))
  (tRet (tTup (tCons (tSl (rSlL K) (tVar 3) tNoPart (tPart (tC (.int 4)))) (tCons (tOp (rI0 fun i j => .bl (decide (j < i))) (tCB (rLen K) (tCons (tVar 3) tNil)) (tC (.int 4))) tNil))))))
def t_movers_at (K : PySem.W.Frag) : TS :=
  tSeq (tDrop (tCall (sp_check_sheet K) [] E0 (tCons (tVar 0) tNil)))
  (tRet (tCall (sp_movers_in K) [] E0 (tCons (tVar 0) (tCons (tVar 1) (tCons (tVar 2) tNil)))))
def t_mover_pixel (K : PySem.W.Frag) : TS :=
  tSeq (tAsg (tVar 1) (gTup K 5 (gCons (gName 4) (gCons (gName 5) (gCons (gName 6) (gCons (gName 7) (gCons (gName 8) gNil)))))))
  (tSeq (tPar 9 10 (tCons (tOp (rI0 fun i j => .int (i - j)) (tVar 3) (tVar 5)) (tCons (tOp (rI0 fun i j => .int (i - j)) (tVar 2) (tVar 8)) tNil)))
  (tSeq (tIfS (tTest (tOp (rEq) (tCall (sp_bit K) [] E0 (tCons (tVar 7) (tCons (tC (.int 6)) tNil))) (tC (.int 1)))) (tAsg (tOp (rI0 fun i j => .int (i - j)) (tC (.int 7)) (tVar 10)) (gName 10)) tNext)
  (tSeq (tIfS (tTest (tOp (rEq) (tCall (sp_bit K) [] E0 (tCons (tVar 7) (tCons (tC (.int 7)) tNil))) (tC (.int 1)))) (tAsg (tOp (rI0 fun i j => .int (i - j)) (tC (.int 7)) (tVar 9)) (gName 9)) tNext)
  (tRet (tCall (sp_pixel_in K) [] E0 (tCons (tVar 0) (tCons (tOp (rI (fun _ j => 0 < j) fun i j => .int (i % j)) (tVar 6) (tC (.int 32))) (tCons (tVar 9) (tCons (tVar 10) tNil)))))))))
def t_showing (K : PySem.W.Frag) : TS :=
  tSeq (tFor (iList K (tVar 1)) (gName 4) (tIfS (tTest (tChain (rI0 fun i j => .bl (decide (i ≤ j))) (rI0 fun i j => .bl (decide (i < j))) (tOp (rIxT K) (tVar 4) (tC (.int 4))) (tVar 2) (tOp (rI0 fun i j => .int (i + j)) (tOp (rIxT K) (tVar 4) (tC (.int 4))) (tC (.int 8))))) (tSeq (tAsg (tCall (sp_mover_pixel K) [] E0 (tCons (tVar 0) (tCons (tVar 4) (tCons (tVar 2) (tCons (tVar 3) tNil))))) (gName 5))
  (tIfS (tTest (tOp (rNe) (tVar 5) (tC (.int 0)))) (tRet (tTup (tCons (tVar 4) (tCons (tVar 5) tNil)))) tNext)) tNext))
  (tRet (tC .non))
def t_dot_in (K : PySem.W.Frag) : TS :=
  tSeq (tAsg (tCall (sp_ground_in K) [] E0 (tCons (tVar 0) (tCons (tVar 1) (tCons (tVar 3) (tCons (tVar 4) tNil))))) (gTup K 2 (gCons (gName 5) (gCons (gName 6) gNil))))
  (tSeq (tAsg (tCall (sp_showing K) [] E0 (tCons (tVar 0) (tCons (tVar 2) (tCons (tVar 3) (tCons (tVar 4) tNil))))) (gName 7))
  (tSeq (tAsg (tAndV (tNotN (tVar 7)) (tAndV (tOp (rEq) (tOp (rIxT K) (tOp (rIxT K) (tVar 7) (tC (.int 0))) (tC (.int 0))) (tC (.int 0))) (tOp (rNe) (tVar 5) (tC (.int 0))))) (gName 8))
  (tSeq (tIfS (tAnd (tB (tNotN (tVar 7))) (tOr (tTest (tOp (rEq) (tCall (sp_bit K) [] E0 (tCons (tOp (rIxT K) (tOp (rIxT K) (tVar 7) (tC (.int 0))) (tC (.int 3))) (tCons (tC (.int 5)) tNil))) (tC (.int 0)))) (tTest (tOp (rEq) (tVar 5) (tC (.int 0)))))) (tAsg (tOp (rI0 fun i j => .int (i + j)) (tOp (rI0 fun i j => .int (i + j)) (tC (.int 112)) (tOp (rI CMul fun i j => .int (i * j)) (tC (.int 4)) (tOp (rI (fun _ j => 0 < j) fun i j => .int (i % j)) (tOp (rIxT K) (tOp (rIxT K) (tVar 7) (tC (.int 0))) (tC (.int 3))) (tC (.int 4))))) (tOp (rIxT K) (tVar 7) (tC (.int 1)))) (gName 9)) (tAsg (tOp (rI0 fun i j => .int (i + j)) (tC (.int 96)) (tIf (tTest (tOp (rNe) (tVar 5) (tC (.int 0)))) (tOp (rI0 fun i j => .int (i + j)) (tOp (rI CMul fun i j => .int (i * j)) (tC (.int 4)) (tVar 6)) (tVar 5)) (tC (.int 0)))) (gName 9)))
  (tRet (tTup (tCons (tOp (rI (fun _ j => 0 < j) fun i j => .int (i % j)) (tOp (rIxL K) (tVar 0) (tVar 9)) (tC (.int 64))) (tCons (tVar 8) tNil)))))))
def t_dot_at (K : PySem.W.Frag) : TS :=
  tSeq (tDrop (tCall (sp_check_sheet K) [] E0 (tCons (tVar 0) tNil)))
  (tRet (tCall (sp_dot_in K) [] E0 (tCons (tVar 0) (tCons (tVar 1) (tCons (tVar 2) (tCons (tVar 3) (tCons (tVar 4) tNil)))))))
def t_column_of (K : PySem.W.Frag) : TS :=
  tRet (tOp (rI (fun _ j => 0 < j) fun i j => .int (i % j)) (tVar 0) (tC (.int 48)))
def t_line_of (K : PySem.W.Frag) : TS :=
  tRet (tOp (rI (fun _ j => 0 < j) fun i j => .int (i % j)) (tOp (rI CDiv fun i j => .int (i / j)) (tVar 0) (tC (.int 48))) (tC (.int 32)))
def t_Picture___init___LatePicture (K : PySem.W.Frag) : TS :=
  tSeq (sFld K (tVar 0) (tOp (rRep) (tLst (tCons (tC (.int 0)) tNil)) (tC (.int 1024))) "_sheet")
  (tSeq (sFld K (tVar 0) (tTup (tCons (tC (.int 0)) (tCons (tC (.int 0)) (tCons (tC (.int 0)) (tCons (tC (.int 0)) tNil))))) "_settings")
  (tSeq (sFld K (tVar 0) (tTup (tCons (tC (.bl false)) (tCons (tC (.bl false)) (tCons (tC (.bl false)) tNil)))) "_marks")
  (tSeq (sFld K (tVar 0) (tLst tNil) "_movers")
  (tSeq (sFld K (tVar 0) (tOp (rRep) (tLst (tCons (tC (.int 0)) tNil)) (tC (.int 768))) "_screen")
  (tSeq (sFld K (tVar 0) (tC .non) "_picture")
  (sFld K (tVar 0) (tC (.int 0)) "_number"))))))
def t_Picture__begin_LatePicture (K : PySem.W.Frag) : TS :=
  tSeq (tAsg (tC (.bl false)) (gName 2))
  (tSeq (tAsg (tFld K (tVar 0) "_marks") (gTup K 3 (gCons (gName 3) (gCons (gName 4) (gCons (gName 5) gNil)))))
  (tSeq (tIfS (tTest (tOp (rEq) (tVar 1) (tC (.int 0)))) (tAsg (tTup (tCons (tC (.bl false)) (tCons (tC (.bl false)) (tCons (tC (.bl false)) tNil)))) (gTup K 3 (gCons (gName 3) (gCons (gName 4) (gCons (gName 5) gNil))))) tNext)
  (tSeq (tIfS (tTest (tOp (rEq) (tVar 1) (tC (.int 24)))) (tSeq (tAsg (tC (.bl true)) (gName 3))
  (tSeq (tAsg (tOp (rEq) (tCall (sp_bit K) [] E0 (tCons (tOp (rIxT K) (tFld K (tVar 0) "_settings") (tC (.int 3))) (tCons (tC (.int 2)) tNil))) (tC (.int 1))) (gName 2))
  (tSeq (sFld K (tVar 0) (tCB (rListOf K) (tCons (tFld K (tVar 0) "_screen") tNil)) "_picture")
  (sFld K (tVar 0) (tOp (rI0 fun i j => .int (i + j)) (tFld K (tVar 0) "_number") (tC (.int 1))) "_number")))) tNext)
  (tSeq (tAsg (tCall (sp_movers_in K) [] E0 (tCons (tFld K (tVar 0) "_sheet") (tCons (tFld K (tVar 0) "_settings") (tCons (tVar 1) tNil)))) (gTup K 2 (gCons (gFld K (tVar 0) "_movers") (gCons (gName 6) gNil))))
  (tSeq (sFld K (tVar 0) (tTup (tCons (tVar 3) (tCons (tVar 4) (tCons (tOrV (tVar 5) (tVar 6)) tNil)))) "_marks")
  (tRet (tVar 2)))))))
def t_Picture_put_LatePicture (K : PySem.W.Frag) : TS :=
  tAsg (tVar 2) (gSub (tFld K (tVar 0) "_sheet") (tOp (rI (fun _ j => 0 < j) fun i j => .int (i % j)) (tVar 1) (tC (.int 1024))) rSetL)
def t_Picture_let_LatePicture (K : PySem.W.Frag) : TS :=
  tSeq (tAsg (tIf (tTest (tOp (rEq) (tVar 1) (tC (.int 3)))) (tOp (rI (fun _ j => 0 < j) fun i j => .int (i % j)) (tVar 2) (tC (.int 16))) (tVar 2)) (gName 3))
  (sFld K (tVar 0) (tCB (rTupleOf K) (tCons (tLc (iEnumT K (tCons (tFld K (tVar 0) "_settings") tNil)) (gTup K 2 (gCons (gName 4) (gCons (gName 5) gNil))) tYes (tIf (tTest (tOp (rEq) (tVar 4) (tVar 1))) (tVar 3) (tVar 5)) [4, 5]) tNil)) "_settings")
def t_Picture_marks_LatePicture (K : PySem.W.Frag) : TS :=
  tRet (tFld K (tVar 0) "_marks")
def t_Picture_picture_LatePicture (K : PySem.W.Frag) : TS :=
  tRet (tIf (tB (tIsN (tFld K (tVar 0) "_picture"))) (tC .non) (tCB (rListOf K) (tCons (tFld K (tVar 0) "_picture") tNil)))
def t_tile_dots (K : PySem.W.Frag) : TS :=
  tSeq (tAsg (tOp (rI0 fun i j => .int (i + j)) (tOp (rI0 fun i j => .int (i + j)) (tC (.int 128)) (tOp (rI CMul fun i j => .int (i * j)) (tC (.int 16)) (tVar 1))) (tOp (rI CMul fun i j => .int (i * j)) (tC (.int 2)) (tVar 2))) (gName 5))
  (tSeq (tAsg (tTup (tCons (tOp (rIxL K) (tVar 0) (tVar 5)) (tCons (tOp (rIxL K) (tVar 0) (tOp (rI0 fun i j => .int (i + j)) (tVar 5) (tC (.int 1)))) tNil))) (gTup K 2 (gCons (gName 6) (gCons (gName 7) gNil))))
  (tRet (tLc (iRng2 (tCons (tVar 3) (tCons (tVar 4) tNil))) (gName 8) tYes (tOp (rI0 fun i j => .int (i + j)) (tCall (sp_bit K) [] E0 (tCons (tVar 6) (tCons (tOp (rI0 fun i j => .int (i - j)) (tC (.int 7)) (tVar 8)) tNil))) (tOp (rI CMul fun i j => .int (i * j)) (tC (.int 2)) (tCall (sp_bit K) [] E0 (tCons (tVar 7) (tCons (tOp (rI0 fun i j => .int (i - j)) (tC (.int 7)) (tVar 8)) tNil))))) [8])))
def t_ground_dots (K : PySem.W.Frag) : TS :=
  tSeq (tAsg (tVar 1) (gTup K 4 (gCons (gName 5) (gCons (gName 6) (gCons (gName 7) (gCons (gName 8) gNil))))))
  (tSeq (tIfS (tTest (tOp (rEq) (tCall (sp_bit K) [] E0 (tCons (tVar 8) (tCons (tC (.int 0)) tNil))) (tC (.int 0)))) (tRet (tOp (rRep) (tLst (tCons (tTup (tCons (tC (.int 0)) (tCons (tC (.int 0)) tNil))) tNil)) (tOp (rI0 fun i j => .int (i - j)) (tVar 4) (tVar 3)))) tNext)
  (tSeq (tAsg (tOp (rI (fun _ j => 0 < j) fun i j => .int (i % j)) (tOp (rI0 fun i j => .int (i + j)) (tVar 2) (tVar 6)) (tC (.int 64))) (gName 9))
  (tSeq (tAsg (tLst tNil) (gName 10))
  (tSeq (tAsg (tVar 3) (gName 11))
  (tSeq (tWhile (tTest (tOp (rI0 fun i j => .bl (decide (i < j))) (tVar 11) (tVar 4))) (tSeq (tAsg (tOp (rI (fun _ j => 0 < j) fun i j => .int (i % j)) (tOp (rI0 fun i j => .int (i + j)) (tVar 11) (tVar 5)) (tC (.int 64))) (gName 12))
  (tSeq (tAsg (tOp (rIxL K) (tVar 0) (tOp (rI0 fun i j => .int (i + j)) (tOp (rI CMul fun i j => .int (i * j)) (tOp (rI CDiv fun i j => .int (i / j)) (tVar 9) (tC (.int 8))) (tC (.int 8))) (tOp (rI CDiv fun i j => .int (i / j)) (tVar 12) (tC (.int 8))))) (gName 13))
  (tSeq (tAsg (tCB (rMin2) (tCons (tVar 4) (tCons (tOp (rI0 fun i j => .int (i - j)) (tOp (rI0 fun i j => .int (i + j)) (tVar 11) (tC (.int 8))) (tOp (rI (fun _ j => 0 < j) fun i j => .int (i % j)) (tVar 12) (tC (.int 8)))) tNil))) (gName 14))
  (tSeq (tAsg (tCall (sp_tile_dots K) [] E0 (tCons (tVar 0) (tCons (tOp (rI (fun _ j => 0 < j) fun i j => .int (i % j)) (tVar 13) (tC (.int 32))) (tCons (tOp (rI (fun _ j => 0 < j) fun i j => .int (i % j)) (tVar 9) (tC (.int 8))) (tCons (tOp (rI (fun _ j => 0 < j) fun i j => .int (i % j)) (tVar 12) (tC (.int 8))) (tCons (tOp (rI0 fun i j => .int (i - j)) (tOp (rI0 fun i j => .int (i + j)) (tOp (rI (fun _ j => 0 < j) fun i j => .int (i % j)) (tVar 12) (tC (.int 8))) (tVar 14)) (tVar 11)) tNil)))))) (gName 15))
  (tSeq (tDrop (tBM K "list" (rExtend) (tVar 10) (tCons (tLc (iList K (tVar 15)) (gName 16) tYes (tTup (tCons (tVar 16) (tCons (tOp (rI (fun _ j => 0 < j) fun i j => .int (i % j)) (tOp (rI CDiv fun i j => .int (i / j)) (tVar 13) (tC (.int 32))) (tC (.int 4))) tNil))) [16]) tNil)))
  (tAsg (tVar 14) (gName 11))))))))
  (tRet (tVar 10)))))))
def t_mover_dots (K : PySem.W.Frag) : TS :=
  tSeq (tAsg tDNewK (gName 5))
  (tSeq (tFor (iList K (tVar 1)) (gName 6) (tFor (iRng2 (tCons (tCB (rMax2) (tCons (tVar 3) (tCons (tOp (rIxT K) (tVar 6) (tC (.int 4))) tNil))) (tCons (tCB (rMin2) (tCons (tVar 4) (tCons (tOp (rI0 fun i j => .int (i + j)) (tOp (rIxT K) (tVar 6) (tC (.int 4))) (tC (.int 8))) tNil))) tNil))) (gName 7) (tSeq (tAsg (tCall (sp_mover_pixel K) [] E0 (tCons (tVar 0) (tCons (tVar 6) (tCons (tVar 7) (tCons (tVar 2) tNil))))) (gName 8))
  (tIfS (tAnd (tB (tDNotIn (tVar 7) (tVar 5))) (tTest (tOp (rNe) (tVar 8) (tC (.int 0))))) (sDPut (tVar 5) (tVar 7) (tTup (tCons (tVar 6) (tCons (tVar 8) tNil)))) tNext))))
  (tRet (tVar 5)))
def t_dots_of (K : PySem.W.Frag) : TS :=
  tSeq (tAsg (tCall (sp_mover_dots K) [] E0 (tCons (tVar 0) (tCons (tVar 2) (tCons (tVar 3) (tCons (tVar 4) (tCons (tVar 5) tNil)))))) (gName 6))
  (tSeq (tAsg (tLst tNil) (gName 7))
  (tSeq (tAsg (tC (.bl false)) (gName 8))
  (tSeq (tFor (iEnum K (tCons (tCall (sp_ground_dots K) [] E0 (tCons (tVar 0) (tCons (tVar 1) (tCons (tVar 3) (tCons (tVar 4) (tCons (tVar 5) tNil)))))) tNil)) (gTup K 2 (gCons (gName 9) (gCons (gTup K 2 (gCons (gName 10) (gCons (gName 11) gNil))) gNil))) (tSeq (tAsg (tOp (rI0 fun i j => .int (i + j)) (tC (.int 96)) (tIf (tTest (tOp (rNe) (tVar 10) (tC (.int 0)))) (tOp (rI0 fun i j => .int (i + j)) (tOp (rI CMul fun i j => .int (i * j)) (tC (.int 4)) (tVar 11)) (tVar 10)) (tC (.int 0)))) (gName 12))
  (tSeq (tIfS (tB (tDIn (tOp (rI0 fun i j => .int (i + j)) (tVar 4) (tVar 9)) (tVar 6))) (tSeq (tAsg (tDGet (tVar 6) (tOp (rI0 fun i j => .int (i + j)) (tVar 4) (tVar 9))) (gTup K 2 (gCons (gName 13) (gCons (gName 14) gNil))))
  (tSeq (tAsg (tOrV (tVar 8) (tAndV (tOp (rEq) (tOp (rIxT K) (tVar 13) (tC (.int 0))) (tC (.int 0))) (tOp (rNe) (tVar 10) (tC (.int 0))))) (gName 8))
  (tIfS (tOr (tTest (tOp (rEq) (tVar 10) (tC (.int 0)))) (tTest (tOp (rEq) (tCall (sp_bit K) [] E0 (tCons (tOp (rIxT K) (tVar 13) (tC (.int 3))) (tCons (tC (.int 5)) tNil))) (tC (.int 0))))) (tAsg (tOp (rI0 fun i j => .int (i + j)) (tOp (rI0 fun i j => .int (i + j)) (tC (.int 112)) (tOp (rI CMul fun i j => .int (i * j)) (tC (.int 4)) (tOp (rI (fun _ j => 0 < j) fun i j => .int (i % j)) (tOp (rIxT K) (tVar 13) (tC (.int 3))) (tC (.int 4))))) (tVar 14)) (gName 12)) tNext))) tNext)
  (tDrop (tBM K "list" (rAppend) (tVar 7) (tCons (tOp (rI (fun _ j => 0 < j) fun i j => .int (i % j)) (tOp (rIxL K) (tVar 0) (tVar 12)) (tC (.int 64))) tNil))))))
  (tRet (tTup (tCons (tVar 7) (tCons (tVar 8) tNil)))))))
def t_LatePicture__draw (K : PySem.W.Frag) : TS :=
  tSeq (tAsg (tCall (sp_dots_of K) [] E0 (tCons (tFld K (tVar 0) "_sheet") (tCons (tFld K (tVar 0) "_settings") (tCons (tFld K (tVar 0) "_movers") (tCons (tVar 1) (tCons (tVar 2) (tCons (tVar 3) tNil))))))) (gTup K 2 (gCons (gName 4) (gCons (gName 5) gNil))))
  (tSeq (tFor (iEnum K (tCons (tVar 4) tNil)) (gTup K 2 (gCons (gName 6) (gCons (gName 7) gNil))) (tAsg (tVar 7) (gSub (tFld K (tVar 0) "_screen") (tOp (rI0 fun i j => .int (i + j)) (tOp (rI0 fun i j => .int (i + j)) (tOp (rI CMul fun i j => .int (i * j)) (tC (.int 32)) (tVar 1)) (tVar 2)) (tVar 6)) rSetL)))
  (tIfS (tB (tVar 5)) (sFld K (tVar 0) (tTup (tCons (tOp (rIxT K) (tFld K (tVar 0) "_marks") (tC (.int 0))) (tCons (tC (.bl true)) (tCons (tOp (rIxT K) (tFld K (tVar 0) "_marks") (tC (.int 2))) tNil)))) "_marks") tNext))
def t_LatePicture__run (K : PySem.W.Frag) : TS :=
  tSeq (tAsg (tLst tNil) (gName 4))
  (tSeq (tIfS (tAnd (tTest (tOp (rEq) (tVar 2) (tC (.int 0)))) (tB (tMeth (He.ga K "LatePicture") "_begin" (sp_Picture__begin_LatePicture K) [] E0 (tVar 0) (tCons (tVar 1) tNil)))) (tDrop (tBM K "list" (rAppend) (tVar 4) (tCons (tC (.int 0)) tNil))) tNext)
  (tSeq (tIfS (tAnd (tTest (tChain (rI0 fun i j => .bl (decide (i ≤ j))) (rI0 fun i j => .bl (decide (i < j))) (tVar 2) (tC (.int 32)) (tVar 3))) (tAnd (tTest (tOp (rEq) (tVar 1) (tOp (rIxT K) (tFld K (tVar 0) "_settings") (tC (.int 2))))) (tTest (tOp (rEq) (tCall (sp_bit K) [] E0 (tCons (tOp (rIxT K) (tFld K (tVar 0) "_settings") (tC (.int 3))) (tCons (tC (.int 3)) tNil))) (tC (.int 1)))))) (tDrop (tBM K "list" (rAppend) (tVar 4) (tCons (tC (.int 1)) tNil))) tNext)
  (tSeq (tIfS (tAnd (tTest (tOp (rI0 fun i j => .bl (decide (i < j))) (tVar 1) (tC (.int 24)))) (tTest (tOp (rI0 fun i j => .bl (decide (i < j))) (tVar 2) (tC (.int 32))))) (tDrop (tMeth (He.ga K "LatePicture") "_draw" (sp_LatePicture__draw K) [] E0 (tVar 0) (tCons (tVar 1) (tCons (tVar 2) (tCons (tCB (rMin2) (tCons (tVar 3) (tCons (tC (.int 32)) tNil))) tNil))))) tNext)
  (tRet (tVar 4)))))
def t_LatePicture_live_to (K : PySem.W.Frag) : TS :=
  tSeq (tAsg (tLst tNil) (gName 2))
  (tSeq (tWhile (tTest (tOp (rI0 fun i j => .bl (decide (i < j))) (tFld K (tVar 0) "_next") (tVar 1))) (tSeq (tAsg (tCall (sp_column_of K) [] E0 (tCons (tFld K (tVar 0) "_next") tNil)) (gName 3))
  (tSeq (tAsg (tCB (rMin2) (tCons (tC (.int 48)) (tCons (tOp (rI0 fun i j => .int (i - j)) (tOp (rI0 fun i j => .int (i + j)) (tVar 3) (tVar 1)) (tFld K (tVar 0) "_next")) tNil))) (gName 4))
  (tSeq (tDrop (tBM K "list" (rExtend) (tVar 2) (tCons (tMeth (He.ga K "LatePicture") "_run" (sp_LatePicture__run K) [] E0 (tVar 0) (tCons (tCall (sp_line_of K) [] E0 (tCons (tFld K (tVar 0) "_next") tNil)) (tCons (tVar 3) (tCons (tVar 4) tNil)))) tNil)))
  (sFld K (tVar 0) (tOp (rI0 fun i j => .int (i - j)) (tOp (rI0 fun i j => .int (i + j)) (tFld K (tVar 0) "_next") (tVar 4)) (tVar 3)) "_next")))))
  (tRet (tSoS K (tVar 2))))
def t__law_draws (K : PySem.W.Frag) : TS :=
  tSeq (tAsg (tLst tNil) (gName 1))
  (tSeq (tFor (iRng1 (tCons (tCB (rMin2) (tCons (tC (.int 63)) (tCons (tCB (rLen K) (tCons (tVar 0) tNil)) tNil))) tNil)) (gName 2) (tSeq (tAsg (tCB (rAbs) (tCons (tOp (rIxL K) (tVar 0) (tVar 2)) tNil)) (gName 3))
  (tIfS (tTest (tOp (rI0 fun i j => .bl (decide (j ≤ i))) (tVar 3) (tOp (rI CPow fun i j => .int (i ^ j.toNat)) (tC (.int 10)) (tC (.int 18))))) (tFor (iRng1 (tCons (tC (.int 60)) tNil)) (gName 4) (tIfS (tTest (tOp (rI0 fun i j => .bl (decide (j < i))) (tVar 3) (tC (.int 0)))) (tSeq (tDrop (tBM K "list" (rAppend) (tVar 1) (tCons (tOp (rI (fun _ j => 0 < j) fun i j => .int (i % j)) (tCB (rInt1) (tCons (tVar 3) tNil)) (tC (.int 65536))) tNil)))
  (tAsg (tOp (rI CDiv fun i j => .int (i / j)) (tVar 3) (tC (.int 65536))) (gName 3))) tNext)) (tSeq (tAsg (tOp (rI (fun _ j => 0 < j) fun i j => .int (i % j)) (tCB (rInt1) (tCons (tOp (rI0 fun i j => .int (i + j)) (tOp (rI CMul fun i j => .int (i * j)) (tVar 3) (tC (.int 48271))) (tOp (rI CMul fun i j => .int (i * j)) (tOp (rI0 fun i j => .int (i + j)) (tVar 2) (tC (.int 1))) (tC (.int 69621)))) tNil)) (tC (.int 2147483647))) (gName 5))
  (tSeq (tAsg (tOp (rI (fun _ j => 0 < j) fun i j => .int (i % j)) (tCB (rInt1) (tCons (tOp (rI0 fun i j => .int (i + j)) (tOp (rI0 fun i j => .int (i + j)) (tOp (rI CMul fun i j => .int (i * j)) (tVar 5) (tC (.int 16807))) (tOp (rI CMul fun i j => .int (i * j)) (tC (.int 11)) (tVar 2))) (tC (.int 5))) tNil)) (tC (.int 2147483629))) (gName 5))
  (tSeq (tDrop (tBM K "list" (rAppend) (tVar 1) (tCons (tOp (rI (fun _ j => 0 < j) fun i j => .int (i % j)) (tCB (rInt1) (tCons (tVar 5) tNil)) (tC (.int 65536))) tNil)))
  (tDrop (tBM K "list" (rAppend) (tVar 1) (tCons (tOp (rI (fun _ j => 0 < j) fun i j => .int (i % j)) (tCB (rInt1) (tCons (tOp (rI CDiv fun i j => .int (i / j)) (tVar 5) (tC (.int 65536))) tNil)) (tC (.int 32768))) tNil)))))))))
  (tRet (tVar 1)))
def t__law_mix (K : PySem.W.Frag) : TS :=
  tSeq (tAsg (tC (.int 0)) (gName 3))
  (tSeq (tIfS (tTest (tOp (rI0 fun i j => .bl (decide (j < i))) (tCB (rLen K) (tCons (tVar 0) tNil)) (tC (.int 0)))) (tAsg (tOp (rIxL K) (tVar 0) (tOp (rI (fun _ j => 0 < j) fun i j => .int (i % j)) (tCB (rInt1) (tCons (tVar 1) tNil)) (tCB (rLen K) (tCons (tVar 0) tNil)))) (gName 3)) tNext)
  (tSeq (tIfS (tTest (tOp (rI0 fun i j => .bl (decide (i < j))) (tVar 1) (tCB (rLen K) (tCons (tVar 0) tNil)))) (tRet (tOp (rI (fun _ j => 0 < j) fun i j => .int (i % j)) (tCB (rInt1) (tCons (tVar 3) tNil)) (tVar 2))) tNext)
  (tRet (tOp (rI (fun _ j => 0 < j) fun i j => .int (i % j)) (tCB (rInt1) (tCons (tOp (rI CDiv fun i j => .int (i / j)) (tCB (rInt1) (tCons (tOp (rI0 fun i j => .int (i + j)) (tOp (rI CMul fun i j => .int (i * j)) (tVar 3) (tC (.int 7919))) (tOp (rI CMul fun i j => .int (i * j)) (tVar 1) (tC (.int 104729)))) tNil)) (tC (.int 3))) tNil)) (tVar 2)))))
def t__law_bit (K : PySem.W.Frag) : TS :=
  tRet (tOp (rI (fun _ j => 0 < j) fun i j => .int (i % j)) (tCB (rInt1) (tCons (tOp (rI CDiv fun i j => .int (i / j)) (tVar 0) (tOp (rIxL K) (tLst (tCons (tC (.int 1)) (tCons (tC (.int 2)) (tCons (tC (.int 4)) (tCons (tC (.int 8)) (tCons (tC (.int 16)) (tCons (tC (.int 32)) (tCons (tC (.int 64)) (tCons (tC (.int 128)) tNil))))))))) (tVar 1))) tNil)) (tC (.int 2)))
def t__law_pixel (K : PySem.W.Frag) : TS :=
  tSeq (tAsg (tOp (rI0 fun i j => .int (i + j)) (tOp (rI0 fun i j => .int (i + j)) (tC (.int 128)) (tOp (rI CMul fun i j => .int (i * j)) (tC (.int 16)) (tVar 1))) (tOp (rI CMul fun i j => .int (i * j)) (tC (.int 2)) (tVar 2))) (gName 4))
  (tRet (tOp (rI0 fun i j => .int (i + j)) (tCall (sp__law_bit K) [] E0 (tCons (tOp (rIxL K) (tVar 0) (tVar 4)) (tCons (tOp (rI0 fun i j => .int (i - j)) (tC (.int 7)) (tVar 3)) tNil))) (tOp (rI CMul fun i j => .int (i * j)) (tC (.int 2)) (tCall (sp__law_bit K) [] E0 (tCons (tOp (rIxL K) (tVar 0) (tOp (rI0 fun i j => .int (i + j)) (tVar 4) (tC (.int 1)))) (tCons (tOp (rI0 fun i j => .int (i - j)) (tC (.int 7)) (tVar 3)) tNil))))))
def t__law_showing (K : PySem.W.Frag) : TS :=
  tSeq (tFor (iList K (tVar 1)) (gLst K 5 (gCons (gName 4) (gCons (gName 5) (gCons (gName 6) (gCons (gName 7) (gCons (gName 8) gNil)))))) (tIfS (tTest (tChain (rI0 fun i j => .bl (decide (i ≤ j))) (rI0 fun i j => .bl (decide (i < j))) (tVar 7) (tVar 2) (tOp (rI0 fun i j => .int (i + j)) (tVar 7) (tC (.int 8))))) (tSeq (tPar 9 10 (tCons (tOp (rI0 fun i j => .int (i - j)) (tVar 3) (tVar 4)) (tCons (tOp (rI0 fun i j => .int (i - j)) (tVar 2) (tVar 7)) tNil)))
  (tSeq (tAsg (tCall (sp__law_pixel K) [] E0 (tCons (tVar 0) (tCons (tOp (rI (fun _ j => 0 < j) fun i j => .int (i % j)) (tCB (rInt1) (tCons (tVar 5) tNil)) (tC (.int 32))) (tCons (tOp (rIxL K) (tLst (tCons (tVar 9) (tCons (tOp (rI0 fun i j => .int (i - j)) (tC (.int 7)) (tVar 9)) tNil))) (tCall (sp__law_bit K) [] E0 (tCons (tVar 6) (tCons (tC (.int 7)) tNil)))) (tCons (tOp (rIxL K) (tLst (tCons (tVar 10) (tCons (tOp (rI0 fun i j => .int (i - j)) (tC (.int 7)) (tVar 10)) tNil))) (tCall (sp__law_bit K) [] E0 (tCons (tVar 6) (tCons (tC (.int 6)) tNil)))) tNil))))) (gName 11))
  (tIfS (tTest (tOp (rI0 fun i j => .bl (decide (j < i))) (tVar 11) (tC (.int 0)))) (tRet (tLst (tCons (tTup (tCons (tVar 8) (tCons (tVar 6) (tCons (tVar 11) tNil)))) tNil))) tNext))) tNext))
  (tRet (tLst tNil))
def t__law_due (K : PySem.W.Frag) : TS :=
  tSeq (tAsg (tVar 1) (gTup K 4 (gCons (gName 2) (gCons (gName 3) (gCons (gName 4) (gCons (gName 5) gNil))))))
  (tSeq (tPar3 6 7 8 (tCons (tLst tNil) (tCons (tC (.bl false)) (tCons (tC (.bl false)) tNil))))
  (tSeq (tFor (iRng1 (tCons (tC (.int 24)) tNil)) (gName 9) (tSeq (tAsg (tLc (iRng1 (tCons (tC (.int 8)) tNil)) (gName 10) (tAnd (tTest (tOp (rEq) (tCall (sp__law_bit K) [] E0 (tCons (tVar 5) (tCons (tC (.int 1)) tNil))) (tC (.int 1)))) (tTest (tChain (rI0 fun i j => .bl (decide (i ≤ j))) (rI0 fun i j => .bl (decide (i < j))) (tOp (rIxL K) (tVar 0) (tOp (rI0 fun i j => .int (i + j)) (tC (.int 64)) (tOp (rI CMul fun i j => .int (i * j)) (tC (.int 4)) (tVar 10)))) (tVar 9) (tOp (rI0 fun i j => .int (i + j)) (tOp (rIxL K) (tVar 0) (tOp (rI0 fun i j => .int (i + j)) (tC (.int 64)) (tOp (rI CMul fun i j => .int (i * j)) (tC (.int 4)) (tVar 10)))) (tC (.int 8)))))) (tOp (rCat) (tSl (rSlL K) (tVar 0) (tPart (tOp (rI0 fun i j => .int (i + j)) (tC (.int 64)) (tOp (rI CMul fun i j => .int (i * j)) (tC (.int 4)) (tVar 10)))) (tPart (tOp (rI0 fun i j => .int (i + j)) (tC (.int 68)) (tOp (rI CMul fun i j => .int (i * j)) (tC (.int 4)) (tVar 10))))) (tLst (tCons (tVar 10) tNil))) [10]) (gName 11))
  (tSeq (tAsg (tOrV (tVar 8) (tOp (rI0 fun i j => .bl (decide (j < i))) (tCB (rLen K) (tCons (tVar 11) tNil)) (tC (.int 4)))) (gName 8))
  (tFor (iRng1 (tCons (tC (.int 32)) tNil)) (gName 12) (tSeq (tPar 13 14 (tCons (tOp (rI (fun _ j => 0 < j) fun i j => .int (i % j)) (tCB (rInt1) (tCons (tOp (rI0 fun i j => .int (i + j)) (tVar 12) (tVar 2)) tNil)) (tC (.int 64))) (tCons (tOp (rI (fun _ j => 0 < j) fun i j => .int (i % j)) (tCB (rInt1) (tCons (tOp (rI0 fun i j => .int (i + j)) (tVar 9) (tVar 3)) tNil)) (tC (.int 64))) tNil)))
  (tSeq (tAsg (tOp (rIxL K) (tVar 0) (tOp (rI0 fun i j => .int (i + j)) (tOp (rI CMul fun i j => .int (i * j)) (tC (.int 8)) (tOp (rI CDiv fun i j => .int (i / j)) (tVar 14) (tC (.int 8)))) (tOp (rI CDiv fun i j => .int (i / j)) (tVar 13) (tC (.int 8))))) (gName 15))
  (tSeq (tAsg (tOp (rI CMul fun i j => .int (i * j)) (tCall (sp__law_pixel K) [] E0 (tCons (tVar 0) (tCons (tOp (rI (fun _ j => 0 < j) fun i j => .int (i % j)) (tCB (rInt1) (tCons (tVar 15) tNil)) (tC (.int 32))) (tCons (tOp (rI (fun _ j => 0 < j) fun i j => .int (i % j)) (tCB (rInt1) (tCons (tVar 14) tNil)) (tC (.int 8))) (tCons (tOp (rI (fun _ j => 0 < j) fun i j => .int (i % j)) (tCB (rInt1) (tCons (tVar 13) tNil)) (tC (.int 8))) tNil))))) (tCall (sp__law_bit K) [] E0 (tCons (tVar 5) (tCons (tC (.int 0)) tNil)))) (gName 16))
  (tSeq (tAsg (tOp (rI0 fun i j => .int (i + j)) (tC (.int 96)) (tOp (rI CMul fun i j => .int (i * j)) (tOp (rI0 fun i j => .int (i + j)) (tOp (rI CMul fun i j => .int (i * j)) (tC (.int 4)) (tOp (rI (fun _ j => 0 < j) fun i j => .int (i % j)) (tCB (rInt1) (tCons (tOp (rI CDiv fun i j => .int (i / j)) (tVar 15) (tC (.int 32))) tNil)) (tC (.int 4)))) (tVar 16)) (tCB (rInt1) (tCons (tOp (rI0 fun i j => .bl (decide (j < i))) (tVar 16) (tC (.int 0))) tNil)))) (gName 17))
  (tSeq (tFor (iList K (tCall (sp__law_showing K) [] E0 (tCons (tVar 0) (tCons (tSl (rSlL K) (tVar 11) tNoPart (tPart (tC (.int 4)))) (tCons (tVar 12) (tCons (tVar 9) tNil)))))) (gTup K 3 (gCons (gName 10) (gCons (gName 18) (gCons (gName 19) gNil)))) (tSeq (tAsg (tOrV (tVar 7) (tAndV (tOp (rEq) (tVar 10) (tC (.int 0))) (tOp (rI0 fun i j => .bl (decide (j < i))) (tVar 16) (tC (.int 0))))) (gName 7))
  (tIfS (tOr (tTest (tOp (rEq) (tCall (sp__law_bit K) [] E0 (tCons (tVar 18) (tCons (tC (.int 5)) tNil))) (tC (.int 0)))) (tTest (tOp (rEq) (tVar 16) (tC (.int 0))))) (tAsg (tOp (rI0 fun i j => .int (i + j)) (tOp (rI0 fun i j => .int (i + j)) (tC (.int 112)) (tOp (rI CMul fun i j => .int (i * j)) (tC (.int 4)) (tOp (rI (fun _ j => 0 < j) fun i j => .int (i % j)) (tCB (rInt1) (tCons (tVar 18) tNil)) (tC (.int 4))))) (tVar 19)) (gName 17)) tNext)))
  (tDrop (tBM K "list" (rAppend) (tVar 6) (tCons (tOp (rI (fun _ j => 0 < j) fun i j => .int (i % j)) (tCB (rInt1) (tCons (tOp (rIxL K) (tVar 0) (tVar 17)) tNil)) (tC (.int 64))) tNil))))))))))))
  (tRet (tTup (tCons (tVar 6) (tCons (tVar 7) (tCons (tVar 8) tNil)))))))
def t__law_shown (K : PySem.W.Frag) : TS :=
  tSeq (tAsg (tMake (He.ga K "LatePicture") (sp_LatePicture___init__ K) [] E0 tNil) (gName 2))
  (tSeq (tFor (iRng1 (tCons (tC (.int 1024)) tNil)) (gName 3) (tDrop (tMeth (He.ga K "LatePicture") "put" (sp_Picture_put_LatePicture K) [] E0 (tVar 2) (tCons (tVar 3) (tCons (tOp (rIxL K) (tVar 0) (tVar 3)) tNil)))))
  (tSeq (tFor (iRng1 (tCons (tC (.int 4)) tNil)) (gName 4) (tDrop (tMeth (He.ga K "LatePicture") "let" (sp_Picture_let_LatePicture K) [] E0 (tVar 2) (tCons (tVar 4) (tCons (tOp (rIxT K) (tVar 1) (tVar 4)) tNil)))))
  (tSeq (tDrop (tMeth (He.ga K "LatePicture") "live_to" (sp_LatePicture_live_to K) [] E0 (tVar 2) (tCons (tC (.int 1153)) tNil)))
  (tRet (tTup (tCons (tMeth (He.ga K "LatePicture") "picture" (sp_Picture_picture_LatePicture K) [] E0 (tVar 2) tNil) (tCons (tOp (rIxT K) (tMeth (He.ga K "LatePicture") "marks" (sp_Picture_marks_LatePicture K) [] E0 (tVar 2) tNil) (tC (.int 1))) (tCons (tOp (rIxT K) (tMeth (He.ga K "LatePicture") "marks" (sp_Picture_marks_LatePicture K) [] E0 (tVar 2) tNil) (tC (.int 2))) tNil))))))))
def t__law_sheet (K : PySem.W.Frag) : TS :=
  tSeq (tAsg (tLc (iRng1 (tCons (tC (.int 64)) tNil)) (gName 2) tYes (tOp (rI0 fun i j => .int (i + j)) (tOp (rI CMul fun i j => .int (i * j)) (tC (.int 32)) (tCall (sp__law_mix K) [] E0 (tCons (tVar 0) (tCons (tOp (rI0 fun i j => .int (i + j)) (tVar 1) (tVar 2)) (tCons (tC (.int 8)) tNil))))) (tCall (sp__law_mix K) [] E0 (tCons (tVar 0) (tCons (tOp (rI0 fun i j => .int (i + j)) (tOp (rI0 fun i j => .int (i + j)) (tVar 1) (tC (.int 70))) (tVar 2)) (tCons (tC (.int 16)) tNil))))) [2]) (gName 3))
  (tSeq (tAsg (tOp (rIxL K) (tLst (tCons (tC (.int 6)) (tCons (tC (.int 30)) tNil))) (tCall (sp__law_mix K) [] E0 (tCons (tVar 0) (tCons (tOp (rI0 fun i j => .int (i + j)) (tVar 1) (tC (.int 140))) (tCons (tC (.int 2)) tNil))))) (gName 4))
  (tSeq (tFor (iRng1 (tCons (tC (.int 8)) tNil)) (gName 2) (tAsg (tOp (rCat) (tVar 3) (tLst (tCons (tOp (rI0 fun i j => .int (i + j)) (tC (.int 1)) (tCall (sp__law_mix K) [] E0 (tCons (tVar 0) (tCons (tOp (rI0 fun i j => .int (i + j)) (tOp (rI0 fun i j => .int (i + j)) (tVar 1) (tC (.int 141))) (tOp (rI CMul fun i j => .int (i * j)) (tC (.int 3)) (tVar 2))) (tCons (tVar 4) tNil))))) (tCons (tOp (rI0 fun i j => .int (i + j)) (tOp (rI0 fun i j => .int (i + j)) (tC (.int 16)) (tVar 2)) (tOp (rI CMul fun i j => .int (i * j)) (tC (.int 32)) (tCall (sp__law_mix K) [] E0 (tCons (tVar 0) (tCons (tOp (rI0 fun i j => .int (i + j)) (tOp (rI0 fun i j => .int (i + j)) (tVar 1) (tC (.int 170))) (tVar 2)) (tCons (tC (.int 8)) tNil)))))) (tCons (tCall (sp__law_mix K) [] E0 (tCons (tVar 0) (tCons (tOp (rI0 fun i j => .int (i + j)) (tOp (rI0 fun i j => .int (i + j)) (tVar 1) (tC (.int 142))) (tOp (rI CMul fun i j => .int (i * j)) (tC (.int 3)) (tVar 2))) (tCons (tC (.int 256)) tNil)))) (tCons (tOp (rI0 fun i j => .int (i + j)) (tC (.int 1)) (tCall (sp__law_mix K) [] E0 (tCons (tVar 0) (tCons (tOp (rI0 fun i j => .int (i + j)) (tOp (rI0 fun i j => .int (i + j)) (tVar 1) (tC (.int 143))) (tOp (rI CMul fun i j => .int (i * j)) (tC (.int 3)) (tVar 2))) (tCons (tC (.int 36)) tNil))))) tNil)))))) (gName 3)))
  (tSeq (tAsg (tOp (rCat) (tVar 3) (tLc (iRng1 (tCons (tC (.int 32)) tNil)) (gName 2) tYes (tCall (sp__law_mix K) [] E0 (tCons (tVar 0) (tCons (tOp (rI0 fun i j => .int (i + j)) (tOp (rI0 fun i j => .int (i + j)) (tVar 1) (tC (.int 180))) (tVar 2)) (tCons (tC (.int 256)) tNil)))) [2])) (gName 3))
  (tRet (tOp (rCat) (tOp (rCat) (tVar 3) (tLc (iRng1 (tCons (tC (.int 512)) tNil)) (gName 2) tYes (tCall (sp__law_mix K) [] E0 (tCons (tVar 0) (tCons (tOp (rI0 fun i j => .int (i + j)) (tOp (rI0 fun i j => .int (i + j)) (tVar 1) (tC (.int 220))) (tVar 2)) (tCons (tC (.int 256)) tNil)))) [2])) (tOp (rRep) (tLst (tCons (tC (.int 0)) tNil)) (tC (.int 384))))))))
def t__law_map (K : PySem.W.Frag) : TS :=
  tRet (tOp (rCat) (tLc (iRng1 (tCons (tC (.int 64)) tNil)) (gName 3) tYes (tOp (rIxL K) (tVar 0) (tOp (rI0 fun i j => .int (i + j)) (tOp (rI CMul fun i j => .int (i * j)) (tC (.int 8)) (tOp (rI (fun _ j => 0 < j) fun i j => .int (i % j)) (tCB (rInt1) (tCons (tOp (rI0 fun i j => .int (i + j)) (tOp (rI CDiv fun i j => .int (i / j)) (tVar 3) (tC (.int 8))) (tVar 2)) tNil)) (tC (.int 8)))) (tOp (rI (fun _ j => 0 < j) fun i j => .int (i % j)) (tCB (rInt1) (tCons (tOp (rI0 fun i j => .int (i + j)) (tVar 3) (tVar 1)) tNil)) (tC (.int 8))))) [3]) (tSl (rSlL K) (tVar 0) (tPart (tC (.int 64))) tNoPart))
def t__law_turned (K : PySem.W.Frag) : TS :=
  tSeq (tPar 3 4 (tCons (tOp (rI0 fun i j => .int (i + j)) (tC (.int 128)) (tOp (rI CMul fun i j => .int (i * j)) (tC (.int 16)) (tOp (rI (fun _ j => 0 < j) fun i j => .int (i % j)) (tCB (rInt1) (tCons (tOp (rIxL K) (tVar 0) (tOp (rI0 fun i j => .int (i + j)) (tC (.int 65)) (tOp (rI CMul fun i j => .int (i * j)) (tC (.int 4)) (tVar 1)))) tNil)) (tC (.int 32))))) (tCons (tOp (rIxL K) (tVar 0) (tOp (rI0 fun i j => .int (i + j)) (tC (.int 66)) (tOp (rI CMul fun i j => .int (i * j)) (tC (.int 4)) (tVar 1)))) tNil)))
  (tSeq (tAsg (tCB (rListOf K) (tCons (tVar 0) tNil)) (gName 5))
  (tSeq (tFor (iRng1 (tCons (tC (.int 16)) tNil)) (gName 6) (tSeq (tAsg (tOp (rIxL K) (tVar 0) (tOp (rI0 fun i j => .int (i + j)) (tVar 3) (tVar 6))) (gName 7))
  (tIfS (tTest (tOp (rEq) (tVar 2) (tC (.int 6)))) (tAsg (tCB (rSum K) (tCons (tLc (iRng1 (tCons (tC (.int 8)) tNil)) (gName 8) tYes (tOp (rI CMul fun i j => .int (i * j)) (tCall (sp__law_bit K) [] E0 (tCons (tVar 7) (tCons (tVar 8) tNil))) (tOp (rIxL K) (tLst (tCons (tC (.int 128)) (tCons (tC (.int 64)) (tCons (tC (.int 32)) (tCons (tC (.int 16)) (tCons (tC (.int 8)) (tCons (tC (.int 4)) (tCons (tC (.int 2)) (tCons (tC (.int 1)) tNil))))))))) (tVar 8))) [8]) tNil)) (gSub (tVar 5) (tOp (rI0 fun i j => .int (i + j)) (tVar 3) (tVar 6)) rSetL)) (tAsg (tVar 7) (gSub (tVar 5) (tOp (rI0 fun i j => .int (i + j)) (tOp (rI0 fun i j => .int (i - j)) (tOp (rI0 fun i j => .int (i + j)) (tVar 3) (tC (.int 14))) (tOp (rI CMul fun i j => .int (i * j)) (tC (.int 2)) (tOp (rI CDiv fun i j => .int (i / j)) (tVar 6) (tC (.int 2))))) (tOp (rI (fun _ j => 0 < j) fun i j => .int (i % j)) (tCB (rInt1) (tCons (tVar 6) tNil)) (tC (.int 2)))) rSetL)))))
  (tSeq (tAsg (tOp (rI0 fun i j => .int (i + j)) (tVar 4) (tOp (rI CMul fun i j => .int (i * j)) (tOp (rIxL K) (tLst (tCons (tC (.int 64)) (tCons (tC (.int 128)) tNil))) (tOp (rI0 fun i j => .int (i - j)) (tVar 2) (tC (.int 6)))) (tOp (rI0 fun i j => .int (i - j)) (tC (.int 1)) (tOp (rI CMul fun i j => .int (i * j)) (tC (.int 2)) (tCall (sp__law_bit K) [] E0 (tCons (tVar 4) (tCons (tVar 2) tNil))))))) (gSub (tVar 5) (tOp (rI0 fun i j => .int (i + j)) (tC (.int 66)) (tOp (rI CMul fun i j => .int (i * j)) (tC (.int 4)) (tVar 1))) rSetL))
  (tRet (tVar 5)))))
def t__law_less (K : PySem.W.Frag) : TS :=
  tSeq (tAsg (tCB (rListOf K) (tCons (tVar 0) tNil)) (gName 2))
  (tSeq (tFor (iRng1 (tCons (tC (.int 8)) tNil)) (gName 3) (tAsg (tOp (rI0 fun i j => .int (i - j)) (tOp (rIxL K) (tVar 2) (tOp (rI0 fun i j => .int (i + j)) (tOp (rI0 fun i j => .int (i + j)) (tC (.int 64)) (tOp (rI CMul fun i j => .int (i * j)) (tC (.int 4)) (tVar 3))) (tVar 1))) (tC (.int 1))) (gSub (tVar 2) (tOp (rI0 fun i j => .int (i + j)) (tOp (rI0 fun i j => .int (i + j)) (tC (.int 64)) (tOp (rI CMul fun i j => .int (i * j)) (tC (.int 4)) (tVar 3))) (tVar 1)) rSetL)))
  (tRet (tVar 2)))
def t_law (K : PySem.W.Frag) : TS :=
  tSeq (tAsg (tCall (sp__law_draws K) [] E0 (tCons (tVar 0) tNil)) (gName 1))
  (tSeq (tAsg (tCall (sp__law_sheet K) [] E0 (tCons (tVar 1) (tCons (tC (.int 20)) tNil))) (gName 2))
  (tSeq (tPar 3 4 (tCons (tCall (sp__law_mix K) [] E0 (tCons (tVar 1) (tCons (tC (.int 1)) (tCons (tC (.int 256)) tNil)))) (tCons (tCall (sp__law_mix K) [] E0 (tCons (tVar 1) (tCons (tC (.int 2)) (tCons (tC (.int 256)) tNil)))) tNil)))
  (tSeq (tAsg (tOp (rIxL K) (tLst (tCons (tC (.int 3)) (tCons (tC (.int 3)) (tCons (tC (.int 3)) (tCons (tC (.int 1)) (tCons (tC (.int 2)) tNil)))))) (tCall (sp__law_mix K) [] E0 (tCons (tVar 1) (tCons (tC (.int 3)) (tCons (tC (.int 5)) tNil))))) (gName 5))
  (tSeq (tAsg (tTup (tCons (tVar 3) (tCons (tVar 4) (tCons (tCall (sp__law_mix K) [] E0 (tCons (tVar 1) (tCons (tC (.int 4)) (tCons (tC (.int 256)) tNil)))) (tCons (tVar 5) tNil))))) (gName 6))
  (tSeq (tAsg (tCall (sp__law_due K) [] E0 (tCons (tVar 2) (tCons (tVar 6) tNil))) (gName 7))
  (tSeq (tIfS (tTest (tOp (rNeX K) (tCall (sp__law_shown K) [] E0 (tCons (tVar 2) (tCons (tVar 6) tNil))) (tVar 7))) (tRet (tC (.bl false))) tNext)
  (tSeq (tPar 8 9 (tCons (tCall (sp__law_mix K) [] E0 (tCons (tVar 1) (tCons (tC (.int 5)) (tCons (tC (.int 8)) tNil)))) (tCons (tCall (sp__law_mix K) [] E0 (tCons (tVar 1) (tCons (tC (.int 6)) (tCons (tC (.int 8)) tNil)))) tNil)))
  (tSeq (tIfS (tTest (tOp (rNeX K) (tCall (sp__law_shown K) [] E0 (tCons (tCall (sp__law_map K) [] E0 (tCons (tVar 2) (tCons (tVar 8) (tCons (tVar 9) tNil)))) (tCons (tTup (tCons (tOp (rI (fun _ j => 0 < j) fun i j => .int (i % j)) (tCB (rInt1) (tCons (tOp (rI0 fun i j => .int (i - j)) (tOp (rI0 fun i j => .int (i + j)) (tVar 3) (tC (.int 256))) (tOp (rI CMul fun i j => .int (i * j)) (tC (.int 8)) (tVar 8))) tNil)) (tC (.int 256))) (tCons (tOp (rI (fun _ j => 0 < j) fun i j => .int (i % j)) (tCB (rInt1) (tCons (tOp (rI0 fun i j => .int (i - j)) (tOp (rI0 fun i j => .int (i + j)) (tVar 4) (tC (.int 256))) (tOp (rI CMul fun i j => .int (i * j)) (tC (.int 8)) (tVar 9))) tNil)) (tC (.int 256))) (tCons (tC (.int 0)) (tCons (tVar 5) tNil))))) tNil))) (tVar 7))) (tRet (tC (.bl false))) tNext)
  (tSeq (tAsg (tVar 2) (gName 10))
  (tSeq (tFor (iRng1 (tCons (tC (.int 8)) tNil)) (gName 11) (tIfS (tTest (tOp (rI0 fun i j => .bl (decide (j < i))) (tCall (sp__law_mix K) [] E0 (tCons (tVar 1) (tCons (tOp (rI0 fun i j => .int (i + j)) (tC (.int 8)) (tVar 11)) (tCons (tC (.int 4)) tNil)))) (tC (.int 0)))) (tAsg (tCall (sp__law_turned K) [] E0 (tCons (tVar 10) (tCons (tVar 11) (tCons (tOp (rI0 fun i j => .int (i + j)) (tC (.int 6)) (tCall (sp__law_mix K) [] E0 (tCons (tVar 1) (tCons (tOp (rI0 fun i j => .int (i + j)) (tC (.int 8)) (tVar 11)) (tCons (tC (.int 2)) tNil))))) tNil)))) (gName 10)) tNext))
  (tSeq (tIfS (tTest (tOp (rNeX K) (tCall (sp__law_shown K) [] E0 (tCons (tVar 10) (tCons (tVar 6) tNil))) (tVar 7))) (tRet (tC (.bl false))) tNext)
  (tSeq (tAsg (tOp (rIxT K) (tCall (sp__law_shown K) [] E0 (tCons (tCall (sp__law_less K) [] E0 (tCons (tVar 2) (tCons (tC (.int 3)) tNil))) (tCons (tTup (tCons (tOp (rI (fun _ j => 0 < j) fun i j => .int (i % j)) (tCB (rInt1) (tCons (tOp (rI0 fun i j => .int (i + j)) (tVar 3) (tC (.int 1))) tNil)) (tC (.int 256))) (tCons (tVar 4) (tCons (tC (.int 0)) (tCons (tVar 5) tNil))))) tNil))) (tC (.int 0))) (gName 12))
  (tSeq (tIfS (tTest (tOp (rNeD K) (tLc (iRng1 (tCons (tC (.int 768)) tNil)) (gName 11) (tTest (tOp (rI0 fun i j => .bl (decide (i < j))) (tOp (rI (fun _ j => 0 < j) fun i j => .int (i % j)) (tCB (rInt1) (tCons (tVar 11) tNil)) (tC (.int 32))) (tC (.int 31)))) (tOp (rIxL K) (tVar 12) (tVar 11)) [11]) (tLc (iRng1 (tCons (tC (.int 768)) tNil)) (gName 11) (tTest (tOp (rI0 fun i j => .bl (decide (i < j))) (tOp (rI (fun _ j => 0 < j) fun i j => .int (i % j)) (tCB (rInt1) (tCons (tVar 11) tNil)) (tC (.int 32))) (tC (.int 31)))) (tOp (rIxL K) (tOp (rIxT K) (tVar 7) (tC (.int 0))) (tOp (rI0 fun i j => .int (i + j)) (tVar 11) (tC (.int 1)))) [11]))) (tRet (tC (.bl false))) tNext)
  (tSeq (tIfS (tTest (tOp (rNeD K) (tSl (rSlL K) (tOp (rIxT K) (tCall (sp__law_shown K) [] E0 (tCons (tCall (sp__law_less K) [] E0 (tCons (tVar 2) (tCons (tC (.int 0)) tNil))) (tCons (tTup (tCons (tVar 3) (tCons (tOp (rI (fun _ j => 0 < j) fun i j => .int (i % j)) (tCB (rInt1) (tCons (tOp (rI0 fun i j => .int (i + j)) (tVar 4) (tC (.int 1))) tNil)) (tC (.int 256))) (tCons (tC (.int 0)) (tCons (tVar 5) tNil))))) tNil))) (tC (.int 0))) tNoPart (tPart (tC (.int 736)))) (tSl (rSlL K) (tOp (rIxT K) (tVar 7) (tC (.int 0))) (tPart (tC (.int 32))) tNoPart))) (tRet (tC (.bl false))) tNext)
  (tSeq (tAsg (tOp (rCat) (tOp (rCat) (tSl (rSlL K) (tVar 2) tNoPart (tPart (tC (.int 96)))) (tLc (iList K (tSl (rSlL K) (tVar 2) (tPart (tC (.int 96))) (tPart (tC (.int 128))))) (gName 17) tYes (tOp (rI0 fun i j => .int (i - j)) (tC (.int 255)) (tVar 17)) [17])) (tSl (rSlL K) (tVar 2) (tPart (tC (.int 128))) tNoPart)) (gName 10))
  (tSeq (tIfS (tTest (tOp (rNeD K) (tOp (rIxT K) (tCall (sp__law_shown K) [] E0 (tCons (tVar 10) (tCons (tVar 6) tNil))) (tC (.int 0))) (tLc (iList K (tOp (rIxT K) (tVar 7) (tC (.int 0)))) (gName 18) tYes (tOp (rI0 fun i j => .int (i - j)) (tC (.int 63)) (tVar 18)) [18]))) (tRet (tC (.bl false))) tNext)
  (tSeq (tFor (iRng1 (tCons (tC (.int 6)) tNil)) (gName 13) (tSeq (tPar 14 15 (tCons (tCall (sp__law_mix K) [] E0 (tCons (tVar 1) (tCons (tOp (rI0 fun i j => .int (i + j)) (tC (.int 900)) (tOp (rI CMul fun i j => .int (i * j)) (tC (.int 2)) (tVar 13))) (tCons (tC (.int 24)) tNil)))) (tCons (tCall (sp__law_mix K) [] E0 (tCons (tVar 1) (tCons (tOp (rI0 fun i j => .int (i + j)) (tC (.int 901)) (tOp (rI CMul fun i j => .int (i * j)) (tC (.int 2)) (tVar 13))) (tCons (tC (.int 32)) tNil)))) tNil)))
  (tSeq (tAsg (tOp (rIxT K) (tCall (sp_movers_at K) [] E0 (tCons (tVar 2) (tCons (tVar 6) (tCons (tVar 14) tNil)))) (tC (.int 0))) (gName 16))
  (tIfS (tTest (tOp (rNe) (tOp (rIxT K) (tCall (sp_dot_at K) [] E0 (tCons (tVar 2) (tCons (tVar 6) (tCons (tVar 16) (tCons (tVar 15) (tCons (tVar 14) tNil)))))) (tC (.int 0))) (tOp (rIxL K) (tOp (rIxT K) (tVar 7) (tC (.int 0))) (tOp (rI0 fun i j => .int (i + j)) (tOp (rI CMul fun i j => .int (i * j)) (tC (.int 32)) (tVar 14)) (tVar 15))))) (tRet (tC (.bl false))) tNext))))
  (tRet (tC (.bl true))))))))))))))))))))
end K62
namespace K62
open PySem PySem.Spec PyProof.Rows L2 StX Kx
local macro_rules | `(tactic| walk_at "s") => `(tactic| first
  | with_reducible refine xSeq ?_ | with_reducible refine xAsg ?_ | with_reducible refine xNm ?_ | with_reducible refine xDrop ?_ | with_reducible refine xRet ?_ | with_reducible refine xRetN ?_ | with_reducible refine xNext ?_ | with_reducible refine xIfS ?_
  | ((with_reducible refine xVar (v := ?v) ?h ?q); (case h => exact rfl)) | with_reducible refine xC ?_ | with_reducible refine xOp ?_ | with_reducible refine xUn ?_ | with_reducible refine xI0 ?_ | with_reducible refine xU ?_
  | with_reducible refine xEqI ?_ | with_reducible refine xNeI ?_ | with_reducible refine xEqB ?_ | with_reducible refine xNeB ?_ | with_reducible refine xEqS ?_ | with_reducible refine xNeS ?_ | with_reducible refine xIsN ?_ | with_reducible refine xNotN ?_
  | with_reducible refine xChain ?_ | with_reducible refine xIf ?_ | with_reducible refine xAndV ?_ | with_reducible refine xOrV ?_ | with_reducible refine xNotV ?_
  | with_reducible refine xTest ?_ | with_reducible refine xB ?_ | with_reducible refine xAnd ?_ | with_reducible refine xOr ?_ | with_reducible refine xNot ?_ | with_reducible refine xYes ?_
  | with_reducible refine xNil ?_ | with_reducible refine xCons ?_ | with_reducible refine xTup ?_ | with_reducible refine xLst ?_ | with_reducible refine xCB ?_ | with_reducible refine xInt1I ?_ | with_reducible refine xInt1B ?_ | with_reducible refine xAbs ?_ | with_reducible refine xMin2 ?_ | with_reducible refine xMax2 ?_
  | with_reducible refine xFld ?_ | with_reducible refine xFldS ?_ | with_reducible refine xDG ?_ | with_reducible refine xDP ?_ | with_reducible refine xCall ?_ | with_reducible refine yMeth ?_ | with_reducible refine xBM ?_ | with_reducible refine xBM0 ?_
  | with_reducible refine xPar ?_ | with_reducible refine xPar3 ?_ | with_reducible refine yPar ?_ | with_reducible refine yPar3 ?_ | with_reducible refine xGNil ?_ | with_reducible refine xGCons ?_ | with_reducible refine xGSub ?_
  | with_reducible refine xSl ?_ | with_reducible refine xNoPart ?_ | with_reducible refine xPart ?_ | with_reducible refine xPI ?_ | with_reducible refine xStar ?_ | with_reducible refine xIn ?_ | with_reducible refine xNotIn ?_ | with_reducible refine xGF ?_
  | with_reducible refine xBl ?_ | with_reducible refine xPairs ?_ | with_reducible refine xPairs0 ?_)
local macro_rules | `(tactic| walk_at "h") => `(tactic| first | assumption | exact upd_same | exact same_upd (by assumption) _ _ (by walk_at "h"))
local macro_rules | `(tactic| walk_at "s") => `(tactic| first
  | ((with_reducible refine xI ?c ?q); (case c => first | (show (0 : Int) < _; decide) | exact ⟨by decide, by decide⟩ | exact .inl ⟨by decide, by decide⟩ | exact .inr ⟨by decide, by decide⟩)))
local macro_rules | `(tactic| walk_at "t") => `(tactic| ((fail_if_success (with_reducible refine xSeq ?_)); walk_at "s"))
theorem paired_snoc {α β : Type} {F : α → β → Prop} : ∀ {xs : List α} {ys : List β} {a : α} {b : β}, Paired F xs ys → F a b → Paired F (xs ++ [a]) (ys ++ [b])
  | [], [], _, _, .nil, h => .cons h .nil
  | _ :: _, _ :: _, _, _, .cons r t, h => .cons r (paired_snoc t h)
theorem paired_len {α β : Type} {F : α → β → Prop} : ∀ {xs : List α} {ys : List β}, Paired F xs ys → xs.length = ys.length
  | _, _, .nil => rfl
  | _, _, .cons _ t => congrArg (· + 1) (paired_len t)
theorem paired_at {α β : Type} {F : α → β → Prop} : ∀ {xs : List α} {ys : List β} {i : Nat} {y : β}, Paired F xs ys → ys[i]? = some y → ∃ x, xs[i]? = some x ∧ F x y
  | [], [], _, _, .nil, h => by cases h
  | x :: _, y :: _, 0, z, .cons r t, h => ⟨x, rfl, by cases h; exact r⟩
  | x :: xs, y :: ys, i + 1, z, .cons r t, h => paired_at (i := i) t h
theorem paired_fst {α β : Type} {F : α → β → Prop} : ∀ {xs : List α} {ys : List β} {i : Nat} {x : α}, Paired F xs ys → xs[i]? = some x → ∃ y, ys[i]? = some y ∧ F x y
  | [], [], _, _, .nil, h => by cases h
  | x :: _, y :: _, 0, z, .cons r t, h => ⟨y, rfl, by cases h; exact r⟩
  | x :: xs, y :: ys, i + 1, z, .cons r t, h => paired_fst (i := i) t h
theorem paired_app {α β : Type} {F : α → β → Prop} : ∀ {xs us : List α} {ys vs : List β}, Paired F xs ys → Paired F us vs → Paired F (xs ++ us) (ys ++ vs)
  | [], _, [], _, .nil, h => h
  | _ :: _, _, _ :: _, _, .cons r t, h => .cons r (paired_app t h)
theorem take_snoc {α : Type} {l : List α} {i : Nat} {x : α} (h : l[i]? = some x) : l.take (i + 1) = l.take i ++ [x] := by
  obtain ⟨hi, e⟩ := List.getElem?_eq_some_iff.mp h
  rw [List.take_succ_eq_append_getElem hi, e]
theorem drop_at {α : Type} {l : List α} {i : Nat} {x : α} (h : l[i]? = some x) : l.drop i = x :: l.drop (i + 1) := by
  obtain ⟨hi, e⟩ := List.getElem?_eq_some_iff.mp h
  rw [List.drop_eq_getElem_cons hi, e]
theorem at_get {s : List Int} {i : Int} (h0 : 0 ≤ i) (h1 : i < s.length) : s[i.toNat]? = some (at_ s i) := by
  have h : i.toNat < s.length := by omega
  unfold at_
  rw [List.getD_eq_getElem?_getD, List.getElem?_eq_getElem h]
  rfl
theorem at_ixL {s : List Int} {i : Int} (h0 : 0 ≤ i) (h1 : i < s.length) : atI (s.map V.int) i = some (.int (at_ s i)) := by
  unfold atI
  rw [List.length_map, ix_nat h0 h1]
  show (s.map V.int)[i.toNat]? = _
  rw [List.getElem?_map, at_get h0 h1]
  rfl
theorem at_ix {s : List Int} {i : Int} (ok : SheetOk s) (h0 : 0 ≤ i) (h1 : i < 1024) : atI (s.map V.int) i = some (.int (at_ s i)) := at_ixL h0 (by rw [ok.1]; exact h1)
theorem at_bd {s : List Int} {i : Int} (ok : SheetOk s) (h0 : 0 ≤ i) (h1 : i < 1024) : 0 ≤ at_ s i ∧ at_ s i < 256 := ok.2 _ (List.mem_of_getElem? (at_get h0 (by rw [ok.1]; exact h1)))
theorem bit_bd (b k : Int) : bitM b k = 0 ∨ bitM b k = 1 := by
  unfold bitM
  omega
theorem pix_bd (s : List Int) (tile row col : Int) : 0 ≤ pixM s tile row col ∧ pixM s tile row col < 4 := by
  unfold pixM
  rcases bit_bd (at_ s (128 + 16 * tile + 2 * row)) (7 - col) with h | h <;> rcases bit_bd (at_ s (128 + 16 * tile + 2 * row + 1)) (7 - col) with h2 | h2 <;> rw [h, h2] <;> decide
theorem pow8 {k : Int} (h0 : 0 ≤ k) (h1 : k < 8) : atI [V.int 1, V.int 2, V.int 4, V.int 8, V.int 16, V.int 32, V.int 64, V.int 128] k = some (.int (2 ^ k.toNat)) ∧ 0 < (2 : Int) ^ k.toNat ∧ (2 : Int) ^ k.toNat < 1073741824 := by
  obtain ⟨n, rfl⟩ : ∃ n : Nat, k = (n : Int) := ⟨k.toNat, by omega⟩
  match n, h1 with
  | 0, _ => exact ⟨rfl, by decide, by decide⟩
  | 1, _ => exact ⟨rfl, by decide, by decide⟩
  | 2, _ => exact ⟨rfl, by decide, by decide⟩
  | 3, _ => exact ⟨rfl, by decide, by decide⟩
  | 4, _ => exact ⟨rfl, by decide, by decide⟩
  | 5, _ => exact ⟨rfl, by decide, by decide⟩
  | 6, _ => exact ⟨rfl, by decide, by decide⟩
  | 7, _ => exact ⟨rfl, by decide, by decide⟩
  | n + 8, h => omega
theorem pure_bit {K : PySem.W.Frag} (TP : Tab K) (vs : List V) (H : Hp) (Q : VK) (E : XK) (h : sp_bit K vs H Q E) : vs.length = 2 ∧ t_bit K { nx := fun _ H' => Q .non H', rt := Q } (start N_bit vs) H := by
  obtain ⟨b, k, rfl, hk, q⟩ := h
  refine ⟨rfl, ?_⟩
  show t_bit K _ [some (.int b), some (.int k)] H
  unfold t_bit
  obtain ⟨e, p0, p1⟩ := pow8 hk.1 hk.2
  repeat walk_at "s"
  refine yIxT (TP H) e ?_
  refine xI ⟨p0, p1⟩ ?_
  repeat walk_at "s"
  exact q
theorem pure_pixel {K : PySem.W.Frag} (vs : List V) (H : Hp) (Q : VK) (E : XK) (h : sp_pixel_in K vs H Q E) : vs.length = 4 ∧ t_pixel_in K { nx := fun _ H' => Q .non H', rt := Q } (start N_pixel_in vs) H := by
  obtain ⟨a, s, tile, row, col, rfl, hS, ok, ht, hr, hc, q⟩ := h
  refine ⟨rfl, ?_⟩
  show t_pixel_in K _ [some (.ref a), some (.int tile), some (.int row), some (.int col), none] H
  unfold t_pixel_in
  repeat walk_at "s"
  refine yIxL hS (at_ix ok (by omega) (by omega)) ?_
  repeat walk_at "s"
  refine ⟨_, _, rfl, ⟨by omega, by omega⟩, ?_⟩
  repeat walk_at "s"
  refine yIxL hS (at_ix ok (by omega) (by omega)) ?_
  repeat walk_at "s"
  refine ⟨_, _, rfl, ⟨by omega, by omega⟩, ?_⟩
  repeat walk_at "s"
  exact q
theorem pure_ground {K : PySem.W.Frag} (vs : List V) (H : Hp) (Q : VK) (E : XK) (h : sp_ground_in K vs H Q E) : vs.length = 4 ∧ t_ground_in K { nx := fun _ H' => Q .non H', rt := Q } (start N_ground_in vs) H := by
  obtain ⟨a, b, s, t, col, line, rfl, hS, ok, hT, q⟩ := h
  refine ⟨rfl, ?_⟩
  show t_ground_in K _ [some (.ref a), some (.ref b), some (.int col), some (.int line), none, none, none, none, none, none, none] H
  unfold t_ground_in
  repeat walk_at "s"
  refine yGT hT rfl ?_
  unfold setV
  repeat walk_at "s"
  refine ⟨_, _, rfl, ⟨by decide, by decide⟩, ?_⟩
  repeat walk_at "s"
  refine iteD (fun h0 => ?_) (fun h0 => ?_)
  · repeat walk_at "s"
    refine ⟨Nat.le_of_ble_eq_true rfl, fun p hp => q p _ ?_⟩
    unfold groundM
    rw [if_pos h0]
    exact .upd hp
  · repeat walk_at "s"
    have hx := Int.emod_nonneg (col + t.r) (b := 64) (by decide)
    have hx2 := Int.emod_lt_of_pos (col + t.r) (b := 64) (by decide)
    have hy := Int.emod_nonneg (line + t.d) (b := 64) (by decide)
    have hy2 := Int.emod_lt_of_pos (line + t.d) (b := 64) (by decide)
    unfold groundM at q
    rw [if_neg h0] at q
    generalize (col + t.r) % 64 = x at *
    generalize (line + t.d) % 64 = y at *
    have hb := at_bd (i := y / 8 * 8 + x / 8) ok (by omega) (by omega)
    refine yIxL hS (at_ix ok (by omega) (by omega)) ?_
    repeat walk_at "s"
    refine ⟨_, _, _, _, _, rfl, hS, ok, ⟨by omega, by omega⟩, ⟨by omega, by omega⟩, ⟨by omega, by omega⟩, ?_⟩
    repeat walk_at "s"
    exact ⟨Nat.le_of_ble_eq_true rfl, fun p hp => q p _ (.upd hp)⟩
theorem pure_column {K : PySem.W.Frag} (vs : List V) (H : Hp) (Q : VK) (E : XK) (h : sp_column_of K vs H Q E) : vs.length = 1 ∧ t_column_of K { nx := fun _ H' => Q .non H', rt := Q } (start N_column_of vs) H := by
  obtain ⟨n, rfl, q⟩ := h
  refine ⟨rfl, ?_⟩
  show t_column_of K _ [some (.int n)] H
  unfold t_column_of
  repeat walk_at "s"
  exact q
theorem pure_line {K : PySem.W.Frag} (vs : List V) (H : Hp) (Q : VK) (E : XK) (h : sp_line_of K vs H Q E) : vs.length = 1 ∧ t_line_of K { nx := fun _ H' => Q .non H', rt := Q } (start N_line_of vs) H := by
  obtain ⟨n, rfl, q⟩ := h
  refine ⟨rfl, ?_⟩
  show t_line_of K _ [some (.int n)] H
  unfold t_line_of
  repeat walk_at "s"
  exact q
theorem pure_mpix {K : PySem.W.Frag} (vs : List V) (H : Hp) (Q : VK) (E : XK) (h : sp_mover_pixel K vs H Q E) : vs.length = 4 ∧ t_mover_pixel K { nx := fun _ H' => Q .non H', rt := Q } (start N_mover_pixel vs) H := by
  obtain ⟨a, b, s, m, col, line, rfl, hS, ok, hM, mo, hc, q⟩ := h
  refine ⟨rfl, ?_⟩
  show t_mover_pixel K _ [some (.ref a), some (.ref b), some (.int col), some (.int line), none, none, none, none, none, none, none] H
  unfold t_mover_pixel
  obtain ⟨m1, m2, m3, m4⟩ := mo
  unfold mpixM at q
  repeat walk_at "s"
  refine yGT hM rfl ?_
  unfold movV
  repeat walk_at "s"
  refine ⟨_, _, rfl, ⟨by decide, by decide⟩, ?_⟩
  repeat walk_at "s"
  refine iteD (fun h6 => ?_) (fun h6 => ?_)
  · rw [if_pos h6] at q
    repeat walk_at "s"
    refine ⟨_, _, rfl, ⟨by decide, by decide⟩, ?_⟩
    repeat walk_at "s"
    refine iteD (fun h7 => ?_) (fun h7 => ?_)
    · rw [if_pos h7] at q
      repeat walk_at "s"
      exact ⟨_, _, _, _, _, rfl, hS, ok, ⟨by omega, by omega⟩, ⟨by omega, by omega⟩, ⟨by omega, by omega⟩, q⟩
    · rw [if_neg h7] at q
      repeat walk_at "s"
      exact ⟨_, _, _, _, _, rfl, hS, ok, ⟨by omega, by omega⟩, ⟨by omega, by omega⟩, ⟨by omega, by omega⟩, q⟩
  · rw [if_neg h6] at q
    repeat walk_at "s"
    refine ⟨_, _, rfl, ⟨by decide, by decide⟩, ?_⟩
    repeat walk_at "s"
    refine iteD (fun h7 => ?_) (fun h7 => ?_)
    · rw [if_pos h7] at q
      repeat walk_at "s"
      exact ⟨_, _, _, _, _, rfl, hS, ok, ⟨by omega, by omega⟩, ⟨by omega, by omega⟩, ⟨by omega, by omega⟩, q⟩
    · rw [if_neg h7] at q
      repeat walk_at "s"
      exact ⟨_, _, _, _, _, rfl, hS, ok, ⟨by omega, by omega⟩, ⟨by omega, by omega⟩, ⟨by omega, by omega⟩, q⟩
theorem showM_drop {s : List Int} {col line : Int} {ms : List Mov} {i : Nat} {m : Mov} (h : ms[i]? = some m) : showM s col line (ms.drop i) = if m.x ≤ col ∧ col < m.x + 8 ∧ mpixM s m col line ≠ 0 then some (m, mpixM s m col line) else showM s col line (ms.drop (i + 1)) := by
  rw [drop_at h]
  rfl
theorem pure_showing {K : PySem.W.Frag} (vs : List V) (H : Hp) (Q : VK) (E : XK) (h : sp_showing K vs H Q E) : vs.length = 4 ∧ t_showing K { nx := fun _ H' => Q .non H', rt := Q } (start N_showing vs) H := by
  obtain ⟨a, mq, s, ms, col, line, rfl, hS, ok, ⟨ts, hq, pr⟩, mo, q0, q1⟩ := h
  refine ⟨rfl, ?_⟩
  show t_showing K _ [some (.ref a), some (.ref mq), some (.int col), some (.int line), none, none] H
  unfold t_showing
  repeat walk_at "s"
  refine xForLU ?_
  repeat walk_at "s"
  refine yForL (SqL.of hq) (fun i σ H' => ∃ u v, σ = [some (.ref a), some (.ref mq), some (.int col), some (.int line), u, v] ∧ H' = H ∧ showM s col line (ms.drop i) = showM s col line ms) ⟨_, _, rfl, rfl, rfl⟩ (fun i σ H' _ ⟨_, _, _, e, _⟩ => by rw [e]; exact SqL.of hq) ?_ ?_
  · rintro i y σ H' hy ⟨u, v, rfl, rfl, hM⟩
    rw [List.getElem?_map] at hy
    cases et : ts[i]? with
    | none =>
      rw [et] at hy
      cases hy
    | some t =>
      rw [et] at hy
      cases hy
      obtain ⟨m, hm, ht⟩ := paired_fst pr et
      have mok := mo m (List.mem_of_getElem? hm)
      rw [showM_drop hm] at hM
      repeat walk_at "s"
      refine yIxT (SqT.of ht) (v := .int m.x) rfl ?_
      repeat walk_at "s"
      refine iteD (fun h1 => ?_) (fun h1 => ?_)
      · repeat walk_at "s"
        refine yIxT (SqT.of ht) (v := .int m.x) rfl ?_
        repeat walk_at "s"
        refine iteD (fun h2 => ?_) (fun h2 => ?_)
        · repeat walk_at "s"
          refine ⟨_, _, _, m, _, _, rfl, hS, ok, SqT.of ht, mok, ⟨h1, h2⟩, ?_⟩
          repeat walk_at "s"
          refine iteDN (fun h3 => ?_) (fun h3 => ?_)
          · rw [if_pos ⟨h1, h2, h3⟩] at hM
            repeat walk_at "s"
            exact ⟨Nat.le_of_ble_eq_true rfl, fun p hp => q1 m _ hM.symm p t _ (.upd hp) ht⟩
          · rw [if_neg fun h => h.2.2 h3] at hM
            repeat walk_at "s"
            exact ⟨_, _, rfl, rfl, hM⟩
        · rw [if_neg fun h => h2 h.2.1] at hM
          repeat walk_at "s"
          exact ⟨_, _, rfl, rfl, hM⟩
      · rw [if_neg fun h => h1 h.1] at hM
        repeat walk_at "s"
        refine iteF ?_
        repeat walk_at "s"
        exact ⟨_, _, rfl, rfl, hM⟩
  · rintro σ H' ⟨u, v, rfl, rfl, hM⟩
    repeat walk_at "s"
    rw [List.length_map, paired_len pr, List.drop_length] at hM
    exact q0 hM.symm
end K62
namespace K62
open PySem PySem.Spec PyProof.Rows L2 StX Kx
local macro_rules | `(tactic| walk_at "s") => `(tactic| first
  | with_reducible refine xSeq ?_ | with_reducible refine xAsg ?_ | with_reducible refine xNm ?_ | with_reducible refine xDrop ?_ | with_reducible refine xRet ?_ | with_reducible refine xRetN ?_ | with_reducible refine xNext ?_ | with_reducible refine xIfS ?_
  | ((with_reducible refine xVar (v := ?v) ?h ?q); (case h => exact rfl)) | with_reducible refine xC ?_ | with_reducible refine xOp ?_ | with_reducible refine xUn ?_ | with_reducible refine xI0 ?_ | with_reducible refine xU ?_
  | with_reducible refine xEqI ?_ | with_reducible refine xNeI ?_ | with_reducible refine xEqB ?_ | with_reducible refine xNeB ?_ | with_reducible refine xEqS ?_ | with_reducible refine xNeS ?_ | with_reducible refine xIsN ?_ | with_reducible refine xNotN ?_
  | with_reducible refine xChain ?_ | with_reducible refine xIf ?_ | with_reducible refine xAndV ?_ | with_reducible refine xOrV ?_ | with_reducible refine xNotV ?_
  | with_reducible refine xTest ?_ | with_reducible refine xB ?_ | with_reducible refine xAnd ?_ | with_reducible refine xOr ?_ | with_reducible refine xNot ?_ | with_reducible refine xYes ?_
  | with_reducible refine xNil ?_ | with_reducible refine xCons ?_ | with_reducible refine xTup ?_ | with_reducible refine xLst ?_ | with_reducible refine xCB ?_ | with_reducible refine xInt1I ?_ | with_reducible refine xInt1B ?_ | with_reducible refine xAbs ?_ | with_reducible refine xMin2 ?_ | with_reducible refine xMax2 ?_
  | with_reducible refine xFld ?_ | with_reducible refine xFldS ?_ | with_reducible refine xDG ?_ | with_reducible refine xDP ?_ | with_reducible refine xCall ?_ | with_reducible refine yMeth ?_ | with_reducible refine xBM ?_ | with_reducible refine xBM0 ?_
  | with_reducible refine xPar ?_ | with_reducible refine xPar3 ?_ | with_reducible refine yPar ?_ | with_reducible refine yPar3 ?_ | with_reducible refine xGNil ?_ | with_reducible refine xGCons ?_ | with_reducible refine xGSub ?_
  | with_reducible refine xSl ?_ | with_reducible refine xNoPart ?_ | with_reducible refine xPart ?_ | with_reducible refine xPI ?_ | with_reducible refine xStar ?_ | with_reducible refine xIn ?_ | with_reducible refine xNotIn ?_ | with_reducible refine xGF ?_
  | with_reducible refine xBl ?_ | with_reducible refine xPairs ?_ | with_reducible refine xPairs0 ?_)
local macro_rules | `(tactic| walk_at "h") => `(tactic| first | assumption | exact upd_same | exact same_upd (by assumption) _ _ (by walk_at "h"))
local macro_rules | `(tactic| walk_at "s") => `(tactic| first
  | ((with_reducible refine xI ?c ?q); (case c => first | (show (0 : Int) < _; decide) | exact ⟨by decide, by decide⟩ | exact .inl ⟨by decide, by decide⟩ | exact .inr ⟨by decide, by decide⟩)))
local macro_rules | `(tactic| walk_at "t") => `(tactic| ((fail_if_success (with_reducible refine xSeq ?_)); walk_at "s"))
theorem new_two {H H' : Hp} {d : Addr} {ds : List Int} {x y : Int} (N : New H d (.lst (ds.map V.int)) H') :
    New H d (.lst ((ds ++ [x] ++ [y]).map V.int)) (upd (upd H' d (.lst (ds.map V.int ++ [.int x]))) d (.lst (ds.map V.int ++ [.int x] ++ [.int y]))) := by
  rw [List.map_append, List.map_append]
  exact N.put.put
theorem pure_draws {K : PySem.W.Frag} (vs : List V) (H : Hp) (Q : VK) (E : XK) (h : sp__law_draws K vs H Q E) :
    vs.length = 1 ∧ t__law_draws K { nx := fun _ H' => Q .non H', rt := Q } (start N__law_draws vs) H := by
  obtain ⟨a, ns, rfl, hS, hlen, q⟩ := h
  refine ⟨rfl, ?_⟩
  show t__law_draws K _ [some (.ref a), none, none, none, none, none] H
  unfold t__law_draws
  repeat walk_at "s"
  refine ⟨Nat.zero_le _, fun d nd => ?_⟩
  repeat walk_at "s"
  refine xForR1U ?_
  repeat walk_at "s"
  refine xLenL ((same_upd nd).seq hS) ?_
  rw [List.length_map]
  repeat walk_at "s"
  refine yForR1 (n := ns.length) (by split <;> omega) (by omega) (fun i σ H' => ∃ ds u v w z, σ = [some (.ref a), some (.ref d), u, v, w, z] ∧ New H d (.lst (ds.map V.int)) H' ∧ ds.length ≤ 60 * i ∧ ∀ x ∈ ds, 0 ≤ x ∧ x < 65536)
    ⟨[], none, none, none, none, rfl, .upd nd, Nat.zero_le _, by simp⟩ ?_ ?_
  · rintro i σ H' hi ⟨ds, u, v, w, z, rfl, N, hl, hb⟩
    repeat walk_at "s"
    refine yIxL (N.2.1.seq hS) (atI_nat (v := .int ns[i]) (by rw [List.getElem?_map, List.getElem?_eq_getElem hi]; rfl)) ?_
    repeat walk_at "s"
    generalize hr : (if ns[i] < 0 then -ns[i] else ns[i]) = r
    have hr0 : 0 ≤ r := by
      rw [← hr]
      split <;> omega
    refine iteD (fun hbig => ?_) (fun hbig => ?_)
    · refine xForR1U ?_
      repeat walk_at "s"
      refine yForR1 (n := 60) rfl (by decide) (fun j σ H' => ∃ ds u v w z, σ = [some (.ref a), some (.ref d), u, some (.int v), w, z] ∧ New H d (.lst (ds.map V.int)) H' ∧ ds.length ≤ 60 * i + j ∧ ∀ x ∈ ds, 0 ≤ x ∧ x < 65536)
        ⟨ds, _, r, _, _, rfl, N, by omega, hb⟩ ?_ ?_
      · rintro j σ H' hj ⟨ds, u, v, w, z, rfl, N, hl, hb⟩
        repeat walk_at "s"
        refine iteD (fun hv => ?_) (fun hv => ?_)
        · repeat walk_at "s"
          refine ⟨tyL N.2.2, ?_⟩
          repeat walk_at "s"
          refine yAppend N.2.2 (by rw [List.length_map]; exact Nat.lt_of_le_of_lt (show ds.length ≤ 100000 by omega) (by decide)) ?_
          repeat walk_at "s"
          refine ⟨ds ++ [v % 65536], _, _, _, _, rfl, ?_, by simp; omega, fun x hx => ?_⟩
          · rw [List.map_append]
            exact N.put
          · rcases List.mem_append.mp hx with hx | hx
            · exact hb x hx
            · have e := List.mem_singleton.mp hx
              omega
        · repeat walk_at "s"
          exact ⟨ds, _, _, _, _, rfl, N, by omega, hb⟩
      · rintro σ H' ⟨ds, u, v, w, z, rfl, N, hl, hb⟩
        exact ⟨ds, _, _, _, _, rfl, N, by omega, hb⟩
    · repeat walk_at "s"
      refine ⟨tyL N.2.2, ?_⟩
      repeat walk_at "s"
      refine yAppend N.2.2 (by rw [List.length_map]; exact Nat.lt_of_le_of_lt (show ds.length ≤ 100000 by omega) (by decide)) ?_
      repeat walk_at "s"
      refine ⟨tyL upd_same, ?_⟩
      repeat walk_at "s"
      refine yAppend upd_same (by rw [List.length_append, List.length_map]; exact Nat.lt_of_le_of_lt (show ds.length + 1 ≤ 100000 by omega) (by decide)) ?_
      refine ⟨_, _, _, _, _, rfl, new_two N, ?_, ?_⟩
      · simp
        omega
      · intro x hx
        rcases List.mem_append.mp hx with hx | hx
        · rcases List.mem_append.mp hx with hx | hx
          · exact hb x hx
          · have e := List.mem_singleton.mp hx
            omega
        · have e := List.mem_singleton.mp hx
          omega
  · rintro σ H' ⟨ds, u, v, w, z, rfl, N, hl, hb⟩
    repeat walk_at "s"
    exact q d ds H' ⟨by omega, hb⟩ N
theorem pure_mix {K : PySem.W.Frag} (vs : List V) (H : Hp) (Q : VK) (E : XK) (h : sp__law_mix K vs H Q E) :
    vs.length = 3 ∧ t__law_mix K { nx := fun _ H' => Q .non H', rt := Q } (start N__law_mix vs) H := by
  obtain ⟨a, ds, k, many, rfl, hS, hD, hk, hm, q⟩ := h
  refine ⟨rfl, ?_⟩
  show t__law_mix K _ [some (.ref a), some (.int k), some (.int many), none] H
  unfold t__law_mix
  have fin : ∀ x : Int, Q (.int (x % many)) H := fun x => q _ (Int.emod_nonneg _ (by omega)) (Int.emod_lt_of_pos _ hm)
  repeat walk_at "s"
  refine xLenL hS ?_
  repeat walk_at "s"
  refine iteD (fun hl => ?_) (fun hl => ?_)
  · rw [List.length_map] at hl
    repeat walk_at "s"
    refine xLenL hS ?_
    rw [List.length_map]
    refine xI hl ?_
    have h0 := Int.emod_nonneg k (show (ds.length : Int) ≠ 0 by omega)
    have h1 := Int.emod_lt_of_pos k hl
    obtain ⟨j, ej⟩ : ∃ j : Nat, k % (ds.length : Int) = (j : Int) := ⟨(k % (ds.length : Int)).toNat, by omega⟩
    have hj : j < ds.length := by omega
    refine yIxL hS (at_of ej (v := .int ds[j]) (by rw [List.getElem?_map, List.getElem?_eq_getElem hj]; rfl)) ?_
    repeat walk_at "s"
    refine xLenL hS ?_
    repeat walk_at "s"
    refine iteD (fun _ => ?_) (fun _ => ?_)
    · repeat walk_at "s"
      refine xI hm ?_
      exact fin _
    · repeat walk_at "s"
      refine xI hm ?_
      exact fin _
  · repeat walk_at "s"
    refine xLenL hS ?_
    repeat walk_at "s"
    refine iteD (fun _ => ?_) (fun _ => ?_)
    · repeat walk_at "s"
      refine xI hm ?_
      exact fin _
    · repeat walk_at "s"
      refine xI hm ?_
      exact fin _
end K62
namespace K62
open PySem PySem.Spec PyProof.Rows L2 StX Kx
local macro_rules | `(tactic| walk_at "s") => `(tactic| first
  | with_reducible refine xSeq ?_ | with_reducible refine xAsg ?_ | with_reducible refine xNm ?_ | with_reducible refine xDrop ?_ | with_reducible refine xRet ?_ | with_reducible refine xRetN ?_ | with_reducible refine xNext ?_ | with_reducible refine xIfS ?_
  | ((with_reducible refine xVar (v := ?v) ?h ?q); (case h => exact rfl)) | with_reducible refine xC ?_ | with_reducible refine xOp ?_ | with_reducible refine xUn ?_ | with_reducible refine xI0 ?_ | with_reducible refine xU ?_
  | with_reducible refine xEqI ?_ | with_reducible refine xNeI ?_ | with_reducible refine xEqB ?_ | with_reducible refine xNeB ?_ | with_reducible refine xEqS ?_ | with_reducible refine xNeS ?_ | with_reducible refine xIsN ?_ | with_reducible refine xNotN ?_
  | with_reducible refine xChain ?_ | with_reducible refine xIf ?_ | with_reducible refine xAndV ?_ | with_reducible refine xOrV ?_ | with_reducible refine xNotV ?_
  | with_reducible refine xTest ?_ | with_reducible refine xB ?_ | with_reducible refine xAnd ?_ | with_reducible refine xOr ?_ | with_reducible refine xNot ?_ | with_reducible refine xYes ?_
  | with_reducible refine xNil ?_ | with_reducible refine xCons ?_ | with_reducible refine xTup ?_ | with_reducible refine xLst ?_ | with_reducible refine xCB ?_ | with_reducible refine xInt1I ?_ | with_reducible refine xInt1B ?_ | with_reducible refine xAbs ?_ | with_reducible refine xMin2 ?_ | with_reducible refine xMax2 ?_
  | with_reducible refine xFld ?_ | with_reducible refine xFldS ?_ | with_reducible refine xDG ?_ | with_reducible refine xDP ?_ | with_reducible refine xCall ?_ | with_reducible refine yMeth ?_ | with_reducible refine xBM ?_ | with_reducible refine xBM0 ?_
  | with_reducible refine xPar ?_ | with_reducible refine xPar3 ?_ | with_reducible refine yPar ?_ | with_reducible refine yPar3 ?_ | with_reducible refine xGNil ?_ | with_reducible refine xGCons ?_ | with_reducible refine xGSub ?_
  | with_reducible refine xSl ?_ | with_reducible refine xNoPart ?_ | with_reducible refine xPart ?_ | with_reducible refine xPI ?_ | with_reducible refine xStar ?_ | with_reducible refine xIn ?_ | with_reducible refine xNotIn ?_ | with_reducible refine xGF ?_
  | with_reducible refine xBl ?_ | with_reducible refine xPairs ?_ | with_reducible refine xPairs0 ?_)
local macro_rules | `(tactic| walk_at "h") => `(tactic| first | assumption | exact upd_same | exact same_upd (by assumption) _ _ (by walk_at "h"))
local macro_rules | `(tactic| walk_at "s") => `(tactic| first
  | ((with_reducible refine xI ?c ?q); (case c => first | (show (0 : Int) < _; decide) | exact ⟨by decide, by decide⟩ | exact .inl ⟨by decide, by decide⟩ | exact .inr ⟨by decide, by decide⟩)))
local macro_rules | `(tactic| walk_at "t") => `(tactic| ((fail_if_success (with_reducible refine xSeq ?_)); walk_at "s"))
theorem sIx_in {n d : Nat} {i : Int} (h0 : 0 ≤ i) (h1 : i ≤ n) : HT.sIx n d (some i) = i.toNat := by
  unfold HT.sIx
  first
    | (simp only; split <;> (try split) <;> omega)
    | omega
theorem cut_in {xs : List V} {lo hi : Int} (h0 : 0 ≤ lo) (h1 : lo ≤ hi) (h2 : hi ≤ xs.length) : cutV xs (some lo) (some hi) = (xs.drop lo.toNat).take (hi.toNat - lo.toNat) := by
  unfold cutV
  rw [sIx_in h0 (by omega), sIx_in (by omega) h2]
theorem cut_to {xs : List V} {hi : Int} (h1 : 0 ≤ hi) : cutV xs none (some hi) = xs.take hi.toNat := by
  by_cases h : hi ≤ xs.length
  · unfold cutV
    rw [sIx_in h1 h]
    show (xs.drop 0).take (hi.toNat - 0) = _
    rw [List.drop_zero, Nat.sub_zero]
  · unfold cutV
    have e : HT.sIx xs.length xs.length (some hi) = xs.length := by
      unfold HT.sIx
      simp only
      split <;> (try split) <;> omega
    rw [e]
    show (xs.drop 0).take (xs.length - 0) = _
    rw [List.drop_zero, Nat.sub_zero, List.take_length, List.take_of_length_le (by omega)]
theorem cut_from {xs : List V} {lo : Int} (h0 : 0 ≤ lo) (h1 : lo ≤ xs.length) : cutV xs (some lo) none = xs.drop lo.toNat := by
  unfold cutV
  rw [sIx_in h0 h1]
  show (xs.drop lo.toNat).take (xs.length - lo.toNat) = _
  rw [List.take_of_length_le (by rw [List.length_drop]; exact Nat.le_refl _)]
theorem cut4 {s : List Int} {i : Int} (ok : SheetOk s) (h0 : 0 ≤ i) (h1 : i + 4 ≤ 1024) : cutV (s.map V.int) (some i) (some (i + 4)) = [.int (at_ s i), .int (at_ s (i + 1)), .int (at_ s (i + 2)), .int (at_ s (i + 3))] := by
  have hl : s.length = 1024 := ok.1
  rw [cut_in h0 (by omega) (by rw [List.length_map, hl]; exact h1), ← List.map_drop, ← List.map_take]
  have e : (i + 4).toNat - i.toNat = 4 := by omega
  have g0 := at_get (s := s) (i := i) h0 (by omega)
  have g1 := at_get (s := s) (i := i + 1) (by omega) (by omega)
  have g2 := at_get (s := s) (i := i + 2) (by omega) (by omega)
  have g3 := at_get (s := s) (i := i + 3) (by omega) (by omega)
  rw [show (i + 1).toNat = i.toNat + 1 from by omega] at g1
  rw [show (i + 2).toNat = i.toNat + 1 + 1 from by omega] at g2
  rw [show (i + 3).toNat = i.toNat + 1 + 1 + 1 from by omega] at g3
  rw [e, drop_at g0, drop_at g1, drop_at g2, drop_at g3]
  rfl
theorem pure_check {K : PySem.W.Frag} (vs : List V) (H : Hp) (Q : VK) (E : XK) (h : sp_check_sheet K vs H Q E) : vs.length = 1 ∧ t_check_sheet K { nx := fun _ H' => Q .non H', rt := Q } (start N_check_sheet vs) H := by
  obtain ⟨a, s, rfl, hS, ok, q⟩ := h
  refine ⟨rfl, ?_⟩
  show t_check_sheet K _ [some (.ref a), none] H
  unfold t_check_sheet
  have hl : s.length = 1024 := ok.1
  repeat walk_at "s"
  refine xLenL hS ?_
  repeat walk_at "s"
  refine iteDN (fun h => absurd (by rw [List.length_map, hl]; rfl) h) (fun _ => ?_)
  repeat walk_at "s"
  refine xLcL ?_
  repeat walk_at "s"
  refine yLcL hS (fun D i H' => Same H H' ∧ H D = none ∧ H' D = some (.lst ((List.replicate i true).map V.bl))) (fun D hD => ⟨same_upd hD, hD, upd_same⟩) (fun D i H' _ h => h.1.seq hS) ?_ ?_
  · rintro D i x H' hx ⟨s1, nD, hD⟩
    rw [List.getElem?_map] at hx
    cases es : s[i]? with
    | none =>
      rw [es] at hx
      cases hx
    | some b =>
      rw [es] at hx
      cases hx
      have hb := ok.2 b (List.mem_of_getElem? es)
      have hi := (List.getElem?_eq_some_iff.mp es).1
      refine xNm (yTurn rfl ?_)
      repeat walk_at "s"
      refine iteD (fun _ => ?_) (fun h => absurd hb.1 h)
      repeat walk_at "s"
      have e : decide (b ≤ 255) = true := decide_eq_true (by omega)
      rw [e]
      refine ⟨_, hD, ?_, fun c o eb => ?_, nD, ?_⟩
      · rw [List.length_map, List.length_replicate]
        exact Nat.lt_of_lt_of_le hi (by rw [hl]; decide)
      · rw [upd_ne (ne_of_none eb nD)]
        exact s1 _ _ eb
      · rw [List.replicate_succ', List.map_append]
        exact upd_same
  · rintro D H' nD ⟨s1, _, hD⟩
    repeat walk_at "s"
    refine xAll (SqL.of hD) ?_
    have e : (List.replicate (s.map V.int).length true).all id = true := by simp
    rw [e]
    repeat walk_at "s"
    refine iteF ?_
    repeat walk_at "s"
    exact q H' s1
theorem listM_succ (s : List Int) (line : Int) (n : Nat) : listM s line (n + 1) = listM s line n ++ if onB s line n = true then [movM s n] else [] := by
  unfold listM
  rw [List.range_succ, List.filter_append, List.map_append]
  congr 1
  by_cases h : onB s line n = true
  · rw [if_pos h]
    simp [List.filter, h]
  · rw [if_neg h]
    simp [List.filter, h]
theorem listM_len (s : List Int) (line : Int) : ∀ n, (listM s line n).length ≤ n
  | 0 => Nat.le_refl _
  | n + 1 => by
    rw [listM_succ, List.length_append]
    have := listM_len s line n
    split
    · simp only [List.length_cons, List.length_nil]
      omega
    · simp only [List.length_nil]
      omega
theorem paired_take {α β : Type} {F : α → β → Prop} : ∀ {xs : List α} {ys : List β} (n : Nat), Paired F xs ys → Paired F (xs.take n) (ys.take n)
  | _, _, 0, _ => by
    rw [List.take_zero, List.take_zero]
    exact .nil
  | [], [], n + 1, .nil => by
    rw [List.take_nil, List.take_nil]
    exact .nil
  | x :: xs, y :: ys, n + 1, .cons r t => .cons r (paired_take n t)
theorem pure_movers {K : PySem.W.Frag} (vs : List V) (H : Hp) (Q : VK) (E : XK) (h : sp_movers_in K vs H Q E) : vs.length = 3 ∧ t_movers_in K { nx := fun _ H' => Q .non H', rt := Q } (start N_movers_in vs) H := by
  obtain ⟨a, b, s, t, line, rfl, hS, ok, hT, h0, q⟩ := h
  refine ⟨rfl, ?_⟩
  show t_movers_in K _ [some (.ref a), some (.ref b), some (.int line), none, none, none] H
  unfold t_movers_in
  have early : bitM t.on 1 = 0 ∨ 24 ≤ line → (fun D => tRet (tTup (tCons (tLst tNil) (tCons (tC (.bl false)) tNil))) D [some (.ref a), some (.ref b), some (.int line), none, none, none] H) { nx := fun _ H' => Q .non H', rt := Q } := by
    intro he
    show tRet _ _ _ _
    repeat walk_at "s"
    refine ⟨Nat.zero_le _, fun x hx => ?_⟩
    repeat walk_at "s"
    refine ⟨Nat.le_of_ble_eq_true rfl, fun p hp => ?_⟩
    have e1 : manyM s t line = false := by
      unfold manyM allM
      rw [if_pos he]
      rfl
    have e2 : moversM s t line = [] := by
      unfold moversM allM
      rw [if_pos he]
      rfl
    refine q p x _ ((same_upd hx).trans (same_upd hp)) hx ?_ ?_
    · rw [e1]
      exact upd_same
    · rw [e2]
      exact ⟨[], same_upd hp _ _ upd_same, .nil⟩
  refine xSeq (xIfS (xOr (xTest (xOp (xCall ?_)))))
  repeat walk_at "s"
  refine yIxT hT (v := .int t.on) rfl ?_
  repeat walk_at "s"
  refine ⟨_, _, rfl, ⟨by decide, by decide⟩, ?_⟩
  repeat walk_at "s"
  refine iteD (fun hb => ?_) (fun hb => ?_)
  · refine iteT ?_
    exact early (.inl hb)
  repeat walk_at "s"
  refine iteD (fun hb2 => ?_) (fun hb2 => ?_)
  · exact early (.inr hb2)
  repeat walk_at "s"
  refine ⟨Nat.zero_le _, fun f nf => ?_⟩
  repeat walk_at "s"
  refine xForR1U ?_
  repeat walk_at "s"
  have hall : allM s t line = listM s line 8 := by
    unfold allM
    rw [if_neg fun h => h.elim hb hb2]
  refine yForR1 (n := 8) rfl (by decide) (fun i σ H' => ∃ ts u v, σ = [some (.ref a), some (.ref b), some (.int line), some (.ref f), u, v] ∧ Same H H' ∧ H' f = some (.lst (ts.map V.ref)) ∧ Paired (fun t m => H' t = some (.tup (movV m))) ts (listM s line i))
    ⟨[], _, _, rfl, same_upd nf, upd_same, .nil⟩ ?_ ?_
  · rintro i σ H1 hi ⟨ts, u, v, rfl, s1, hf, pr⟩
    have hS1 := s1.seq hS
    have hlen : ts.length ≤ 8 := by
      rw [paired_len pr]
      exact Nat.le_trans (listM_len s line i) (Nat.le_of_lt hi)
    have no : ¬ (at_ s (64 + 4 * (i : Int)) ≤ line ∧ line < at_ s (64 + 4 * (i : Int)) + 8) → ∃ ts u v, ([some (.ref a), some (.ref b), some (.int line), some (.ref f), some (.int (i : Int)), some (.int (64 + 4 * (i : Int)))] : L2.St) = [some (.ref a), some (.ref b), some (.int line), some (.ref f), u, v] ∧ Same H H1 ∧ H1 f = some (.lst (ts.map V.ref)) ∧ Paired (fun t m => H1 t = some (.tup (movV m))) ts (listM s line (i + 1)) := fun hn => by
      refine ⟨ts, _, _, rfl, s1, hf, ?_⟩
      rw [listM_succ, if_neg, List.append_nil]
      · exact pr
      · unfold onB
        rw [Bool.and_eq_true, decide_eq_true_eq, decide_eq_true_eq]
        exact hn
    repeat walk_at "s"
    refine yIxL hS1 (at_ix ok (by omega) (by omega)) ?_
    repeat walk_at "s"
    refine iteD (fun h1 => ?_) (fun h1 => ?_)
    · repeat walk_at "s"
      refine yIxL hS1 (at_ix ok (by omega) (by omega)) ?_
      repeat walk_at "s"
      refine iteD (fun h2 => ?_) (fun h2 => ?_)
      · repeat walk_at "s"
        refine ⟨tyL hf, ?_⟩
        repeat walk_at "s"
        refine ySlL hS1 fun r nr => ?_
        rw [cut4 ok (by omega) (by omega)]
        refine ⟨r, _, rfl, .inr (SqL.of upd_same), ?_⟩
        repeat walk_at "s"
        refine ⟨Nat.le_of_ble_eq_true rfl, fun p np => ?_⟩
        have s2 := (same_upd (o := .lst [.int (at_ s (64 + 4 * (i : Int))), .int (at_ s (64 + 4 * (i : Int) + 1)), .int (at_ s (64 + 4 * (i : Int) + 2)), .int (at_ s (64 + 4 * (i : Int) + 3))]) nr).trans (same_upd (o := .tup (movV (movM s i))) np)
        repeat walk_at "s"
        refine yAppend (s2 _ _ hf) (by rw [List.length_map]; exact Nat.lt_of_le_of_lt hlen (by decide)) ?_
        have hfp : f ≠ p := ne_of_none (same_upd nr _ _ hf) np
        refine ⟨ts ++ [p], _, _, rfl, fun c o ec => ?_, ?_, ?_⟩
        · rw [upd_ne (ne_of_none ec nf)]
          exact s2 _ _ (s1 _ _ ec)
        · rw [List.map_append]
          exact upd_same
        · rw [listM_succ, if_pos]
          · refine paired_snoc (Paired.mapP pr fun x y hxy => ?_) ?_
            · rw [upd_ne fun z => by rw [z, hf] at hxy; cases hxy]
              exact s2 _ _ hxy
            · rw [upd_ne hfp.symm]
              exact upd_same
          · unfold onB
            rw [Bool.and_eq_true, decide_eq_true_eq, decide_eq_true_eq]
            exact ⟨h1, h2⟩
      · repeat walk_at "s"
        exact no fun h => h2 h.2
    · repeat walk_at "s"
      refine iteF ?_
      repeat walk_at "s"
      exact no fun h => h1 h.1
  · rintro σ H1 ⟨ts, u, v, rfl, s1, hf, pr⟩
    repeat walk_at "s"
    refine ySlL (SqL.of hf) fun r nr => ?_
    rw [cut_to (by decide), ← List.map_take]
    repeat walk_at "s"
    have s2 := same_upd (o := .lst ((ts.take (Int.toNat 4)).map V.ref)) nr
    refine xLenL (SqL.of (s2 _ _ hf)) ?_
    repeat walk_at "s"
    refine ⟨Nat.le_of_ble_eq_true rfl, fun p np => ?_⟩
    have s3 := s2.trans (same_upd (o := .tup [.ref r, .bl (decide ((4 : Int) < ((ts.map V.ref).length : Int)))]) np)
    refine q p r _ (s1.trans s3) (s1.free nr) ?_ ?_
    · have e : decide ((4 : Int) < ((ts.map V.ref).length : Int)) = manyM s t line := by
        unfold manyM
        rw [hall, List.length_map, paired_len pr]
        congr 1
        apply propext
        omega
      rw [← e]
      exact upd_same
    · refine ⟨ts.take 4, same_upd np _ _ upd_same, ?_⟩
      unfold moversM
      rw [hall]
      exact Paired.mapP (paired_take 4 pr) fun x y h => s3 _ _ h
theorem pure_movers_at {K : PySem.W.Frag} (vs : List V) (H : Hp) (Q : VK) (E : XK) (h : sp_movers_at K vs H Q E) : vs.length = 3 ∧ t_movers_at K { nx := fun _ H' => Q .non H', rt := Q } (start N_movers_at vs) H := by
  obtain ⟨a, b, s, t, line, rfl, hS, ok, hT, h0, q⟩ := h
  refine ⟨rfl, ?_⟩
  show t_movers_at K _ [some (.ref a), some (.ref b), some (.int line)] H
  unfold t_movers_at
  repeat walk_at "s"
  refine ⟨a, s, rfl, hS, ok, fun H1 s1 => ?_⟩
  repeat walk_at "s"
  exact ⟨a, b, s, t, line, rfl, s1.seq hS, ok, Same.tup s1 hT, h0, fun p x H' s2 nx hp hm => q p x H' (s1.trans s2) (s1.free nx) hp hm⟩
end K62
namespace K62
open PySem PySem.Spec PyProof.Rows L2 StX Kx
local macro_rules | `(tactic| walk_at "s") => `(tactic| first
  | with_reducible refine xSeq ?_ | with_reducible refine xAsg ?_ | with_reducible refine xNm ?_ | with_reducible refine xDrop ?_ | with_reducible refine xRet ?_ | with_reducible refine xRetN ?_ | with_reducible refine xNext ?_ | with_reducible refine xIfS ?_
  | ((with_reducible refine xVar (v := ?v) ?h ?q); (case h => exact rfl)) | with_reducible refine xC ?_ | with_reducible refine xOp ?_ | with_reducible refine xUn ?_ | with_reducible refine xI0 ?_ | with_reducible refine xU ?_
  | with_reducible refine xEqI ?_ | with_reducible refine xNeI ?_ | with_reducible refine xEqB ?_ | with_reducible refine xNeB ?_ | with_reducible refine xEqS ?_ | with_reducible refine xNeS ?_ | with_reducible refine xIsN ?_ | with_reducible refine xNotN ?_
  | with_reducible refine xChain ?_ | with_reducible refine xIf ?_ | with_reducible refine xAndV ?_ | with_reducible refine xOrV ?_ | with_reducible refine xNotV ?_
  | with_reducible refine xTest ?_ | with_reducible refine xB ?_ | with_reducible refine xAnd ?_ | with_reducible refine xOr ?_ | with_reducible refine xNot ?_ | with_reducible refine xYes ?_
  | with_reducible refine xNil ?_ | with_reducible refine xCons ?_ | with_reducible refine xTup ?_ | with_reducible refine xLst ?_ | with_reducible refine xCB ?_ | with_reducible refine xInt1I ?_ | with_reducible refine xInt1B ?_ | with_reducible refine xAbs ?_ | with_reducible refine xMin2 ?_ | with_reducible refine xMax2 ?_
  | with_reducible refine xFld ?_ | with_reducible refine xFldS ?_ | with_reducible refine xDG ?_ | with_reducible refine xDP ?_ | with_reducible refine xCall ?_ | with_reducible refine yMeth ?_ | with_reducible refine xBM ?_ | with_reducible refine xBM0 ?_
  | with_reducible refine xPar ?_ | with_reducible refine xPar3 ?_ | with_reducible refine yPar ?_ | with_reducible refine yPar3 ?_ | with_reducible refine xGNil ?_ | with_reducible refine xGCons ?_ | with_reducible refine xGSub ?_
  | with_reducible refine xSl ?_ | with_reducible refine xNoPart ?_ | with_reducible refine xPart ?_ | with_reducible refine xPI ?_ | with_reducible refine xStar ?_ | with_reducible refine xIn ?_ | with_reducible refine xNotIn ?_ | with_reducible refine xGF ?_
  | with_reducible refine xBl ?_ | with_reducible refine xPairs ?_ | with_reducible refine xPairs0 ?_)
local macro_rules | `(tactic| walk_at "h") => `(tactic| first | assumption | exact upd_same | exact same_upd (by assumption) _ _ (by walk_at "h"))
local macro_rules | `(tactic| walk_at "s") => `(tactic| first
  | ((with_reducible refine xI ?c ?q); (case c => first | (show (0 : Int) < _; decide) | exact ⟨by decide, by decide⟩ | exact .inl ⟨by decide, by decide⟩ | exact .inr ⟨by decide, by decide⟩)))
local macro_rules | `(tactic| walk_at "t") => `(tactic| ((fail_if_success (with_reducible refine xSeq ?_)); walk_at "s"))
local macro_rules | `(tactic| walk_at "u") => `(tactic| ((fail_if_success (with_reducible refine xSeq ?_)); (fail_if_success (with_reducible refine xRet ?_)); walk_at "s"))
theorem ground_bd (s : List Int) (t : Sett) (col line : Int) : (0 ≤ (groundM s t col line).1 ∧ (groundM s t col line).1 < 4) ∧ (0 ≤ (groundM s t col line).2 ∧ (groundM s t col line).2 < 4) := by
  unfold groundM
  split
  · exact ⟨⟨by decide, by decide⟩, by decide, by decide⟩
  · have := pix_bd s (at_ s ((line + t.d) % 64 / 8 * 8 + (col + t.r) % 64 / 8) % 32) ((line + t.d) % 64 % 8) ((col + t.r) % 64 % 8)
    refine ⟨this, ?_⟩
    show 0 ≤ _ / 32 % 4 ∧ _ / 32 % 4 < 4
    omega
theorem show_some {s : List Int} {col line : Int} {ms : List Mov} {m : Mov} {n : Int} (h : showM s col line ms = some (m, n)) : m ∈ ms ∧ n = mpixM s m col line ∧ n ≠ 0 ∧ (0 ≤ n ∧ n < 4) := by
  induction ms with
  | nil => cases h
  | cons x xs ih =>
    unfold showM at h
    split at h
    · rename_i hc
      cases h
      exact ⟨List.mem_cons_self, rfl, hc.2.2, pix_bd _ _ _ _⟩
    · obtain ⟨h1, h2⟩ := ih h
      exact ⟨List.mem_cons_of_mem _ h1, h2⟩
theorem place_bd {s : List Int} {t : Sett} {col line : Int} {ms : List Mov} : 96 ≤ placeM (groundM s t col line) (showM s col line ms) ∧ placeM (groundM s t col line) (showM s col line ms) < 128 := by
  obtain ⟨⟨g1, g2⟩, g3, g4⟩ := ground_bd s t col line
  have base : 96 ≤ 96 + (if (groundM s t col line).1 ≠ 0 then 4 * (groundM s t col line).2 + (groundM s t col line).1 else 0) ∧ 96 + (if (groundM s t col line).1 ≠ 0 then 4 * (groundM s t col line).2 + (groundM s t col line).1 else 0) < 128 := by
    split <;> omega
  cases e : showM s col line ms with
  | none => exact base
  | some r =>
    obtain ⟨m, n⟩ := r
    obtain ⟨_, _, _, n1, n2⟩ := show_some e
    unfold placeM
    dsimp only
    split
    · omega
    · exact base
theorem pure_dot {K : PySem.W.Frag} (vs : List V) (H : Hp) (Q : VK) (E : XK) (h : sp_dot_in K vs H Q E) : vs.length = 5 ∧ t_dot_in K { nx := fun _ H' => Q .non H', rt := Q } (start N_dot_in vs) H := by
  obtain ⟨a, b, mq, s, t, ms, col, line, rfl, hS, ok, hT, hM, mo, q⟩ := h
  refine ⟨rfl, ?_⟩
  show t_dot_in K _ [some (.ref a), some (.ref b), some (.ref mq), some (.int col), some (.int line), none, none, none, none, none] H
  unfold t_dot_in
  repeat walk_at "s"
  refine ⟨a, b, s, t, col, line, rfl, hS, ok, hT, fun g H1 N1 => ?_⟩
  have hpl := place_bd (s := s) (t := t) (col := col) (line := line) (ms := ms)
  unfold dotM at q
  generalize groundM s t col line = gr at q N1 hpl
  refine yGT (SqT.of N1.2.2) rfl ?_
  repeat walk_at "s"
  have hS1 := N1.2.1.seq hS
  obtain ⟨ts, hq, pr⟩ := hM
  have hM1 : MovH H1 mq ms := ⟨ts, N1.2.1 _ _ hq, Paired.mapP pr fun x y h => N1.2.1 _ _ h⟩
  refine ⟨a, mq, s, ms, col, line, rfl, hS1, ok, hM1, mo, fun e => ?_, fun m n e p tm H2 N2 htm => ?_⟩
  · rw [e] at q hpl
    have hix := at_ix (i := placeM gr none) ok (by omega) (by omega)
    unfold placeM at hix q
    repeat walk_at "s"
    refine iteF ?_
    repeat walk_at "s"
    refine iteF ?_
    refine iteF ?_
    repeat walk_at "s"
    have fin : ∀ z : Int, z = 96 + (if gr.1 ≠ 0 then 4 * gr.2 + gr.1 else 0) → (fun D : Ends => tRet (tTup (tCons (tOp (rI (fun _ j => 0 < j) fun i j => .int (i % j)) (tOp (rIxL K) (tVar 0) (tVar 9)) (tC (.int 64))) (tCons (tVar 8) tNil))) D [some (.ref a), some (.ref b), some (.ref mq), some (.int col), some (.int line), some (.int gr.1), some (.int gr.2), some .non, some (.bl false), some (.int z)] H1) { nx := fun _ H' => Q .non H', rt := Q } := by
      intro z ez
      show tRet _ _ _ _
      repeat walk_at "s"
      rw [ez]
      refine yIxL hS1 hix ?_
      repeat walk_at "s"
      exact ⟨Nat.le_of_ble_eq_true rfl, fun p hp => q p _ (N1.2.1.trans (same_upd hp)) upd_same⟩
    refine iteDN (fun h => ?_) (fun h => ?_)
    · repeat walk_at "u"
      exact fin _ (by rw [if_pos h])
    · repeat walk_at "u"
      exact fin _ (by rw [if_neg (fun z => z h)])
  · rw [e] at q hpl
    obtain ⟨hmem, _, _, n1, n2⟩ := show_some e
    have mok := mo m hmem
    have hix := at_ix (i := placeM gr (some (m, n))) ok (by omega) (by omega)
    unfold placeM hitM at q
    unfold placeM at hix
    have htm2 := N2.2.1 _ _ htm
    have hS2 := N2.2.1.seq hS1
    have s12 := N1.2.1.trans N2.2.1
    have fin : ∀ (z : Int) (hb : Bool), hb = (decide (m.k = 0) && !decide (gr.1 = 0)) → z = (if bitM m.looks 5 = 0 ∨ gr.1 = 0 then 112 + 4 * (m.looks % 4) + n else 96 + (if gr.1 ≠ 0 then 4 * gr.2 + gr.1 else 0)) →
        (fun D : Ends => tRet (tTup (tCons (tOp (rI (fun _ j => 0 < j) fun i j => .int (i % j)) (tOp (rIxL K) (tVar 0) (tVar 9)) (tC (.int 64))) (tCons (tVar 8) tNil))) D [some (.ref a), some (.ref b), some (.ref mq), some (.int col), some (.int line), some (.int gr.1), some (.int gr.2), some (.ref p), some (.bl hb), some (.int z)] H2) { nx := fun _ H' => Q .non H', rt := Q } := by
      intro z hb eb ez
      show tRet _ _ _ _
      repeat walk_at "s"
      rw [ez]
      refine yIxL hS2 hix ?_
      repeat walk_at "s"
      rw [eb]
      exact ⟨Nat.le_of_ble_eq_true rfl, fun p hp => q p _ (s12.trans (same_upd hp)) upd_same⟩
    have two : ∀ hb : Bool, hb = (decide (m.k = 0) && !decide (gr.1 = 0)) → ∀ D : Ends, D = { nx := fun _ H' => Q .non H', rt := Q } → (tSeq (tIfS (tAnd (tB (tNotN (tVar 7))) (tOr (tTest (tOp (rEq) (tCall (sp_bit K) [] E0 (tCons (tOp (rIxT K) (tOp (rIxT K) (tVar 7) (tC (.int 0))) (tC (.int 3))) (tCons (tC (.int 5)) tNil))) (tC (.int 0)))) (tTest (tOp (rEq) (tVar 5) (tC (.int 0)))))) (tAsg (tOp (rI0 fun i j => .int (i + j)) (tOp (rI0 fun i j => .int (i + j)) (tC (.int 112)) (tOp (rI CMul fun i j => .int (i * j)) (tC (.int 4)) (tOp (rI (fun _ j => 0 < j) fun i j => .int (i % j)) (tOp (rIxT K) (tOp (rIxT K) (tVar 7) (tC (.int 0))) (tC (.int 3))) (tC (.int 4))))) (tOp (rIxT K) (tVar 7) (tC (.int 1)))) (gName 9)) (tAsg (tOp (rI0 fun i j => .int (i + j)) (tC (.int 96)) (tIf (tTest (tOp (rNe) (tVar 5) (tC (.int 0)))) (tOp (rI0 fun i j => .int (i + j)) (tOp (rI CMul fun i j => .int (i * j)) (tC (.int 4)) (tVar 6)) (tVar 5)) (tC (.int 0)))) (gName 9)))
        (tRet (tTup (tCons (tOp (rI (fun _ j => 0 < j) fun i j => .int (i % j)) (tOp (rIxL K) (tVar 0) (tVar 9)) (tC (.int 64))) (tCons (tVar 8) tNil))))) D [some (.ref a), some (.ref b), some (.ref mq), some (.int col), some (.int line), some (.int gr.1), some (.int gr.2), some (.ref p), some (.bl hb), none] H2 := by
      intro hb eb D hD
      subst hD
      repeat walk_at "s"
      refine iteT ?_
      repeat walk_at "s"
      refine yIxT (SqT.of N2.2.2) (v := .ref tm) rfl ?_
      repeat walk_at "s"
      refine yIxT (SqT.of htm2) (v := .int m.looks) rfl ?_
      repeat walk_at "s"
      refine ⟨_, _, rfl, ⟨by decide, by decide⟩, ?_⟩
      repeat walk_at "s"
      have good : bitM m.looks 5 = 0 ∨ gr.1 = 0 → (fun D : Ends => tAsg (tOp (rI0 fun i j => .int (i + j)) (tOp (rI0 fun i j => .int (i + j)) (tC (.int 112)) (tOp (rI CMul fun i j => .int (i * j)) (tC (.int 4)) (tOp (rI (fun _ j => 0 < j) fun i j => .int (i % j)) (tOp (rIxT K) (tOp (rIxT K) (tVar 7) (tC (.int 0))) (tC (.int 3))) (tC (.int 4))))) (tOp (rIxT K) (tVar 7) (tC (.int 1)))) (gName 9) { D with nx := tRet (tTup (tCons (tOp (rI (fun _ j => 0 < j) fun i j => .int (i % j)) (tOp (rIxL K) (tVar 0) (tVar 9)) (tC (.int 64))) (tCons (tVar 8) tNil))) D } [some (.ref a), some (.ref b), some (.ref mq), some (.int col), some (.int line), some (.int gr.1), some (.int gr.2), some (.ref p), some (.bl hb), none] H2) { nx := fun _ H' => Q .non H', rt := Q } := by
        intro hg
        show tAsg _ _ _ _ _
        refine xAsg ?_
        repeat walk_at "s"
        refine yIxT (SqT.of N2.2.2) (v := .ref tm) rfl ?_
        repeat walk_at "s"
        refine yIxT (SqT.of htm2) (v := .int m.looks) rfl ?_
        repeat walk_at "s"
        refine yIxT (SqT.of N2.2.2) (v := .int n) rfl ?_
        refine xI0 (xNm ?_)
        exact fin _ _ eb (by rw [if_pos hg])
      refine iteD (fun h5 => ?_) (fun h5 => ?_)
      · refine iteT ?_
        exact good (.inl h5)
      · repeat walk_at "s"
        refine iteD (fun h6 => ?_) (fun h6 => ?_)
        · exact good (.inr h6)
        · repeat walk_at "s"
          refine iteDN (fun h => ?_) (fun h => absurd h h6)
          refine xOp ?_
          repeat walk_at "u"
          exact fin _ _ eb (by rw [if_neg (fun z => z.elim h5 h6), if_pos h])
    refine xNm (xSeq (xAsg (xAndV (xNotN (xVar (v := .ref p) rfl (xBl (iteT ?_)))))))
    repeat walk_at "u"
    refine yIxT (SqT.of N2.2.2) (v := .ref tm) rfl ?_
    repeat walk_at "u"
    refine yIxT (SqT.of htm2) (v := .int m.k) rfl ?_
    repeat walk_at "u"
    refine iteD (fun hk => ?_) (fun hk => ?_)
    · repeat walk_at "u"
      exact two _ (by rw [decide_eq_true hk]; rfl) _ rfl
    · repeat walk_at "u"
      exact two _ (by rw [decide_eq_false hk]; rfl) _ rfl
theorem pure_dot_at {K : PySem.W.Frag} (vs : List V) (H : Hp) (Q : VK) (E : XK) (h : sp_dot_at K vs H Q E) : vs.length = 5 ∧ t_dot_at K { nx := fun _ H' => Q .non H', rt := Q } (start N_dot_at vs) H := by
  obtain ⟨a, b, mq, s, t, ms, col, line, rfl, hS, ok, hT, ⟨ts, hq, pr⟩, mo, q⟩ := h
  refine ⟨rfl, ?_⟩
  show t_dot_at K _ [some (.ref a), some (.ref b), some (.ref mq), some (.int col), some (.int line)] H
  unfold t_dot_at
  repeat walk_at "s"
  refine ⟨a, s, rfl, hS, ok, fun H1 s1 => ?_⟩
  repeat walk_at "s"
  exact ⟨a, b, mq, s, t, ms, col, line, rfl, s1.seq hS, ok, Same.tup s1 hT, ⟨ts, s1 _ _ hq, Paired.mapP pr fun x y h => s1 _ _ h⟩, mo, fun p H' s2 hp => q p H' (s1.trans s2) hp⟩
end K62
namespace K62
open PySem PySem.Spec PyProof.Rows L2 StX Kx
local macro_rules | `(tactic| walk_at "s") => `(tactic| first
  | with_reducible refine xSeq ?_ | with_reducible refine xAsg ?_ | with_reducible refine xNm ?_ | with_reducible refine xDrop ?_ | with_reducible refine xRet ?_ | with_reducible refine xRetN ?_ | with_reducible refine xNext ?_ | with_reducible refine xIfS ?_
  | ((with_reducible refine xVar (v := ?v) ?h ?q); (case h => exact rfl)) | with_reducible refine xC ?_ | with_reducible refine xOp ?_ | with_reducible refine xUn ?_ | with_reducible refine xI0 ?_ | with_reducible refine xU ?_
  | with_reducible refine xEqI ?_ | with_reducible refine xNeI ?_ | with_reducible refine xEqB ?_ | with_reducible refine xNeB ?_ | with_reducible refine xEqS ?_ | with_reducible refine xNeS ?_ | with_reducible refine xIsN ?_ | with_reducible refine xNotN ?_
  | with_reducible refine xChain ?_ | with_reducible refine xIf ?_ | with_reducible refine xAndV ?_ | with_reducible refine xOrV ?_ | with_reducible refine xNotV ?_
  | with_reducible refine xTest ?_ | with_reducible refine xB ?_ | with_reducible refine xAnd ?_ | with_reducible refine xOr ?_ | with_reducible refine xNot ?_ | with_reducible refine xYes ?_
  | with_reducible refine xNil ?_ | with_reducible refine xCons ?_ | with_reducible refine xTup ?_ | with_reducible refine xLst ?_ | with_reducible refine xCB ?_ | with_reducible refine xInt1I ?_ | with_reducible refine xInt1B ?_ | with_reducible refine xAbs ?_ | with_reducible refine xMin2 ?_ | with_reducible refine xMax2 ?_
  | with_reducible refine xFld ?_ | with_reducible refine xFldS ?_ | with_reducible refine xDG ?_ | with_reducible refine xDP ?_ | with_reducible refine xCall ?_ | with_reducible refine yMeth ?_ | with_reducible refine xBM ?_ | with_reducible refine xBM0 ?_
  | with_reducible refine xPar ?_ | with_reducible refine xPar3 ?_ | with_reducible refine yPar ?_ | with_reducible refine yPar3 ?_ | with_reducible refine xGNil ?_ | with_reducible refine xGCons ?_ | with_reducible refine xGSub ?_
  | with_reducible refine xSl ?_ | with_reducible refine xNoPart ?_ | with_reducible refine xPart ?_ | with_reducible refine xPI ?_ | with_reducible refine xStar ?_ | with_reducible refine xIn ?_ | with_reducible refine xNotIn ?_ | with_reducible refine xGF ?_
  | with_reducible refine xBl ?_ | with_reducible refine xPairs ?_ | with_reducible refine xPairs0 ?_)
local macro_rules | `(tactic| walk_at "h") => `(tactic| first | assumption | exact upd_same | exact same_upd (by assumption) _ _ (by walk_at "h"))
local macro_rules | `(tactic| walk_at "s") => `(tactic| first
  | ((with_reducible refine xI ?c ?q); (case c => first | (show (0 : Int) < _; decide) | exact ⟨by decide, by decide⟩ | exact .inl ⟨by decide, by decide⟩ | exact .inr ⟨by decide, by decide⟩)))
local macro_rules | `(tactic| walk_at "t") => `(tactic| ((fail_if_success (with_reducible refine xSeq ?_)); walk_at "s"))
local macro_rules | `(tactic| walk_at "u") => `(tactic| ((fail_if_success (with_reducible refine xSeq ?_)); (fail_if_success (with_reducible refine xRet ?_)); walk_at "s"))
theorem pure_tile {K : PySem.W.Frag} (vs : List V) (H : Hp) (Q : VK) (E : XK) (h : sp_tile_dots K vs H Q E) : vs.length = 5 ∧ t_tile_dots K { nx := fun _ H' => Q .non H', rt := Q } (start N_tile_dots vs) H := by
  obtain ⟨a, s, tile, row, first, last, rfl, hS, ok, ht, hr, hf, q⟩ := h
  refine ⟨rfl, ?_⟩
  show t_tile_dots K _ [some (.ref a), some (.int tile), some (.int row), some (.int first), some (.int last), none, none, none, none] H
  unfold t_tile_dots
  repeat walk_at "s"
  refine yIxL hS (at_ix ok (by omega) (by omega)) ?_
  repeat walk_at "s"
  refine yIxL hS (at_ix ok (by omega) (by omega)) ?_
  repeat walk_at "s"
  refine ⟨Nat.le_of_ble_eq_true rfl, fun z nz => ?_⟩
  refine yGT (SqT.of upd_same) rfl ?_
  have sz := same_upd (o := .tup [.int (at_ s (128 + 16 * tile + 2 * row)), .int (at_ s (128 + 16 * tile + 2 * row + 1))]) nz
  generalize upd H z (.tup [.int (at_ s (128 + 16 * tile + 2 * row)), .int (at_ s (128 + 16 * tile + 2 * row + 1))]) = H1 at sz
  repeat walk_at "s"
  refine xLcR2 ?_
  repeat walk_at "s"
  refine yLcR2 (last - first).toNat rfl (by omega) (by omega) (fun D i H' => Same H1 H' ∧ H1 D = none ∧ H' D = some (.lst (((List.range i).map fun j : Nat => pixM s tile row (first + (j : Int))).map V.int))) (fun D hD => ⟨same_upd hD, hD, upd_same⟩) ?_ ?_
  · rintro D i H' hi ⟨s1, nD, hD⟩
    refine xNm (yTurn rfl ?_)
    repeat walk_at "s"
    refine ⟨_, _, rfl, ⟨by omega, by omega⟩, ?_⟩
    repeat walk_at "s"
    refine ⟨_, _, rfl, ⟨by omega, by omega⟩, ?_⟩
    repeat walk_at "s"
    refine ⟨_, hD, ?_, fun b o eb => ?_, nD, ?_⟩
    · rw [List.length_map, List.length_map, List.length_range]
      exact Nat.lt_of_lt_of_le (show i < 8 by omega) (by decide)
    · rw [upd_ne (ne_of_none eb nD)]
      exact s1 _ _ eb
    · rw [List.range_succ, List.map_append, List.map_append]
      exact upd_same
  · rintro D H' nD ⟨s1, _, hD⟩
    exact q D H' ⟨sz.free nD, sz.trans s1, hD⟩
theorem ground_run {s : List Int} {t : Sett} {line col : Int} (on : ¬ bitM t.on 0 = 0) {j : Nat} (hj : (col + t.r) % 64 % 8 + (j : Int) < 8) :
    groundM s t (col + (j : Int)) line = (pixM s (at_ s ((line + t.d) % 64 / 8 * 8 + (col + t.r) % 64 / 8) % 32) ((line + t.d) % 64 % 8) ((col + t.r) % 64 % 8 + (j : Int)), at_ s ((line + t.d) % 64 / 8 * 8 + (col + t.r) % 64 / 8) / 32 % 4) := by
  unfold groundM
  rw [if_neg on, show (col + (j : Int) + t.r) % 64 / 8 = (col + t.r) % 64 / 8 from by omega, show (col + (j : Int) + t.r) % 64 % 8 = (col + t.r) % 64 % 8 + (j : Int) from by omega]
theorem range_cat (f : Nat → Int × Int) (n m : Nat) : (List.range (n + m)).map f = (List.range n).map f ++ (List.range m).map fun j => f (n + j) := by
  rw [List.range_add, List.map_append, List.map_map]
  rfl
theorem paired_rep {α β : Type} {F : α → β → Prop} {x : α} {y : β} (h : F x y) : ∀ n : Nat, Paired F (List.replicate n x) (List.replicate n y)
  | 0 => .nil
  | n + 1 => .cons h (paired_rep h n)
theorem pure_gdots {K : PySem.W.Frag} (vs : List V) (H : Hp) (Q : VK) (E : XK) (h : sp_ground_dots K vs H Q E) : vs.length = 5 ∧ t_ground_dots K { nx := fun _ H' => Q .non H', rt := Q } (start N_ground_dots vs) H := by
  obtain ⟨a, b, s, t, line, first, last, rfl, hS, ok, hT, hf, q⟩ := h
  refine ⟨rfl, ?_⟩
  show t_ground_dots K _ [some (.ref a), some (.ref b), some (.int line), some (.int first), some (.int last), none, none, none, none, none, none, none, none, none, none, none, none] H
  unfold t_ground_dots
  repeat walk_at "s"
  refine yGT hT rfl ?_
  unfold setV
  repeat walk_at "s"
  refine ⟨_, _, rfl, ⟨by decide, by decide⟩, ?_⟩
  repeat walk_at "s"
  refine iteD (fun h0 => ?_) (fun h0 => ?_)
  · repeat walk_at "s"
    refine ⟨Nat.le_of_ble_eq_true rfl, fun z nz => ?_⟩
    repeat walk_at "s"
    refine ⟨Nat.le_of_ble_eq_true rfl, fun l nl => ?_⟩
    repeat walk_at "s"
    refine yRep upd_same (by omega) (by omega) (by simp only [List.length_cons, List.length_nil]; exact Nat.le_trans (show (0 + 1) * (last - first).toNat ≤ 32 by omega) (by decide)) fun p np => ?_
    have s2 := (same_upd (o := .tup [.int 0, .int 0]) nz).trans (same_upd (o := .lst [.ref z]) nl)
    refine q p _ (s2.trans (same_upd np)) (s2.free np) ⟨List.replicate (last - first).toNat z, ?_, ?_⟩
    · rw [List.map_replicate, upd_same]
      congr 2
      rw [List.flatten_replicate_singleton]
    · have hz := same_upd (o := .lst (List.replicate (last - first).toNat [V.ref z]).flatten) np _ _ (same_upd (o := .lst [.ref z]) nl _ _ (upd_same (H := H) (a := z) (o := .tup [.int 0, .int 0])))
      have e : ((List.range (last - first).toNat).map fun j : Nat => groundM s t (first + (j : Int)) line) = List.replicate (last - first).toNat (0, 0) := by
        rw [List.eq_replicate_iff]
        refine ⟨by simp, fun x hx => ?_⟩
        obtain ⟨j, _, rfl⟩ := List.mem_map.mp hx
        unfold groundM
        rw [if_pos h0]
      rw [e]
      refine paired_rep ?_ _
      exact hz
  · repeat walk_at "s"
    refine ⟨Nat.zero_le _, fun f nf => ?_⟩
    repeat walk_at "s"
    refine xSeq (yWhile (fun m σ H' => ∃ c : Nat, ∃ x12 x13 x14 x15, σ = [some (.ref a), some (.ref b), some (.int line), some (.int first), some (.int last), some (.int t.r), some (.int t.d), some (.int t.w), some (.int t.on), some (.int ((line + t.d) % 64)), some (.ref f), some (.int (first + (c : Int))), x12, x13, x14, x15, none] ∧ Same H H' ∧
      GrL H' f ((List.range c).map fun j : Nat => groundM s t (first + (j : Int)) line) ∧ first + (c : Int) ≤ last ∧ m = (last - (first + (c : Int))).toNat) (last - first).toNat ⟨0, none, none, none, none, by simp, same_upd nf, ⟨[], upd_same, .nil⟩, by omega, by omega⟩ ?_)
    rintro m σ H1 ⟨c, x12, x13, x14, x15, rfl, s1, ⟨ts, hf1, pr⟩, hle, rfl⟩
    repeat walk_at "s"
    refine iteD (fun hlt => ?_) (fun hlt => ?_)
    · refine ⟨fun σ' H'' => ∃ c2 : Nat, ∃ x12 x13 x14 x15, σ' = [some (.ref a), some (.ref b), some (.int line), some (.int first), some (.int last), some (.int t.r), some (.int t.d), some (.int t.w), some (.int t.on), some (.int ((line + t.d) % 64)), some (.ref f), some (.int (first + (c2 : Int))), x12, x13, x14, x15, none] ∧ Same H H'' ∧
        GrL H'' f ((List.range c2).map fun j : Nat => groundM s t (first + (j : Int)) line) ∧ first + (c2 : Int) ≤ last ∧ c < c2, ?_, ?_⟩
      · rintro σ' H'' ⟨c2, y12, y13, y14, y15, e1, e2, e3, e4, e5⟩
        exact ⟨(last - (first + (c2 : Int))).toNat, by omega, c2, y12, y13, y14, y15, e1, e2, e3, e4, rfl⟩
      have run := fun j hj => ground_run (s := s) (line := line) (col := first + (c : Int)) h0 (j := j) hj
      repeat walk_at "s"
      have hy := Int.emod_nonneg (line + t.d) (b := 64) (by decide)
      have hy2 := Int.emod_lt_of_pos (line + t.d) (b := 64) (by decide)
      have hx := Int.emod_nonneg (first + (c : Int) + t.r) (b := 64) (by decide)
      have hx2 := Int.emod_lt_of_pos (first + (c : Int) + t.r) (b := 64) (by decide)
      generalize (first + (c : Int) + t.r) % 64 = x at *
      generalize (line + t.d) % 64 = y at *
      have hb := at_bd (i := y / 8 * 8 + x / 8) ok (by omega) (by omega)
      refine yIxL (s1.seq hS) (at_ix ok (by omega) (by omega)) ?_
      generalize at_ s (y / 8 * 8 + x / 8) = byte at *
      repeat walk_at "s"
      generalize hst : (if first + (c : Int) + 8 - x % 8 < last then first + (c : Int) + 8 - x % 8 else last) = stop
      have hstop : first + (c : Int) < stop ∧ stop ≤ last ∧ stop ≤ first + (c : Int) + 8 - x % 8 := by
        rw [← hst]
        split <;> omega
      clear hst
      refine ⟨a, s, _, _, _, _, rfl, s1.seq hS, ok, ⟨by omega, by omega⟩, ⟨by omega, by omega⟩, ⟨by omega, by omega, by omega⟩, fun nq H2 N2 => ?_⟩
      obtain ⟨n, hn⟩ : ∃ n : Nat, stop = first + (c : Int) + (n : Int) := ⟨(stop - (first + (c : Int))).toNat, by omega⟩
      have en : (x % 8 + stop - (first + (c : Int)) - x % 8).toNat = n := by omega
      rw [en] at N2
      have hf2 := N2.2.1 _ _ hf1
      repeat walk_at "s"
      refine ⟨tyL hf2, ?_⟩
      repeat walk_at "s"
      refine xLcL ?_
      repeat walk_at "s"
      refine yLcL (SqL.of N2.2.2) (fun D i H' => ∃ us, Same H2 H' ∧ H2 D = none ∧ H' D = some (.lst (us.map V.ref)) ∧ Paired (fun u (p : Int × Int) => H' u = some (.tup [.int p.1, .int p.2])) us ((List.range i).map fun j : Nat => (pixM s (byte % 32) (y % 8) (x % 8 + (j : Int)), byte / 32 % 4)))
        (fun D hD => ⟨[], same_upd hD, hD, upd_same, .nil⟩) (fun D i H' _ ⟨_, h, _⟩ => SqL.of (h _ _ N2.2.2)) ?_ ?_
      · rintro D i z H' hz ⟨us, s3, nD, hD, pu⟩
        have hi : i < n := by
          have h := (List.getElem?_eq_some_iff.mp hz).1
          simpa using h
        have ez : z = .int (pixM s (byte % 32) (y % 8) (x % 8 + (i : Int))) := by
          rw [List.getElem?_map, List.getElem?_map, List.getElem?_range hi] at hz
          exact (Option.some.inj hz).symm
        subst ez
        refine xNm (yTurn rfl ?_)
        repeat walk_at "s"
        refine ⟨Nat.le_of_ble_eq_true rfl, fun u nu => ?_⟩
        have hDu : D ≠ u := ne_of_none hD nu
        have hlen : us.length = i := by
          rw [paired_len pu]
          simp
        refine ⟨_, same_upd nu _ _ hD, ?_, us ++ [u], fun b o eb => ?_, nD, ?_, ?_⟩
        · rw [List.length_map, hlen]
          exact Nat.lt_of_lt_of_le (show i < 32 by omega) (by decide)
        · rw [upd_ne (ne_of_none eb nD)]
          exact same_upd nu _ _ (s3 _ _ eb)
        · rw [List.map_append]
          exact upd_same
        · rw [List.range_succ, List.map_append]
          refine paired_snoc (Paired.mapP pu fun p q hpq => ?_) ?_
          · rw [upd_ne fun z => by rw [z, hD] at hpq; cases hpq]
            exact same_upd nu _ _ hpq
          · rw [upd_ne hDu.symm]
            exact upd_same
      · rintro D H3 nD ⟨us, s3, _, hD, pu⟩
        rw [List.length_map, List.length_map, List.length_range] at pu
        have hf3 := s3 _ _ hf2
        have hlt : ts.length = c := by
          rw [paired_len pr]
          simp
        have hlu : us.length = n := by
          rw [paired_len pu]
          simp
        repeat walk_at "s"
        refine yExtend hf3 hD (by rw [List.length_map, List.length_map, hlt, hlu]; exact Nat.le_trans (show c + n ≤ 32 by omega) (by decide)) ?_
        repeat walk_at "s"
        have s13 := N2.2.1.trans s3
        rw [hn, show first + (c : Int) + (n : Int) = first + ((c + n : Nat) : Int) from by omega]
        refine ⟨c + n, _, _, _, _, rfl, fun b o eb => ?_, ⟨ts ++ us, ?_, ?_⟩, by omega, by omega⟩
        · rw [upd_ne (ne_of_none eb nf)]
          exact s13 _ _ (s1 _ _ eb)
        · rw [List.map_append]
          exact upd_same
        · rw [range_cat (fun j => groundM s t (first + (j : Int)) line)]
          have e2 : ((List.range n).map fun j => groundM s t (first + ((c + j : Nat) : Int)) line) = (List.range n).map fun j : Nat => (pixM s (byte % 32) (y % 8) (x % 8 + (j : Int)), byte / 32 % 4) := by
            apply List.map_congr_left
            intro j hj
            have hj := List.mem_range.mp hj
            rw [show first + ((c + j : Nat) : Int) = first + (c : Int) + (j : Int) from by omega]
            exact run j (by omega)
          rw [e2]
          refine paired_app (Paired.mapP pr fun p q hpq => ?_) (Paired.mapP pu fun p q hpq => ?_)
          · rw [upd_ne fun z => by rw [z, hf1] at hpq; cases hpq]
            exact s13 _ _ hpq
          · rw [upd_ne fun z => by rw [z, hf3] at hpq; cases hpq]
            exact hpq
    · repeat walk_at "s"
      have ec : (last - first).toNat = c := by omega
      rw [ec] at q
      exact q f H1 s1 nf ⟨ts, hf1, pr⟩
end K62
namespace K62
open PySem PySem.Spec PyProof.Rows L2 StX Kx
local macro_rules | `(tactic| walk_at "s") => `(tactic| first
  | with_reducible refine xSeq ?_ | with_reducible refine xAsg ?_ | with_reducible refine xNm ?_ | with_reducible refine xDrop ?_ | with_reducible refine xRet ?_ | with_reducible refine xRetN ?_ | with_reducible refine xNext ?_ | with_reducible refine xIfS ?_
  | ((with_reducible refine xVar (v := ?v) ?h ?q); (case h => exact rfl)) | with_reducible refine xC ?_ | with_reducible refine xOp ?_ | with_reducible refine xUn ?_ | with_reducible refine xI0 ?_ | with_reducible refine xU ?_
  | with_reducible refine xEqI ?_ | with_reducible refine xNeI ?_ | with_reducible refine xEqB ?_ | with_reducible refine xNeB ?_ | with_reducible refine xEqS ?_ | with_reducible refine xNeS ?_ | with_reducible refine xIsN ?_ | with_reducible refine xNotN ?_
  | with_reducible refine xChain ?_ | with_reducible refine xIf ?_ | with_reducible refine xAndV ?_ | with_reducible refine xOrV ?_ | with_reducible refine xNotV ?_
  | with_reducible refine xTest ?_ | with_reducible refine xB ?_ | with_reducible refine xAnd ?_ | with_reducible refine xOr ?_ | with_reducible refine xNot ?_ | with_reducible refine xYes ?_
  | with_reducible refine xNil ?_ | with_reducible refine xCons ?_ | with_reducible refine xTup ?_ | with_reducible refine xLst ?_ | with_reducible refine xCB ?_ | with_reducible refine xInt1I ?_ | with_reducible refine xInt1B ?_ | with_reducible refine xAbs ?_ | with_reducible refine xMin2 ?_ | with_reducible refine xMax2 ?_
  | with_reducible refine xFld ?_ | with_reducible refine xFldS ?_ | with_reducible refine xDG ?_ | with_reducible refine xDP ?_ | with_reducible refine xCall ?_ | with_reducible refine yMeth ?_ | with_reducible refine xBM ?_ | with_reducible refine xBM0 ?_
  | with_reducible refine xPar ?_ | with_reducible refine xPar3 ?_ | with_reducible refine yPar ?_ | with_reducible refine yPar3 ?_ | with_reducible refine xGNil ?_ | with_reducible refine xGCons ?_ | with_reducible refine xGSub ?_
  | with_reducible refine xSl ?_ | with_reducible refine xNoPart ?_ | with_reducible refine xPart ?_ | with_reducible refine xPI ?_ | with_reducible refine xStar ?_ | with_reducible refine xIn ?_ | with_reducible refine xNotIn ?_ | with_reducible refine xGF ?_
  | with_reducible refine xBl ?_ | with_reducible refine xPairs ?_ | with_reducible refine xPairs0 ?_)
local macro_rules | `(tactic| walk_at "h") => `(tactic| first | assumption | exact upd_same | exact same_upd (by assumption) _ _ (by walk_at "h"))
local macro_rules | `(tactic| walk_at "s") => `(tactic| first
  | ((with_reducible refine xI ?c ?q); (case c => first | (show (0 : Int) < _; decide) | exact ⟨by decide, by decide⟩ | exact .inl ⟨by decide, by decide⟩ | exact .inr ⟨by decide, by decide⟩)))
local macro_rules | `(tactic| walk_at "t") => `(tactic| ((fail_if_success (with_reducible refine xSeq ?_)); walk_at "s"))
local macro_rules | `(tactic| walk_at "u") => `(tactic| ((fail_if_success (with_reducible refine xSeq ?_)); (fail_if_success (with_reducible refine xRet ?_)); walk_at "s"))
theorem show_snoc (s : List Int) (c line : Int) (m : Mov) : ∀ ms : List Mov, showM s c line (ms ++ [m]) = match showM s c line ms with
    | some r => some r
    | none => if m.x ≤ c ∧ c < m.x + 8 ∧ mpixM s m c line ≠ 0 then some (m, mpixM s m c line) else none
  | [] => rfl
  | x :: xs => by
    show showM s c line (x :: (xs ++ [m])) = _
    unfold showM
    split
    · rfl
    · exact show_snoc s c line m xs
theorem show_out {s : List Int} {c line : Int} {m : Mov} {ms : List Mov} (h : ¬ (m.x ≤ c ∧ c < m.x + 8)) : showM s c line (ms ++ [m]) = showM s c line ms := by
  rw [show_snoc]
  cases showM s c line ms with
  | some r => rfl
  | none => exact if_neg fun z => h ⟨z.1, z.2.1⟩
theorem DotAt.keep {H H' : Hp} {o : Option V} {r : Option (Mov × Int)} (h : DotAt H o r) (k : ∀ (b : Addr) (xs : List V), H b = some (.tup xs) → H' b = some (.tup xs)) : DotAt H' o r := by
  cases r with
  | none => exact h
  | some r =>
    obtain ⟨m, n⟩ := r
    obtain ⟨p, t, e, h1, h2⟩ := h
    exact ⟨p, t, e, k _ _ h1, k _ _ h2⟩
theorem pure_mdots {K : PySem.W.Frag} (vs : List V) (H : Hp) (Q : VK) (E : XK) (h : sp_mover_dots K vs H Q E) : vs.length = 5 ∧ t_mover_dots K { nx := fun _ H' => Q .non H', rt := Q } (start N_mover_dots vs) H := by
  obtain ⟨a, mq, s, ms, line, first, last, rfl, hS, ok, ⟨ts, hq, pr⟩, mo, hml, hf, q⟩ := h
  refine ⟨rfl, ?_⟩
  show t_mover_dots K _ [some (.ref a), some (.ref mq), some (.int line), some (.int first), some (.int last), none, none, none, none] H
  unfold t_mover_dots
  repeat walk_at "s"
  refine xDNew fun d nd => ?_
  repeat walk_at "s"
  refine xForLU ?_
  repeat walk_at "s"
  have sd := same_upd (o := .dK []) nd
  refine yForL (SqL.of (sd _ _ hq)) (fun i σ H' => ∃ u v w kvs, σ = [some (.ref a), some (.ref mq), some (.int line), some (.int first), some (.int last), some (.ref d), u, v, w] ∧ Same H H' ∧ H' d = some (.dK kvs) ∧ kvs.length ≤ 8 * i ∧ ∀ c, first ≤ c → c < last → DotAt H' (valV kvs (Sum.inl c)) (showM s c line (ms.take i)))
    ⟨_, _, _, [], rfl, sd, upd_same, Nat.zero_le _, fun c _ _ => rfl⟩ (fun i σ H' _ ⟨_, _, _, _, _, h, _⟩ => SqL.of (h _ _ hq)) ?_ ?_
  · rintro i y σ H1 hy ⟨u, v, w, kvs, rfl, s1, hd, hkl, hdot⟩
    rw [List.getElem?_map] at hy
    cases et : ts[i]? with
    | none =>
      rw [et] at hy
      cases hy
    | some t =>
      rw [et] at hy
      cases hy
      obtain ⟨m, hm, ht⟩ := paired_fst pr et
      have mok := mo m (List.mem_of_getElem? hm)
      have hi : i < 4 := by
        have := (List.getElem?_eq_some_iff.mp hm).1
        omega
      have hx := mok.2.2.2
      have hmx : ∀ H', Same H H' → SqT K H' t (movV m) := fun H' s' => SqT.of (s' _ _ ht)
      rw [take_snoc hm]
      refine xNm ?_
      refine xForR2 ?_
      repeat walk_at "s"
      refine yIxT (hmx _ s1) (v := .int m.x) rfl ?_
      repeat walk_at "s"
      refine yIxT (hmx _ s1) (v := .int m.x) rfl ?_
      repeat walk_at "s"
      generalize hlo : (if m.x > first then m.x else first) = lo
      generalize hhi : (if m.x + 8 < last then m.x + 8 else last) = hi'
      have blo : m.x ≤ lo ∧ first ≤ lo ∧ (lo = m.x ∨ lo = first) ∧ lo < 300 := by
        rw [← hlo]
        split <;> omega
      have bhi : hi' ≤ m.x + 8 ∧ hi' ≤ last ∧ (hi' = m.x + 8 ∨ hi' = last) ∧ 0 ≤ hi' := by
        rw [← hhi]
        split <;> omega
      refine yForR2 (hi' - lo).toNat rfl (by omega) (by omega) (fun k σ H' => ∃ v w kvs, σ = [some (.ref a), some (.ref mq), some (.int line), some (.int first), some (.int last), some (.ref d), some (.ref t), v, w] ∧ Same H H' ∧ H' d = some (.dK kvs) ∧ kvs.length ≤ 8 * i + k ∧
          ∀ c, first ≤ c → c < last → DotAt H' (valV kvs (Sum.inl c)) (if c < lo + (k : Int) then showM s c line (ms.take i ++ [m]) else showM s c line (ms.take i)))
        ⟨_, _, kvs, rfl, s1, hd, hkl, fun c c1 c2 => ?_⟩ ?_ ?_
      · split
        · rename_i hc
          rw [show_out (by omega)]
          exact hdot c c1 c2
        · exact hdot c c1 c2
      · rintro k σ H2 hk ⟨v, w, kvs, rfl, s2, hd, hkl, hdot⟩
        have hin : m.x ≤ lo + (k : Int) ∧ lo + (k : Int) < m.x + 8 := by omega
        have hme := hdot (lo + (k : Int)) (by omega) (by omega)
        rw [if_neg (by omega)] at hme
        have stay : (showM s (lo + (k : Int)) line (ms.take i) ≠ none ∨ mpixM s m (lo + (k : Int)) line = 0) → ∀ c, first ≤ c → c < last → DotAt H2 (valV kvs (Sum.inl c)) (if c < lo + ((k + 1 : Nat) : Int) then showM s c line (ms.take i ++ [m]) else showM s c line (ms.take i)) := by
          intro hs c c1 c2
          have hc := hdot c c1 c2
          by_cases e : c = lo + (k : Int)
          · subst e
            rw [if_pos (by omega), show_snoc]
            cases es : showM s (lo + (k : Int)) line (ms.take i) with
            | some r =>
              rw [es] at hme
              exact hme
            | none =>
              rw [es] at hme
              have hz : mpixM s m (lo + (k : Int)) line = 0 := hs.resolve_left fun z => z es
              show DotAt H2 _ (if _ then _ else _)
              rw [if_neg fun z => z.2.2 hz]
              exact hme
          · by_cases hl : c < lo + (k : Int)
            · rw [if_pos (by omega)]
              rw [if_pos hl] at hc
              exact hc
            · rw [if_neg (by omega)]
              rw [if_neg hl] at hc
              exact hc
        repeat walk_at "s"
        refine ⟨_, _, _, m, _, _, rfl, s2.seq hS, ok, hmx _ s2, mok, hin, ?_⟩
        repeat walk_at "s"
        refine yInI hd ?_
        refine xBl ?_
        cases es : showM s (lo + (k : Int)) line (ms.take i) with
        | some r =>
          obtain ⟨m', n'⟩ := r
          rw [es] at hme
          obtain ⟨p, t', e, _⟩ := id hme
          rw [e]
          refine iteF ?_
          refine iteF ?_
          repeat walk_at "s"
          exact ⟨_, _, kvs, rfl, s2, hd, by omega, stay (.inl (by rw [es]; exact fun z => by cases z))⟩
        | none =>
          rw [es] at hme
          have e : valV kvs (Sum.inl (lo + (k : Int))) = none := hme
          rw [e]
          refine iteT ?_
          repeat walk_at "s"
          refine iteDN (fun hnz => ?_) (fun hz => ?_)
          · repeat walk_at "s"
            refine ⟨Nat.le_of_ble_eq_true rfl, fun p np => ?_⟩
            repeat walk_at "s"
            have sp := same_upd (o := .tup [.ref t, .int (mpixM s m (lo + (k : Int)) line)]) np
            refine yDPi (sp _ _ hd) (Nat.lt_of_le_of_lt (show kvs.length ≤ 1000 by omega) (by decide)) ?_
            have hdp : d ≠ p := ne_of_none hd np
            have kt : ∀ (b : Addr) (xs : List V), H2 b = some (.tup xs) → upd (upd H2 p (.tup [.ref t, .int (mpixM s m (lo + (k : Int)) line)])) d (.dK (putK kvs (Sum.inl (lo + (k : Int))) (.ref p))) b = some (.tup xs) := fun b xs hb => by
              rw [upd_ne fun z => by rw [z, hd] at hb; cases hb]
              exact sp _ _ hb
            refine ⟨_, _, _, rfl, fun b o eb => ?_, upd_same, Nat.le_trans (length_putK _ _ _) (by omega), fun c c1 c2 => ?_⟩
            · rw [upd_ne (ne_of_none eb nd)]
              exact sp _ _ (s2 _ _ eb)
            · rw [valV_put]
              by_cases ec : c = lo + (k : Int)
              · subst ec
                rw [if_pos rfl, if_pos (by omega), show_snoc, es]
                show DotAt _ _ (if _ then _ else _)
                rw [if_pos ⟨hin.1, hin.2, hnz⟩]
                refine ⟨p, t, rfl, ?_, kt _ _ (s2 _ _ ht)⟩
                rw [upd_ne hdp.symm]
                exact upd_same
              · rw [if_neg (fun z => ec (Sum.inl.inj z))]
                refine DotAt.keep ?_ kt
                have hc := hdot c c1 c2
                by_cases hl : c < lo + (k : Int)
                · rw [if_pos (by omega)]
                  rw [if_pos hl] at hc
                  exact hc
                · rw [if_neg (by omega)]
                  rw [if_neg hl] at hc
                  exact hc
          · repeat walk_at "s"
            exact ⟨_, _, kvs, rfl, s2, hd, by omega, stay (.inr hz)⟩
      · rintro σ H2 ⟨v, w, kvs, rfl, s2, hd, hkl, hdot⟩
        refine ⟨_, _, _, kvs, rfl, s2, hd, by omega, fun c c1 c2 => ?_⟩
        have hc := hdot c c1 c2
        by_cases hl : c < lo + ((hi' - lo).toNat : Int)
        · rw [if_pos hl] at hc
          exact hc
        · rw [if_neg hl] at hc
          rw [show_out (by omega)]
          exact hc
  · rintro σ H1 ⟨u, v, w, kvs, rfl, s1, hd, hkl, hdot⟩
    repeat walk_at "s"
    rw [List.length_map, paired_len pr, List.take_length] at hdot
    exact q d kvs H1 s1 hd hdot
theorem rowM_succ (s : List Int) (t : Sett) (ms : List Mov) (line first : Int) (n : Nat) : rowM s t ms line first (n + 1) = rowM s t ms line first n ++ [(dotM s t ms (first + (n : Int)) line).1] := by
  unfold rowM
  rw [List.range_succ, List.map_append]
  rfl
theorem rowH_succ (s : List Int) (t : Sett) (ms : List Mov) (line first : Int) (n : Nat) : rowH s t ms line first (n + 1) = (rowH s t ms line first n || (dotM s t ms (first + (n : Int)) line).2) := by
  unfold rowH
  rw [List.range_succ, List.any_append]
  simp
theorem rowM_len (s : List Int) (t : Sett) (ms : List Mov) (line first : Int) (n : Nat) : (rowM s t ms line first n).length = n := by
  unfold rowM
  simp
theorem placeM_some (g : Int × Int) (m : Mov) (n : Int) : placeM g (some (m, n)) = if bitM m.looks 5 = 0 ∨ g.1 = 0 then 112 + 4 * (m.looks % 4) + n else 96 + (if g.1 ≠ 0 then 4 * g.2 + g.1 else 0) := rfl
theorem hitM_some (g : Int × Int) (m : Mov) (n : Int) : hitM g (some (m, n)) = (decide (m.k = 0) && !decide (g.1 = 0)) := rfl
theorem pure_dots {K : PySem.W.Frag} (vs : List V) (H : Hp) (Q : VK) (E : XK) (h : sp_dots_of K vs H Q E) : vs.length = 6 ∧ t_dots_of K { nx := fun _ H' => Q .non H', rt := Q } (start N_dots_of vs) H := by
  obtain ⟨a, b, mq, s, t, ms, line, first, last, rfl, hS, ok, hT, hM, mo, hml, hf, q⟩ := h
  refine ⟨rfl, ?_⟩
  show t_dots_of K _ [some (.ref a), some (.ref b), some (.ref mq), some (.int line), some (.int first), some (.int last), none, none, none, none, none, none, none, none, none] H
  unfold t_dots_of
  repeat walk_at "s"
  refine ⟨a, mq, s, ms, line, first, last, rfl, hS, ok, hM, mo, hml, hf, fun d kvs H1 s1 hd hdot => ?_⟩
  repeat walk_at "s"
  refine ⟨Nat.zero_le _, fun f nf => ?_⟩
  repeat walk_at "s"
  have sf := same_upd (o := .lst []) nf
  have s2 := s1.trans sf
  refine xForEU ?_
  repeat walk_at "s"
  refine ⟨a, b, s, t, line, first, last, rfl, s2.seq hS, ok, Same.tup s2 hT, hf, fun gq H3 s3 ngq G => ?_⟩
  obtain ⟨gts, hg, gpr⟩ := G
  have hf3 := s3 _ _ (upd_same (H := H1) (a := f) (o := .lst []))
  have sH3 := s2.trans s3
  have s13 := sf.trans s3
  have nfH : H f = none := s1.free nf
  have hgf : gq ∉ [f] := fun hm => by
    rw [List.mem_singleton.mp hm, upd_same] at ngq
    cases ngq
  have hglen : gts.length = (last - first).toNat := by
    rw [paired_len gpr]
    simp
  refine ⟨gq, gts.map V.ref, rfl, SqL.of hg, for_enum (xs := gts.map V.ref) (fun i σ H' => ∃ x9 x10 x11 x12 x13 x14, σ = [some (.ref a), some (.ref b), some (.ref mq), some (.int line), some (.int first), some (.int last), some (.ref d), some (.ref f), some (.bl (rowH s t ms line first i)), x9, x10, x11, x12, x13, x14] ∧ Keep [f] H3 H' ∧ H' f = some (.lst ((rowM s t ms line first i).map V.int)))
    ⟨_, _, _, _, _, _, rfl, .refl _ _, hf3⟩ (fun i σ H' hi ⟨_, _, _, _, _, _, _, k, hfl⟩ => SqL.of (k _ _ hg hgf)) ?_ ?_⟩
  · rintro i y T σ H4 hy ⟨x9, x10, x11, x12, x13, x14, rfl, k4, hf4⟩ hT4
    rw [List.getElem?_map] at hy
    cases et : gts[i]? with
    | none =>
      rw [et] at hy
      cases hy
    | some gt =>
      rw [et] at hy
      cases hy
      obtain ⟨g, hgi, hgt⟩ := paired_fst gpr et
      have hi : i < (last - first).toNat := by
        have := (List.getElem?_eq_some_iff.mp et).1
        omega
      have eg : g = groundM s t (first + (i : Int)) line := by
        rw [List.getElem?_map, List.getElem?_range hi] at hgi
        exact (Option.some.inj hgi).symm
      have hgtf : gt ∉ [f] := fun hm => by
        rw [List.mem_singleton.mp hm, hf3] at hgt
        cases hgt
      have k5 : Keep [f] H3 (upd H4 T (.tup [.int (i : Int), .ref gt])) := k4.trans (.of_same (same_upd hT4))
      have hf5 : upd H4 T (.tup [.int (i : Int), .ref gt]) f = some (.lst ((rowM s t ms line first i).map V.int)) := same_upd hT4 _ _ hf4
      refine yGT (SqT.of upd_same) rfl ?_
      generalize upd H4 T (.tup [.int (i : Int), .ref gt]) = H5 at k5 hf5
      have sH5 : Same H H5 := Same.keep sH3 k5 fun z hz => by rw [List.mem_singleton.mp hz]; exact nfH
      have s15 : Same H1 H5 := Same.keep s13 k5 fun z hz => by rw [List.mem_singleton.mp hz]; exact nf
      have hS5 := sH5.seq hS
      have hd5 := s15 _ _ hd
      have hdo := (hdot (first + (i : Int)) (by omega) (by omega)).keep fun b xs hb => s15 _ _ hb
      have hpl := place_bd (s := s) (t := t) (col := first + (i : Int)) (line := line) (ms := ms)
      have hix := at_ix (i := placeM (groundM s t (first + (i : Int)) line) (showM s (first + (i : Int)) line ms)) ok (by omega) (by omega)
      have hgb := ground_bd s t (first + (i : Int)) line
      have hsm : ∀ m n, showM s (first + (i : Int)) line ms = some (m, n) → MovOk line m ∧ (0 ≤ n ∧ n < 4) := fun m n e => by
        obtain ⟨h1, _, _, h2⟩ := show_some e
        exact ⟨mo m h1, h2⟩
      have hRow := rowM_succ s t ms line first i
      have hHit := rowH_succ s t ms line first i
      unfold dotM at hRow hHit
      rw [← eg] at hRow hHit hix hgb
      clear hpl
      generalize showM s (first + (i : Int)) line ms = sh at *
      have fin : ∀ (pl : Int) (hb : Bool) x13 x14, pl = placeM g sh → hb = (rowH s t ms line first i || hitM g sh) → ∀ D : Ends, (∀ σ' H', (∃ x9 x10 x11 x12 x13 x14, σ' = [some (.ref a), some (.ref b), some (.ref mq), some (.int line), some (.int first), some (.int last), some (.ref d), some (.ref f), some (.bl (rowH s t ms line first (i + 1))), x9, x10, x11, x12, x13, x14] ∧ Keep [f] H3 H' ∧ H' f = some (.lst ((rowM s t ms line first (i + 1)).map V.int))) → D.nx σ' H') →
          (tDrop (tBM K "list" (rAppend) (tVar 7) (tCons (tOp (rI (fun _ j => 0 < j) fun i j => .int (i % j)) (tOp (rIxL K) (tVar 0) (tVar 12)) (tC (.int 64))) tNil))) D [some (.ref a), some (.ref b), some (.ref mq), some (.int line), some (.int first), some (.int last), some (.ref d), some (.ref f), some (.bl hb), some (.int (i : Int)), some (.int g.1), some (.int g.2), some (.int pl), x13, x14] H5 := by
        intro pl hb x13 x14 epl ehb D hD
        repeat walk_at "s"
        refine ⟨tyL hf5, ?_⟩
        repeat walk_at "s"
        rw [epl]
        refine yIxL hS5 hix ?_
        repeat walk_at "s"
        refine yAppend hf5 (by rw [List.length_map, rowM_len]; exact Nat.lt_of_le_of_lt (show i ≤ 32 by omega) (by decide)) ?_
        rw [hHit, ← ehb] at hD
        refine hD _ _ ⟨_, _, _, _, _, _, rfl, k5.trans (.upd (by simp)), ?_⟩
        rw [hRow, List.map_append]
        exact upd_same
      have base : ∀ D : Ends, ∀ z : Int, z = 96 + (if g.1 ≠ 0 then 4 * g.2 + g.1 else 0) → (∀ σ' H', (∃ x9 x10 x11 x12 x13 x14, σ' = [some (.ref a), some (.ref b), some (.ref mq), some (.int line), some (.int first), some (.int last), some (.ref d), some (.ref f), some (.bl (rowH s t ms line first (i + 1))), x9, x10, x11, x12, x13, x14] ∧ Keep [f] H3 H' ∧ H' f = some (.lst ((rowM s t ms line first (i + 1)).map V.int))) → D.nx σ' H') →
          (tSeq (tIfS (tB (tDIn (tOp (rI0 fun i j => .int (i + j)) (tVar 4) (tVar 9)) (tVar 6))) (tSeq (tAsg (tDGet (tVar 6) (tOp (rI0 fun i j => .int (i + j)) (tVar 4) (tVar 9))) (gTup K 2 (gCons (gName 13) (gCons (gName 14) gNil))))
  (tSeq (tAsg (tOrV (tVar 8) (tAndV (tOp (rEq) (tOp (rIxT K) (tVar 13) (tC (.int 0))) (tC (.int 0))) (tOp (rNe) (tVar 10) (tC (.int 0))))) (gName 8))
  (tIfS (tOr (tTest (tOp (rEq) (tVar 10) (tC (.int 0)))) (tTest (tOp (rEq) (tCall (sp_bit K) [] E0 (tCons (tOp (rIxT K) (tVar 13) (tC (.int 3))) (tCons (tC (.int 5)) tNil))) (tC (.int 0))))) (tAsg (tOp (rI0 fun i j => .int (i + j)) (tOp (rI0 fun i j => .int (i + j)) (tC (.int 112)) (tOp (rI CMul fun i j => .int (i * j)) (tC (.int 4)) (tOp (rI (fun _ j => 0 < j) fun i j => .int (i % j)) (tOp (rIxT K) (tVar 13) (tC (.int 3))) (tC (.int 4))))) (tVar 14)) (gName 12)) tNext))) tNext)
  (tDrop (tBM K "list" (rAppend) (tVar 7) (tCons (tOp (rI (fun _ j => 0 < j) fun i j => .int (i % j)) (tOp (rIxL K) (tVar 0) (tVar 12)) (tC (.int 64))) tNil)))) D [some (.ref a), some (.ref b), some (.ref mq), some (.int line), some (.int first), some (.int last), some (.ref d), some (.ref f), some (.bl (rowH s t ms line first i)), some (.int (i : Int)), some (.int g.1), some (.int g.2), some (.int z), x13, x14] H5 := by
        intro D z ez hD
        refine xSeq (xIfS (xB (xIn ?_)))
        repeat walk_at "s"
        refine yInI hd5 ?_
        refine xBl ?_
        cases sh with
        | none =>
          have e : valV kvs (Sum.inl (first + (i : Int))) = none := hdo
          rw [e]
          refine iteF ?_
          refine xNext ?_
          exact fin _ _ _ _ (by rw [ez]; rfl) (by show _ = (_ || false); rw [Bool.or_false]) _ hD
        | some r =>
          obtain ⟨m, n⟩ := r
          obtain ⟨p, tm, e, hp5, ht5⟩ := hdo
          obtain ⟨mok, nb⟩ := hsm m n rfl
          rw [e]
          refine iteT ?_
          refine xSeq (xAsg (xDG ?_))
          repeat walk_at "u"
          refine yDGi (.inl hd5) e ?_
          refine yGT (SqT.of hp5) rfl ?_
          repeat walk_at "u"
          have last2 : ∀ hb : Bool, hb = (rowH s t ms line first i || hitM g (some (m, n))) → (fun D : Ends => tIfS (tOr (tTest (tOp (rEq) (tVar 10) (tC (.int 0)))) (tTest (tOp (rEq) (tCall (sp_bit K) [] E0 (tCons (tOp (rIxT K) (tVar 13) (tC (.int 3))) (tCons (tC (.int 5)) tNil))) (tC (.int 0))))) (tAsg (tOp (rI0 fun i j => .int (i + j)) (tOp (rI0 fun i j => .int (i + j)) (tC (.int 112)) (tOp (rI CMul fun i j => .int (i * j)) (tC (.int 4)) (tOp (rI (fun _ j => 0 < j) fun i j => .int (i % j)) (tOp (rIxT K) (tVar 13) (tC (.int 3))) (tC (.int 4))))) (tVar 14)) (gName 12)) tNext { D with nx := (tDrop (tBM K "list" (rAppend) (tVar 7) (tCons (tOp (rI (fun _ j => 0 < j) fun i j => .int (i % j)) (tOp (rIxL K) (tVar 0) (tVar 12)) (tC (.int 64))) tNil))) D } [some (.ref a), some (.ref b), some (.ref mq), some (.int line), some (.int first), some (.int last), some (.ref d), some (.ref f), some (.bl hb), some (.int (i : Int)), some (.int g.1), some (.int g.2), some (.int z), some (.ref tm), some (.int n)] H5) D := by
            intro hb ehb
            have yes : bitM m.looks 5 = 0 ∨ g.1 = 0 → (fun D : Ends => (tAsg (tOp (rI0 fun i j => .int (i + j)) (tOp (rI0 fun i j => .int (i + j)) (tC (.int 112)) (tOp (rI CMul fun i j => .int (i * j)) (tC (.int 4)) (tOp (rI (fun _ j => 0 < j) fun i j => .int (i % j)) (tOp (rIxT K) (tVar 13) (tC (.int 3))) (tC (.int 4))))) (tVar 14)) (gName 12)) { D with nx := (tDrop (tBM K "list" (rAppend) (tVar 7) (tCons (tOp (rI (fun _ j => 0 < j) fun i j => .int (i % j)) (tOp (rIxL K) (tVar 0) (tVar 12)) (tC (.int 64))) tNil))) D } [some (.ref a), some (.ref b), some (.ref mq), some (.int line), some (.int first), some (.int last), some (.ref d), some (.ref f), some (.bl hb), some (.int (i : Int)), some (.int g.1), some (.int g.2), some (.int z), some (.ref tm), some (.int n)] H5) D := by
              intro hg
              show tAsg _ _ _ _ _
              refine xAsg (xOp (xOp ?_))
              repeat walk_at "s"
              refine yIxT (SqT.of ht5) (v := .int m.looks) rfl ?_
              refine xC (xI (show (0 : Int) < 4 by decide) ?_)
              refine xI (.inl ⟨by decide, by decide⟩) ?_
              refine xI0 (xVar (v := .int n) rfl (xI0 (xNm ?_)))
              exact fin _ _ _ _ (by rw [placeM_some, if_pos hg]) ehb _ hD
            show tIfS _ _ _ _ _ _
            refine xIfS (xOr (xTest (xOp (xVar (v := .int g.1) rfl (xC (xEqI (xBl ?_)))))))
            refine iteD (fun h6 => ?_) (fun h6 => ?_)
            · refine iteT ?_
              exact yes (.inr h6)
            · refine xTest (xOp (xCall (xCons (xOp (xVar (v := .ref tm) rfl (xC ?_))))))
              refine yIxT (SqT.of ht5) (v := .int m.looks) rfl ?_
              refine xCons (xC (xNil ?_))
              refine ⟨_, _, rfl, ⟨by decide, by decide⟩, ?_⟩
              refine xC (xEqI (xBl ?_))
              refine iteD (fun h5 => ?_) (fun h5 => ?_)
              · exact yes (.inl h5)
              · show tNext _ _ _
                refine xNext ?_
                exact fin _ _ _ _ (by rw [placeM_some, if_neg (fun z => z.elim h5 h6)]; exact ez) ehb _ hD
          refine xSeq (xAsg (xOrV (xVar (v := .bl (rowH s t ms line first i)) rfl (xBl ?_))))
          refine iteB (fun hr => ?_) (fun hr => ?_)
          · refine xNm ?_
            exact last2 _ (by rw [hr]; rfl)
          · refine xAndV (xOp (xOp (xVar (v := .ref tm) rfl (xC ?_))))
            refine yIxT (SqT.of ht5) (v := .int m.k) rfl ?_
            refine xC (xEqI (xBl ?_))
            refine iteD (fun hk => ?_) (fun hk => ?_)
            · refine xOp (xVar (v := .int g.1) rfl (xC (xNeI (xNm ?_))))
              exact last2 _ (by rw [hr, hitM_some, decide_eq_true hk]; rfl)
            · refine xNm ?_
              exact last2 _ (by rw [hr, hitM_some, decide_eq_false hk]; rfl)
      repeat walk_at "u"
      refine yGT (SqT.of (k5 _ _ hgt hgtf)) rfl ?_
      repeat walk_at "u"
      refine xSeq (xAsg (xOp (xC (xIf (xTest (xOp (xVar (v := .int g.1) rfl (xC (xNeI (xBl ?_)))))))))) 
      refine iteDN (fun h => ?_) (fun h => ?_)
      · refine xOp (xOp (xC (xVar (v := .int g.2) rfl (xI (.inl ⟨by decide, by decide⟩) ?_))))
        refine xVar (v := .int g.1) rfl (xI0 (xI0 (xNm ?_)))
        exact base _ _ (by rw [if_pos h]) fun _ _ h => h
      · refine xC (xI0 (xNm ?_))
        exact base _ _ (by rw [if_neg (fun z => z h)]) fun _ _ h => h
  · rintro σ H4 ⟨x9, x10, x11, x12, x13, x14, rfl, k4, hf4⟩
    rw [List.length_map, hglen] at *
    have sH4 : Same H H4 := Same.keep sH3 k4 fun z hz => by rw [List.mem_singleton.mp hz]; exact nfH
    repeat walk_at "s"
    refine ⟨Nat.le_of_ble_eq_true rfl, fun p np => ?_⟩
    exact q p f _ (sH4.trans (same_upd np)) upd_same (same_upd np _ _ hf4) nfH
end K62
namespace K62
open PySem PySem.Spec PyProof.Rows L2 StX Kx
local macro_rules | `(tactic| walk_at "s") => `(tactic| first
  | with_reducible refine xSeq ?_ | with_reducible refine xAsg ?_ | with_reducible refine xNm ?_ | with_reducible refine xDrop ?_ | with_reducible refine xRet ?_ | with_reducible refine xRetN ?_ | with_reducible refine xNext ?_ | with_reducible refine xIfS ?_
  | ((with_reducible refine xVar (v := ?v) ?h ?q); (case h => exact rfl)) | with_reducible refine xC ?_ | with_reducible refine xOp ?_ | with_reducible refine xUn ?_ | with_reducible refine xI0 ?_ | with_reducible refine xU ?_
  | with_reducible refine xEqI ?_ | with_reducible refine xNeI ?_ | with_reducible refine xEqB ?_ | with_reducible refine xNeB ?_ | with_reducible refine xEqS ?_ | with_reducible refine xNeS ?_ | with_reducible refine xIsN ?_ | with_reducible refine xNotN ?_
  | with_reducible refine xChain ?_ | with_reducible refine xIf ?_ | with_reducible refine xAndV ?_ | with_reducible refine xOrV ?_ | with_reducible refine xNotV ?_
  | with_reducible refine xTest ?_ | with_reducible refine xB ?_ | with_reducible refine xAnd ?_ | with_reducible refine xOr ?_ | with_reducible refine xNot ?_ | with_reducible refine xYes ?_
  | with_reducible refine xNil ?_ | with_reducible refine xCons ?_ | with_reducible refine xTup ?_ | with_reducible refine xLst ?_ | with_reducible refine xCB ?_ | with_reducible refine xInt1I ?_ | with_reducible refine xInt1B ?_ | with_reducible refine xAbs ?_ | with_reducible refine xMin2 ?_ | with_reducible refine xMax2 ?_
  | with_reducible refine xFld ?_ | with_reducible refine xFldS ?_ | with_reducible refine xDG ?_ | with_reducible refine xDP ?_ | with_reducible refine xCall ?_ | with_reducible refine yMeth ?_ | with_reducible refine xBM ?_ | with_reducible refine xBM0 ?_
  | with_reducible refine xPar ?_ | with_reducible refine xPar3 ?_ | with_reducible refine yPar ?_ | with_reducible refine yPar3 ?_ | with_reducible refine xGNil ?_ | with_reducible refine xGCons ?_ | with_reducible refine xGSub ?_
  | with_reducible refine xSl ?_ | with_reducible refine xNoPart ?_ | with_reducible refine xPart ?_ | with_reducible refine xPI ?_ | with_reducible refine xStar ?_ | with_reducible refine xIn ?_ | with_reducible refine xNotIn ?_ | with_reducible refine xGF ?_
  | with_reducible refine xBl ?_ | with_reducible refine xPairs ?_ | with_reducible refine xPairs0 ?_)
local macro_rules | `(tactic| walk_at "h") => `(tactic| first | assumption | exact upd_same | exact same_upd (by assumption) _ _ (by walk_at "h"))
local macro_rules | `(tactic| walk_at "s") => `(tactic| first
  | ((with_reducible refine xI ?c ?q); (case c => first | (show (0 : Int) < _; decide) | exact ⟨by decide, by decide⟩ | exact .inl ⟨by decide, by decide⟩ | exact .inr ⟨by decide, by decide⟩)))
local macro_rules | `(tactic| walk_at "t") => `(tactic| ((fail_if_success (with_reducible refine xSeq ?_)); walk_at "s"))
local macro_rules | `(tactic| walk_at "u") => `(tactic| ((fail_if_success (with_reducible refine xSeq ?_)); (fail_if_success (with_reducible refine xRet ?_)); walk_at "s"))
section
variable (sa st mk mv ca : Addr) (pv v : V) (n i : Int) (nx : Option Int) (a : Addr)
theorem f_sh : (pf sa st mk mv ca pv n nx).lookup ("_sheet" : Str) = some (.ref sa) := by cases nx <;> kernel_rfl
theorem f_st : (pf sa st mk mv ca pv n nx).lookup ("_settings" : Str) = some (.ref st) := by cases nx <;> kernel_rfl
theorem f_mk : (pf sa st mk mv ca pv n nx).lookup ("_marks" : Str) = some (.ref mk) := by cases nx <;> kernel_rfl
theorem f_mv : (pf sa st mk mv ca pv n nx).lookup ("_movers" : Str) = some (.ref mv) := by cases nx <;> kernel_rfl
theorem f_sc : (pf sa st mk mv ca pv n nx).lookup ("_screen" : Str) = some (.ref ca) := by cases nx <;> kernel_rfl
theorem f_pi : (pf sa st mk mv ca pv n nx).lookup ("_picture" : Str) = some pv := by cases nx <;> kernel_rfl
theorem f_nm : (pf sa st mk mv ca pv n nx).lookup ("_number" : Str) = some (.int n) := by cases nx <;> kernel_rfl
theorem f_nx (j : Int) : (pf sa st mk mv ca pv n (some j)).lookup ("_next" : Str) = some (.int j) := by kernel_rfl
theorem p_st : putF "_settings" (.ref a) (pf sa st mk mv ca pv n nx) = pf sa a mk mv ca pv n nx := by cases nx <;> kernel_rfl
theorem p_mk : putF "_marks" (.ref a) (pf sa st mk mv ca pv n nx) = pf sa st a mv ca pv n nx := by cases nx <;> kernel_rfl
theorem p_mv : putF "_movers" (.ref a) (pf sa st mk mv ca pv n nx) = pf sa st mk a ca pv n nx := by cases nx <;> kernel_rfl
theorem p_pi : putF "_picture" v (pf sa st mk mv ca pv n nx) = pf sa st mk mv ca v n nx := by cases nx <;> kernel_rfl
theorem p_nm : putF "_number" (.int i) (pf sa st mk mv ca pv n nx) = pf sa st mk mv ca pv i nx := by cases nx <;> kernel_rfl
theorem p_nx (j k : Int) : putF "_next" (.int k) (pf sa st mk mv ca pv n (some j)) = pf sa st mk mv ca pv n (some k) := by kernel_rfl
theorem f_len : (pf sa st mk mv ca pv n nx).length < 1000 := by cases nx <;> (unfold pf; simp)
theorem f_m {m : Str} (h : (["_sheet", "_settings", "_marks", "_movers", "_screen", "_picture", "_number", "_next"] : List Str).contains m = false) : (pf sa st mk mv ca pv n nx).lookup m = none := by
  simp only [List.contains_cons, Bool.or_eq_false_iff] at h
  obtain ⟨h1, h2, h3, h4, h5, h6, h7, h8, _⟩ := h
  cases nx with
  | none =>
    unfold pf
    simp only [List.lookup_cons, h1, h2, h3, h4, h5, h6, h7]
    rfl
  | some j =>
    unfold pf
    simp only [List.lookup_cons, h1, h2, h3, h4, h5, h6, h7, h8]
    rfl
end
section
variable {C : Addr} {H H' : Hp} {p sa ca : Addr} {P P' : Pic} {nx nx' : Option Int}
theorem MovH.same {q : Addr} {ms : List Mov} (h : MovH H q ms) (s : Same H H') : MovH H' q ms := by
  obtain ⟨ts, h1, h2⟩ := h
  exact ⟨ts, s _ _ h1, Paired.mapP h2 fun x y h => s _ _ h⟩
theorem Un.same (U : Un C H p sa ca P nx) (s : Same H H') : Un C H' p sa ca P nx := by
  obtain ⟨dx, st, mk, mv, pv, ho, hst, hmk, ⟨m1, m2, hmv⟩, hp0, hp1⟩ := U.ob
  refine ⟨⟨dx, st, mk, mv, pv, s _ _ ho, s _ _ hst, s _ _ hmk, ⟨m1, m2, hmv.same s⟩, hp0, fun d e => ?_⟩, s _ _ U.sh, s _ _ U.sc, U.ne⟩
  obtain ⟨q, h1, h2, h3, h4⟩ := hp1 d e
  exact ⟨q, h1, h2, h3, s _ _ h4⟩
theorem Un.psa (U : Un C H p sa ca P nx) : p ≠ sa := fun e => by
  obtain ⟨dx, st, mk, mv, pv, ho, _⟩ := U.ob
  rw [e, U.sh] at ho
  cases ho
theorem Un.pca (U : Un C H p sa ca P nx) : p ≠ ca := fun e => by
  obtain ⟨dx, st, mk, mv, pv, ho, _⟩ := U.ob
  rw [e, U.sc] at ho
  cases ho
/-- the object's fields anew -/
theorem Un.put (U : Un C H p sa ca P nx) {dx st mk mv : Addr} {pv : V} (h1 : P'.sheet = P.sheet) (h2 : P'.screen = P.screen) (hst : H st = some (.tup (setV P'.set))) (hmk : H mk = some (.tup [.bl P'.blank, .bl P'.hit, .bl P'.full]))
    (hmv : mv ≠ sa ∧ mv ≠ ca ∧ MovH H mv P'.movers) (hp0 : P'.pic = none → pv = .non) (hp1 : ∀ d, P'.pic = some d → ∃ q, pv = .ref q ∧ q ≠ sa ∧ q ≠ ca ∧ H q = some (.lst (d.map V.int))) :
    Un C (upd H p (.ins C dx (pf sa st mk mv ca pv P'.number nx'))) p sa ca P' nx' := by
  obtain ⟨dx0, _, _, _, _, ho, _⟩ := U.ob
  have kt : ∀ b xs, H b = some (.tup xs) → upd H p (.ins C dx (pf sa st mk mv ca pv P'.number nx')) b = some (.tup xs) := fun b xs hb => by
    rw [upd_ne fun e => by rw [e, ho] at hb; cases hb]
    exact hb
  have kl : ∀ b xs, H b = some (.lst xs) → upd H p (.ins C dx (pf sa st mk mv ca pv P'.number nx')) b = some (.lst xs) := fun b xs hb => by
    rw [upd_ne fun e => by rw [e, ho] at hb; cases hb]
    exact hb
  obtain ⟨m1, m2, ts, hm, pr⟩ := hmv
  refine ⟨⟨dx, st, mk, mv, pv, upd_same, kt _ _ hst, kt _ _ hmk, ⟨m1, m2, ts, kl _ _ hm, Paired.mapP pr fun x y h => kt _ _ h⟩, hp0, fun d e => ?_⟩, kl _ _ (by rw [h1]; exact U.sh), kl _ _ (by rw [h2]; exact U.sc), U.ne⟩
  obtain ⟨q, e1, e2, e3, e4⟩ := hp1 d e
  exact ⟨q, e1, e2, e3, kl _ _ e4⟩
/-- the sheet's list changed in place -/
theorem Un.putS (U : Un C H p sa ca P nx) (s : List Int) : Un C (upd H sa (.lst (s.map V.int))) p sa ca { P with sheet := s } nx := by
  obtain ⟨dx, st, mk, mv, pv, ho, hst, hmk, ⟨m1, m2, ts, hm, pr⟩, hp0, hp1⟩ := U.ob
  have kt : ∀ b xs, H b = some (.tup xs) → upd H sa (.lst (s.map V.int)) b = some (.tup xs) := fun b xs hb => by
    rw [upd_ne fun e => by rw [e, U.sh] at hb; cases hb]
    exact hb
  refine ⟨⟨dx, st, mk, mv, pv, by rw [upd_ne U.psa]; exact ho, kt _ _ hst, kt _ _ hmk, ⟨m1, m2, ts, by rw [upd_ne m1]; exact hm, Paired.mapP pr fun x y h => kt _ _ h⟩, hp0, fun d e => ?_⟩, upd_same, by rw [upd_ne U.ne.symm]; exact U.sc, U.ne⟩
  obtain ⟨q, e1, e2, e3, e4⟩ := hp1 d e
  exact ⟨q, e1, e2, e3, by rw [upd_ne e2]; exact e4⟩
theorem Un.putC (U : Un C H p sa ca P nx) (s : List Int) : Un C (upd H ca (.lst (s.map V.int))) p sa ca { P with screen := s } nx := by
  obtain ⟨dx, st, mk, mv, pv, ho, hst, hmk, ⟨m1, m2, ts, hm, pr⟩, hp0, hp1⟩ := U.ob
  have kt : ∀ b xs, H b = some (.tup xs) → upd H ca (.lst (s.map V.int)) b = some (.tup xs) := fun b xs hb => by
    rw [upd_ne fun e => by rw [e, U.sc] at hb; cases hb]
    exact hb
  refine ⟨⟨dx, st, mk, mv, pv, by rw [upd_ne U.pca]; exact ho, kt _ _ hst, kt _ _ hmk, ⟨m1, m2, ts, by rw [upd_ne m2]; exact hm, Paired.mapP pr fun x y h => kt _ _ h⟩, hp0, fun d e => ?_⟩, by rw [upd_ne U.ne]; exact U.sh, upd_same, U.ne⟩
  obtain ⟨q, e1, e2, e3, e4⟩ := hp1 d e
  exact ⟨q, e1, e2, e3, by rw [upd_ne e3]; exact e4⟩
end
section
variable {C : Addr} {H H' H2 : Hp} {p sa ca f : Addr} {P P' : Pic} {nx nx' : Option Int}
theorem Off.by_ {dx sa st mk mv ca : Addr} {pv : V} {n : Int} (ho : H p = some (.ins C dx (pf sa st mk mv ca pv n nx))) (h1 : mv ≠ f) (h2 : pv ≠ .ref f) : Off f H p := fun C' dx' fs' h => by
  rw [ho] at h
  cases h
  rw [f_mv, f_pi]
  exact ⟨fun e => h1 (V.ref.inj (Option.some.inj e)), fun e => h2 (Option.some.inj e)⟩
theorem Off.mv {dx sa st mk mv ca : Addr} {pv : V} {n : Int} (h : Off f H p) (ho : H p = some (.ins C dx (pf sa st mk mv ca pv n nx))) : mv ≠ f ∧ pv ≠ .ref f := by
  obtain ⟨h1, h2⟩ := h _ _ _ ho
  rw [f_mv] at h1
  rw [f_pi] at h2
  exact ⟨fun e => h1 (by rw [e]), fun e => h2 (by rw [e])⟩
theorem OffK.refl (H : Hp) (p : Addr) : OffK H H p := fun f o h ho => ⟨ho, o, h⟩
theorem OffK.trans (a : OffK H H' p) (b : OffK H' H2 p) : OffK H H2 p := fun f o h ho => by
  obtain ⟨h1, o', h2⟩ := a f o h ho
  exact b f o' h2 h1
theorem OffK.same {u : HO} (hp : H p = some u) (s : Same H H') : OffK H H' p := fun f o h ho => ⟨fun C dx fs e => by
  rw [s _ _ hp] at e
  exact ho C dx fs (by rw [hp]; exact e), o, s _ _ h⟩
theorem OffK.put {dx sa st mk mv ca : Addr} {pv : V} {n : Int} (s : Same H H') (h : ∀ f o, H f = some o → Off f H p → mv ≠ f ∧ pv ≠ .ref f) : OffK H (upd H' p (.ins C dx (pf sa st mk mv ca pv n nx))) p := fun f o hf ho => by
  obtain ⟨h1, h2⟩ := h f o hf ho
  refine ⟨Off.by_ upd_same h1 h2, ?_⟩
  by_cases e : f = p
  · exact ⟨_, by rw [e]; exact upd_same⟩
  · exact ⟨o, by rw [upd_ne e]; exact s _ _ hf⟩
theorem OffK.other {b : Addr} {u : HO} (hb : b ≠ p) : OffK H (upd H b u) p := fun f o hf ho => by
  refine ⟨fun C dx fs e => ho C dx fs (by rw [← e, upd_ne hb.symm]), ?_⟩
  by_cases e : f = b
  · exact ⟨_, by rw [e]; exact upd_same⟩
  · exact ⟨o, by rw [upd_ne e]; exact hf⟩
/-- a fresh address is off -/
theorem Un.off (U : Un C H p sa ca P nx) (hf : H f = none) : Off f H p := by
  obtain ⟨dx, st, mk, mv, pv, ho, _, _, ⟨_, _, ts, hm, _⟩, hp0, hp1⟩ := U.ob
  refine Off.by_ ho (fun e => by rw [e, hf] at hm; cases hm) fun e => ?_
  cases ep : P.pic with
  | none =>
    rw [hp0 ep] at e
    cases e
  | some d =>
    obtain ⟨q, h1, _, _, h4⟩ := hp1 d ep
    rw [h1] at e
    cases e
    rw [hf] at h4
    cases h4
/-- a list that is not the unit's changed -/
theorem Un.other (U : Un C H p sa ca P nx) {xs ys : List V} (hf : H f = some (.lst xs)) (h1 : f ≠ sa) (h2 : f ≠ ca) (off : Off f H p) : Un C (upd H f (.lst ys)) p sa ca P nx := by
  obtain ⟨dx, st, mk, mv, pv, ho, hst, hmk, ⟨m1, m2, ts, hm, pr⟩, hp0, hp1⟩ := U.ob
  obtain ⟨o1, o2⟩ := off.mv ho
  have kt : ∀ b xs, H b = some (.tup xs) → upd H f (.lst ys) b = some (.tup xs) := fun b xs hb => by
    rw [upd_ne fun e => by rw [e, hf] at hb; cases hb]
    exact hb
  refine ⟨⟨dx, st, mk, mv, pv, by rw [upd_ne fun e => by rw [← e, ho] at hf; cases hf]; exact ho, kt _ _ hst, kt _ _ hmk, ⟨m1, m2, ts, by rw [upd_ne o1]; exact hm, Paired.mapP pr fun x y h => kt _ _ h⟩, hp0, fun d e => ?_⟩, by rw [upd_ne h1.symm]; exact U.sh, by rw [upd_ne h2.symm]; exact U.sc, U.ne⟩
  obtain ⟨q, e1, e2, e3, e4⟩ := hp1 d e
  refine ⟨q, e1, e2, e3, ?_⟩
  rw [upd_ne fun z => o2 (by rw [e1, z])]
  exact e4
end
/-- what the text has of the class -/
structure CF (K : PySem.W.Frag) : Prop where
  cl : Cls K (LP K)
  sh : NoAttr K (LP K) "_sheet"
  st : NoAttr K (LP K) "_settings"
  mks : NoAttr K (LP K) "_marks"
  mv : NoAttr K (LP K) "_movers"
  sc : NoAttr K (LP K) "_screen"
  pi : NoAttr K (LP K) "_picture"
  nm : NoAttr K (LP K) "_number"
  nx : NoAttr K (LP K) "_next"
theorem pure_put {K : PySem.W.Frag} (c : CF K) (vs : List V) (H : Hp) (Q : VK) (E : XK) (h : sp_Picture_put_LatePicture K vs H Q E) : vs.length = 3 ∧ t_Picture_put_LatePicture K { nx := fun _ H' => Q .non H', rt := Q } (start N_Picture_put_LatePicture vs) H := by
  obtain ⟨p, place, byte, sa, ca, P, nx, rfl, U, hl, hp, q⟩ := h
  refine ⟨rfl, ?_⟩
  show t_Picture_put_LatePicture K _ [some (.ref p), some (.int place), some (.int byte)] H
  unfold t_Picture_put_LatePicture
  obtain ⟨dx, st, mk, mv, pv, ho, _⟩ := U.ob
  repeat walk_at "s"
  refine yFld ho c.cl c.sh (f_sh ..) ?_
  repeat walk_at "s"
  have e : place % 1024 = place := Int.emod_eq_of_lt hp.1 hp.2
  rw [e]
  refine ySetL U.sh (ix_nat hp.1 (by rw [List.length_map, hl]; exact hp.2)) ?_
  rw [← List.map_set (f := V.int)]
  exact q _ (U.putS _) (.upd (by simp))
theorem pure_marks {K : PySem.W.Frag} (c : CF K) (vs : List V) (H : Hp) (Q : VK) (E : XK) (h : sp_Picture_marks_LatePicture K vs H Q E) : vs.length = 1 ∧ t_Picture_marks_LatePicture K { nx := fun _ H' => Q .non H', rt := Q } (start N_Picture_marks_LatePicture vs) H := by
  obtain ⟨p, sa, ca, P, nx, rfl, U, q⟩ := h
  refine ⟨rfl, ?_⟩
  show t_Picture_marks_LatePicture K _ [some (.ref p)] H
  unfold t_Picture_marks_LatePicture
  obtain ⟨dx, st, mk, mv, pv, ho, hst, hmk, _⟩ := U.ob
  repeat walk_at "s"
  exact yFld ho c.cl c.mks (f_mk ..) (q _ hmk)
theorem pure_picture {K : PySem.W.Frag} (c : CF K) (vs : List V) (H : Hp) (Q : VK) (E : XK) (h : sp_Picture_picture_LatePicture K vs H Q E) : vs.length = 1 ∧ t_Picture_picture_LatePicture K { nx := fun _ H' => Q .non H', rt := Q } (start N_Picture_picture_LatePicture vs) H := by
  obtain ⟨p, sa, ca, P, nx, rfl, U, q0, q1⟩ := h
  refine ⟨rfl, ?_⟩
  show t_Picture_picture_LatePicture K _ [some (.ref p)] H
  unfold t_Picture_picture_LatePicture
  obtain ⟨dx, st, mk, mv, pv, ho, hst, hmk, hmv, hp0, hp1⟩ := U.ob
  repeat walk_at "s"
  refine yFld ho c.cl c.pi (f_pi ..) ?_
  refine xBl ?_
  cases ep : P.pic with
  | none =>
    rw [hp0 ep]
    refine iteT ?_
    exact q0 ep
  | some d =>
    obtain ⟨r, rfl, _, _, hr⟩ := hp1 d ep
    refine iteF ?_
    repeat walk_at "s"
    refine yFld ho c.cl c.pi (f_pi ..) ?_
    repeat walk_at "s"
    exact yListOf (SqL.of hr) fun l nl => q1 d ep l _ (.upd nl)
theorem pure_pinit {K : PySem.W.Frag} (c : CF K) (vs : List V) (H : Hp) (Q : VK) (E : XK) (h : sp_Picture___init___LatePicture K vs H Q E) : vs.length = 1 ∧ t_Picture___init___LatePicture K { nx := fun _ H' => Q .non H', rt := Q } (start N_Picture___init___LatePicture vs) H := by
  obtain ⟨p, dx, rfl, hp, q⟩ := h
  refine ⟨rfl, ?_⟩
  show t_Picture___init___LatePicture K _ [some (.ref p)] H
  unfold t_Picture___init___LatePicture
  have big : ∀ n : Int, 0 ≤ n → n ≤ 1024 → ([V.int 0] : List V).length * n.toNat ≤ sizeLine := fun n h0 h1 => by
    show 1 * n.toNat ≤ sizeLine
    exact Nat.le_trans (show 1 * n.toNat ≤ 1024 by omega) (by decide)
  repeat walk_at "s"
  refine ⟨Nat.le_of_ble_eq_true rfl, fun z1 n1 => ?_⟩
  repeat walk_at "s"
  refine yRep upd_same (by decide) (by decide) (big _ (by decide) (by decide)) fun sa n2 => ?_
  have s1 := (same_upd (o := .lst [.int 0]) n1).trans (same_upd (o := .lst (List.replicate (Int.toNat 1024) [V.int 0]).flatten) n2)
  repeat walk_at "s"
  refine yFldS (s1 _ _ hp) c.cl c.sh (by decide) ?_
  have hsa0 : upd (upd H z1 (.lst [.int 0])) sa (.lst (List.replicate (Int.toNat 1024) [V.int 0]).flatten) sa = some (.lst ((List.replicate 1024 (0 : Int)).map V.int)) := by
    rw [upd_same, List.flatten_replicate_singleton, List.map_replicate]
    rfl
  have nsa := (same_upd (o := .lst [.int 0]) n1).free n2
  have hp1 := s1 _ _ hp
  have hsp : sa ≠ p := fun e => by
    rw [e, hp] at nsa
    cases nsa
  have kA : Keep [p] H (upd (upd H z1 (.lst [.int 0])) sa (.lst (List.replicate (Int.toNat 1024) [V.int 0]).flatten)) := .of_same s1
  generalize upd (upd H z1 (.lst [.int 0])) sa (.lst (List.replicate (Int.toNat 1024) [V.int 0]).flatten) = A1 at kA hsa0 hp1
  have kB := kA.trans (.upd (H := A1) (p := p) (o := .ins (LP K) dx (putF "_sheet" (.ref sa) [])) (by simp))
  have b1 : upd A1 p (.ins (LP K) dx (putF "_sheet" (.ref sa) [])) p = some (.ins (LP K) dx (putF "_sheet" (.ref sa) [])) := upd_same
  have b2 : upd A1 p (.ins (LP K) dx (putF "_sheet" (.ref sa) [])) sa = _ := (upd_ne hsp).trans hsa0
  generalize upd A1 p (.ins (LP K) dx (putF "_sheet" (.ref sa) [])) = B at kB b1 b2
  -- the settings
  repeat walk_at "s"
  refine ⟨Nat.le_of_ble_eq_true rfl, fun st n3 => ?_⟩
  repeat walk_at "s"
  refine yFldS (same_upd n3 _ _ b1) c.cl c.st (Nat.le_of_ble_eq_true (by kernel_rfl)) ?_
  have hstp : st ≠ p := fun e => by rw [e, b1] at n3; cases n3
  have k1 : ∀ b o, B b = some o → b ≠ p → upd (upd B st (.tup [.int 0, .int 0, .int 0, .int 0])) p (.ins (LP K) dx (putF "_settings" (.ref st) (putF "_sheet" (.ref sa) []))) b = some o := fun b o hb hn => by
    rw [upd_ne hn]
    exact same_upd n3 _ _ hb
  have c1 : upd (upd B st (.tup [.int 0, .int 0, .int 0, .int 0])) p (.ins (LP K) dx (putF "_settings" (.ref st) (putF "_sheet" (.ref sa) []))) p = _ := upd_same
  have c2 := k1 _ _ b2 hsp
  have c3 : upd (upd B st (.tup [.int 0, .int 0, .int 0, .int 0])) p (.ins (LP K) dx (putF "_settings" (.ref st) (putF "_sheet" (.ref sa) []))) st = some (.tup [.int 0, .int 0, .int 0, .int 0]) := (upd_ne hstp).trans upd_same
  have kC := kB.trans fun b o hb hn => k1 b o hb (by simpa using hn)
  generalize upd (upd B st (.tup [.int 0, .int 0, .int 0, .int 0])) p (.ins (LP K) dx (putF "_settings" (.ref st) (putF "_sheet" (.ref sa) []))) = C1 at c1 c2 c3 kC
  -- the marks
  repeat walk_at "s"
  refine ⟨Nat.le_of_ble_eq_true rfl, fun mk n4 => ?_⟩
  repeat walk_at "s"
  refine yFldS (same_upd n4 _ _ c1) c.cl c.mks (Nat.le_of_ble_eq_true (by kernel_rfl)) ?_
  have hmkp : mk ≠ p := fun e => by rw [e, c1] at n4; cases n4
  have k2 : ∀ b o, C1 b = some o → b ≠ p → upd (upd C1 mk (.tup [.bl false, .bl false, .bl false])) p (.ins (LP K) dx (putF "_marks" (.ref mk) (putF "_settings" (.ref st) (putF "_sheet" (.ref sa) [])))) b = some o := fun b o hb hn => by
    rw [upd_ne hn]
    exact same_upd n4 _ _ hb
  have d1 : upd (upd C1 mk (.tup [.bl false, .bl false, .bl false])) p (.ins (LP K) dx (putF "_marks" (.ref mk) (putF "_settings" (.ref st) (putF "_sheet" (.ref sa) [])))) p = _ := upd_same
  have d2 := k2 _ _ c2 hsp
  have d3 := k2 _ _ c3 hstp
  have d4 : upd (upd C1 mk (.tup [.bl false, .bl false, .bl false])) p (.ins (LP K) dx (putF "_marks" (.ref mk) (putF "_settings" (.ref st) (putF "_sheet" (.ref sa) [])))) mk = some (.tup [.bl false, .bl false, .bl false]) := (upd_ne hmkp).trans upd_same
  have kD := kC.trans fun b o hb hn => k2 b o hb (by simpa using hn)
  generalize upd (upd C1 mk (.tup [.bl false, .bl false, .bl false])) p (.ins (LP K) dx (putF "_marks" (.ref mk) (putF "_settings" (.ref st) (putF "_sheet" (.ref sa) [])))) = D1 at d1 d2 d3 d4 kD
  -- the movers
  repeat walk_at "s"
  refine ⟨Nat.zero_le _, fun mv n5 => ?_⟩
  repeat walk_at "s"
  refine yFldS (same_upd n5 _ _ d1) c.cl c.mv (Nat.le_of_ble_eq_true (by kernel_rfl)) ?_
  have hmvp : mv ≠ p := fun e => by rw [e, d1] at n5; cases n5
  have hmvs : mv ≠ sa := fun e => by rw [e, d2] at n5; cases n5
  have k3 : ∀ b o, D1 b = some o → b ≠ p → upd (upd D1 mv (.lst [])) p (.ins (LP K) dx (putF "_movers" (.ref mv) (putF "_marks" (.ref mk) (putF "_settings" (.ref st) (putF "_sheet" (.ref sa) []))))) b = some o := fun b o hb hn => by
    rw [upd_ne hn]
    exact same_upd n5 _ _ hb
  have e1 : upd (upd D1 mv (.lst [])) p (.ins (LP K) dx (putF "_movers" (.ref mv) (putF "_marks" (.ref mk) (putF "_settings" (.ref st) (putF "_sheet" (.ref sa) []))))) p = _ := upd_same
  have e2 := k3 _ _ d2 hsp
  have e3 := k3 _ _ d3 hstp
  have e4 := k3 _ _ d4 hmkp
  have e5 : upd (upd D1 mv (.lst [])) p (.ins (LP K) dx (putF "_movers" (.ref mv) (putF "_marks" (.ref mk) (putF "_settings" (.ref st) (putF "_sheet" (.ref sa) []))))) mv = some (.lst []) := (upd_ne hmvp).trans upd_same
  have kE := kD.trans fun b o hb hn => k3 b o hb (by simpa using hn)
  generalize upd (upd D1 mv (.lst [])) p (.ins (LP K) dx (putF "_movers" (.ref mv) (putF "_marks" (.ref mk) (putF "_settings" (.ref st) (putF "_sheet" (.ref sa) []))))) = E1 at e1 e2 e3 e4 e5 kE
  -- the screen
  repeat walk_at "s"
  refine ⟨Nat.le_of_ble_eq_true rfl, fun z2 n6 => ?_⟩
  repeat walk_at "s"
  refine yRep upd_same (by decide) (by decide) (big _ (by decide) (by decide)) fun ca n7 => ?_
  have s7 := (same_upd (o := .lst [.int 0]) n6).trans (same_upd (o := .lst (List.replicate (Int.toNat 768) [V.int 0]).flatten) n7)
  have nca := (same_upd (o := .lst [.int 0]) n6).free n7
  have hca0 : upd (upd E1 z2 (.lst [.int 0])) ca (.lst (List.replicate (Int.toNat 768) [V.int 0]).flatten) ca = some (.lst ((List.replicate 768 (0 : Int)).map V.int)) := by
    rw [upd_same, List.flatten_replicate_singleton, List.map_replicate]
    rfl
  have hcap : ca ≠ p := fun e => by rw [e, e1] at nca; cases nca
  have hcas : sa ≠ ca := fun e => by rw [← e, e2] at nca; cases nca
  have hcam : mv ≠ ca := fun e => by rw [← e, e5] at nca; cases nca
  have ncaH : H ca = none := by
    cases z : H ca with
    | none => rfl
    | some o =>
      have h := kE _ _ z (by simpa using hcap)
      rw [nca] at h
      cases h
  repeat walk_at "s"
  refine yFldS (s7 _ _ e1) c.cl c.sc (Nat.le_of_ble_eq_true (by kernel_rfl)) ?_
  have f2 := s7 _ _ e2
  have f3 := s7 _ _ e3
  have f4 := s7 _ _ e4
  have f5 := s7 _ _ e5
  have kF : Keep [p] H (upd (upd E1 z2 (.lst [.int 0])) ca (.lst (List.replicate (Int.toNat 768) [V.int 0]).flatten)) := kE.trans (.of_same s7)
  generalize upd (upd E1 z2 (.lst [.int 0])) ca (.lst (List.replicate (Int.toNat 768) [V.int 0]).flatten) = F1 at f2 f3 f4 f5 hca0 kF
  repeat walk_at "s"
  refine yFldS upd_same c.cl c.pi (Nat.le_of_ble_eq_true (by kernel_rfl)) ?_
  repeat walk_at "s"
  refine yFldS upd_same c.cl c.nm (Nat.le_of_ble_eq_true (by kernel_rfl)) ?_
  rw [upd_upd, upd_upd]
  have kt : ∀ (o : HO) b u, F1 b = some u → b ≠ p → upd F1 p o b = some u := fun o b u hb hn => by
    rw [upd_ne hn]
    exact hb
  refine q sa ca _ ⟨⟨dx, st, mk, mv, .non, ?_, kt _ _ _ f3 hstp, kt _ _ _ f4 hmkp, ⟨hmvs, hcam, [], kt _ _ _ f5 hmvp, .nil⟩, fun _ => rfl, fun d hd => by cases hd⟩, kt _ _ _ f2 hsp, kt _ _ _ hca0 hcap, hcas⟩ nsa ncaH (kF.trans (.upd (by simp)))
  rw [upd_same]
  rfl
end K62
namespace K62
open PySem PySem.Spec PyProof.Rows L2 StX Kx
local macro_rules | `(tactic| walk_at "s") => `(tactic| first
  | with_reducible refine xSeq ?_ | with_reducible refine xAsg ?_ | with_reducible refine xNm ?_ | with_reducible refine xDrop ?_ | with_reducible refine xRet ?_ | with_reducible refine xRetN ?_ | with_reducible refine xNext ?_ | with_reducible refine xIfS ?_
  | ((with_reducible refine xVar (v := ?v) ?h ?q); (case h => exact rfl)) | with_reducible refine xC ?_ | with_reducible refine xOp ?_ | with_reducible refine xUn ?_ | with_reducible refine xI0 ?_ | with_reducible refine xU ?_
  | with_reducible refine xEqI ?_ | with_reducible refine xNeI ?_ | with_reducible refine xEqB ?_ | with_reducible refine xNeB ?_ | with_reducible refine xEqS ?_ | with_reducible refine xNeS ?_ | with_reducible refine xIsN ?_ | with_reducible refine xNotN ?_
  | with_reducible refine xChain ?_ | with_reducible refine xIf ?_ | with_reducible refine xAndV ?_ | with_reducible refine xOrV ?_ | with_reducible refine xNotV ?_
  | with_reducible refine xTest ?_ | with_reducible refine xB ?_ | with_reducible refine xAnd ?_ | with_reducible refine xOr ?_ | with_reducible refine xNot ?_ | with_reducible refine xYes ?_
  | with_reducible refine xNil ?_ | with_reducible refine xCons ?_ | with_reducible refine xTup ?_ | with_reducible refine xLst ?_ | with_reducible refine xCB ?_ | with_reducible refine xInt1I ?_ | with_reducible refine xInt1B ?_ | with_reducible refine xAbs ?_ | with_reducible refine xMin2 ?_ | with_reducible refine xMax2 ?_
  | with_reducible refine xFld ?_ | with_reducible refine xFldS ?_ | with_reducible refine xDG ?_ | with_reducible refine xDP ?_ | with_reducible refine xCall ?_ | with_reducible refine yMeth ?_ | with_reducible refine xBM ?_ | with_reducible refine xBM0 ?_
  | with_reducible refine xPar ?_ | with_reducible refine xPar3 ?_ | with_reducible refine yPar ?_ | with_reducible refine yPar3 ?_ | with_reducible refine xGNil ?_ | with_reducible refine xGCons ?_ | with_reducible refine xGSub ?_
  | with_reducible refine xSl ?_ | with_reducible refine xNoPart ?_ | with_reducible refine xPart ?_ | with_reducible refine xPI ?_ | with_reducible refine xStar ?_ | with_reducible refine xIn ?_ | with_reducible refine xNotIn ?_ | with_reducible refine xGF ?_
  | with_reducible refine xBl ?_ | with_reducible refine xPairs ?_ | with_reducible refine xPairs0 ?_)
local macro_rules | `(tactic| walk_at "h") => `(tactic| first | assumption | exact upd_same | exact same_upd (by assumption) _ _ (by walk_at "h"))
local macro_rules | `(tactic| walk_at "s") => `(tactic| first
  | ((with_reducible refine xI ?c ?q); (case c => first | (show (0 : Int) < _; decide) | exact ⟨by decide, by decide⟩ | exact .inl ⟨by decide, by decide⟩ | exact .inr ⟨by decide, by decide⟩)))
local macro_rules | `(tactic| walk_at "t") => `(tactic| ((fail_if_success (with_reducible refine xSeq ?_)); walk_at "s"))
local macro_rules | `(tactic| walk_at "u") => `(tactic| ((fail_if_success (with_reducible refine xSeq ?_)); (fail_if_success (with_reducible refine xRet ?_)); walk_at "s"))
theorem setsN_len (a : Nat) (row scr : List Int) : ∀ n, (setsN a row scr n).length = scr.length
  | 0 => rfl
  | n + 1 => by
    unfold setsN
    rw [List.length_set]
    exact setsN_len a row scr n
theorem let_at {which byte : Int} {t : Sett} (hw : 0 ≤ which ∧ which < 4) {i : Nat} {x : V} (h : (setV t)[i]? = some x) : i < 4 ∧ ∃ z : Int, x = .int z ∧ (setV (letM which byte t))[i]? = some (.int (if (i : Int) = which then (if which = 3 then byte % 16 else byte) else z)) := by
  match i, h with
  | 0, h =>
    cases h
    refine ⟨by decide, t.r, rfl, congrArg (fun z => some (V.int z)) ?_⟩
    show (if which = 0 then byte else t.r) = _
    by_cases e : which = 0
    · subst e
      rfl
    · rw [if_neg e, if_neg (fun z => e z.symm)]
  | 1, h =>
    cases h
    refine ⟨by decide, t.d, rfl, congrArg (fun z => some (V.int z)) ?_⟩
    show (if which = 1 then byte else t.d) = _
    by_cases e : which = 1
    · subst e
      rfl
    · rw [if_neg e, if_neg (fun z => e z.symm)]
  | 2, h =>
    cases h
    refine ⟨by decide, t.w, rfl, congrArg (fun z => some (V.int z)) ?_⟩
    show (if which = 2 then byte else t.w) = _
    by_cases e : which = 2
    · subst e
      rfl
    · rw [if_neg e, if_neg (fun z => e z.symm)]
  | 3, h =>
    cases h
    refine ⟨by decide, t.on, rfl, congrArg (fun z => some (V.int z)) ?_⟩
    show (if which = 3 then byte % 16 else t.on) = _
    by_cases e : which = 3
    · subst e
      rfl
    · rw [if_neg e, if_neg (fun z => e z.symm)]
  | i + 4, h => exact absurd h (by simp [setV])
theorem pure_let {K : PySem.W.Frag} (c : CF K) (vs : List V) (H : Hp) (Q : VK) (E : XK) (h : sp_Picture_let_LatePicture K vs H Q E) : vs.length = 3 ∧ t_Picture_let_LatePicture K { nx := fun _ H' => Q .non H', rt := Q } (start N_Picture_let_LatePicture vs) H := by
  obtain ⟨p, which, byte, sa, ca, P, nx, rfl, U, hw, q⟩ := h
  refine ⟨rfl, ?_⟩
  show t_Picture_let_LatePicture K _ [some (.ref p), some (.int which), some (.int byte), none, none, none] H
  unfold t_Picture_let_LatePicture
  obtain ⟨dx, st, mk, mv, pv, ho, hst, hmk, hmv, hp0, hp1⟩ := id U.ob
  have rest : ∀ told : Int, told = (if which = 3 then byte % 16 else byte) → (fun D : Ends => sFld K (tVar 0) (tCB (rTupleOf K) (tCons (tLc (iEnumT K (tCons (tFld K (tVar 0) "_settings") tNil)) (gTup K 2 (gCons (gName 4) (gCons (gName 5) gNil))) tYes (tIf (tTest (tOp (rEq) (tVar 4) (tVar 1))) (tVar 3) (tVar 5)) [4, 5]) tNil)) "_settings" D [some (.ref p), some (.int which), some (.int byte), some (.int told), none, none] H) { nx := fun _ H' => Q .non H', rt := Q } := by
    intro told et
    show sFld _ _ _ _ _ _ _
    refine xFldS (xCB (xCons (xLcET ?_)))
    repeat walk_at "s"
    refine yFld ho c.cl c.st (f_st ..) ?_
    repeat walk_at "s"
    refine yLcET (SqT.of hst) (fun D i H' => Same H H' ∧ H D = none ∧ H' D = some (.lst ((setV (letM which byte P.set)).take i))) (fun D hD => ⟨same_upd hD, hD, upd_same⟩) (fun D i H' _ h => SqT.of (h.1 _ _ hst)) ?_ ?_
    · rintro D i x T H1 hx ⟨s1, nD, hD⟩ hT
      obtain ⟨hi, z, rfl, hz⟩ := let_at (byte := byte) hw hx
      rw [← et] at hz
      refine yGT (SqT.of upd_same) rfl ?_
      repeat walk_at "s"
      refine yTurn rfl ?_
      have fin : ∀ v : Int, v = (if (i : Int) = which then told else z) → ∃ acc, upd H1 T (.tup [.int (i : Int), .int z]) D = some (.lst acc) ∧ acc.length < sizeLine ∧ Same H (upd (upd H1 T (.tup [.int (i : Int), .int z])) D (.lst (acc ++ [.int v]))) ∧ H D = none ∧ upd (upd H1 T (.tup [.int (i : Int), .int z])) D (.lst (acc ++ [.int v])) D = some (.lst ((setV (letM which byte P.set)).take (i + 1))) := by
        intro v ev
        refine ⟨_, same_upd hT _ _ hD, ?_, fun b o eb => ?_, nD, ?_⟩
        · rw [List.length_take]
          exact Nat.lt_of_le_of_lt (Nat.min_le_left _ _) (Nat.lt_of_lt_of_le hi (by decide))
        · rw [upd_ne (ne_of_none eb nD)]
          exact same_upd hT _ _ (s1 _ _ eb)
        · rw [take_snoc hz, ev]
          exact upd_same
      repeat walk_at "s"
      refine iteD (fun h => ?_) (fun h => ?_)
      · repeat walk_at "s"
        exact fin _ (by rw [if_pos h])
      · repeat walk_at "s"
        exact fin _ (by rw [if_neg h])
    · rintro D H1 nD ⟨s1, _, hD⟩
      have hD : H1 D = some (.lst (setV (letM which byte P.set))) := hD
      refine xNil ?_
      refine yTupleOf (SqL.of hD) fun r nr => ?_
      repeat walk_at "s"
      have s2 := s1.trans (same_upd (o := .tup (setV (letM which byte P.set))) nr)
      refine yFldS (s2 _ _ ho) c.cl c.st (f_len ..) ?_
      rw [p_st]
      have U2 := U.same s2
      obtain ⟨m1, m2, m3⟩ := hmv
      refine q _ (U2.put (P' := { P with set := letM which byte P.set }) rfl rfl upd_same (s2 _ _ hmk) ⟨m1, m2, m3.same s2⟩ hp0 fun d hd => ?_) ((Keep.of_same s2).trans (.upd (by simp)))
      obtain ⟨qa, e1, e2, e3, e4⟩ := hp1 d hd
      exact ⟨qa, e1, e2, e3, s2 _ _ e4⟩
  repeat walk_at "u"
  refine xSeq (xAsg (xIf (xTest (xOp (xVar (v := .int which) rfl (xC (xEqI (xBl ?_))))))))
  refine iteD (fun h => ?_) (fun h => ?_)
  · refine xOp (xVar (v := .int byte) rfl (xC (xI (show (0 : Int) < 16 by decide) (xNm ?_))))
    exact rest _ (by rw [if_pos h])
  · refine xVar (v := .int byte) rfl (xNm ?_)
    exact rest _ (by rw [if_neg h])
theorem movers_ok {s : List Int} {t : Sett} {line : Int} (ok : SheetOk s) : (∀ m ∈ moversM s t line, MovOk line m) ∧ (moversM s t line).length ≤ 4 := by
  refine ⟨fun m hm => ?_, ?_⟩
  · have hm := List.mem_of_mem_take hm
    unfold allM at hm
    split at hm
    · cases hm
    · unfold listM at hm
      obtain ⟨k, hk, rfl⟩ := List.mem_map.mp hm
      obtain ⟨hk1, hk2⟩ := List.mem_filter.mp hk
      have hk1 := List.mem_range.mp hk1
      unfold onB at hk2
      rw [Bool.and_eq_true, decide_eq_true_eq, decide_eq_true_eq] at hk2
      exact ⟨hk2, at_bd ok (by omega) (by omega), at_bd ok (by omega) (by omega), at_bd ok (by omega) (by omega)⟩
  · unfold moversM
    rw [List.length_take]
    exact Nat.min_le_left _ _
theorem pure_begin {K : PySem.W.Frag} (c : CF K) (vs : List V) (H : Hp) (Q : VK) (E : XK) (h : sp_Picture__begin_LatePicture K vs H Q E) : vs.length = 2 ∧ t_Picture__begin_LatePicture K { nx := fun _ H' => Q .non H', rt := Q } (start N_Picture__begin_LatePicture vs) H := by
  obtain ⟨p, line, sa, ca, P, nx, rfl, U, ok, h0, q⟩ := h
  refine ⟨rfl, ?_⟩
  show t_Picture__begin_LatePicture K _ [some (.ref p), some (.int line), none, none, none, none, none] H
  unfold t_Picture__begin_LatePicture
  obtain ⟨dx, st, mk, mv, pv, ho, hst, hmk, _⟩ := id U.ob
  have ho0 := ho
  with_reducible refine xSeq ?_
  repeat walk_at "u"
  with_reducible refine xSeq ?_
  repeat walk_at "u"
  refine yFld ho c.cl c.mks (f_mk ..) ?_
  refine yGT (SqT.of hmk) rfl ?_
  repeat walk_at "u"
  with_reducible refine xSeqW (fun σ H' => σ = [some (.ref p), some (.int line), some (.bl false), some (.bl (if line = 0 then false else P.blank)), some (.bl (if line = 0 then false else P.hit)), some (.bl (if line = 0 then false else P.full)), none] ∧ Same H H') (fun nx' hnx => ?_) ?_
  · repeat walk_at "s"
    refine iteD (fun h => ?_) (fun h => ?_)
    · rw [if_pos h, if_pos h, if_pos h] at hnx
      repeat walk_at "s"
      refine ⟨Nat.le_of_ble_eq_true rfl, fun z nz => ?_⟩
      refine yGT (SqT.of upd_same) rfl ?_
      repeat walk_at "s"
      exact hnx _ _ ⟨rfl, same_upd nz⟩
    · rw [if_neg h, if_neg h, if_neg h] at hnx
      repeat walk_at "s"
      exact hnx _ _ ⟨rfl, fun _ _ h => h⟩
  rintro σ H1 ⟨rfl, s1⟩
  have U1 := U.same s1
  obtain ⟨dx, st, mk, mv, pv, ho, hst, hmk, hmv, hp0, hp1⟩ := id U1.ob
  with_reducible refine xSeqW (fun σ H' => σ = [some (.ref p), some (.int line), some (.bl (asksM line P)), some (.bl (if line = 24 then true else if line = 0 then false else P.blank)), some (.bl (if line = 0 then false else P.hit)), some (.bl (if line = 0 then false else P.full)), none] ∧
    Un (LP K) H' p sa ca { P with pic := if line = 24 then some P.screen else P.pic, number := if line = 24 then P.number + 1 else P.number } nx ∧ Keep [p] H H' ∧ OffK H H' p) (fun nx' hnx => ?_) ?_
  · repeat walk_at "s"
    refine iteD (fun h => ?_) (fun h => ?_)
    · have ea : asksM line P = decide (bitM P.set.on 2 = 1) := by
        unfold asksM
        rw [decide_eq_true h]
        rfl
      rw [if_pos h, if_pos h, if_pos h, ea] at hnx
      repeat walk_at "s"
      refine yFld ho c.cl c.st (f_st ..) ?_
      repeat walk_at "s"
      refine yIxT (SqT.of hst) (v := .int P.set.on) rfl ?_
      repeat walk_at "s"
      refine ⟨_, _, rfl, ⟨by decide, by decide⟩, ?_⟩
      repeat walk_at "s"
      refine yFld ho c.cl c.sc (f_sc ..) ?_
      repeat walk_at "s"
      refine yListOf (SqL.of U1.sc) fun l nl => ?_
      repeat walk_at "s"
      have sl := same_upd (o := .lst (P.screen.map V.int)) nl
      refine yFldS (sl _ _ ho) c.cl c.pi (f_len ..) ?_
      rw [p_pi]
      repeat walk_at "s"
      refine yFld upd_same c.cl c.nm (f_nm ..) ?_
      repeat walk_at "s"
      refine yFldS upd_same c.cl c.nm (f_len ..) ?_
      rw [p_nm, upd_upd]
      have U2 := U1.same sl
      obtain ⟨m1, m2, m3⟩ := hmv
      have hl1 : l ≠ sa := fun e => by
        rw [e, U1.sh] at nl
        cases nl
      have hl2 : l ≠ ca := fun e => by
        rw [e, U1.sc] at nl
        cases nl
      refine hnx _ _ ⟨rfl, U2.put (P' := { P with pic := some P.screen, number := P.number + 1 }) rfl rfl (sl _ _ hst) (sl _ _ hmk) ⟨m1, m2, m3.same sl⟩ (fun e => by cases e) (fun d hd => ⟨l, rfl, hl1, hl2, ?_⟩), (Keep.of_same (s1.trans sl)).trans (.upd (by simp)), (OffK.same ho0 s1).trans (OffK.put sl fun f o hf hof => ⟨(hof.mv ho).1, fun e => by cases e; rw [nl] at hf; cases hf⟩)⟩
      cases hd
      exact upd_same
    · have ea : asksM line P = false := by
        unfold asksM
        rw [decide_eq_false h]
        rfl
      rw [if_neg h, if_neg h, if_neg h, ea] at hnx
      repeat walk_at "s"
      exact hnx _ _ ⟨rfl, U1, .of_same s1, .same ho0 s1⟩
  rintro σ H2 ⟨rfl, U2, k2, ofk2⟩
  obtain ⟨dx, st, mk, mv, pv, ho, hst, hmk, hmv, hp0, hp1⟩ := id U2.ob
  repeat walk_at "s"
  refine yFld ho c.cl c.sh (f_sh ..) ?_
  repeat walk_at "s"
  refine yFld ho c.cl c.st (f_st ..) ?_
  repeat walk_at "s"
  refine ⟨sa, st, P.sheet, P.set, line, rfl, SqL.of U2.sh, ok, SqT.of hst, h0, fun pr mq H3 s3 nmq hpr hM => ?_⟩
  refine yGT (SqT.of hpr) rfl ?_
  repeat walk_at "s"
  have U3 := U2.same s3
  have hq1 : mq ≠ sa := fun e => by
    rw [e, U2.sh] at nmq
    cases nmq
  have hq2 : mq ≠ ca := fun e => by
    rw [e, U2.sc] at nmq
    cases nmq
  refine ⟨p, LP K, dx, _, rfl, s3 _ _ ho, c.cl, c.mv, f_len .., ?_⟩
  rw [p_mv]
  have U4 := U3.put (nx' := nx) (dx := dx) (st := st) (mk := mk) (mv := mq) (pv := pv) (P' := { P with pic := if line = 24 then some P.screen else P.pic, number := if line = 24 then P.number + 1 else P.number, movers := moversM P.sheet P.set line }) rfl rfl (s3 _ _ hst) (s3 _ _ hmk) ⟨hq1, hq2, hM⟩ hp0 (fun d hd => by
    obtain ⟨qa, e1, e2, e3, e4⟩ := hp1 d hd
    exact ⟨qa, e1, e2, e3, s3 _ _ e4⟩)
  have k4 := (k2.trans (.of_same s3)).trans (.upd (H := H3) (p := p) (o := .ins (LP K) dx (pf sa st mk mq ca pv (if line = 24 then P.number + 1 else P.number) nx)) (by simp))
  have ho4 : upd H3 p (.ins (LP K) dx (pf sa st mk mq ca pv (if line = 24 then P.number + 1 else P.number) nx)) p = _ := upd_same
  obtain ⟨dx4, st4, mk4, mv4, pv4, ho4', hst4, hmk4, hmv4, hp04, hp14⟩ := id U4.ob
  have ofk4 := ofk2.trans (OffK.put (C := LP K) (dx := dx) (sa := sa) (st := st) (mk := mk) (mv := mq) (ca := ca) (pv := pv) (n := if line = 24 then P.number + 1 else P.number) (nx := nx) s3 fun f o hf hof => ⟨fun e => (by rw [e, hf] at nmq; cases nmq), (hof.mv ho).2⟩)
  generalize upd H3 p (.ins (LP K) dx (pf sa st mk mq ca pv (if line = 24 then P.number + 1 else P.number) nx)) = H4 at *
  have fin : ∀ f : Bool, f = ((if line = 0 then false else P.full) || manyM P.sheet P.set line) → ∀ r, H4 r = none → Q (.bl (asksM line P)) (upd (upd H4 r (.tup [.bl (if line = 24 then true else if line = 0 then false else P.blank), .bl (if line = 0 then false else P.hit), .bl f])) p (.ins (LP K) dx4 (pf sa st4 r mv4 ca pv4 (if line = 24 then P.number + 1 else P.number) nx))) := by
    intro f ef r nr
    have sr := same_upd (o := .tup [.bl (if line = 24 then true else if line = 0 then false else P.blank), .bl (if line = 0 then false else P.hit), .bl f]) nr
    have U5 := U4.same sr
    obtain ⟨m1, m2, m3⟩ := hmv4
    refine q _ (U5.put (P' := beginM line P) rfl rfl (sr _ _ hst4) ?_ ⟨m1, m2, m3.same sr⟩ hp04 fun d hd => ?_) ((k4.trans (.of_same sr)).trans (.upd (by simp))) (ofk4.trans (OffK.put sr fun f o hf hof => hof.mv ho4'))
    · rw [ef]
      exact upd_same
    · obtain ⟨qa, e1, e2, e3, e4⟩ := hp14 d hd
      exact ⟨qa, e1, e2, e3, sr _ _ e4⟩
  repeat walk_at "s"
  refine iteB (fun hf => ?_) (fun hf => ?_)
  · repeat walk_at "s"
    refine ⟨Nat.le_of_ble_eq_true rfl, fun r nr => ?_⟩
    repeat walk_at "s"
    refine yFldS (same_upd nr _ _ ho4') c.cl c.mks (f_len ..) ?_
    rw [p_mk]
    repeat walk_at "s"
    exact fin true (by rw [hf]; rfl) r nr
  · repeat walk_at "s"
    refine ⟨Nat.le_of_ble_eq_true rfl, fun r nr => ?_⟩
    repeat walk_at "s"
    refine yFldS (same_upd nr _ _ ho4') c.cl c.mks (f_len ..) ?_
    rw [p_mk]
    repeat walk_at "s"
    exact fin _ (by rw [hf]; rfl) r nr
end K62
namespace K62
open PySem PySem.Spec PyProof.Rows L2 StX Kx
local macro_rules | `(tactic| walk_at "s") => `(tactic| first
  | with_reducible refine xSeq ?_ | with_reducible refine xAsg ?_ | with_reducible refine xNm ?_ | with_reducible refine xDrop ?_ | with_reducible refine xRet ?_ | with_reducible refine xRetN ?_ | with_reducible refine xNext ?_ | with_reducible refine xIfS ?_
  | ((with_reducible refine xVar (v := ?v) ?h ?q); (case h => exact rfl)) | with_reducible refine xC ?_ | with_reducible refine xOp ?_ | with_reducible refine xUn ?_ | with_reducible refine xI0 ?_ | with_reducible refine xU ?_
  | with_reducible refine xEqI ?_ | with_reducible refine xNeI ?_ | with_reducible refine xEqB ?_ | with_reducible refine xNeB ?_ | with_reducible refine xEqS ?_ | with_reducible refine xNeS ?_ | with_reducible refine xIsN ?_ | with_reducible refine xNotN ?_
  | with_reducible refine xChain ?_ | with_reducible refine xIf ?_ | with_reducible refine xAndV ?_ | with_reducible refine xOrV ?_ | with_reducible refine xNotV ?_
  | with_reducible refine xTest ?_ | with_reducible refine xB ?_ | with_reducible refine xAnd ?_ | with_reducible refine xOr ?_ | with_reducible refine xNot ?_ | with_reducible refine xYes ?_
  | with_reducible refine xNil ?_ | with_reducible refine xCons ?_ | with_reducible refine xTup ?_ | with_reducible refine xLst ?_ | with_reducible refine xCB ?_ | with_reducible refine xInt1I ?_ | with_reducible refine xInt1B ?_ | with_reducible refine xAbs ?_ | with_reducible refine xMin2 ?_ | with_reducible refine xMax2 ?_
  | with_reducible refine xFld ?_ | with_reducible refine xFldS ?_ | with_reducible refine xDG ?_ | with_reducible refine xDP ?_ | with_reducible refine xCall ?_ | with_reducible refine yMeth ?_ | with_reducible refine xBM ?_ | with_reducible refine xBM0 ?_
  | with_reducible refine xPar ?_ | with_reducible refine xPar3 ?_ | with_reducible refine yPar ?_ | with_reducible refine yPar3 ?_ | with_reducible refine xGNil ?_ | with_reducible refine xGCons ?_ | with_reducible refine xGSub ?_
  | with_reducible refine xSl ?_ | with_reducible refine xNoPart ?_ | with_reducible refine xPart ?_ | with_reducible refine xPI ?_ | with_reducible refine xStar ?_ | with_reducible refine xIn ?_ | with_reducible refine xNotIn ?_ | with_reducible refine xGF ?_
  | with_reducible refine xBl ?_ | with_reducible refine xPairs ?_ | with_reducible refine xPairs0 ?_)
local macro_rules | `(tactic| walk_at "h") => `(tactic| first | assumption | exact upd_same | exact same_upd (by assumption) _ _ (by walk_at "h"))
local macro_rules | `(tactic| walk_at "s") => `(tactic| first
  | ((with_reducible refine xI ?c ?q); (case c => first | (show (0 : Int) < _; decide) | exact ⟨by decide, by decide⟩ | exact .inl ⟨by decide, by decide⟩ | exact .inr ⟨by decide, by decide⟩)))
local macro_rules | `(tactic| walk_at "t") => `(tactic| ((fail_if_success (with_reducible refine xSeq ?_)); walk_at "s"))
local macro_rules | `(tactic| walk_at "u") => `(tactic| ((fail_if_success (with_reducible refine xSeq ?_)); (fail_if_success (with_reducible refine xRet ?_)); walk_at "s"))
theorem getD_at {xs : List Int} {i : Nat} {z : Int} (h : xs[i]? = some z) : xs.getD i 0 = z := by
  rw [List.getD_eq_getElem?_getD, h]
  rfl
theorem pure_draw {K : PySem.W.Frag} (c : CF K) (vs : List V) (H : Hp) (Q : VK) (E : XK) (h : sp_LatePicture__draw K vs H Q E) : vs.length = 4 ∧ t_LatePicture__draw K { nx := fun _ H' => Q .non H', rt := Q } (start N_LatePicture__draw vs) H := by
  obtain ⟨p, line, first, last, sa, ca, P, nx, rfl, U, ok, hsl, ⟨mo, ml⟩, hl, hf, q⟩ := h
  refine ⟨rfl, ?_⟩
  show t_LatePicture__draw K _ [some (.ref p), some (.int line), some (.int first), some (.int last), none, none, none, none] H
  unfold t_LatePicture__draw
  obtain ⟨dx, st, mk, mv, pv, ho, hst, hmk, hmv, _⟩ := id U.ob
  repeat walk_at "s"
  refine yFld ho c.cl c.sh (f_sh ..) ?_
  repeat walk_at "s"
  refine yFld ho c.cl c.st (f_st ..) ?_
  repeat walk_at "s"
  refine yFld ho c.cl c.mv (f_mv ..) ?_
  repeat walk_at "s"
  refine ⟨sa, st, mv, P.sheet, P.set, P.movers, line, first, last, rfl, SqL.of U.sh, ok, SqT.of hst, hmv.2.2, mo, ml, hf, fun pt x H1 s1 hp hx nxx => ?_⟩
  have U1 := U.same s1
  obtain ⟨n, hn⟩ : ∃ n : Nat, (last - first).toNat = n := ⟨_, rfl⟩
  rw [hn] at hp hx q
  have hrl := rowM_len P.sheet P.set P.movers line first n
  unfold drawM at q
  generalize hrow : rowM P.sheet P.set P.movers line first n = row at *
  generalize rowH P.sheet P.set P.movers line first n = hit at *
  refine yGT (SqT.of hp) rfl ?_
  repeat walk_at "s"
  refine xForEU ?_
  repeat walk_at "s"
  have hxc : x ∉ [ca] := fun hm => by
    rw [List.mem_singleton.mp hm, U.sc] at nxx
    cases nxx
  refine ⟨x, row.map V.int, rfl, SqL.of hx, for_enum (xs := row.map V.int) (fun i σ H' => ∃ x6 x7, σ = [some (.ref p), some (.int line), some (.int first), some (.int last), some (.ref x), some (.bl hit), x6, x7] ∧ Un (LP K) H' p sa ca { P with screen := setsN (32 * line + first).toNat row P.screen i } nx ∧ Keep [ca] H1 H' ∧ OffK H1 H' p)
    ⟨_, _, rfl, U1, .refl _ _, .refl _ _⟩ (fun i σ H' _ ⟨_, _, _, _, k, _⟩ => SqL.of (k _ _ hx hxc)) ?_ ?_⟩
  · rintro i y T σ H2 hy ⟨x6, x7, rfl, U2, k2, o2⟩ hT
    rw [List.getElem?_map] at hy
    cases er : row[i]? with
    | none =>
      rw [er] at hy
      cases hy
    | some z =>
      rw [er] at hy
      cases hy
      have hi : i < n := by
        have := (List.getElem?_eq_some_iff.mp er).1
        omega
      refine yGT (SqT.of upd_same) rfl ?_
      have U3 := U2.same (same_upd (o := .tup [.int (i : Int), .int z]) hT)
      have k3 := k2.trans (.of_same (F := [ca]) (same_upd (o := .tup [.int (i : Int), .int z]) hT))
      obtain ⟨dx2, _, _, _, _, ho2, _⟩ := id U2.ob
      have o3 := o2.trans (OffK.same ho2 (same_upd (o := .tup [.int (i : Int), .int z]) hT))
      generalize upd H2 T (.tup [.int (i : Int), .int z]) = H3 at U3 k3 o3
      obtain ⟨dx3, st3, mk3, mv3, pv3, ho3, _⟩ := id U3.ob
      repeat walk_at "s"
      refine yFld ho3 c.cl c.sc (f_sc ..) ?_
      repeat walk_at "s"
      refine ySetL U3.sc (ix_nat (by omega) (by rw [List.length_map, setsN_len, hsl]; omega)) ?_
      rw [← List.map_set (f := V.int), show (32 * line + first + (i : Int)).toNat = (32 * line + first).toNat + i from by omega]
      refine ⟨_, _, rfl, ?_, k3.trans (.upd (by simp)), o3.trans (OffK.other U3.pca.symm)⟩
      have e : (setsN (32 * line + first).toNat row P.screen i).set ((32 * line + first).toNat + i) z = setsN (32 * line + first).toNat row P.screen (i + 1) := by
        rw [setsN, getD_at er]
      rw [← e]
      exact U3.putC _
  · rintro σ H2 ⟨x6, x7, rfl, U2, k2, o2⟩
    have o02 := (OffK.same ho s1).trans o2
    rw [List.length_map, hrl] at U2
    have k02 : Keep [p, ca] H H2 := (Keep.of_same s1).trans (k2.mono fun b hb => List.mem_cons_of_mem _ hb)
    obtain ⟨dx2, st2, mk2, mv2, pv2, ho2, hst2, hmk2, ⟨m1, m2, m3⟩, hp02, hp12⟩ := id U2.ob
    repeat walk_at "s"
    refine iteB (fun hh => ?_) (fun hh => ?_)
    · repeat walk_at "s"
      refine yFld ho2 c.cl c.mks (f_mk ..) ?_
      repeat walk_at "s"
      refine yIxT (SqT.of hmk2) (v := .bl P.blank) rfl ?_
      repeat walk_at "s"
      refine yFld ho2 c.cl c.mks (f_mk ..) ?_
      repeat walk_at "s"
      refine yIxT (SqT.of hmk2) (v := .bl P.full) rfl ?_
      repeat walk_at "s"
      refine ⟨Nat.le_of_ble_eq_true rfl, fun r nr => ?_⟩
      repeat walk_at "s"
      have sr := same_upd (o := .tup [.bl P.blank, .bl true, .bl P.full]) nr
      refine yFldS (sr _ _ ho2) c.cl c.mks (f_len ..) ?_
      rw [p_mk]
      have U3 := U2.same sr
      rw [hh, Bool.or_true] at q
      refine q _ (U3.put (P' := { P with screen := setsN (32 * line + first).toNat row P.screen n, hit := true }) rfl rfl (sr _ _ hst2) upd_same ⟨m1, m2, m3.same sr⟩ hp02 fun d hd => ?_) ((k02.trans (.of_same sr)).trans (.upd (by simp))) (o02.trans (OffK.put sr fun f o hf hof => hof.mv ho2))
      obtain ⟨qa, e1, e2, e3, e4⟩ := hp12 d hd
      exact ⟨qa, e1, e2, e3, sr _ _ e4⟩
    · repeat walk_at "s"
      rw [hh, Bool.or_false] at q
      exact q _ U2 k02 o02
theorem run_sheet (line first last : Int) (P : Pic) : (runM line first last P).sheet = P.sheet ∧ (runM line first last P).set = P.set ∧ (runM line first last P).screen.length = P.screen.length := by
  unfold runM
  by_cases h : first = 0
  · simp only [if_pos h]
    split
    · exact ⟨rfl, rfl, setsN_len _ _ _ _⟩
    · exact ⟨rfl, rfl, rfl⟩
  · simp only [if_neg h]
    split
    · exact ⟨rfl, rfl, setsN_len _ _ _ _⟩
    · exact ⟨rfl, rfl, rfl⟩
theorem run_movers (line first last : Int) (P : Pic) : (runM line first last P).movers = if first = 0 then moversM P.sheet P.set line else P.movers := by
  unfold runM
  by_cases h : first = 0
  · simp only [if_pos h]
    split <;> rfl
  · simp only [if_neg h]
    split <;> rfl
theorem ask_len (line first last : Int) (P : Pic) : (askM line first last P).length ≤ 2 := by
  unfold askM
  rw [List.length_append]
  split <;> split <;> simp
theorem pure_run {K : PySem.W.Frag} (c : CF K) (vs : List V) (H : Hp) (Q : VK) (E : XK) (h : sp_LatePicture__run K vs H Q E) : vs.length = 4 ∧ t_LatePicture__run K { nx := fun _ H' => Q .non H', rt := Q } (start N_LatePicture__run vs) H := by
  obtain ⟨p, line, first, last, sa, ca, P, nx, rfl, U, ok, hsl, hmo, hl, hf, q⟩ := h
  refine ⟨rfl, ?_⟩
  show t_LatePicture__run K _ [some (.ref p), some (.int line), some (.int first), some (.int last), none] H
  unfold t_LatePicture__run
  with_reducible refine xSeq ?_
  repeat walk_at "u"
  refine ⟨Nat.zero_le _, fun f nf => ?_⟩
  repeat walk_at "u"
  have sf := same_upd (o := .lst []) nf
  have U1 := U.same sf
  have hf1 : upd H f (.lst []) f = some (.lst []) := upd_same
  have hfp : f ≠ p := fun e => by
    obtain ⟨dx, st, mk, mv, pv, ho, _⟩ := U.ob
    rw [e, ho] at nf
    cases nf
  have hfs : f ≠ ca := fun e => by
    rw [e, U.sc] at nf
    cases nf
  have hfsa : f ≠ sa := fun e => by
    rw [e, U.sh] at nf
    cases nf
  have kf : Keep [p, ca] H (upd H f (.lst [])) := .of_same sf
  have hfo : Off f (upd H f (.lst [])) p := fun C dx fs e => U.off nf C dx fs (by rw [upd_ne hfp.symm] at e; exact e)
  obtain ⟨dx0, _, _, _, _, ho0, _⟩ := id U.ob
  have of1 : OffK H (upd H f (.lst [])) p := OffK.same ho0 sf
  generalize upd H f (.lst []) = H1 at U1 hf1 kf hfo of1
  have hP1 : ∀ P1 : Pic, P1 = (if first = 0 then beginM line P else P) → P1.sheet = P.sheet ∧ P1.set = P.set ∧ P1.screen = P.screen ∧ (∀ m ∈ P1.movers, MovOk line m) ∧ P1.movers.length ≤ 4 := by
    intro P1 e
    by_cases h : first = 0
    · rw [if_pos h] at e
      subst e
      exact ⟨rfl, rfl, rfl, movers_ok ok⟩
    · rw [if_neg h] at e
      subst e
      exact ⟨rfl, rfl, rfl, hmo.resolve_left h⟩
  generalize hp1e : (if first = 0 then beginM line P else P) = P1 at hP1
  obtain ⟨e1, e2, e3, e4⟩ := hP1 _ rfl
  with_reducible refine xSeqW (fun σ H' => σ = [some (.ref p), some (.int line), some (.int first), some (.int last), some (.ref f)] ∧ Un (LP K) H' p sa ca P1 nx ∧ Keep [p, ca] H H' ∧ OffK H H' p ∧ Off f H' p ∧ H' f = some (.lst ((if first = 0 ∧ asksM line P = true then [0] else [] : List Int).map V.int))) (fun nx' hnx => ?_) ?_
  · have fin : ∀ H2, Un (LP K) H2 p sa ca P1 nx → Keep [p, ca] H1 H2 → OffK H1 H2 p → ¬ (first = 0 ∧ asksM line P = true) → nx' [some (.ref p), some (.int line), some (.int first), some (.int last), some (.ref f)] H2 := fun H2 U2 k2 o2 hn => by
      refine hnx _ _ ⟨rfl, U2, kf.trans k2, of1.trans o2, (o2 f _ hf1 hfo).1, ?_⟩
      rw [if_neg hn]
      exact k2 _ _ hf1 (by simp [hfp, hfs])
    repeat walk_at "s"
    refine iteD (fun h => ?_) (fun h => ?_)
    · rw [if_pos h] at hp1e
      obtain ⟨dx, st, mk, mv, pv, ho, _⟩ := id U1.ob
      repeat walk_at "s"
      refine yMe ho (f_m _ _ _ _ _ _ _ _ (by decide +kernel)) ?_
      repeat walk_at "s"
      refine ⟨p, line, sa, ca, P, nx, rfl, U1, ok, hl.1, fun H2 U2 k2 o2 => ?_⟩
      rw [hp1e] at U2
      have k2' : Keep [p, ca] H1 H2 := k2.mono fun b hb => by
        rw [List.mem_singleton.mp hb]
        simp
      have hf2 := k2 _ _ hf1 (by simp [hfp])
      have off2 := (o2 f _ hf1 hfo).1
      repeat walk_at "s"
      refine iteB (fun ha => ?_) (fun ha => ?_)
      · repeat walk_at "s"
        refine ⟨tyL hf2, ?_⟩
        repeat walk_at "s"
        refine yAppend hf2 (by decide) ?_
        refine hnx _ _ ⟨rfl, U2.other hf2 hfsa hfs off2, fun b o eb hb => ?_, (of1.trans o2).trans (OffK.other hfp), ?_, ?_⟩
        · rw [upd_ne (ne_of_none eb nf)]
          exact (kf.trans k2') b o eb hb
        · exact (OffK.other (u := .lst ([] ++ [.int 0])) hfp f _ hf2 off2).1
        · rw [if_pos ⟨h, ha⟩]
          exact upd_same
      · repeat walk_at "s"
        exact fin _ U2 k2' o2 fun z => by
          rw [ha] at z
          cases z.2
    · rw [if_neg h] at hp1e
      repeat walk_at "s"
      refine iteF ?_
      repeat walk_at "s"
      exact fin _ (by rw [← hp1e]; exact U1) (.refl _ _) (.refl _ _) fun z => h z.1
  rintro σ H2 ⟨rfl, U2, k2, o2, off2, hf2⟩
  obtain ⟨dx2, st2, mk2, mv2, pv2, ho2, hst2, hmk2, hmv2, _⟩ := id U2.ob
  have hask : askM line first last P = (if first = 0 ∧ asksM line P = true then [0] else []) ++ (if first ≤ 32 ∧ 32 < last ∧ line = P1.set.w ∧ bitM P1.set.on 3 = 1 then [1] else []) := by
    unfold askM
    rw [e2]
  with_reducible refine xSeqW (fun σ H' => σ = [some (.ref p), some (.int line), some (.int first), some (.int last), some (.ref f)] ∧ Un (LP K) H' p sa ca P1 nx ∧ Keep [p, ca] H H' ∧ OffK H H' p ∧ H' f = some (.lst ((askM line first last P).map V.int))) (fun nx' hnx => ?_) ?_
  · rw [hask] at hnx
    have no : ¬ (first ≤ 32 ∧ 32 < last ∧ line = P1.set.w ∧ bitM P1.set.on 3 = 1) → nx' [some (.ref p), some (.int line), some (.int first), some (.int last), some (.ref f)] H2 := fun hn => by
      rw [if_neg hn, List.append_nil] at hnx
      exact hnx _ _ ⟨rfl, U2, k2, o2, hf2⟩
    repeat walk_at "s"
    refine iteD (fun g1 => ?_) (fun g1 => ?_)
    · repeat walk_at "s"
      refine iteD (fun g2 => ?_) (fun g2 => ?_)
      · repeat walk_at "s"
        refine yFld ho2 c.cl c.st (f_st ..) ?_
        repeat walk_at "s"
        refine yIxT (SqT.of hst2) (v := .int P1.set.w) rfl ?_
        repeat walk_at "s"
        refine iteD (fun g3 => ?_) (fun g3 => ?_)
        · repeat walk_at "s"
          refine yFld ho2 c.cl c.st (f_st ..) ?_
          repeat walk_at "s"
          refine yIxT (SqT.of hst2) (v := .int P1.set.on) rfl ?_
          repeat walk_at "s"
          refine ⟨_, _, rfl, ⟨by decide, by decide⟩, ?_⟩
          repeat walk_at "s"
          refine iteD (fun g4 => ?_) (fun g4 => ?_)
          · rw [if_pos (show first ≤ 32 ∧ 32 < last ∧ line = P1.set.w ∧ bitM P1.set.on 3 = 1 from ⟨g1, g2, g3, g4⟩), List.map_append] at hnx
            repeat walk_at "s"
            refine ⟨tyL hf2, ?_⟩
            repeat walk_at "s"
            refine yAppend hf2 (by rw [List.length_map]; split <;> decide) ?_
            refine hnx _ _ ⟨rfl, U2.other hf2 hfsa hfs off2, fun b o eb hb => ?_, o2.trans (OffK.other hfp), upd_same⟩
            rw [upd_ne (ne_of_none eb nf)]
            exact k2 b o eb hb
          · repeat walk_at "s"
            exact no fun z => g4 z.2.2.2
        · repeat walk_at "s"
          refine iteF ?_
          repeat walk_at "s"
          exact no fun z => g3 z.2.2.1
      · repeat walk_at "s"
        refine iteF ?_
        repeat walk_at "s"
        exact no fun z => g2 z.2.1
    · repeat walk_at "s"
      refine iteF ?_
      refine iteF ?_
      repeat walk_at "s"
      exact no fun z => g1 z.1
  rintro σ H3 ⟨rfl, U3, k3, o3, hf3⟩
  obtain ⟨dx3, st3, mk3, mv3, pv3, ho3, _⟩ := id U3.ob
  have hrun : runM line first last P = if line < 24 ∧ first < 32 then drawM line first ((if 32 < last then 32 else last) - first).toNat P1 else P1 := by
    unfold runM
    rw [hp1e]
  have skip : ¬ (line < 24 ∧ first < 32) → (fun D : Ends => tRet (tVar 4) D [some (.ref p), some (.int line), some (.int first), some (.int last), some (.ref f)] H3) { nx := fun _ H' => Q .non H', rt := Q } := fun hn => by
    show tRet _ _ _ _
    rw [hrun, if_neg hn] at q
    repeat walk_at "s"
    exact q f H3 nf U3 k3 o3 hf3
  repeat walk_at "s"
  refine iteD (fun g1 => ?_) (fun g1 => ?_)
  · repeat walk_at "s"
    refine iteD (fun g2 => ?_) (fun g2 => ?_)
    · rw [hrun, if_pos ⟨g1, g2⟩] at q
      repeat walk_at "s"
      refine yMe ho3 (f_m _ _ _ _ _ _ _ _ (by decide +kernel)) ?_
      repeat walk_at "s"
      refine ⟨p, line, first, _, sa, ca, P1, nx, rfl, U3, by rw [e1]; exact ok, by rw [e3]; exact hsl, e4, ⟨hl.1, g1⟩, ⟨hf.1, by split <;> omega, by split <;> omega⟩, fun H4 U4 k4 o4 => ?_⟩
      repeat walk_at "s"
      exact q f H4 nf U4 (k3.trans k4) (o3.trans o4) (k4 _ _ hf3 (by simp [hfp, hfs]))
    · repeat walk_at "u"
      exact skip fun z => g2 z.2
  · repeat walk_at "u"
    refine iteF ?_
    repeat walk_at "u"
    exact skip fun z => g1 z.1
end K62
namespace K62
open PySem PySem.Spec PyProof.Rows L2 StX Kx
local macro_rules | `(tactic| walk_at "s") => `(tactic| first
  | with_reducible refine xSeq ?_ | with_reducible refine xAsg ?_ | with_reducible refine xNm ?_ | with_reducible refine xDrop ?_ | with_reducible refine xRet ?_ | with_reducible refine xRetN ?_ | with_reducible refine xNext ?_ | with_reducible refine xIfS ?_
  | ((with_reducible refine xVar (v := ?v) ?h ?q); (case h => exact rfl)) | with_reducible refine xC ?_ | with_reducible refine xOp ?_ | with_reducible refine xUn ?_ | with_reducible refine xI0 ?_ | with_reducible refine xU ?_
  | with_reducible refine xEqI ?_ | with_reducible refine xNeI ?_ | with_reducible refine xEqB ?_ | with_reducible refine xNeB ?_ | with_reducible refine xEqS ?_ | with_reducible refine xNeS ?_ | with_reducible refine xIsN ?_ | with_reducible refine xNotN ?_
  | with_reducible refine xChain ?_ | with_reducible refine xIf ?_ | with_reducible refine xAndV ?_ | with_reducible refine xOrV ?_ | with_reducible refine xNotV ?_
  | with_reducible refine xTest ?_ | with_reducible refine xB ?_ | with_reducible refine xAnd ?_ | with_reducible refine xOr ?_ | with_reducible refine xNot ?_ | with_reducible refine xYes ?_
  | with_reducible refine xNil ?_ | with_reducible refine xCons ?_ | with_reducible refine xTup ?_ | with_reducible refine xLst ?_ | with_reducible refine xCB ?_ | with_reducible refine xInt1I ?_ | with_reducible refine xInt1B ?_ | with_reducible refine xAbs ?_ | with_reducible refine xMin2 ?_ | with_reducible refine xMax2 ?_
  | with_reducible refine xFld ?_ | with_reducible refine xFldS ?_ | with_reducible refine xDG ?_ | with_reducible refine xDP ?_ | with_reducible refine xCall ?_ | with_reducible refine yMeth ?_ | with_reducible refine xBM ?_ | with_reducible refine xBM0 ?_
  | with_reducible refine xPar ?_ | with_reducible refine xPar3 ?_ | with_reducible refine yPar ?_ | with_reducible refine yPar3 ?_ | with_reducible refine xGNil ?_ | with_reducible refine xGCons ?_ | with_reducible refine xGSub ?_
  | with_reducible refine xSl ?_ | with_reducible refine xNoPart ?_ | with_reducible refine xPart ?_ | with_reducible refine xPI ?_ | with_reducible refine xStar ?_ | with_reducible refine xIn ?_ | with_reducible refine xNotIn ?_ | with_reducible refine xGF ?_
  | with_reducible refine xBl ?_ | with_reducible refine xPairs ?_ | with_reducible refine xPairs0 ?_)
local macro_rules | `(tactic| walk_at "h") => `(tactic| first | assumption | exact upd_same | exact same_upd (by assumption) _ _ (by walk_at "h"))
local macro_rules | `(tactic| walk_at "s") => `(tactic| first
  | ((with_reducible refine xI ?c ?q); (case c => first | (show (0 : Int) < _; decide) | exact ⟨by decide, by decide⟩ | exact .inl ⟨by decide, by decide⟩ | exact .inr ⟨by decide, by decide⟩)))
local macro_rules | `(tactic| walk_at "t") => `(tactic| ((fail_if_success (with_reducible refine xSeq ?_)); walk_at "s"))
local macro_rules | `(tactic| walk_at "u") => `(tactic| ((fail_if_success (with_reducible refine xSeq ?_)); (fail_if_success (with_reducible refine xRet ?_)); walk_at "s"))
theorem liveM_end {k : Nat} {goal : Int} {P : Pic} {n : Int} (h : ¬ n < goal) : liveM k goal P n = (P, n) := by
  cases k with
  | zero => rfl
  | succ k =>
    unfold liveM
    rw [if_neg h]
theorem last_bd {goal n : Int} (h : n < goal) : n % 48 < lastM goal n ∧ lastM goal n ≤ 48 ∧ n + lastM goal n - n % 48 ≤ goal ∧ n < n + lastM goal n - n % 48 := by
  unfold lastM
  split <;> omega
theorem liveM_step {k : Nat} {goal : Int} {P : Pic} {n : Int} (h : n < goal) : liveM (k + 1) goal P n = liveM k goal (runM (n / 48 % 32) (n % 48) (lastM goal n) P) (n + lastM goal n - n % 48) := by
  rw [liveM, if_pos h]
theorem liveM_more {goal : Int} : ∀ (k : Nat) {m : Nat} {P : Pic} {n : Int}, (goal - n).toNat ≤ k → k ≤ m → liveM m goal P n = liveM k goal P n
  | 0, m, P, n, h, _ => by rw [liveM_end (by omega), liveM_end (by omega)]
  | k + 1, 0, P, n, h, hm => by omega
  | k + 1, m + 1, P, n, h, hm => by
    by_cases hg : n < goal
    · rw [liveM_step hg, liveM_step hg]
      have := last_bd hg
      exact liveM_more k (by omega) (by omega)
    · rw [liveM_end hg, liveM_end hg]
theorem next_line {goal n : Int} (h : n < goal) (hc : ¬ (n + lastM goal n - n % 48) % 48 = 0) : (n + lastM goal n - n % 48) / 48 = n / 48 ∧ n + lastM goal n - n % 48 = goal := by
  unfold lastM at *
  split at hc <;> split <;> omega
theorem next_full {goal n : Int} (h : n < goal) (hc : (n + lastM goal n - n % 48) % 48 = 0) : (n + lastM goal n - n % 48) / 48 = n / 48 + 1 := by
  have := last_bd h
  omega
theorem pure_plive {K : PySem.W.Frag} (c : CF K) (vs : List V) (H : Hp) (Q : VK) (E : XK) (h : sp_LatePicture_live_to K vs H Q E) : vs.length = 2 ∧ t_LatePicture_live_to K { nx := fun _ H' => Q .non H', rt := Q } (start N_LatePicture_live_to vs) H := by
  obtain ⟨p, goal, sa, ca, P, n, rfl, U, ok, hsl, hmo, hb, q⟩ := h
  refine ⟨rfl, ?_⟩
  show t_LatePicture_live_to K _ [some (.ref p), some (.int goal), none, none, none] H
  unfold t_LatePicture_live_to
  repeat walk_at "s"
  refine ⟨Nat.zero_le _, fun f nf => ?_⟩
  repeat walk_at "s"
  have sf := same_upd (o := .lst []) nf
  have hfp : f ≠ p := fun e => by
    obtain ⟨dx, st, mk, mv, pv, ho, _⟩ := U.ob
    rw [e, ho] at nf
    cases nf
  have hfs : f ≠ ca := fun e => by
    rw [e, U.sc] at nf
    cases nf
  have hfsa : f ≠ sa := fun e => by
    rw [e, U.sh] at nf
    cases nf
  refine yWhile (fun m σ H' => ∃ P' : Pic, ∃ n' : Int, ∃ fs : List Int, ∃ u v, σ = [some (.ref p), some (.int goal), some (.ref f), u, v] ∧ Un (LP K) H' p sa ca P' (some n') ∧ Keep [p, ca] H H' ∧ Off f H' p ∧ H' f = some (.lst (fs.map V.int)) ∧ SheetOk P'.sheet ∧ P'.screen.length = 768 ∧
      (n' % 48 = 0 ∨ ((∀ m ∈ P'.movers, MovOk (n' / 48 % 32) m) ∧ P'.movers.length ≤ 4)) ∧ (n' = n ∨ n' % 48 = 0 ∨ n' = goal) ∧ n ≤ n' ∧ (n' ≤ goal ∨ n' = n) ∧ (fs.length : Int) ≤ 2 * (n' / 48 - n / 48) + (if n' % 48 = 0 ∨ n' = n then 0 else 2) ∧ m = (goal - n').toNat ∧ liveM m goal P' n' = liveM (goal - n).toNat goal P n)
    (goal - n).toNat ⟨P, n, [], none, none, rfl, U.same sf, .of_same sf, fun C dx fs e => U.off nf C dx fs (by rw [upd_ne hfp.symm] at e; exact e), upd_same, ok, hsl, hmo, .inl rfl, Int.le_refl _, .inr rfl, by rw [if_pos (.inr rfl)]; simp, rfl, rfl⟩ ?_
  rintro m σ H1 ⟨P', n', fs, u, v, rfl, U1, k1, off1, hf1, ok1, hsl1, hmo1, hn1, hn2, hn3, hlen, rfl, hM⟩
  obtain ⟨dx1, st1, mk1, mv1, pv1, ho1, _⟩ := id U1.ob
  repeat walk_at "s"
  refine yFld ho1 c.cl c.nx (f_nx ..) ?_
  repeat walk_at "s"
  refine iteD (fun hlt => ?_) (fun hlt => ?_)
  · obtain ⟨l1, l2, l3, l4⟩ := last_bd hlt
    refine ⟨fun σ' H'' => ∃ P2 : Pic, ∃ n2 : Int, ∃ fs : List Int, ∃ u v, σ' = [some (.ref p), some (.int goal), some (.ref f), u, v] ∧ Un (LP K) H'' p sa ca P2 (some n2) ∧ Keep [p, ca] H H'' ∧ Off f H'' p ∧ H'' f = some (.lst (fs.map V.int)) ∧ SheetOk P2.sheet ∧ P2.screen.length = 768 ∧
        (n2 % 48 = 0 ∨ ((∀ m ∈ P2.movers, MovOk (n2 / 48 % 32) m) ∧ P2.movers.length ≤ 4)) ∧ (n2 = n ∨ n2 % 48 = 0 ∨ n2 = goal) ∧ n ≤ n2 ∧ (n2 ≤ goal ∨ n2 = n) ∧ (fs.length : Int) ≤ 2 * (n2 / 48 - n / 48) + (if n2 % 48 = 0 ∨ n2 = n then 0 else 2) ∧ n' < n2 ∧ liveM (goal - n2).toNat goal P2 n2 = liveM (goal - n).toNat goal P n, ?_, ?_⟩
    · rintro σ' H'' ⟨P2, n2, fs2, u2, v2, e1, e2, e3, e4, e5, e6, e7, e8, e9, e10, e11, e12, e13, e14⟩
      exact ⟨(goal - n2).toNat, by omega, P2, n2, fs2, u2, v2, e1, e2, e3, e4, e5, e6, e7, e8, e9, e10, e11, e12, rfl, e14⟩
    repeat walk_at "s"
    refine yFld ho1 c.cl c.nx (f_nx ..) ?_
    repeat walk_at "s"
    refine ⟨n', rfl, ?_⟩
    repeat walk_at "s"
    refine yFld ho1 c.cl c.nx (f_nx ..) ?_
    repeat walk_at "s"
    have el : (if n' % 48 + goal - n' < 48 then n' % 48 + goal - n' else 48) = lastM goal n' := rfl
    rw [el]
    refine ⟨tyL hf1, ?_⟩
    repeat walk_at "s"
    refine yMe ho1 (f_m _ _ _ _ _ _ _ _ (by decide +kernel)) ?_
    repeat walk_at "s"
    refine yFld ho1 c.cl c.nx (f_nx ..) ?_
    repeat walk_at "s"
    refine ⟨n', rfl, ?_⟩
    repeat walk_at "s"
    have h48 := Int.emod_nonneg n' (b := 48) (by decide)
    refine ⟨p, _, _, _, sa, ca, P', some n', rfl, U1, ok1, hsl1, ?_, ⟨by omega, by omega⟩, ⟨h48, l1, l2⟩, fun r H2 nr U2 k2 o2 hr => ?_⟩
    · exact hmo1.imp id id
    obtain ⟨off2, _⟩ := o2 f _ hf1 off1
    have hf2 := k2 _ _ hf1 (by simp [hfp, hfs])
    have hal := ask_len (n' / 48 % 32) (n' % 48) (lastM goal n') P'
    have hbd : 2 * (n' / 48 - n / 48) ≤ 60 := by omega
    have hfl : (fs.length : Int) ≤ 62 := by
      split at hlen <;> omega
    repeat walk_at "s"
    refine yExtend hf2 hr (by rw [List.length_map, List.length_map]; exact Nat.le_trans (show _ ≤ 100 by omega) (by decide)) ?_
    have U3 := U2.other (ys := fs.map V.int ++ (askM (n' / 48 % 32) (n' % 48) (lastM goal n') P').map V.int) hf2 hfsa hfs off2
    have k3 : Keep [p, ca] H (upd H2 f (.lst (fs.map V.int ++ (askM (n' / 48 % 32) (n' % 48) (lastM goal n') P').map V.int))) := fun b o eb hb => by
      rw [upd_ne (ne_of_none eb nf)]
      exact (k1.trans k2) b o eb hb
    have off3 := (OffK.other (u := .lst (fs.map V.int ++ (askM (n' / 48 % 32) (n' % 48) (lastM goal n') P').map V.int)) hfp f _ hf2 off2).1
    have hf3 : upd H2 f (.lst (fs.map V.int ++ (askM (n' / 48 % 32) (n' % 48) (lastM goal n') P').map V.int)) f = some (.lst ((fs ++ askM (n' / 48 % 32) (n' % 48) (lastM goal n') P').map V.int)) := by
      rw [List.map_append]
      exact upd_same
    generalize upd H2 f (.lst (fs.map V.int ++ (askM (n' / 48 % 32) (n' % 48) (lastM goal n') P').map V.int)) = H3 at U3 k3 off3 hf3
    obtain ⟨dx3, st3, mk3, mv3, pv3, ho3, hst3, hmk3, hmv3, hp03, hp13⟩ := id U3.ob
    obtain ⟨r1, r2, r3⟩ := run_sheet (n' / 48 % 32) (n' % 48) (lastM goal n') P'
    have r4 := run_movers (n' / 48 % 32) (n' % 48) (lastM goal n') P'
    repeat walk_at "s"
    refine yFld ho3 c.cl c.nx (f_nx ..) ?_
    repeat walk_at "s"
    refine yFldS ho3 c.cl c.nx (f_len ..) ?_
    rw [p_nx]
    have U4 := U3.put (nx' := some (n' + lastM goal n' - n' % 48)) (dx := dx3) (P' := runM (n' / 48 % 32) (n' % 48) (lastM goal n') P') rfl rfl hst3 hmk3 hmv3 hp03 hp13
    refine ⟨_, _, fs ++ askM (n' / 48 % 32) (n' % 48) (lastM goal n') P', _, _, rfl, U4, k3.trans (.upd (by simp)), ?_, ?_, by rw [r1]; exact ok1, by rw [r3]; exact hsl1, ?_, ?_, by omega, .inl l3, ?_, l4, ?_⟩
    · exact (OffK.put (fun _ _ h => h) (fun f o hf hof => hof.mv ho3) f _ hf3 off3).1
    · rw [upd_ne hfp]
      exact hf3
    · by_cases hc : (n' + lastM goal n' - n' % 48) % 48 = 0
      · exact .inl hc
      · right
        rw [(next_line hlt hc).1, r4]
        split
        · exact movers_ok ok1
        · rename_i h0
          exact hmo1.resolve_left h0
    · by_cases hc : (n' + lastM goal n' - n' % 48) % 48 = 0
      · exact .inr (.inl hc)
      · exact .inr (.inr (next_line hlt hc).2)
    · rw [List.length_append]
      by_cases hc : (n' + lastM goal n' - n' % 48) % 48 = 0
      · rw [if_pos (.inl hc), next_full hlt hc]
        split at hlen
        · omega
        · rename_i hx
          rcases hn1 with z | z | z
          · exact absurd (.inr z) hx
          · exact absurd (.inl z) hx
          · omega
      · rw [if_neg (fun z => z.elim hc (by omega)), (next_line hlt hc).1]
        split at hlen
        · omega
        · rename_i hx
          rcases hn1 with z | z | z
          · exact absurd (.inr z) hx
          · exact absurd (.inl z) hx
          · omega
    · rw [← hM, show (goal - n').toNat = (goal - n').toNat - 1 + 1 from by omega, liveM_step hlt]
      exact (liveM_more _ (Nat.le_refl _) (by omega)).symm
  · rw [liveM_end hlt] at hM
    rw [← hM] at q
    repeat walk_at "s"
    show tVar 2 _ _ _
    refine xVar (v := .ref f) rfl ?_
    refine ⟨f, fs, rfl, SqL.of hf1, ?_, fun ms r H2 _ _ N2 => ?_⟩
    · have : 2 * (n' / 48 - n / 48) ≤ 52 := by omega
      split at hlen <;> omega
    · exact q r H2 (U1.same N2.2.1) (k1.trans (.of_same N2.2.1))
end K62
namespace K62
open PySem PySem.Spec PyProof.Rows L2 StX Kx
local macro_rules | `(tactic| walk_at "s") => `(tactic| first
  | with_reducible refine xSeq ?_ | with_reducible refine xAsg ?_ | with_reducible refine xNm ?_ | with_reducible refine xDrop ?_ | with_reducible refine xRet ?_ | with_reducible refine xRetN ?_ | with_reducible refine xNext ?_ | with_reducible refine xIfS ?_
  | ((with_reducible refine xVar (v := ?v) ?h ?q); (case h => exact rfl)) | with_reducible refine xC ?_ | with_reducible refine xOp ?_ | with_reducible refine xUn ?_ | with_reducible refine xI0 ?_ | with_reducible refine xU ?_
  | with_reducible refine xEqI ?_ | with_reducible refine xNeI ?_ | with_reducible refine xEqB ?_ | with_reducible refine xNeB ?_ | with_reducible refine xEqS ?_ | with_reducible refine xNeS ?_ | with_reducible refine xIsN ?_ | with_reducible refine xNotN ?_
  | with_reducible refine xChain ?_ | with_reducible refine xIf ?_ | with_reducible refine xAndV ?_ | with_reducible refine xOrV ?_ | with_reducible refine xNotV ?_
  | with_reducible refine xTest ?_ | with_reducible refine xB ?_ | with_reducible refine xAnd ?_ | with_reducible refine xOr ?_ | with_reducible refine xNot ?_ | with_reducible refine xYes ?_
  | with_reducible refine xNil ?_ | with_reducible refine xCons ?_ | with_reducible refine xTup ?_ | with_reducible refine xLst ?_ | with_reducible refine xCB ?_ | with_reducible refine xInt1I ?_ | with_reducible refine xInt1B ?_ | with_reducible refine xAbs ?_ | with_reducible refine xMin2 ?_ | with_reducible refine xMax2 ?_
  | with_reducible refine xFld ?_ | with_reducible refine xFldS ?_ | with_reducible refine xDG ?_ | with_reducible refine xDP ?_ | with_reducible refine xCall ?_ | with_reducible refine yMeth ?_ | with_reducible refine xBM ?_ | with_reducible refine xBM0 ?_
  | with_reducible refine xPar ?_ | with_reducible refine xPar3 ?_ | with_reducible refine yPar ?_ | with_reducible refine yPar3 ?_ | with_reducible refine xGNil ?_ | with_reducible refine xGCons ?_ | with_reducible refine xGSub ?_
  | with_reducible refine xSl ?_ | with_reducible refine xNoPart ?_ | with_reducible refine xPart ?_ | with_reducible refine xPI ?_ | with_reducible refine xStar ?_ | with_reducible refine xIn ?_ | with_reducible refine xNotIn ?_ | with_reducible refine xGF ?_
  | with_reducible refine xBl ?_ | with_reducible refine xPairs ?_ | with_reducible refine xPairs0 ?_)
local macro_rules | `(tactic| walk_at "h") => `(tactic| first | assumption | exact upd_same | exact same_upd (by assumption) _ _ (by walk_at "h"))
local macro_rules | `(tactic| walk_at "s") => `(tactic| first
  | ((with_reducible refine xI ?c ?q); (case c => first | (show (0 : Int) < _; decide) | exact ⟨by decide, by decide⟩ | exact .inl ⟨by decide, by decide⟩ | exact .inr ⟨by decide, by decide⟩)))
local macro_rules | `(tactic| walk_at "t") => `(tactic| ((fail_if_success (with_reducible refine xSeq ?_)); walk_at "s"))
local macro_rules | `(tactic| walk_at "u") => `(tactic| ((fail_if_success (with_reducible refine xSeq ?_)); (fail_if_success (with_reducible refine xRet ?_)); walk_at "s"))
theorem pure_lbit {K : PySem.W.Frag} (vs : List V) (H : Hp) (Q : VK) (E : XK) (h : sp__law_bit K vs H Q E) : vs.length = 2 ∧ t__law_bit K { nx := fun _ H' => Q .non H', rt := Q } (start N__law_bit vs) H := by
  obtain ⟨b, k, rfl, hk, q⟩ := h
  refine ⟨rfl, ?_⟩
  show t__law_bit K _ [some (.int b), some (.int k)] H
  unfold t__law_bit
  obtain ⟨e, p0, p1⟩ := pow8 hk.1 hk.2
  repeat walk_at "s"
  refine ⟨Nat.le_of_ble_eq_true rfl, fun z nz => ?_⟩
  repeat walk_at "s"
  refine yIxL (SqL.of upd_same) e ?_
  refine xI ⟨p0, p1⟩ ?_
  repeat walk_at "s"
  exact q _ (same_upd nz)
theorem pure_lpixel {K : PySem.W.Frag} (vs : List V) (H : Hp) (Q : VK) (E : XK) (h : sp__law_pixel K vs H Q E) : vs.length = 4 ∧ t__law_pixel K { nx := fun _ H' => Q .non H', rt := Q } (start N__law_pixel vs) H := by
  obtain ⟨a, s, tile, row, col, rfl, hS, ok, ht, hr, hc, q⟩ := h
  refine ⟨rfl, ?_⟩
  show t__law_pixel K _ [some (.ref a), some (.int tile), some (.int row), some (.int col), none] H
  unfold t__law_pixel
  repeat walk_at "s"
  refine yIxL hS (at_ix ok (by omega) (by omega)) ?_
  repeat walk_at "s"
  refine ⟨_, _, rfl, ⟨by omega, by omega⟩, fun H1 s1 => ?_⟩
  repeat walk_at "s"
  refine yIxL (s1.seq hS) (at_ix ok (by omega) (by omega)) ?_
  repeat walk_at "s"
  refine ⟨_, _, rfl, ⟨by omega, by omega⟩, fun H2 s2 => ?_⟩
  repeat walk_at "s"
  exact q _ (s1.trans s2)
theorem pick2 {x y b : Int} (h : b = 0 ∨ b = 1) : atI [V.int x, V.int y] b = some (.int (if b = 1 then y else x)) := by
  rcases h with h | h <;> subst h <;> rfl
theorem ThL.same {K : PySem.W.Frag} {H H' : Hp} {q : Addr} {ms : List Mov} (h : ThL K H q ms) (s : Same H H') : ThL K H' q ms := by
  obtain ⟨ts, h1, h2⟩ := h
  exact ⟨ts, s.seq h1, Paired.mapP h2 fun x y h => s _ _ h⟩
theorem pure_lshowing {K : PySem.W.Frag} (vs : List V) (H : Hp) (Q : VK) (E : XK) (h : sp__law_showing K vs H Q E) : vs.length = 4 ∧ t__law_showing K { nx := fun _ H' => Q .non H', rt := Q } (start N__law_showing vs) H := by
  obtain ⟨a, mq, s, ms, col, line, rfl, hS, ok, ⟨ts, hq, pr⟩, mo, q⟩ := h
  refine ⟨rfl, ?_⟩
  show t__law_showing K _ [some (.ref a), some (.ref mq), some (.int col), some (.int line), none, none, none, none, none, none, none, none] H
  unfold t__law_showing
  refine xSeq (xForLU ?_)
  repeat walk_at "s"
  refine yForL hq (fun i σ H' => ∃ x4 x5 x6 x7 x8 x9 x10 x11, σ = [some (.ref a), some (.ref mq), some (.int col), some (.int line), x4, x5, x6, x7, x8, x9, x10, x11] ∧ Same H H' ∧ showM s col line (ms.drop i) = showM s col line ms) ⟨_, _, _, _, _, _, _, _, rfl, fun _ _ h => h, rfl⟩ (fun i σ H' _ ⟨_, _, _, _, _, _, _, _, _, s1, _⟩ => s1.seq hq) ?_ ?_
  · rintro i y σ H1 hy ⟨x4, x5, x6, x7, x8, x9, x10, x11, rfl, s1, hM⟩
    rw [List.getElem?_map] at hy
    cases et : ts[i]? with
    | none =>
      rw [et] at hy
      cases hy
    | some t =>
      rw [et] at hy
      cases hy
      obtain ⟨m, hm, ht⟩ := paired_fst pr et
      obtain ⟨m1, m2, m3, m4⟩ := mo m (List.mem_of_getElem? hm)
      rw [showM_drop hm] at hM
      refine yGL (SqL.of (s1 _ _ ht)) rfl ?_
      repeat walk_at "s"
      refine iteD (fun h1 => ?_) (fun h1 => ?_)
      · repeat walk_at "s"
        refine iteD (fun h2 => ?_) (fun h2 => ?_)
        · repeat walk_at "s"
          refine ⟨Nat.le_of_ble_eq_true rfl, fun z1 n1 => ?_⟩
          repeat walk_at "s"
          have sA := s1.trans (same_upd (o := .lst [.int (line - m.y), .int (7 - (line - m.y))]) n1)
          have hz1 : upd H1 z1 (.lst [.int (line - m.y), .int (7 - (line - m.y))]) z1 = _ := upd_same
          refine ⟨_, _, rfl, ⟨by decide, by decide⟩, fun H2 s2 => ?_⟩
          refine yIxL (SqL.of (s2 _ _ hz1)) (pick2 (bit_bd m.looks 7)) ?_
          repeat walk_at "s"
          refine ⟨Nat.le_of_ble_eq_true rfl, fun z2 n2 => ?_⟩
          repeat walk_at "s"
          have sB := (sA.trans s2).trans (same_upd (o := .lst [.int (col - m.x), .int (7 - (col - m.x))]) n2)
          have hz2 : upd H2 z2 (.lst [.int (col - m.x), .int (7 - (col - m.x))]) z2 = _ := upd_same
          refine ⟨_, _, rfl, ⟨by decide, by decide⟩, fun H3 s3 => ?_⟩
          refine yIxL (SqL.of (s3 _ _ hz2)) (pick2 (bit_bd m.looks 6)) ?_
          repeat walk_at "s"
          have sC := sB.trans s3
          refine ⟨a, s, _, _, _, rfl, sC.seq hS, ok, ⟨by omega, by omega⟩, ⟨by split <;> omega, by split <;> omega⟩, ⟨by split <;> omega, by split <;> omega⟩, fun H4 s4 => ?_⟩
          have sD := sC.trans s4
          have epix : pixM s (m.tile % 32) (if bitM m.looks 7 = 1 then 7 - (line - m.y) else line - m.y) (if bitM m.looks 6 = 1 then 7 - (col - m.x) else col - m.x) = mpixM s m col line := rfl
          rw [epix]
          have hpb : 0 ≤ mpixM s m col line ∧ mpixM s m col line < 4 := pix_bd _ _ _ _
          repeat walk_at "s"
          refine iteD (fun h3 => ?_) (fun h3 => ?_)
          · rw [if_pos ⟨h1, h2, by omega⟩] at hM
            repeat walk_at "s"
            refine ⟨Nat.le_of_ble_eq_true rfl, fun z3 n3 => ?_⟩
            repeat walk_at "s"
            refine ⟨Nat.le_of_ble_eq_true rfl, fun z4 n4 => ?_⟩
            rw [← hM] at q
            exact q z4 _ ((sD.trans (same_upd n3)).trans (same_upd n4)) ⟨z3, upd_same, same_upd n4 _ _ upd_same⟩
          · rw [if_neg fun z => h3 (by omega)] at hM
            repeat walk_at "s"
            exact ⟨_, _, _, _, _, _, _, _, rfl, sD, hM⟩
        · rw [if_neg fun h => h2 h.2.1] at hM
          repeat walk_at "s"
          exact ⟨_, _, _, _, _, _, _, _, rfl, s1, hM⟩
      · rw [if_neg fun h => h1 h.1] at hM
        repeat walk_at "s"
        refine iteF ?_
        repeat walk_at "s"
        exact ⟨_, _, _, _, _, _, _, _, rfl, s1, hM⟩
  · rintro σ H1 ⟨x4, x5, x6, x7, x8, x9, x10, x11, rfl, s1, hM⟩
    repeat walk_at "s"
    refine ⟨Nat.zero_le _, fun z nz => ?_⟩
    rw [List.length_map, paired_len pr, List.drop_length] at hM
    have hM : none = showM s col line ms := hM
    rw [← hM] at q
    exact q z _ (s1.trans (same_upd nz)) upd_same
end K62
namespace K62
open PySem PySem.Spec PyProof.Rows L2 StX Kx
local macro_rules | `(tactic| walk_at "s") => `(tactic| first
  | with_reducible refine xSeq ?_ | with_reducible refine xAsg ?_ | with_reducible refine xNm ?_ | with_reducible refine xDrop ?_ | with_reducible refine xRet ?_ | with_reducible refine xRetN ?_ | with_reducible refine xNext ?_ | with_reducible refine xIfS ?_
  | ((with_reducible refine xVar (v := ?v) ?h ?q); (case h => exact rfl)) | with_reducible refine xC ?_ | with_reducible refine xOp ?_ | with_reducible refine xUn ?_ | with_reducible refine xI0 ?_ | with_reducible refine xU ?_
  | with_reducible refine xEqI ?_ | with_reducible refine xNeI ?_ | with_reducible refine xEqB ?_ | with_reducible refine xNeB ?_ | with_reducible refine xEqS ?_ | with_reducible refine xNeS ?_ | with_reducible refine xIsN ?_ | with_reducible refine xNotN ?_
  | with_reducible refine xChain ?_ | with_reducible refine xIf ?_ | with_reducible refine xAndV ?_ | with_reducible refine xOrV ?_ | with_reducible refine xNotV ?_
  | with_reducible refine xTest ?_ | with_reducible refine xB ?_ | with_reducible refine xAnd ?_ | with_reducible refine xOr ?_ | with_reducible refine xNot ?_ | with_reducible refine xYes ?_
  | with_reducible refine xNil ?_ | with_reducible refine xCons ?_ | with_reducible refine xTup ?_ | with_reducible refine xLst ?_ | with_reducible refine xCB ?_ | with_reducible refine xInt1I ?_ | with_reducible refine xInt1B ?_ | with_reducible refine xAbs ?_ | with_reducible refine xMin2 ?_ | with_reducible refine xMax2 ?_
  | with_reducible refine xFld ?_ | with_reducible refine xFldS ?_ | with_reducible refine xDG ?_ | with_reducible refine xDP ?_ | with_reducible refine xCall ?_ | with_reducible refine yMeth ?_ | with_reducible refine xBM ?_ | with_reducible refine xBM0 ?_
  | with_reducible refine xPar ?_ | with_reducible refine xPar3 ?_ | with_reducible refine yPar ?_ | with_reducible refine yPar3 ?_ | with_reducible refine xGNil ?_ | with_reducible refine xGCons ?_ | with_reducible refine xGSub ?_
  | with_reducible refine xSl ?_ | with_reducible refine xNoPart ?_ | with_reducible refine xPart ?_ | with_reducible refine xPI ?_ | with_reducible refine xStar ?_ | with_reducible refine xIn ?_ | with_reducible refine xNotIn ?_ | with_reducible refine xGF ?_
  | with_reducible refine xBl ?_ | with_reducible refine xPairs ?_ | with_reducible refine xPairs0 ?_)
local macro_rules | `(tactic| walk_at "h") => `(tactic| first | assumption | exact upd_same | exact same_upd (by assumption) _ _ (by walk_at "h"))
local macro_rules | `(tactic| walk_at "s") => `(tactic| first
  | ((with_reducible refine xI ?c ?q); (case c => first | (show (0 : Int) < _; decide) | exact ⟨by decide, by decide⟩ | exact .inl ⟨by decide, by decide⟩ | exact .inr ⟨by decide, by decide⟩)))
local macro_rules | `(tactic| walk_at "t") => `(tactic| ((fail_if_success (with_reducible refine xSeq ?_)); walk_at "s"))
local macro_rules | `(tactic| walk_at "u") => `(tactic| ((fail_if_success (with_reducible refine xSeq ?_)); (fail_if_success (with_reducible refine xRet ?_)); walk_at "s"))
def ThF (H : Hp) (q f : Addr) (ms : List Mov) : Prop := ∃ ts : List Addr, H q = some (.lst (ts.map V.ref)) ∧ Paired (fun t m => t ≠ f ∧ H t = some (.lst [.int m.y, .int m.tile, .int m.looks, .int m.x, .int m.k])) ts ms
def dueCol (K : PySem.W.Frag) : TS := (tSeq (tPar 13 14 (tCons (tOp (rI (fun _ j => 0 < j) fun i j => .int (i % j)) (tCB (rInt1) (tCons (tOp (rI0 fun i j => .int (i + j)) (tVar 12) (tVar 2)) tNil)) (tC (.int 64))) (tCons (tOp (rI (fun _ j => 0 < j) fun i j => .int (i % j)) (tCB (rInt1) (tCons (tOp (rI0 fun i j => .int (i + j)) (tVar 9) (tVar 3)) tNil)) (tC (.int 64))) tNil))) (tSeq (tAsg (tOp (rIxL K) (tVar 0) (tOp (rI0 fun i j => .int (i + j)) (tOp (rI CMul fun i j => .int (i * j)) (tC (.int 8)) (tOp (rI CDiv fun i j => .int (i / j)) (tVar 14) (tC (.int 8)))) (tOp (rI CDiv fun i j => .int (i / j)) (tVar 13) (tC (.int 8))))) (gName 15)) (tSeq (tAsg (tOp (rI CMul fun i j => .int (i * j)) (tCall (sp__law_pixel K) [] E0 (tCons (tVar 0) (tCons (tOp (rI (fun _ j => 0 < j) fun i j => .int (i % j)) (tCB (rInt1) (tCons (tVar 15) tNil)) (tC (.int 32))) (tCons (tOp (rI (fun _ j => 0 < j) fun i j => .int (i % j)) (tCB (rInt1) (tCons (tVar 14) tNil)) (tC (.int 8))) (tCons (tOp (rI (fun _ j => 0 < j) fun i j => .int (i % j)) (tCB (rInt1) (tCons (tVar 13) tNil)) (tC (.int 8))) tNil))))) (tCall (sp__law_bit K) [] E0 (tCons (tVar 5) (tCons (tC (.int 0)) tNil)))) (gName 16)) (tSeq (tAsg (tOp (rI0 fun i j => .int (i + j)) (tC (.int 96)) (tOp (rI CMul fun i j => .int (i * j)) (tOp (rI0 fun i j => .int (i + j)) (tOp (rI CMul fun i j => .int (i * j)) (tC (.int 4)) (tOp (rI (fun _ j => 0 < j) fun i j => .int (i % j)) (tCB (rInt1) (tCons (tOp (rI CDiv fun i j => .int (i / j)) (tVar 15) (tC (.int 32))) tNil)) (tC (.int 4)))) (tVar 16)) (tCB (rInt1) (tCons (tOp (rI0 fun i j => .bl (decide (j < i))) (tVar 16) (tC (.int 0))) tNil)))) (gName 17)) (tSeq (tFor (iList K (tCall (sp__law_showing K) [] E0 (tCons (tVar 0) (tCons (tSl (rSlL K) (tVar 11) tNoPart (tPart (tC (.int 4)))) (tCons (tVar 12) (tCons (tVar 9) tNil)))))) (gTup K 3 (gCons (gName 10) (gCons (gName 18) (gCons (gName 19) gNil)))) (tSeq (tAsg (tOrV (tVar 7) (tAndV (tOp (rEq) (tVar 10) (tC (.int 0))) (tOp (rI0 fun i j => .bl (decide (j < i))) (tVar 16) (tC (.int 0))))) (gName 7)) (tIfS (tOr (tTest (tOp (rEq) (tCall (sp__law_bit K) [] E0 (tCons (tVar 18) (tCons (tC (.int 5)) tNil))) (tC (.int 0)))) (tTest (tOp (rEq) (tVar 16) (tC (.int 0))))) (tAsg (tOp (rI0 fun i j => .int (i + j)) (tOp (rI0 fun i j => .int (i + j)) (tC (.int 112)) (tOp (rI CMul fun i j => .int (i * j)) (tC (.int 4)) (tOp (rI (fun _ j => 0 < j) fun i j => .int (i % j)) (tCB (rInt1) (tCons (tVar 18) tNil)) (tC (.int 4))))) (tVar 19)) (gName 17)) tNext))) (tDrop (tBM K "list" (rAppend) (tVar 6) (tCons (tOp (rI (fun _ j => 0 < j) fun i j => .int (i % j)) (tCB (rInt1) (tCons (tOp (rIxL K) (tVar 0) (tVar 17)) tNil)) (tC (.int 64))) tNil))))))))
theorem due_col {K : PySem.W.Frag} {D : Ends} {H : Hp} {a b f th : Addr} {s : List Int} {t : Sett} {l c : Nat} {hit full : Bool} {ds : List Int} {x10 x13 x14 x15 x16 x17 x18 x19 : Option V}
    (hS : ShL K H a s) (ok : SheetOk s) (so : SettOk t) (hl : l < 24) (hc : c < 32) (hT : ThF H th f (allM s t (l : Int))) (hf : H f = some (.lst (ds.map V.int))) (hds : ds.length < 1000)
    (q : ∀ x10 x13 x14 x15 x16 x17 x18 x19 H', Keep [f] H H' → H' f = some (.lst ((ds ++ [(dotM s t (moversM s t (l : Int)) (c : Int) (l : Int)).1]).map V.int)) →
      D.nx [some (.ref a), some (.ref b), some (.int t.r), some (.int t.d), some (.int t.w), some (.int t.on), some (.ref f), some (.bl (hit || (dotM s t (moversM s t (l : Int)) (c : Int) (l : Int)).2)), some (.bl full), some (.int (l : Int)), x10, some (.ref th), some (.int (c : Int)), x13, x14, x15, x16, x17, x18, x19] H') :
    dueCol K D [some (.ref a), some (.ref b), some (.int t.r), some (.int t.d), some (.int t.w), some (.int t.on), some (.ref f), some (.bl hit), some (.bl full), some (.int (l : Int)), x10, some (.ref th), some (.int (c : Int)), x13, x14, x15, x16, x17, x18, x19] H := by
  obtain ⟨r0, r1, d0, d1, w0, w1, o0, o1⟩ := so
  unfold dueCol
  with_reducible refine xSeq ?_
  repeat walk_at "u"
  with_reducible refine xSeq ?_
  repeat walk_at "u"
  have hpl := place_bd (s := s) (t := t) (col := (c : Int)) (line := (l : Int)) (ms := moversM s t (l : Int))
  refine yIxL hS (at_ix ok (by omega) (by omega)) ?_
  repeat walk_at "u"
  with_reducible refine xSeq ?_
  repeat walk_at "u"
  have ex1 : ((c : Int) + t.r) % 64 / 8 = ((c : Int) + t.r) % 64 / 8 := rfl
  have hb := at_bd (i := ((l : Int) + t.d) % 64 / 8 * 8 + ((c : Int) + t.r) % 64 / 8) ok (by omega) (by omega)
  have eg : groundM s t (c : Int) (l : Int) = (pixM s (at_ s (((l : Int) + t.d) % 64 / 8 * 8 + ((c : Int) + t.r) % 64 / 8) % 32) (((l : Int) + t.d) % 64 % 8) (((c : Int) + t.r) % 64 % 8) * bitM t.on 0, if bitM t.on 0 = 0 then 0 else at_ s (((l : Int) + t.d) % 64 / 8 * 8 + ((c : Int) + t.r) % 64 / 8) / 32 % 4) := by
    unfold groundM
    rcases bit_bd t.on 0 with h | h
    · rw [if_pos h, if_pos h, h, Int.mul_zero]
    · rw [if_neg (by rw [h]; decide), if_neg (by rw [h]; decide), h, Int.mul_one]
  have e8 : (8 : Int) * (((l : Int) + t.d) % 64 / 8) + ((c : Int) + t.r) % 64 / 8 = ((l : Int) + t.d) % 64 / 8 * 8 + ((c : Int) + t.r) % 64 / 8 := by omega
  rw [e8]
  refine ⟨a, s, _, _, _, rfl, hS, ok, ⟨by omega, by omega⟩, ⟨by omega, by omega⟩, ⟨by omega, by omega⟩, fun H1 s1 => ?_⟩
  repeat walk_at "u"
  refine ⟨_, _, rfl, ⟨by decide, by decide⟩, fun H2 s2 => ?_⟩
  refine xI (.inr (by rcases bit_bd t.on 0 with h | h <;> rw [h] <;> exact ⟨by decide, by decide⟩)) ?_
  have eN : pixM s (at_ s (((l : Int) + t.d) % 64 / 8 * 8 + ((c : Int) + t.r) % 64 / 8) % 32) (((l : Int) + t.d) % 64 % 8) (((c : Int) + t.r) % 64 % 8) * bitM t.on 0 = (groundM s t (c : Int) (l : Int)).1 := by rw [eg]
  have eC : (groundM s t (c : Int) (l : Int)).2 = if bitM t.on 0 = 0 then 0 else at_ s (((l : Int) + t.d) % 64 / 8 * 8 + ((c : Int) + t.r) % 64 / 8) / 32 % 4 := by rw [eg]
  have hgb := ground_bd s t (c : Int) (l : Int)
  have hg0 : bitM t.on 0 = 0 → (groundM s t (c : Int) (l : Int)).1 = 0 := fun h => by rw [← eN, h, Int.mul_zero]
  unfold dotM at q
  have sS := s1.trans s2
  rw [eN]
  clear eg eN
  have hms : moversM s t (l : Int) = (allM s t (l : Int)).take 4 := rfl
  have hmok := (movers_ok (s := s) (t := t) (line := (l : Int)) ok).1
  have hix := at_ix (i := placeM (groundM s t (c : Int) (l : Int)) (showM s (c : Int) (l : Int) (moversM s t (l : Int)))) ok (by omega) (by omega)
  generalize at_ s (((l : Int) + t.d) % 64 / 8 * 8 + ((c : Int) + t.r) % 64 / 8) = by_ at *
  generalize groundM s t (c : Int) (l : Int) = g at *
  repeat walk_at "u"
  with_reducible refine xSeq ?_
  repeat walk_at "u"
  refine xI (.inr (by split <;> exact ⟨by decide, by decide⟩)) ?_
  repeat walk_at "u"
  have eP : 96 + (4 * (by_ / 32 % 4) + g.1) * (if decide (0 < g.1) = true then 1 else 0) = placeM g none := by
    show _ = 96 + (if g.1 ≠ 0 then 4 * g.2 + g.1 else 0)
    by_cases h : g.1 = 0
    · rw [if_neg (by rw [h]; decide), if_neg (fun z => z h), Int.mul_zero]
    · rw [if_pos (decide_eq_true (by omega)), if_pos h, eC, if_neg (fun z => h (hg0 z)), Int.mul_one]
  rw [eP]
  obtain ⟨ts, hq, pr⟩ := hT
  with_reducible refine xSeqW (fun σ' H' => ∃ x10 x18 x19, σ' = [some (.ref a), some (.ref b), some (.int t.r), some (.int t.d), some (.int t.w), some (.int t.on), some (.ref f), some (.bl (hit || hitM g (showM s (c : Int) (l : Int) (moversM s t (l : Int))))), some (.bl full), some (.int (l : Int)), x10, some (.ref th), some (.int (c : Int)), some (.int (((c : Int) + t.r) % 64)), some (.int (((l : Int) + t.d) % 64)), some (.int by_), some (.int g.1), some (.int (placeM g (showM s (c : Int) (l : Int) (moversM s t (l : Int))))), x18, x19] ∧ Same H H') (fun nx hn => ?_) ?_
  · refine xForLU ?_
    repeat walk_at "s"
    refine ySlL (SqL.of (sS _ _ hq)) fun r nr => ?_
    rw [cut_to (by decide), ← List.map_take]
    repeat walk_at "s"
    have sR := sS.trans (same_upd (o := .lst ((ts.take (Int.toNat 4)).map V.ref)) nr)
    refine ⟨a, r, s, moversM s t (l : Int), _, _, rfl, sR.seq hS, ok, ⟨ts.take 4, SqL.of upd_same, by rw [hms]; exact Paired.mapP (paired_take 4 pr) fun x y h => sR _ _ h.2⟩, hmok, fun v H4 s4 hv => ?_⟩
    have sV := sR.trans s4
    cases e : showM s (c : Int) (l : Int) (moversM s t (l : Int)) with
    | none =>
      rw [e] at hv
      refine yForL (SqL.of hv) (fun i σ' H' => i = 0 → ∃ x10 x18 x19, σ' = [some (.ref a), some (.ref b), some (.int t.r), some (.int t.d), some (.int t.w), some (.int t.on), some (.ref f), some (.bl hit), some (.bl full), some (.int (l : Int)), x10, some (.ref th), some (.int (c : Int)), some (.int (((c : Int) + t.r) % 64)), some (.int (((l : Int) + t.d) % 64)), some (.int by_), some (.int g.1), some (.int (placeM g none)), x18, x19] ∧ Same H4 H') (fun _ => ⟨_, _, _, rfl, fun _ _ h => h⟩) (fun i σ' H' hi h => by
        obtain ⟨_, _, _, _, s5⟩ := h (Nat.le_zero.mp hi)
        exact SqL.of (s5 _ _ hv)) (fun i x σ' H' hx _ => by cases i <;> cases hx) fun σ' H' h => ?_
      obtain ⟨y10, y18, y19, rfl, s5⟩ := h rfl
      refine hn _ _ ⟨y10, y18, y19, ?_, sV.trans s5⟩
      rw [e, show (hit || hitM g none) = hit from Bool.or_false _]
    | some mn =>
      obtain ⟨m, n⟩ := mn
      rw [e] at hv
      obtain ⟨tt, hv, htt⟩ := hv
      refine yForL (SqL.of hv) (fun i σ' H' => ∃ x10 x18 x19, σ' = [some (.ref a), some (.ref b), some (.int t.r), some (.int t.d), some (.int t.w), some (.int t.on), some (.ref f), some (.bl (if i = 0 then hit else hit || hitM g (some (m, n)))), some (.bl full), some (.int (l : Int)), x10, some (.ref th), some (.int (c : Int)), some (.int (((c : Int) + t.r) % 64)), some (.int (((l : Int) + t.d) % 64)), some (.int by_), some (.int g.1), some (.int (if i = 0 then placeM g none else placeM g (some (m, n)))), x18, x19] ∧ Same H4 H') ⟨_, _, _, rfl, fun _ _ h => h⟩ (fun i σ' H' hi ⟨_, _, _, _, s5⟩ => SqL.of (s5 _ _ hv)) ?_ ?_
      · rintro i x σ' H' hx ⟨y10, y18, y19, rfl, s5⟩
        cases i with
        | succ i => cases hx
        | zero =>
          cases hx
          rw [if_pos rfl, if_pos rfl]
          refine yGT (SqT.of (s5 _ _ htt)) rfl ?_
          repeat walk_at "u"
          with_reducible refine xSeqW (fun σ' H' => σ' = [some (.ref a), some (.ref b), some (.int t.r), some (.int t.d), some (.int t.w), some (.int t.on), some (.ref f), some (.bl (hit || hitM g (some (m, n)))), some (.bl full), some (.int (l : Int)), some (.int m.k), some (.ref th), some (.int (c : Int)), some (.int (((c : Int) + t.r) % 64)), some (.int (((l : Int) + t.d) % 64)), some (.int by_), some (.int g.1), some (.int (placeM g none)), some (.int m.looks), some (.int n)] ∧ Same H4 H') (fun nx hn => ?_) ?_
          · repeat walk_at "u"
            have eH : hitM g (some (m, n)) = (decide (m.k = 0) && decide (0 < g.1)) := by
              rw [hitM_some]
              congr 1
              by_cases h : g.1 = 0
              · rw [h]; rfl
              · rw [decide_eq_false h, decide_eq_true (by omega)]; rfl
            cases hit with
            | true =>
              rw [if_pos rfl]
              repeat walk_at "u"
              exact hn _ _ ⟨rfl, s5⟩
            | false =>
              rw [if_neg (by decide)]
              repeat walk_at "u"
              refine iteD (fun h => ?_) (fun h => ?_)
              · repeat walk_at "u"
                refine hn _ _ ⟨?_, s5⟩
                rw [eH, decide_eq_true h]
                rfl
              · repeat walk_at "u"
                refine hn _ _ ⟨?_, s5⟩
                rw [eH, decide_eq_false h]
                rfl
          · rintro σ' H' ⟨rfl, s6⟩
            repeat walk_at "s"
            refine ⟨_, _, rfl, ⟨by decide, by decide⟩, fun H5 s7 => ?_⟩
            repeat walk_at "s"
            refine iteD (fun h => ?_) (fun h => ?_)
            · repeat walk_at "s"
              refine iteT ?_
              repeat walk_at "s"
              exact ⟨some (.int m.k), some (.int m.looks), some (.int n), by rw [if_neg (Nat.succ_ne_zero 0), if_neg (Nat.succ_ne_zero 0), placeM_some, if_pos (.inl h)]; rfl, s6.trans s7⟩
            · repeat walk_at "s"
              refine iteD (fun h2 => ?_) (fun h2 => ?_)
              · repeat walk_at "s"
                exact ⟨some (.int m.k), some (.int m.looks), some (.int n), by rw [if_neg (Nat.succ_ne_zero 0), if_neg (Nat.succ_ne_zero 0), placeM_some, if_pos (.inr h2)]; rfl, s6.trans s7⟩
              · repeat walk_at "s"
                exact ⟨some (.int m.k), some (.int m.looks), some (.int n), by rw [if_neg (Nat.succ_ne_zero 0), if_neg (Nat.succ_ne_zero 0), placeM_some, if_neg (fun z => z.elim h h2)]; rfl, s6.trans s7⟩
      · rintro σ' H' ⟨y10, y18, y19, rfl, s5⟩
        exact hn _ _ ⟨y10, y18, y19, by rw [e]; rfl, sV.trans s5⟩
  · rintro σ' H' ⟨y10, y18, y19, rfl, sF⟩
    repeat walk_at "s"
    refine ⟨tyL (sF _ _ hf), ?_⟩
    repeat walk_at "s"
    refine yIxL (sF.seq hS) hix ?_
    repeat walk_at "s"
    refine yAppend (sF _ _ hf) (by rw [List.length_map]; exact Nat.lt_of_lt_of_le hds (by decide)) ?_
    refine q _ _ _ _ _ _ _ _ _ (Keep.trans (.of_same sF) (Keep.upd (List.mem_singleton.mpr rfl))) ?_
    rw [List.map_append]
    exact upd_same
theorem pure_due {K : PySem.W.Frag} (vs : List V) (H : Hp) (Q : VK) (E : XK) (h : sp__law_due K vs H Q E) : vs.length = 2 ∧ t__law_due K { nx := fun _ H' => Q .non H', rt := Q } (start N__law_due vs) H := by
  obtain ⟨a, b, s, t, rfl, hS, ok, hT, so, q⟩ := h
  refine ⟨rfl, ?_⟩
  show t__law_due K _ [some (.ref a), some (.ref b), none, none, none, none, none, none, none, none, none, none, none, none, none, none, none, none, none, none] H
  unfold t__law_due
  with_reducible refine xSeq ?_
  repeat walk_at "u"
  refine yGT hT rfl ?_
  unfold setV
  repeat walk_at "u"
  with_reducible refine xSeq ?_
  repeat walk_at "u"
  refine ⟨Nat.zero_le _, fun f nf => ?_⟩
  repeat walk_at "u"
  with_reducible refine xSeq ?_
  refine xForR1U ?_
  repeat walk_at "u"
  have sf := same_upd (o := .lst []) nf
  refine yForR1 (n := 24) rfl (by decide) (fun l σ H' => ∃ x9 x10 x11 x12 x13 x14 x15 x16 x17 x18 x19, σ = [some (.ref a), some (.ref b), some (.int t.r), some (.int t.d), some (.int t.w), some (.int t.on), some (.ref f), some (.bl (hitU s t l)), some (.bl (fullU s t l)), x9, x10, x11, x12, x13, x14, x15, x16, x17, x18, x19] ∧ Same H H' ∧ H' f = some (.lst ((dotsU s t l).map V.int)))
    ⟨_, _, _, _, _, _, _, _, _, _, _, rfl, sf, upd_same⟩ ?_ ?_
  · rintro l σ H1 hl ⟨x9, x10, x11, x12, x13, x14, x15, x16, x17, x18, x19, rfl, s1, hf1⟩
    have hdl : ∀ n, (dotsU s t n).length = 32 * n := fun n => by
      induction n with
      | zero => rfl
      | succ n ih =>
        unfold dotsU
        rw [List.length_append, ih, rowM_len]
        omega
    with_reducible refine xNm ?_
    with_reducible refine xSeq ?_
    refine xAsg (xLcR ?_)
    repeat walk_at "u"
    have hb1 : (if bitM t.on 1 = 1 then listM s (l : Int) 8 else []) = allM s t (l : Int) := by
      unfold allM
      rcases bit_bd t.on 1 with h | h
      · rw [if_neg (by rw [h]; decide), if_pos (.inl h)]
      · rw [if_pos h, if_neg (fun z => z.elim (fun z => by rw [h] at z; cases z) (fun z => by omega))]
    refine yLcR 8 rfl (by decide) (fun D i H' => ∃ ts : List Addr, Same H1 H' ∧ H1 D = none ∧ H' D = some (.lst (ts.map V.ref)) ∧ Paired (fun t m => t ≠ D ∧ H1 t = none ∧ H' t = some (.lst [.int m.y, .int m.tile, .int m.looks, .int m.x, .int m.k])) ts (if bitM t.on 1 = 1 then listM s (l : Int) i else []))
      (fun D hD => ⟨[], same_upd hD, hD, upd_same, by split <;> exact .nil⟩) ?_ ?_
    · rintro D i H2 hi ⟨ts, s2, nD, hD, pr⟩
      have hS2 := (s1.trans s2).seq hS
      have same : ∀ H3, Same H2 H3 → ¬ (bitM t.on 1 = 1 ∧ onB s (l : Int) i = true) → ∃ ts : List Addr, Same H1 H3 ∧ H1 D = none ∧ H3 D = some (.lst (ts.map V.ref)) ∧ Paired (fun t m => t ≠ D ∧ H1 t = none ∧ H3 t = some (.lst [.int m.y, .int m.tile, .int m.looks, .int m.x, .int m.k])) ts (if bitM t.on 1 = 1 then listM s (l : Int) (i + 1) else []) := fun H3 s3 hn => by
        refine ⟨ts, s2.trans s3, nD, s3 _ _ hD, ?_⟩
        have e : (if bitM t.on 1 = 1 then listM s (l : Int) (i + 1) else []) = (if bitM t.on 1 = 1 then listM s (l : Int) i else []) := by
          by_cases hb : bitM t.on 1 = 1
          · rw [if_pos hb, if_pos hb, listM_succ, if_neg (fun z => hn ⟨hb, z⟩), List.append_nil]
          · rw [if_neg hb, if_neg hb]
        rw [e]
        exact Paired.mapP pr fun x y h => ⟨h.1, h.2.1, s3 _ _ h.2.2⟩
      refine xNm (yTurnT rfl ?_)
      repeat walk_at "s"
      refine ⟨_, _, rfl, ⟨by decide, by decide⟩, fun H3 s3 => ?_⟩
      have hS3 := s3.seq hS2
      repeat walk_at "s"
      refine iteD (fun hb => ?_) (fun hb => ?_)
      · repeat walk_at "s"
        refine yIxL hS3 (at_ix ok (by omega) (by omega)) ?_
        repeat walk_at "s"
        refine iteD (fun h1 => ?_) (fun h1 => ?_)
        · repeat walk_at "s"
          refine yIxL hS3 (at_ix ok (by omega) (by omega)) ?_
          repeat walk_at "s"
          refine iteD (fun h2 => ?_) (fun h2 => ?_)
          · repeat walk_at "s"
            refine ySlL hS3 fun z1 n1 => ?_
            rw [show (68 : Int) + 4 * (i : Int) = 64 + 4 * (i : Int) + 4 from by omega, cut4 ok (by omega) (by omega)]
            repeat walk_at "s"
            refine ⟨Nat.le_of_ble_eq_true rfl, fun z2 n2 => ?_⟩
            have hz1 : upd H3 z1 (.lst [.int (at_ s (64 + 4 * (i : Int))), .int (at_ s (64 + 4 * (i : Int) + 1)), .int (at_ s (64 + 4 * (i : Int) + 2)), .int (at_ s (64 + 4 * (i : Int) + 3))]) z1 = _ := upd_same
            refine yCat (same_upd n2 _ _ hz1) upd_same (Nat.le_of_ble_eq_true rfl) fun z3 n3 => ?_
            have sA := ((s3.trans (same_upd (o := .lst [.int (at_ s (64 + 4 * (i : Int))), .int (at_ s (64 + 4 * (i : Int) + 1)), .int (at_ s (64 + 4 * (i : Int) + 2)), .int (at_ s (64 + 4 * (i : Int) + 3))]) n1)).trans (same_upd (o := .lst [.int (i : Int)]) n2)).trans (same_upd (o := .lst ([.int (at_ s (64 + 4 * (i : Int))), .int (at_ s (64 + 4 * (i : Int) + 1)), .int (at_ s (64 + 4 * (i : Int) + 2)), .int (at_ s (64 + 4 * (i : Int) + 3))] ++ [.int (i : Int)])) n3)
            have hD4 := sA _ _ hD
            have hDz : D ≠ z3 := fun e => by
              have h := ((s3.trans (same_upd (o := .lst [.int (at_ s (64 + 4 * (i : Int))), .int (at_ s (64 + 4 * (i : Int) + 1)), .int (at_ s (64 + 4 * (i : Int) + 2)), .int (at_ s (64 + 4 * (i : Int) + 3))]) n1)).trans (same_upd (o := .lst [.int (i : Int)]) n2)) _ _ hD
              rw [e, n3] at h
              cases h
            have hlen : ts.length ≤ 8 := by
              rw [paired_len pr, if_pos hb]
              exact Nat.le_trans (listM_len _ _ _) (Nat.le_of_lt hi)
            refine ⟨_, hD4, by rw [List.length_map]; exact Nat.lt_of_le_of_lt hlen (by decide), ts ++ [z3], fun c o ec => ?_, nD, ?_, ?_⟩
            · rw [upd_ne (ne_of_none ec nD)]
              exact sA _ _ (s2 _ _ ec)
            · rw [List.map_append]
              exact upd_same
            · rw [if_pos hb] at pr ⊢
              rw [listM_succ, if_pos]
              · refine paired_snoc (Paired.mapP pr fun x y h => ⟨h.1, h.2.1, ?_⟩) ⟨hDz.symm, ?_, ?_⟩
                · rw [upd_ne h.1]
                  exact sA _ _ h.2.2
                · exact s2.free (((s3.trans (same_upd (o := .lst [.int (at_ s (64 + 4 * (i : Int))), .int (at_ s (64 + 4 * (i : Int) + 1)), .int (at_ s (64 + 4 * (i : Int) + 2)), .int (at_ s (64 + 4 * (i : Int) + 3))]) n1)).trans (same_upd (o := .lst [.int (i : Int)]) n2)).free n3)
                · rw [upd_ne hDz.symm]
                  exact upd_same
              · unfold onB
                rw [Bool.and_eq_true, decide_eq_true_eq, decide_eq_true_eq]
                exact ⟨h1, h2⟩
          · repeat walk_at "s"
            exact same _ s3 fun z => by
              have z := z.2
              unfold onB at z
              rw [Bool.and_eq_true, decide_eq_true_eq, decide_eq_true_eq] at z
              exact h2 z.2
        · repeat walk_at "s"
          refine iteF ?_
          repeat walk_at "s"
          exact same _ s3 fun z => by
            have z := z.2
            unfold onB at z
            rw [Bool.and_eq_true, decide_eq_true_eq, decide_eq_true_eq] at z
            exact h1 z.1
      · refine iteF ?_
        exact same _ s3 fun z => hb z.1
    · rintro D H2 nD ⟨ts, s2, _, hD, pr⟩
      rw [hb1] at pr
      repeat walk_at "u"
      with_reducible refine xSeqW (fun σ' H' => H' = H2 ∧ ∃ y10, σ' = [some (.ref a), some (.ref b), some (.int t.r), some (.int t.d), some (.int t.w), some (.int t.on), some (.ref f), some (.bl (hitU s t l)), some (.bl (fullU s t (l + 1))), some (.int (l : Int)), y10, some (.ref D), x12, x13, x14, x15, x16, x17, x18, x19]) (fun nx hn => ?_) ?_
      · have ef : fullU s t (l + 1) = (fullU s t l || decide (4 < (allM s t (l : Int)).length)) := rfl
        have el : (ts.map V.ref).length = (allM s t (l : Int)).length := by rw [List.length_map, paired_len pr]
        repeat walk_at "u"
        cases eF : fullU s t l with
        | true =>
          rw [if_pos rfl]
          repeat walk_at "u"
          exact hn _ _ ⟨rfl, x10, by rw [ef, eF]; rfl⟩
        | false =>
          rw [if_neg (by decide)]
          repeat walk_at "u"
          refine xLenL (SqL.of hD) ?_
          repeat walk_at "u"
          refine hn _ _ ⟨rfl, x10, ?_⟩
          rw [ef, eF, el, show decide ((4 : Int) < ((allM s t (l : Int)).length : Int)) = decide (4 < (allM s t (l : Int)).length) from by congr 1; apply propext; omega]
          rfl
      · rintro σ' H' ⟨rfl, y10, rfl⟩
        have hf2 := s2 _ _ hf1
        have hTh : ThF H' D f (allM s t (l : Int)) := ⟨ts, hD, Paired.mapP pr fun x y h => ⟨fun e => (by rw [e, hf1] at h; exact nomatch h.2.1), h.2.2⟩⟩
        have hDf : D ≠ f := fun e => by rw [e, hf1] at nD; cases nD
        refine xForR1U ?_
        repeat walk_at "u"
        refine yForR1 (n := 32) rfl (by decide) (fun c σ H3 => ∃ x10 x12 x13 x14 x15 x16 x17 x18 x19, σ = [some (.ref a), some (.ref b), some (.int t.r), some (.int t.d), some (.int t.w), some (.int t.on), some (.ref f), some (.bl (hitU s t l || rowH s t (moversM s t (l : Int)) (l : Int) 0 c)), some (.bl (fullU s t (l + 1))), some (.int (l : Int)), x10, some (.ref D), x12, x13, x14, x15, x16, x17, x18, x19] ∧ Keep [f] H' H3 ∧ H3 f = some (.lst ((dotsU s t l ++ rowM s t (moversM s t (l : Int)) (l : Int) 0 c).map V.int)))
          ⟨_, _, _, _, _, _, _, _, _, by rw [show rowH s t (moversM s t (l : Int)) (l : Int) 0 0 = false from rfl, Bool.or_false], .refl _ _, by rw [show rowM s t (moversM s t (l : Int)) (l : Int) 0 0 = [] from rfl, List.append_nil]; exact hf2⟩ ?_ ?_
        · rintro c σ H3 hc ⟨x10, x12, x13, x14, x15, x16, x17, x18, x19, rfl, k3, hf3⟩
          have sH3 : Same H H3 := Same.keep (s1.trans s2) k3 fun z hz => by rw [List.mem_singleton.mp hz]; exact nf
          have hr := rowM_succ s t (moversM s t (l : Int)) (l : Int) 0 c
          have hh := rowH_succ s t (moversM s t (l : Int)) (l : Int) 0 c
          rw [Int.zero_add] at hr hh
          refine xNm ?_
          refine due_col (a := a) (b := b) (s := s) (t := t) (l := l) (c := c) (f := f) (th := D) (ds := dotsU s t l ++ rowM s t (moversM s t (l : Int)) (l : Int) 0 c) (sH3.seq hS) ok so hl hc ?_ hf3 ?_ ?_
          · obtain ⟨ts, h1, h2⟩ := hTh
            exact ⟨ts, k3 _ _ h1 (by simp [hDf]), Paired.mapP h2 fun x y h => ⟨h.1, k3 _ _ h.2 (by simp [h.1])⟩⟩
          · rw [List.length_append, hdl, rowM_len]
            omega
          · intro y10 y13 y14 y15 y16 y17 y18 y19 H4 k4 hf4
            refine ⟨y10, some (.int (c : Int)), y13, y14, y15, y16, y17, y18, y19, ?_, k3.trans k4, ?_⟩
            · rw [hh, ← Bool.or_assoc]
            · rw [hf4, hr, List.append_assoc]
        · rintro σ H3 ⟨x10, x12, x13, x14, x15, x16, x17, x18, x19, rfl, k3, hf3⟩
          exact ⟨_, _, _, _, _, _, _, _, _, _, _, rfl, Same.keep (s1.trans s2) k3 fun z hz => by rw [List.mem_singleton.mp hz]; exact nf, hf3⟩
  · rintro σ H1 ⟨x9, x10, x11, x12, x13, x14, x15, x16, x17, x18, x19, rfl, s1, hf1⟩
    repeat walk_at "s"
    refine ⟨Nat.le_of_ble_eq_true rfl, fun p np => ?_⟩
    exact q p _ (s1.trans (same_upd np)) ⟨f, upd_same, same_upd np _ _ hf1⟩
end K62
namespace K62
open PySem PySem.Spec PyProof.Rows L2 StX Kx
local macro_rules | `(tactic| walk_at "s") => `(tactic| first
  | with_reducible refine xSeq ?_ | with_reducible refine xAsg ?_ | with_reducible refine xNm ?_ | with_reducible refine xDrop ?_ | with_reducible refine xRet ?_ | with_reducible refine xRetN ?_ | with_reducible refine xNext ?_ | with_reducible refine xIfS ?_
  | ((with_reducible refine xVar (v := ?v) ?h ?q); (case h => exact rfl)) | with_reducible refine xC ?_ | with_reducible refine xOp ?_ | with_reducible refine xUn ?_ | with_reducible refine xI0 ?_ | with_reducible refine xU ?_
  | with_reducible refine xEqI ?_ | with_reducible refine xNeI ?_ | with_reducible refine xEqB ?_ | with_reducible refine xNeB ?_ | with_reducible refine xEqS ?_ | with_reducible refine xNeS ?_ | with_reducible refine xIsN ?_ | with_reducible refine xNotN ?_
  | with_reducible refine xChain ?_ | with_reducible refine xIf ?_ | with_reducible refine xAndV ?_ | with_reducible refine xOrV ?_ | with_reducible refine xNotV ?_
  | with_reducible refine xTest ?_ | with_reducible refine xB ?_ | with_reducible refine xAnd ?_ | with_reducible refine xOr ?_ | with_reducible refine xNot ?_ | with_reducible refine xYes ?_
  | with_reducible refine xNil ?_ | with_reducible refine xCons ?_ | with_reducible refine xTup ?_ | with_reducible refine xLst ?_ | with_reducible refine xCB ?_ | with_reducible refine xInt1I ?_ | with_reducible refine xInt1B ?_ | with_reducible refine xAbs ?_ | with_reducible refine xMin2 ?_ | with_reducible refine xMax2 ?_
  | with_reducible refine xFld ?_ | with_reducible refine xFldS ?_ | with_reducible refine xDG ?_ | with_reducible refine xDP ?_ | with_reducible refine xCall ?_ | with_reducible refine yMeth ?_ | with_reducible refine xBM ?_ | with_reducible refine xBM0 ?_
  | with_reducible refine xPar ?_ | with_reducible refine xPar3 ?_ | with_reducible refine yPar ?_ | with_reducible refine yPar3 ?_ | with_reducible refine xGNil ?_ | with_reducible refine xGCons ?_ | with_reducible refine xGSub ?_
  | with_reducible refine xSl ?_ | with_reducible refine xNoPart ?_ | with_reducible refine xPart ?_ | with_reducible refine xPI ?_ | with_reducible refine xStar ?_ | with_reducible refine xIn ?_ | with_reducible refine xNotIn ?_ | with_reducible refine xGF ?_
  | with_reducible refine xBl ?_ | with_reducible refine xPairs ?_ | with_reducible refine xPairs0 ?_)
local macro_rules | `(tactic| walk_at "h") => `(tactic| first | assumption | exact upd_same | exact same_upd (by assumption) _ _ (by walk_at "h"))
local macro_rules | `(tactic| walk_at "s") => `(tactic| first
  | ((with_reducible refine xI ?c ?q); (case c => first | (show (0 : Int) < _; decide) | exact ⟨by decide, by decide⟩ | exact .inl ⟨by decide, by decide⟩ | exact .inr ⟨by decide, by decide⟩)))
local macro_rules | `(tactic| walk_at "t") => `(tactic| ((fail_if_success (with_reducible refine xSeq ?_)); walk_at "s"))
/-! ### what live_to(1153) shows -/
theorem setsN_eq (a : Nat) (row scr : List Int) : ∀ k, a + k ≤ scr.length → k ≤ row.length → setsN a row scr k = scr.take a ++ (row.take k ++ scr.drop (a + k))
  | 0, _, _ => by
    rw [setsN, List.take_zero, List.nil_append, Nat.add_zero, List.take_append_drop]
  | k + 1, h, h2 => by
    rw [setsN, setsN_eq a row scr k (by omega) (by omega)]
    have e1 : (scr.take a).length = a := by rw [List.length_take]; omega
    have e2 : (row.take k).length = k := by rw [List.length_take]; omega
    rw [List.set_append, if_neg (by omega), e1, show a + k - a = k from by omega, List.set_append, if_neg (by omega), e2, Nat.sub_self]
    have e3 : scr.drop (a + k) = scr[a + k] :: scr.drop (a + k + 1) := List.drop_eq_getElem_cons (by omega)
    rw [e3, List.set_cons_zero, show row.take (k + 1) = row.take k ++ [row.getD k 0] from ?_, List.append_assoc]
    · rfl
    · rw [List.take_succ, List.getD_eq_getElem?_getD, List.getElem?_eq_getElem (by omega)]
      rfl
theorem dotsU_len (s : List Int) (t : Sett) : ∀ n, (dotsU s t n).length = 32 * n
  | 0 => rfl
  | n + 1 => by
    unfold dotsU
    rw [List.length_append, dotsU_len s t n, rowM_len]
    omega
/-- the unit after so many lines -/
structure At62 (s : List Int) (t : Sett) (l : Nat) (P : Pic) : Prop where
  sh : P.sheet = s
  st : P.set = t
  hit : 0 < l → P.hit = hitU s t l
  full : 0 < l → P.full = fullU s t l
  sc : P.screen = dotsU s t l ++ List.replicate (768 - 32 * l) 0
theorem draw_sc (line first : Int) (n : Nat) (p : Pic) : (drawM line first n p).screen = setsN (32 * line + first).toNat (rowM p.sheet p.set p.movers line first n) p.screen n := rfl
theorem begin_sh (line : Int) (p : Pic) : (beginM line p).sheet = p.sheet := rfl
theorem begin_st (line : Int) (p : Pic) : (beginM line p).set = p.set := rfl
theorem begin_mv (line : Int) (p : Pic) : (beginM line p).movers = moversM p.sheet p.set line := rfl
theorem begin_sc (line : Int) (p : Pic) : (beginM line p).screen = p.screen := rfl
theorem at_step {s : List Int} {t : Sett} {l : Nat} {P : Pic} (hl : l < 24) (h : At62 s t l P) : At62 s t (l + 1) (runM (l : Int) 0 48 P) := by
  have e : runM (l : Int) 0 48 P = drawM (l : Int) 0 32 (beginM (l : Int) P) := by
    unfold runM
    rw [if_pos rfl]
    exact if_pos ⟨by omega, by decide⟩
  rw [e]
  have hh : (if (l : Int) = 0 then false else P.hit) = hitU s t l := by
    by_cases h0 : l = 0
    · rw [if_pos (by omega), h0]; rfl
    · rw [if_neg (by omega), h.hit (by omega)]
  have hf : (if (l : Int) = 0 then false else P.full) = fullU s t l := by
    by_cases h0 : l = 0
    · rw [if_pos (by omega), h0]; rfl
    · rw [if_neg (by omega), h.full (by omega)]
  refine ⟨h.sh, h.st, fun _ => ?_, fun _ => ?_, ?_⟩
  · show ((if (l : Int) = 0 then false else P.hit) || rowH P.sheet P.set (moversM P.sheet P.set (l : Int)) (l : Int) 0 32) = _
    rw [hh, h.sh, h.st]
    rfl
  · show ((if (l : Int) = 0 then false else P.full) || manyM P.sheet P.set (l : Int)) = _
    rw [hf, h.sh, h.st]
    rfl
  · rw [draw_sc, begin_sh, begin_st, begin_mv, begin_sc]
    have hlen : P.screen.length = 768 := by
      rw [h.sc, List.length_append, dotsU_len, List.length_replicate]
      omega
    rw [h.sh, h.st, show (32 * (l : Int) + 0).toNat = 32 * l from by omega, setsN_eq _ _ _ _ (by omega) (by rw [rowM_len]; exact Nat.le_refl _), h.sc, List.take_append_of_le_length (by rw [dotsU_len]; exact Nat.le_refl _), List.take_of_length_le (by rw [dotsU_len]; exact Nat.le_refl _), List.take_of_length_le (by rw [rowM_len]; exact Nat.le_refl _), List.drop_append, dotsU_len, List.drop_of_length_le (by rw [dotsU_len]; omega), List.nil_append, List.drop_replicate]
    rw [show 768 - 32 * l - (32 * l + 32 - 32 * l) = 768 - 32 * (l + 1) from by omega, ← List.append_assoc]
    rfl
theorem live_lines {s : List Int} {t : Sett} : ∀ (k l : Nat) (P : Pic), At62 s t l P → l + k = 24 → ∃ P', At62 s t 24 P' ∧ liveM (1153 - l) 1153 P (48 * (l : Int)) = liveM 1129 1153 P' 1152
  | 0, l, P, h, e => by
    have e : l = 24 := by omega
    subst e
    refine ⟨P, h, ?_⟩
    rw [show 1153 - 24 = 1129 from rfl, show (48 * ((24 : Nat) : Int)) = 1152 from rfl]
  | k + 1, l, P, h, e => by
    have hl : l < 24 := by omega
    obtain ⟨P', h1, h2⟩ := live_lines k (l + 1) _ (at_step hl h) (by omega)
    refine ⟨P', h1, ?_⟩
    rw [← h2, show 1153 - l = (1153 - (l + 1)) + 1 from by omega, liveM, if_pos (by omega), show 48 * (l : Int) / 48 % 32 = (l : Int) from by omega, show 48 * (l : Int) % 48 = 0 from by omega]
    have e : lastM 1153 (48 * (l : Int)) = 48 := by
      unfold lastM
      rw [show 48 * (l : Int) % 48 = 0 from by omega, if_neg (by omega)]
    rw [e, show 48 * (l : Int) + 48 - 0 = 48 * ((l + 1 : Nat) : Int) from by omega]
theorem live_shown {s : List Int} {t : Sett} {P : Pic} (h : At62 s t 0 P) : ∃ P', liveM 1153 1153 P 0 = (P', 1153) ∧ P'.pic = some (dotsU s t 24) ∧ P'.hit = hitU s t 24 ∧ P'.full = fullU s t 24 := by
  obtain ⟨P', h1, h2⟩ := live_lines 24 0 P h rfl
  refine ⟨runM 24 0 1 P', ?_, ?_, ?_, ?_⟩
  · rw [show 1153 - 0 = 1153 from rfl, show (48 * ((0 : Nat) : Int)) = 0 from rfl] at h2
    rw [h2, show (1129 : Nat) = 1128 + 1 from rfl, liveM, if_pos (by decide)]
    rw [show lastM 1153 1152 = 1 from rfl, show (1152 : Int) / 48 % 32 = 24 from rfl, show (1152 : Int) % 48 = 0 from rfl, show (1152 : Int) + 1 - 0 = 1153 from rfl]
    rw [show (1128 : Nat) = 1127 + 1 from rfl, liveM, if_neg (by decide)]
  · show some P'.screen = _
    rw [h1.sc, show 768 - 32 * 24 = 0 from rfl, List.replicate_zero, List.append_nil]
  · exact h1.hit (by decide)
  · show (P'.full || manyM P'.sheet P'.set 24) = _
    rw [h1.full (by decide), show manyM P'.sheet P'.set 24 = false from ?_, Bool.or_false]
    unfold manyM allM
    rw [if_pos (.inr (by decide))]
    rfl
end K62
namespace K62
open PySem PySem.Spec PyProof.Rows L2 StX Kx
local macro_rules | `(tactic| walk_at "s") => `(tactic| first
  | with_reducible refine xSeq ?_ | with_reducible refine xAsg ?_ | with_reducible refine xNm ?_ | with_reducible refine xDrop ?_ | with_reducible refine xRet ?_ | with_reducible refine xRetN ?_ | with_reducible refine xNext ?_ | with_reducible refine xIfS ?_
  | ((with_reducible refine xVar (v := ?v) ?h ?q); (case h => exact rfl)) | with_reducible refine xC ?_ | with_reducible refine xOp ?_ | with_reducible refine xUn ?_ | with_reducible refine xI0 ?_ | with_reducible refine xU ?_
  | with_reducible refine xEqI ?_ | with_reducible refine xNeI ?_ | with_reducible refine xEqB ?_ | with_reducible refine xNeB ?_ | with_reducible refine xEqS ?_ | with_reducible refine xNeS ?_ | with_reducible refine xIsN ?_ | with_reducible refine xNotN ?_
  | with_reducible refine xChain ?_ | with_reducible refine xIf ?_ | with_reducible refine xAndV ?_ | with_reducible refine xOrV ?_ | with_reducible refine xNotV ?_
  | with_reducible refine xTest ?_ | with_reducible refine xB ?_ | with_reducible refine xAnd ?_ | with_reducible refine xOr ?_ | with_reducible refine xNot ?_ | with_reducible refine xYes ?_
  | with_reducible refine xNil ?_ | with_reducible refine xCons ?_ | with_reducible refine xTup ?_ | with_reducible refine xLst ?_ | with_reducible refine xCB ?_ | with_reducible refine xInt1I ?_ | with_reducible refine xInt1B ?_ | with_reducible refine xAbs ?_ | with_reducible refine xMin2 ?_ | with_reducible refine xMax2 ?_
  | with_reducible refine xFld ?_ | with_reducible refine xFldS ?_ | with_reducible refine xDG ?_ | with_reducible refine xDP ?_ | with_reducible refine xCall ?_ | with_reducible refine yMeth ?_ | with_reducible refine xBM ?_ | with_reducible refine xBM0 ?_
  | with_reducible refine xPar ?_ | with_reducible refine xPar3 ?_ | with_reducible refine yPar ?_ | with_reducible refine yPar3 ?_ | with_reducible refine xGNil ?_ | with_reducible refine xGCons ?_ | with_reducible refine xGSub ?_
  | with_reducible refine xSl ?_ | with_reducible refine xNoPart ?_ | with_reducible refine xPart ?_ | with_reducible refine xPI ?_ | with_reducible refine xStar ?_ | with_reducible refine xIn ?_ | with_reducible refine xNotIn ?_ | with_reducible refine xGF ?_
  | with_reducible refine xBl ?_ | with_reducible refine xPairs ?_ | with_reducible refine xPairs0 ?_)
local macro_rules | `(tactic| walk_at "h") => `(tactic| first | assumption | exact upd_same | exact same_upd (by assumption) _ _ (by walk_at "h"))
local macro_rules | `(tactic| walk_at "s") => `(tactic| first
  | ((with_reducible refine xI ?c ?q); (case c => first | (show (0 : Int) < _; decide) | exact ⟨by decide, by decide⟩ | exact .inl ⟨by decide, by decide⟩ | exact .inr ⟨by decide, by decide⟩)))
local macro_rules | `(tactic| walk_at "t") => `(tactic| ((fail_if_success (with_reducible refine xSeq ?_)); walk_at "s"))
local macro_rules | `(tactic| walk_at "u") => `(tactic| ((fail_if_success (with_reducible refine xSeq ?_)); (fail_if_success (with_reducible refine xRet ?_)); walk_at "s"))
theorem put_set {s r : List Int} {i : Nat} (hi : i < s.length) (hr : r.length = s.length) : (s.take i ++ r.drop i).set i (at_ s (i : Int)) = s.take (i + 1) ++ r.drop (i + 1) := by
  have e1 : (s.take i).length = i := by rw [List.length_take]; omega
  rw [List.set_append, if_neg (by omega), e1, Nat.sub_self, show r.drop i = r[i] :: r.drop (i + 1) from List.drop_eq_getElem_cons (by omega), List.set_cons_zero, show s.take (i + 1) = s.take i ++ [at_ s (i : Int)] from ?_, List.append_assoc]
  · rfl
  · unfold at_
    rw [List.take_succ, List.getD_eq_getElem?_getD, show ((i : Int)).toNat = i from by omega, List.getElem?_eq_getElem (by omega)]
    rfl
def letN (t : Sett) : Nat → Sett
  | 0 => ⟨0, 0, 0, 0⟩
  | 1 => ⟨t.r, 0, 0, 0⟩
  | 2 => ⟨t.r, t.d, 0, 0⟩
  | 3 => ⟨t.r, t.d, t.w, 0⟩
  | _ => t
def settN (t : Sett) : Nat → Int
  | 0 => t.r
  | 1 => t.d
  | 2 => t.w
  | _ => t.on
theorem let_step {t : Sett} (so : SettOk t) : ∀ i : Nat, i < 4 → atI (setV t) (i : Int) = some (.int (settN t i)) ∧ letM (i : Int) (settN t i) (letN t i) = letN t (i + 1)
  | 0, _ => ⟨rfl, rfl⟩
  | 1, _ => ⟨rfl, rfl⟩
  | 2, _ => ⟨rfl, rfl⟩
  | 3, _ => ⟨rfl, by
    show (⟨t.r, t.d, t.w, t.on % 16⟩ : Sett) = t
    obtain ⟨r, d, w, on⟩ := t
    have h0 := so.o0
    have h1 := so.o1
    show (⟨r, d, w, on % 16⟩ : Sett) = ⟨r, d, w, on⟩
    rw [Int.emod_eq_of_lt h0 h1]⟩
  | n + 4, h => absurd h (by omega)
theorem screen0 (s : List Int) (t : Sett) : List.replicate 768 (0 : Int) = dotsU s t 0 ++ List.replicate (768 - 32 * 0) 0 := by
  rw [dotsU, List.nil_append]
theorem screenL : (List.replicate 768 (0 : Int)).length = 768 := List.length_replicate
def pic1 (s : List Int) (t : Sett) : Pic := ⟨s, t, false, false, false, [], List.replicate 768 0, none, 0⟩
theorem pic0_1 : pic0 = pic1 (List.replicate 1024 0) ⟨0, 0, 0, 0⟩ := rfl
theorem pic1_put (s : List Int) (t : Sett) (i : Nat) (b : Int) : { pic1 s t with sheet := (pic1 s t).sheet.set (i : Int).toNat b } = pic1 (s.set i b) t := rfl
theorem pic1_let (s : List Int) (t : Sett) (w b : Int) : { pic1 s t with set := letM w b (pic1 s t).set } = pic1 s (letM w b t) := rfl
theorem pure_shown {K : PySem.W.Frag} (vs : List V) (H : Hp) (Q : VK) (E : XK) (h : sp__law_shown K vs H Q E) : vs.length = 2 ∧ t__law_shown K { nx := fun _ H' => Q .non H', rt := Q } (start N__law_shown vs) H := by
  obtain ⟨a, b, s, t, rfl, hS, ok, hT, so, q⟩ := h
  refine ⟨rfl, ?_⟩
  show t__law_shown K _ [some (.ref a), some (.ref b), none, none, none] H
  unfold t__law_shown
  with_reducible refine xSeq ?_
  repeat walk_at "u"
  refine xMake ?_
  repeat walk_at "u"
  intro p dx hp hdx hne
  have s0 := same_make (C := LP K) hp hdx
  refine ⟨p, dx, rfl, upd_same, fun sa ca H1 U nsa nca k1 => ⟨rfl, ?_⟩⟩
  have nsa := s0.free nsa
  have nca := s0.free nca
  have s1 : Same H H1 := Same.keep s0 k1 fun d hd => by
    rw [List.mem_singleton.mp hd]
    exact hp
  repeat walk_at "u"
  have hl := ok.1
  with_reducible refine xSeqW (fun σ' H' => ∃ x3 x4, σ' = [some (.ref a), some (.ref b), some (.ref p), x3, x4] ∧ Same H H' ∧ Un (LP K) H' p sa ca (pic1 s ⟨0, 0, 0, 0⟩) (some 0)) (fun nx hn => ?_) ?_
  · refine xForR1U ?_
    repeat walk_at "u"
    refine yForR1 (n := 1024) rfl (by decide) (fun i σ' H' => ∃ x3 x4, σ' = [some (.ref a), some (.ref b), some (.ref p), x3, x4] ∧ Same H H' ∧ Un (LP K) H' p sa ca (pic1 (s.take i ++ (List.replicate 1024 0).drop i) ⟨0, 0, 0, 0⟩) (some 0)) ⟨_, _, rfl, s1, by rw [List.take_zero, List.drop_zero, List.nil_append, ← pic0_1]; exact U⟩ ?_ ?_
    · rintro i σ H2 hi ⟨x3, x4, rfl, s2, U2⟩
      repeat walk_at "u"
      obtain ⟨dx2, st2, mk2, mv2, pv2, ho2, _⟩ := id U2.ob
      refine yMe ho2 rfl ?_
      repeat walk_at "u"
      refine yIxL (s2.seq hS) (at_ix ok (by omega) (by omega)) ?_
      repeat walk_at "u"
      refine ⟨p, _, _, sa, ca, _, _, rfl, U2, ?_, ⟨by omega, by omega⟩, fun H3 U3 k3 => ?_⟩
      · show (s.take i ++ (List.replicate 1024 (0 : Int)).drop i).length = 1024
        rw [List.length_append, List.length_take, List.length_drop, List.length_replicate]
        omega
      · refine ⟨_, _, rfl, Same.keep s2 k3 fun d hd => by rw [List.mem_singleton.mp hd]; exact nsa, ?_⟩
        rw [pic1_put, put_set (by omega) (by rw [List.length_replicate, hl])] at U3
        exact U3
    · rintro σ H2 ⟨x3, x4, rfl, s2, U2⟩
      refine hn _ _ ⟨x3, x4, rfl, s2, ?_⟩
      rw [show s.take 1024 = s from List.take_of_length_le (by omega), show (List.replicate 1024 (0 : Int)).drop 1024 = [] from List.drop_of_length_le (by rw [List.length_replicate]; exact Nat.le_refl _), List.append_nil] at U2
      exact U2
  rintro σ H2 ⟨x3, x4, rfl, s2, U2⟩
  with_reducible refine xSeqW (fun σ' H' => ∃ x3 x4, σ' = [some (.ref a), some (.ref b), some (.ref p), x3, x4] ∧ Same H H' ∧ Un (LP K) H' p sa ca (pic1 s t) (some 0)) (fun nx hn => ?_) ?_
  · refine xForR1U ?_
    repeat walk_at "u"
    refine yForR1 (n := 4) rfl (by decide) (fun i σ' H' => ∃ x3 x4, σ' = [some (.ref a), some (.ref b), some (.ref p), x3, x4] ∧ Same H H' ∧ Un (LP K) H' p sa ca (pic1 s (letN t i)) (some 0)) ⟨_, _, rfl, s2, U2⟩ ?_ ?_
    · rintro i σ H3 hi ⟨x3, x4, rfl, s3, U3⟩
      repeat walk_at "u"
      obtain ⟨dx3, st3, mk3, mv3, pv3, ho3, _⟩ := id U3.ob
      obtain ⟨e1, e2⟩ := let_step so i hi
      refine yMe ho3 rfl ?_
      repeat walk_at "u"
      refine yIxT (Same.tup s3 hT) e1 ?_
      repeat walk_at "u"
      refine ⟨p, _, _, sa, ca, _, _, rfl, U3, ⟨by omega, by omega⟩, fun H4 U4 k4 => ?_⟩
      refine ⟨_, _, rfl, Same.keep s3 k4 fun d hd => by rw [List.mem_singleton.mp hd]; exact hp, ?_⟩
      rw [pic1_let, e2] at U4
      exact U4
    · rintro σ H3 ⟨x3, x4, rfl, s3, U3⟩
      exact hn _ _ ⟨x3, x4, rfl, s3, U3⟩
  rintro σ H3 ⟨x3, x4, rfl, s3, U3⟩
  with_reducible refine xSeq ?_
  repeat walk_at "u"
  obtain ⟨dx3, st3, mk3, mv3, pv3, ho3, _⟩ := id U3.ob
  refine yMe ho3 rfl ?_
  repeat walk_at "u"
  obtain ⟨P', e1, e2, e3, e4⟩ := live_shown (s := s) (t := t) (P := (pic1 s t)) ⟨rfl, rfl, fun h => absurd h (by decide), fun h => absurd h (by decide), screen0 s t⟩
  refine ⟨p, _, sa, ca, _, _, rfl, U3, ok, screenL, .inl rfl, ⟨by decide, by decide⟩, fun z H4 U4 k4 => ?_⟩
  rw [show ((1153 : Int) - 0).toNat = 1153 from rfl, e1] at U4
  have U4 : Un (LP K) H4 p sa ca P' (some 1153) := U4
  generalize hD : dotsU s t 24 = DD at e2
  generalize hI : hitU s t 24 = II at e3
  generalize hF : fullU s t 24 = FF at e4
  have s4 : Same H H4 := Same.keep s3 k4 fun d hd => by
    rcases List.mem_cons.mp hd with h | h
    · rw [h]; exact hp
    · rw [List.mem_singleton.mp h]; exact nca
  obtain ⟨dx4, st4, mk4, mv4, pv4, ho4, _⟩ := id U4.ob
  repeat walk_at "s"
  refine yMe ho4 (f_m _ _ _ _ _ _ _ _ (by decide +kernel)) ?_
  repeat walk_at "s"
  refine ⟨p, sa, ca, _, _, rfl, U4, fun h => (by rw [e2] at h; cases h), fun d hd f H5 n5 => ?_⟩
  have hd : d = DD := by rw [e2] at hd; exact (Option.some.inj hd).symm
  subst hd
  have s45 := n5.2.1
  have U5 := U4.same s45
  have ho5 := s45 _ _ ho4
  repeat walk_at "s"
  refine yMe ho5 (f_m _ _ _ _ _ _ _ _ (by decide +kernel)) ?_
  repeat walk_at "s"
  refine ⟨p, sa, ca, _, _, rfl, U5, fun m1 hm1 => ?_⟩
  repeat walk_at "s"
  refine yIxT (a := 1) (v := .bl P'.hit) (SqT.of hm1) rfl ?_
  repeat walk_at "s"
  refine yMe ho5 (f_m _ _ _ _ _ _ _ _ (by decide +kernel)) ?_
  repeat walk_at "s"
  refine ⟨p, sa, ca, _, _, rfl, U5, fun m2 hm2 => ?_⟩
  repeat walk_at "s"
  refine yIxT (a := 2) (v := .bl P'.full) (SqT.of hm2) rfl ?_
  repeat walk_at "s"
  refine ⟨Nat.le_of_ble_eq_true rfl, fun r nr => ?_⟩
  rw [e3, e4]
  refine q r _ ((s4.trans s45).trans (same_upd nr)) ⟨f, ?_, ?_⟩
  · rw [hI, hF]
    exact upd_same
  · rw [hD]
    exact same_upd nr _ _ n5.2.2
end K62
namespace K62
open PySem PySem.Spec PyProof.Rows L2 StX Kx
local macro_rules | `(tactic| walk_at "s") => `(tactic| first
  | with_reducible refine xSeq ?_ | with_reducible refine xAsg ?_ | with_reducible refine xNm ?_ | with_reducible refine xDrop ?_ | with_reducible refine xRet ?_ | with_reducible refine xRetN ?_ | with_reducible refine xNext ?_ | with_reducible refine xIfS ?_
  | ((with_reducible refine xVar (v := ?v) ?h ?q); (case h => exact rfl)) | with_reducible refine xC ?_ | with_reducible refine xOp ?_ | with_reducible refine xUn ?_ | with_reducible refine xI0 ?_ | with_reducible refine xU ?_
  | with_reducible refine xEqI ?_ | with_reducible refine xNeI ?_ | with_reducible refine xEqB ?_ | with_reducible refine xNeB ?_ | with_reducible refine xEqS ?_ | with_reducible refine xNeS ?_ | with_reducible refine xIsN ?_ | with_reducible refine xNotN ?_
  | with_reducible refine xChain ?_ | with_reducible refine xIf ?_ | with_reducible refine xAndV ?_ | with_reducible refine xOrV ?_ | with_reducible refine xNotV ?_
  | with_reducible refine xTest ?_ | with_reducible refine xB ?_ | with_reducible refine xAnd ?_ | with_reducible refine xOr ?_ | with_reducible refine xNot ?_ | with_reducible refine xYes ?_
  | with_reducible refine xNil ?_ | with_reducible refine xCons ?_ | with_reducible refine xTup ?_ | with_reducible refine xLst ?_ | with_reducible refine xCB ?_ | with_reducible refine xInt1I ?_ | with_reducible refine xInt1B ?_ | with_reducible refine xAbs ?_ | with_reducible refine xMin2 ?_ | with_reducible refine xMax2 ?_
  | with_reducible refine xFld ?_ | with_reducible refine xFldS ?_ | with_reducible refine xDG ?_ | with_reducible refine xDP ?_ | with_reducible refine xCall ?_ | with_reducible refine yMeth ?_ | with_reducible refine xBM ?_ | with_reducible refine xBM0 ?_
  | with_reducible refine xPar ?_ | with_reducible refine xPar3 ?_ | with_reducible refine yPar ?_ | with_reducible refine yPar3 ?_ | with_reducible refine xGNil ?_ | with_reducible refine xGCons ?_ | with_reducible refine xGSub ?_
  | with_reducible refine xSl ?_ | with_reducible refine xNoPart ?_ | with_reducible refine xPart ?_ | with_reducible refine xPI ?_ | with_reducible refine xStar ?_ | with_reducible refine xIn ?_ | with_reducible refine xNotIn ?_ | with_reducible refine xGF ?_
  | with_reducible refine xBl ?_ | with_reducible refine xPairs ?_ | with_reducible refine xPairs0 ?_)
local macro_rules | `(tactic| walk_at "h") => `(tactic| first | assumption | exact upd_same | exact same_upd (by assumption) _ _ (by walk_at "h"))
local macro_rules | `(tactic| walk_at "s") => `(tactic| first
  | ((with_reducible refine xI ?c ?q); (case c => first | (show (0 : Int) < _; decide) | exact ⟨by decide, by decide⟩ | exact .inl ⟨by decide, by decide⟩ | exact .inr ⟨by decide, by decide⟩)))
local macro_rules | `(tactic| walk_at "t") => `(tactic| ((fail_if_success (with_reducible refine xSeq ?_)); walk_at "s"))
local macro_rules | `(tactic| walk_at "u") => `(tactic| ((fail_if_success (with_reducible refine xSeq ?_)); (fail_if_success (with_reducible refine xRet ?_)); walk_at "s"))
def lessN (s : List Int) (part : Int) (n : Nat) : List Int := (List.range n).foldl (fun (f : List Int) (k : Nat) => f.set (64 + 4 * (k : Int) + part).toNat (at_ f (64 + 4 * (k : Int) + part) - 1)) s
theorem lessN_succ (s : List Int) (part : Int) (n : Nat) : lessN s part (n + 1) = (lessN s part n).set (64 + 4 * (n : Int) + part).toNat (at_ (lessN s part n) (64 + 4 * (n : Int) + part) - 1) := by
  unfold lessN
  rw [List.range_succ, List.foldl_append]
  rfl
theorem lessN_len (s : List Int) (part : Int) : ∀ n, (lessN s part n).length = s.length
  | 0 => rfl
  | n + 1 => by rw [lessN_succ, List.length_set, lessN_len s part n]
theorem map_set {xs : List Int} {i : Nat} {v : Int} : (xs.map V.int).set i (.int v) = (xs.set i v).map V.int := by rw [List.map_set]
theorem pure_less {K : PySem.W.Frag} (vs : List V) (H : Hp) (Q : VK) (E : XK) (h : sp__law_less K vs H Q E) : vs.length = 2 ∧ t__law_less K { nx := fun _ H' => Q .non H', rt := Q } (start N__law_less vs) H := by
  obtain ⟨a, s, part, rfl, hS, ok, hp, q⟩ := h
  refine ⟨rfl, ?_⟩
  show t__law_less K _ [some (.ref a), some (.int part), none, none] H
  unfold t__law_less
  with_reducible refine xSeq ?_
  repeat walk_at "u"
  refine yListOf hS fun f nf => ?_
  repeat walk_at "u"
  with_reducible refine xSeq ?_
  refine xForR1U ?_
  repeat walk_at "u"
  have hl := ok.1
  refine yForR1 (n := 8) rfl (by decide) (fun i σ H' => ∃ x3, σ = [some (.ref a), some (.int part), some (.ref f), x3] ∧ New H f (.lst ((lessN s part i).map V.int)) H') ⟨_, rfl, New.upd nf⟩ ?_ ?_
  · rintro i σ H1 hi ⟨x3, rfl, n1⟩
    have hf := n1.2.2
    repeat walk_at "u"
    refine yIxL (SqL.of hf) (at_ixL (by omega) (by rw [lessN_len]; omega)) ?_
    repeat walk_at "u"
    refine ySetL hf (ix_nat (by omega) (by rw [List.length_map, lessN_len]; omega)) ?_
    refine ⟨_, rfl, ?_⟩
    rw [map_set, lessN_succ]
    exact n1.put
  · rintro σ H1 ⟨x3, rfl, n1⟩
    repeat walk_at "s"
    exact q f _ n1
theorem pure_map {K : PySem.W.Frag} (vs : List V) (H : Hp) (Q : VK) (E : XK) (h : sp__law_map K vs H Q E) : vs.length = 3 ∧ t__law_map K { nx := fun _ H' => Q .non H', rt := Q } (start N__law_map vs) H := by
  obtain ⟨a, s, over, up, rfl, hS, ok, hp, q⟩ := h
  refine ⟨rfl, ?_⟩
  show t__law_map K _ [some (.ref a), some (.int over), some (.int up), none] H
  unfold t__law_map
  repeat walk_at "s"
  refine xLcR ?_
  repeat walk_at "s"
  have hl := ok.1
  refine yLcR 64 rfl (by decide) (fun D i H' => New H D (.lst (((List.range i).map fun t : Nat => at_ s (8 * (((t : Int) / 8 + up) % 8) + ((t : Int) + over) % 8)).map V.int)) H') (fun D hD => New.upd hD) ?_ ?_
  · rintro D i H1 hi n1
    have hD := n1.2.2
    refine xNm (yTurnT rfl ?_)
    repeat walk_at "s"
    refine iteT ?_
    repeat walk_at "s"
    refine yIxL (n1.2.1.seq hS) (at_ix (i := 8 * (((i : Int) / 8 + up) % 8) + ((i : Int) + over) % 8) ok (by omega) (by omega)) ?_
    refine ⟨_, hD, by rw [List.length_map, List.length_map, List.length_range]; exact Nat.lt_of_lt_of_le hi (by decide), ?_⟩
    rw [List.range_succ, List.map_append, List.map_append]
    exact n1.put
  · rintro D H1 nD n1
    have hD := n1.2.2
    repeat walk_at "s"
    refine ySlL (n1.2.1.seq hS) fun r nr => ?_
    rw [cut_from (by decide) (by rw [List.length_map]; omega), ← List.map_drop]
    have s2 := same_upd (o := .lst ((s.drop (Int.toNat 64)).map V.int)) nr
    refine yCat (s2 _ _ hD) upd_same (by rw [List.length_map, List.length_map, List.length_map, List.length_range, List.length_drop, hl]; exact Nat.le_of_ble_eq_true rfl) fun z nz => ?_
    refine q z _ ?_
    rw [← List.map_append]
    refine ⟨n1.2.1.free (s2.free nz), (n1.2.1.trans s2).trans (same_upd nz), upd_same⟩
end K62
namespace K62
open PySem PySem.Spec PyProof.Rows L2 StX Kx
local macro_rules | `(tactic| walk_at "s") => `(tactic| first
  | with_reducible refine xSeq ?_ | with_reducible refine xAsg ?_ | with_reducible refine xNm ?_ | with_reducible refine xDrop ?_ | with_reducible refine xRet ?_ | with_reducible refine xRetN ?_ | with_reducible refine xNext ?_ | with_reducible refine xIfS ?_
  | ((with_reducible refine xVar (v := ?v) ?h ?q); (case h => exact rfl)) | with_reducible refine xC ?_ | with_reducible refine xOp ?_ | with_reducible refine xUn ?_ | with_reducible refine xI0 ?_ | with_reducible refine xU ?_
  | with_reducible refine xEqI ?_ | with_reducible refine xNeI ?_ | with_reducible refine xEqB ?_ | with_reducible refine xNeB ?_ | with_reducible refine xEqS ?_ | with_reducible refine xNeS ?_ | with_reducible refine xIsN ?_ | with_reducible refine xNotN ?_
  | with_reducible refine xChain ?_ | with_reducible refine xIf ?_ | with_reducible refine xAndV ?_ | with_reducible refine xOrV ?_ | with_reducible refine xNotV ?_
  | with_reducible refine xTest ?_ | with_reducible refine xB ?_ | with_reducible refine xAnd ?_ | with_reducible refine xOr ?_ | with_reducible refine xNot ?_ | with_reducible refine xYes ?_
  | with_reducible refine xNil ?_ | with_reducible refine xCons ?_ | with_reducible refine xTup ?_ | with_reducible refine xLst ?_ | with_reducible refine xCB ?_ | with_reducible refine xInt1I ?_ | with_reducible refine xInt1B ?_ | with_reducible refine xAbs ?_ | with_reducible refine xMin2 ?_ | with_reducible refine xMax2 ?_
  | with_reducible refine xFld ?_ | with_reducible refine xFldS ?_ | with_reducible refine xDG ?_ | with_reducible refine xDP ?_ | with_reducible refine xCall ?_ | with_reducible refine yMeth ?_ | with_reducible refine xBM ?_ | with_reducible refine xBM0 ?_
  | with_reducible refine xPar ?_ | with_reducible refine xPar3 ?_ | with_reducible refine yPar ?_ | with_reducible refine yPar3 ?_ | with_reducible refine xGNil ?_ | with_reducible refine xGCons ?_ | with_reducible refine xGSub ?_
  | with_reducible refine xSl ?_ | with_reducible refine xNoPart ?_ | with_reducible refine xPart ?_ | with_reducible refine xPI ?_ | with_reducible refine xStar ?_ | with_reducible refine xIn ?_ | with_reducible refine xNotIn ?_ | with_reducible refine xGF ?_
  | with_reducible refine xBl ?_ | with_reducible refine xPairs ?_ | with_reducible refine xPairs0 ?_)
local macro_rules | `(tactic| walk_at "h") => `(tactic| first | assumption | exact upd_same | exact same_upd (by assumption) _ _ (by walk_at "h"))
local macro_rules | `(tactic| walk_at "s") => `(tactic| first
  | ((with_reducible refine xI ?c ?q); (case c => first | (show (0 : Int) < _; decide) | exact ⟨by decide, by decide⟩ | exact .inl ⟨by decide, by decide⟩ | exact .inr ⟨by decide, by decide⟩)))
local macro_rules | `(tactic| walk_at "t") => `(tactic| ((fail_if_success (with_reducible refine xSeq ?_)); walk_at "s"))
local macro_rules | `(tactic| walk_at "u") => `(tactic| ((fail_if_success (with_reducible refine xSeq ?_)); (fail_if_success (with_reducible refine xRet ?_)); walk_at "s"))
def turnN (s : List Int) (a place : Int) (n : Nat) : List Int := (List.range n).foldl (turnStep s a place) s
theorem turnN_succ (s : List Int) (a place : Int) (n : Nat) : turnN s a place (n + 1) = turnStep s a place (turnN s a place n) n := by
  unfold turnN
  rw [List.range_succ, List.foldl_append]
  rfl
theorem turnStep_len (s : List Int) (a place : Int) (f : List Int) (n : Nat) : (turnStep s a place f n).length = f.length := by
  unfold turnStep
  split <;> rw [List.length_set]
theorem turnN_len (s : List Int) (a place : Int) : ∀ n, (turnN s a place n).length = s.length
  | 0 => rfl
  | n + 1 => by rw [turnN_succ, turnStep_len, turnN_len s a place n]
theorem tens_ix : ∀ i : Nat, i < 8 → atI [V.int 128, V.int 64, V.int 32, V.int 16, V.int 8, V.int 4, V.int 2, V.int 1] (i : Int) = some (.int ([128, 64, 32, 16, 8, 4, 2, 1].getD i 0))
  | 0, _ | 1, _ | 2, _ | 3, _ | 4, _ | 5, _ | 6, _ | 7, _ => rfl
  | n + 8, h => absurd h (by omega)
theorem pure_turned {K : PySem.W.Frag} (vs : List V) (H : Hp) (Q : VK) (E : XK) (h : sp__law_turned K vs H Q E) : vs.length = 3 ∧ t__law_turned K { nx := fun _ H' => Q .non H', rt := Q } (start N__law_turned vs) H := by
  obtain ⟨a, s, k, place, rfl, hS, ok, hk, hp, q⟩ := h
  refine ⟨rfl, ?_⟩
  show t__law_turned K _ [some (.ref a), some (.int k), some (.int place), none, none, none, none, none, none] H
  unfold t__law_turned
  have hl := ok.1
  with_reducible refine xSeq ?_
  repeat walk_at "u"
  refine yIxL hS (at_ix (i := 65 + 4 * k) ok (by omega) (by omega)) ?_
  repeat walk_at "u"
  refine yIxL hS (at_ix (i := 66 + 4 * k) ok (by omega) (by omega)) ?_
  repeat walk_at "u"
  have eA : 128 + 16 * (at_ s (65 + 4 * k) % 32) = tileAt s k := rfl
  rw [eA]
  have hA : 128 ≤ tileAt s k ∧ tileAt s k ≤ 624 := by
    rw [← eA]
    omega
  unfold turnM at q
  generalize tileAt s k = A at *
  with_reducible refine xSeq ?_
  repeat walk_at "u"
  refine yListOf hS fun f nf => ?_
  repeat walk_at "u"
  with_reducible refine xSeqW (fun σ' H' => ∃ x6 x7 x8, σ' = [some (.ref a), some (.int k), some (.int place), some (.int A), some (.int (at_ s (66 + 4 * k))), some (.ref f), x6, x7, x8] ∧ New H f (.lst ((turnN s A place 16).map V.int)) H') (fun nx hn => ?_) ?_
  · refine xForR1U ?_
    repeat walk_at "u"
    refine yForR1 (n := 16) rfl (by decide) (fun i σ' H' => ∃ x6 x7 x8, σ' = [some (.ref a), some (.int k), some (.int place), some (.int A), some (.int (at_ s (66 + 4 * k))), some (.ref f), x6, x7, x8] ∧ New H f (.lst ((turnN s A place i).map V.int)) H') ⟨_, _, _, rfl, New.upd nf⟩ ?_ ?_
    · rintro i σ H1 hi ⟨x6, x7, x8, rfl, n1⟩
      have hf := n1.2.2
      have hSu := turnN_succ s A place i
      unfold turnStep at hSu
      with_reducible refine xNm ?_
      with_reducible refine xSeq ?_
      repeat walk_at "u"
      refine yIxL (n1.2.1.seq hS) (at_ix (i := A + (i : Int)) ok (by omega) (by omega)) ?_
      repeat walk_at "u"
      refine iteD (fun h6 => ?_) (fun h6 => ?_)
      · rw [if_pos h6] at hSu
        repeat walk_at "u"
        refine xLcR ?_
        repeat walk_at "u"
        refine yLcR 8 rfl (by decide) (fun D j H' => Same H1 H' ∧ H1 D = none ∧ H' D = some (.lst (((List.range j).map fun j : Nat => bitM (at_ s (A + (i : Int))) (j : Int) * [128, 64, 32, 16, 8, 4, 2, 1].getD j 0).map V.int))) (fun D hD => ⟨same_upd hD, hD, upd_same⟩) ?_ ?_
        · rintro D j H2 hj ⟨s2, nD, hD⟩
          refine xNm (yTurnT rfl ?_)
          repeat walk_at "s"
          refine iteT ?_
          repeat walk_at "s"
          refine ⟨_, _, rfl, ⟨by omega, by omega⟩, fun H3 s3 => ?_⟩
          repeat walk_at "s"
          refine ⟨Nat.le_of_ble_eq_true rfl, fun z nz => ?_⟩
          repeat walk_at "s"
          refine yIxL (SqL.of upd_same) (tens_ix j hj) ?_
          refine xI (.inl (by rcases bit_bd (at_ s (A + (i : Int))) (j : Int) with h | h <;> rw [h] <;> exact ⟨by decide, by decide⟩)) ?_
          have s4 := s3.trans (same_upd (o := .lst [.int 128, .int 64, .int 32, .int 16, .int 8, .int 4, .int 2, .int 1]) nz)
          refine ⟨_, s4 _ _ hD, by rw [List.length_map, List.length_map, List.length_range]; exact Nat.lt_of_lt_of_le hj (by decide), fun c o ec => ?_, nD, ?_⟩
          · rw [upd_ne (ne_of_none ec nD)]
            exact s4 _ _ (s2 _ _ ec)
          · rw [List.range_succ, List.map_append, List.map_append]
            exact upd_same
        · rintro D H2 nD ⟨s2, _, hD⟩
          repeat walk_at "u"
          refine xSum (SqL.of hD) ?_
          repeat walk_at "u"
          refine ySetL (s2 _ _ hf) (ix_nat (by omega) (by rw [List.length_map, turnN_len]; omega)) ?_
          refine ⟨_, _, _, rfl, ?_⟩
          rw [map_set, hSu]
          exact (n1.trans s2).put
      · rw [if_neg h6] at hSu
        repeat walk_at "u"
        refine ySetL hf (ix_nat (by omega) (by rw [List.length_map, turnN_len]; omega)) ?_
        refine ⟨_, _, _, rfl, ?_⟩
        rw [map_set, hSu]
        exact n1.put
    · rintro σ H1 ⟨x6, x7, x8, rfl, n1⟩
      exact hn _ _ ⟨_, _, _, rfl, n1⟩
  · rintro σ H1 ⟨x6, x7, x8, rfl, n1⟩
    have hf := n1.2.2
    with_reducible refine xSeq ?_
    repeat walk_at "u"
    refine ⟨Nat.le_of_ble_eq_true rfl, fun z nz => ?_⟩
    repeat walk_at "u"
    have n2 := n1.trans (same_upd (o := .lst [.int 64, .int 128]) nz)
    refine yIxL (v := .int (if place = 6 then 64 else 128)) (SqL.of upd_same) (by rcases hp with h | h <;> subst h <;> rfl) ?_
    repeat walk_at "u"
    refine ⟨_, _, rfl, ⟨by omega, by omega⟩, fun H3 s3 => ?_⟩
    repeat walk_at "u"
    have n3 := n2.trans s3
    refine xI (.inr (by rcases bit_bd (at_ s (66 + 4 * k)) place with h | h <;> rw [h] <;> exact ⟨by decide, by decide⟩)) ?_
    repeat walk_at "u"
    refine ySetL n3.2.2 (ix_nat (by omega) (by rw [List.length_map, turnN_len]; omega)) ?_
    repeat walk_at "s"
    refine q f _ ?_
    rw [map_set]
    exact n3.put
end K62
namespace K62
open PySem PySem.Spec PyProof.Rows L2 StX Kx
local macro_rules | `(tactic| walk_at "s") => `(tactic| first
  | with_reducible refine xSeq ?_ | with_reducible refine xAsg ?_ | with_reducible refine xNm ?_ | with_reducible refine xDrop ?_ | with_reducible refine xRet ?_ | with_reducible refine xRetN ?_ | with_reducible refine xNext ?_ | with_reducible refine xIfS ?_
  | ((with_reducible refine xVar (v := ?v) ?h ?q); (case h => exact rfl)) | with_reducible refine xC ?_ | with_reducible refine xOp ?_ | with_reducible refine xUn ?_ | with_reducible refine xI0 ?_ | with_reducible refine xU ?_
  | with_reducible refine xEqI ?_ | with_reducible refine xNeI ?_ | with_reducible refine xEqB ?_ | with_reducible refine xNeB ?_ | with_reducible refine xEqS ?_ | with_reducible refine xNeS ?_ | with_reducible refine xIsN ?_ | with_reducible refine xNotN ?_
  | with_reducible refine xChain ?_ | with_reducible refine xIf ?_ | with_reducible refine xAndV ?_ | with_reducible refine xOrV ?_ | with_reducible refine xNotV ?_
  | with_reducible refine xTest ?_ | with_reducible refine xB ?_ | with_reducible refine xAnd ?_ | with_reducible refine xOr ?_ | with_reducible refine xNot ?_ | with_reducible refine xYes ?_
  | with_reducible refine xNil ?_ | with_reducible refine xCons ?_ | with_reducible refine xTup ?_ | with_reducible refine xLst ?_ | with_reducible refine xCB ?_ | with_reducible refine xInt1I ?_ | with_reducible refine xInt1B ?_ | with_reducible refine xAbs ?_ | with_reducible refine xMin2 ?_ | with_reducible refine xMax2 ?_
  | with_reducible refine xFld ?_ | with_reducible refine xFldS ?_ | with_reducible refine xDG ?_ | with_reducible refine xDP ?_ | with_reducible refine xCall ?_ | with_reducible refine yMeth ?_ | with_reducible refine xBM ?_ | with_reducible refine xBM0 ?_
  | with_reducible refine xPar ?_ | with_reducible refine xPar3 ?_ | with_reducible refine yPar ?_ | with_reducible refine yPar3 ?_ | with_reducible refine xGNil ?_ | with_reducible refine xGCons ?_ | with_reducible refine xGSub ?_
  | with_reducible refine xSl ?_ | with_reducible refine xNoPart ?_ | with_reducible refine xPart ?_ | with_reducible refine xPI ?_ | with_reducible refine xStar ?_ | with_reducible refine xIn ?_ | with_reducible refine xNotIn ?_ | with_reducible refine xGF ?_
  | with_reducible refine xBl ?_ | with_reducible refine xPairs ?_ | with_reducible refine xPairs0 ?_)
local macro_rules | `(tactic| walk_at "h") => `(tactic| first | assumption | exact upd_same | exact same_upd (by assumption) _ _ (by walk_at "h"))
local macro_rules | `(tactic| walk_at "s") => `(tactic| first
  | ((with_reducible refine xI ?c ?q); (case c => first | (show (0 : Int) < _; decide) | exact ⟨by decide, by decide⟩ | exact .inl ⟨by decide, by decide⟩ | exact .inr ⟨by decide, by decide⟩)))
local macro_rules | `(tactic| walk_at "t") => `(tactic| ((fail_if_success (with_reducible refine xSeq ?_)); walk_at "s"))
local macro_rules | `(tactic| walk_at "u") => `(tactic| ((fail_if_success (with_reducible refine xSeq ?_)); (fail_if_success (with_reducible refine xRet ?_)); walk_at "s"))
theorem at_left {xs ys : List Int} {i : Int} (h0 : 0 ≤ i) (h1 : i < xs.length) : at_ (xs ++ ys) i = at_ xs i := by
  unfold at_
  rw [List.getD_eq_getElem?_getD, List.getD_eq_getElem?_getD, List.getElem?_append_left (by omega)]
theorem at_right {xs ys : List Int} {i : Int} (h0 : (xs.length : Int) ≤ i) : at_ (xs ++ ys) i = at_ ys (i - xs.length) := by
  unfold at_
  rw [List.getD_eq_getElem?_getD, List.getD_eq_getElem?_getD, List.getElem?_append_right (by omega), show (i - (xs.length : Int)).toNat = i.toNat - xs.length from by omega]
def By (s : List Int) : Prop := ∀ b ∈ s, 0 ≤ b ∧ b < 256
theorem By.app {s t : List Int} (a : By s) (b : By t) : By (s ++ t) := fun x hx => by
  rcases List.mem_append.mp hx with h | h
  · exact a x h
  · exact b x h
theorem By.one {b : Int} (h : 0 ≤ b ∧ b < 256) : By [b] := fun x hx => by rw [List.mem_singleton.mp hx]; exact h
structure ShN (s : List Int) (n : Nat) : Prop where
  len : s.length = 64 + 4 * n
  by_ : By s
  map : ∀ t : Int, 0 ≤ t → t < 64 → at_ s t % 32 < 16
  mov : ∀ k : Int, 0 ≤ k → k < n → (1 ≤ at_ s (64 + 4 * k) ∧ at_ s (64 + 4 * k) ≤ 40) ∧ at_ s (64 + 4 * k + 1) % 32 = 16 + k ∧ (1 ≤ at_ s (64 + 4 * k + 3) ∧ at_ s (64 + 4 * k + 3) ≤ 40)
theorem ShN.more {s : List Int} {n : Nat} (h : ShN s n) {y b x : Int} {l : Int} (hy : 1 ≤ y ∧ y ≤ 40) (hb : 0 ≤ b ∧ b < 256) (hb2 : b % 32 = 16 + (n : Int)) (hl : 0 ≤ l ∧ l < 256) (hx : 1 ≤ x ∧ x ≤ 40) : ShN (s ++ [y, b, l, x]) (n + 1) := by
  have hlen := h.len
  refine ⟨by rw [List.length_append, h.len]; rfl, h.by_.app fun z hz => ?_, fun t h0 h1 => ?_, fun k h0 h1 => ?_⟩
  · simp only [List.mem_cons, List.not_mem_nil, or_false] at hz
    rcases hz with rfl | rfl | rfl | rfl <;> omega
  · rw [at_left h0 (by omega)]
    exact h.map t h0 h1
  · by_cases hk : k < n
    · rw [at_left (by omega) (by omega), at_left (by omega) (by omega), at_left (by omega) (by omega)]
      exact h.mov k h0 hk
    · have e : k = (n : Int) := by omega
      subst e
      rw [at_right (by omega), at_right (by omega), at_right (by omega)]
      rw [show 64 + 4 * (n : Int) - (s.length : Int) = 0 from by omega, show 64 + 4 * (n : Int) + 1 - (s.length : Int) = 1 from by omega, show 64 + 4 * (n : Int) + 3 - (s.length : Int) = 3 from by omega]
      exact ⟨hy, hb2, hx⟩
theorem ShN.done {s c : List Int} (h : ShN s 8) (hc : By c) (hl : c.length = 928) : SheetW (s ++ c) := by
  have hlen := h.len
  refine ⟨⟨by rw [List.length_append, h.len, hl], h.by_.app hc⟩, fun t h0 h1 => ?_, fun k h0 h1 => ?_⟩
  · rw [at_left h0 (by omega)]
    exact h.map t h0 h1
  · rw [at_left (by omega) (by omega), at_left (by omega) (by omega), at_left (by omega) (by omega)]
    exact h.mov k h0 h1
theorem pure_sheet {K : PySem.W.Frag} (vs : List V) (H : Hp) (Q : VK) (E : XK) (h : sp__law_sheet K vs H Q E) : vs.length = 2 ∧ t__law_sheet K { nx := fun _ H' => Q .non H', rt := Q } (start N__law_sheet vs) H := by
  obtain ⟨a, ds, k, rfl, hS, dr, hk, q⟩ := h
  refine ⟨rfl, ?_⟩
  show t__law_sheet K _ [some (.ref a), some (.int k), none, none, none] H
  unfold t__law_sheet
  with_reducible refine xSeq ?_
  refine xAsg (xLcR ?_)
  repeat walk_at "u"
  refine yLcR 64 rfl (by decide) (fun D i H' => ∃ s : List Int, s.length = i ∧ By s ∧ (∀ b ∈ s, b % 32 < 16) ∧ New H D (.lst (s.map V.int)) H') (fun D hD => ⟨[], rfl, fun b hb => (nomatch hb), fun b hb => (nomatch hb), New.upd hD⟩) ?_ ?_
  · rintro D i H1 hi ⟨s, e1, e2, e3, n1⟩
    refine xNm (yTurnT rfl ?_)
    repeat walk_at "s"
    refine iteT ?_
    repeat walk_at "s"
    refine ⟨a, ds, _, _, rfl, n1.2.1.seq hS, dr, ⟨by omega, by omega⟩, by decide, fun x x0 x1 => ?_⟩
    repeat walk_at "s"
    refine ⟨a, ds, _, _, rfl, n1.2.1.seq hS, dr, ⟨by omega, by omega⟩, by decide, fun y y0 y1 => ?_⟩
    repeat walk_at "s"
    refine ⟨_, n1.2.2, by rw [List.length_map, e1]; exact Nat.lt_of_lt_of_le hi (by decide), s ++ [32 * x + y], by rw [List.length_append, e1]; rfl, e2.app (.one (by omega)), fun b hb => ?_, ?_⟩
    · rcases List.mem_append.mp hb with h | h
      · exact e3 b h
      · rw [List.mem_singleton.mp h]
        omega
    · rw [List.map_append]
      exact n1.put
  rintro D H1 nD ⟨s, e1, e2, e3, n1⟩
  have sh0 : ShN s 0 := ⟨e1, e2, fun t h0 h1 => e3 _ (List.mem_of_getElem? (at_get h0 (by omega))), fun k h0 h1 => by omega⟩
  repeat walk_at "u"
  with_reducible refine xSeq ?_
  repeat walk_at "u"
  refine ⟨Nat.le_of_ble_eq_true rfl, fun z nz => ?_⟩
  repeat walk_at "u"
  have n2 := n1.trans (same_upd (o := .lst [.int 6, .int 30]) nz)
  refine ⟨a, ds, _, _, rfl, n2.2.1.seq hS, dr, ⟨by omega, by omega⟩, by decide, fun w w0 w1 => ?_⟩
  obtain ⟨m, hm, m0, m1⟩ : ∃ m : Int, atI [V.int 6, V.int 30] w = some (.int m) ∧ 0 < m ∧ m ≤ 30 := by
    rcases (show w = 0 ∨ w = 1 by omega) with h | h <;> subst h
    · exact ⟨6, rfl, by decide, by decide⟩
    · exact ⟨30, rfl, by decide, by decide⟩
  refine yIxL (SqL.of upd_same) hm ?_
  repeat walk_at "u"
  have nDH := n1.1
  with_reducible refine xSeqW (fun σ' H' => ∃ x2 D s, σ' = [some (.ref a), some (.int k), x2, some (.ref D), some (.int m)] ∧ ShN s 8 ∧ New H D (.lst (s.map V.int)) H') (fun nx hn => ?_) ?_
  · refine xForR1U ?_
    repeat walk_at "u"
    refine yForR1 (n := 8) rfl (by decide) (fun i σ' H' => ∃ x2 D s, σ' = [some (.ref a), some (.int k), x2, some (.ref D), some (.int m)] ∧ ShN s i ∧ New H D (.lst (s.map V.int)) H') ⟨_, D, s, rfl, sh0, n2⟩ ?_ ?_
    · rintro i σ H2 hi ⟨x2, D, s, rfl, sh, n3⟩
      have hS2 := n3.2.1.seq hS
      repeat walk_at "u"
      refine ⟨a, ds, _, _, rfl, hS2, dr, ⟨by omega, by omega⟩, m0, fun y y0 y1 => ?_⟩
      repeat walk_at "u"
      refine ⟨a, ds, _, _, rfl, hS2, dr, ⟨by omega, by omega⟩, by decide, fun b b0 b1 => ?_⟩
      repeat walk_at "u"
      refine ⟨a, ds, _, _, rfl, hS2, dr, ⟨by omega, by omega⟩, by decide, fun l l0 l1 => ?_⟩
      repeat walk_at "u"
      refine ⟨a, ds, _, _, rfl, hS2, dr, ⟨by omega, by omega⟩, by decide, fun x x0 x1 => ?_⟩
      repeat walk_at "u"
      refine ⟨Nat.le_of_ble_eq_true rfl, fun z nz => ?_⟩
      have hlen := sh.len
      refine yCat (same_upd nz _ _ n3.2.2) upd_same (by rw [List.length_map, hlen]; exact Nat.le_trans (show 64 + 4 * i + 4 ≤ 1000 by omega) (by decide)) fun r nr => ?_
      refine ⟨_, r, s ++ [1 + y, 16 + (i : Int) + 32 * b, l, 1 + x], rfl, sh.more (by omega) (by omega) (by omega) (by omega) (by omega), ?_⟩
      rw [List.map_append]
      exact ⟨n3.2.1.free ((same_upd nz).free nr), (n3.2.1.trans (same_upd nz)).trans (same_upd nr), upd_same⟩
    · rintro σ H2 ⟨x2, D, s, rfl, sh, n3⟩
      exact hn _ _ ⟨_, _, _, rfl, sh, n3⟩
  rintro σ H2 ⟨x2, D, s, rfl, sh, n3⟩
  have lc : ∀ (off : Int) (n : Nat) (D : Addr) (H3 : Hp), True := fun _ _ _ _ => trivial
  have hlen := sh.len
  with_reducible refine xSeq ?_
  repeat walk_at "u"
  refine xLcR ?_
  repeat walk_at "u"
  refine yLcR 32 rfl (by decide) (fun F i H' => ∃ s : List Int, s.length = i ∧ By s ∧ New H2 F (.lst (s.map V.int)) H') (fun D hD => ⟨[], rfl, fun b hb => (nomatch hb), New.upd hD⟩) ?_ ?_
  · rintro F i H3 hi ⟨c, e1, e2, n4⟩
    refine xNm (yTurnT rfl ?_)
    repeat walk_at "s"
    refine iteT ?_
    repeat walk_at "s"
    refine ⟨a, ds, _, _, rfl, (n3.2.1.trans n4.2.1).seq hS, dr, ⟨by omega, by omega⟩, by decide, fun x x0 x1 => ?_⟩
    refine ⟨_, n4.2.2, by rw [List.length_map, e1]; exact Nat.lt_of_lt_of_le hi (by decide), c ++ [x], by rw [List.length_append, e1]; rfl, e2.app (.one ⟨x0, x1⟩), ?_⟩
    rw [List.map_append]
    exact n4.put
  rintro F H3 nF ⟨c, c1, c2, n4⟩
  repeat walk_at "u"
  refine yCat (n4.2.1 _ _ n3.2.2) n4.2.2 (by rw [List.length_map, List.length_map, hlen, c1]; exact Nat.le_of_ble_eq_true rfl) fun r nr => ?_
  repeat walk_at "u"
  have s5 := (n3.2.1.trans n4.2.1).trans (same_upd (o := .lst (s.map V.int ++ c.map V.int)) nr)
  have hr : upd H3 r (.lst (s.map V.int ++ c.map V.int)) r = some (.lst ((s ++ c).map V.int)) := by
    rw [List.map_append]
    exact upd_same
  have nr0 : H r = none := (n3.2.1.trans n4.2.1).free nr
  generalize upd H3 r (.lst (s.map V.int ++ c.map V.int)) = H4 at *
  repeat walk_at "s"
  refine xLcR ?_
  repeat walk_at "s"
  refine yLcR 512 rfl (by decide) (fun F i H' => ∃ s : List Int, s.length = i ∧ By s ∧ New H4 F (.lst (s.map V.int)) H') (fun D hD => ⟨[], rfl, fun b hb => (nomatch hb), New.upd hD⟩) ?_ ?_
  · rintro F i H5 hi ⟨c, e1, e2, n4⟩
    refine xNm (yTurnT rfl ?_)
    repeat walk_at "s"
    refine iteT ?_
    repeat walk_at "s"
    refine ⟨a, ds, _, _, rfl, (s5.trans n4.2.1).seq hS, dr, ⟨by omega, by omega⟩, by decide, fun x x0 x1 => ?_⟩
    refine ⟨_, n4.2.2, by rw [List.length_map, e1]; exact Nat.lt_of_lt_of_le hi (by decide), c ++ [x], by rw [List.length_append, e1]; rfl, e2.app (.one ⟨x0, x1⟩), ?_⟩
    rw [List.map_append]
    exact n4.put
  rintro G H5 nG ⟨d, d1, d2, n6⟩
  repeat walk_at "s"
  refine yCat (n6.2.1 _ _ hr) n6.2.2 (by rw [List.length_map, List.length_map, List.length_append, hlen, c1, d1]; exact Nat.le_of_ble_eq_true rfl) fun u nu => ?_
  have hu : upd H5 u (.lst ((s ++ c).map V.int ++ d.map V.int)) u = some (.lst (((s ++ c) ++ d).map V.int)) := by
    rw [show ((s ++ c) ++ d).map V.int = (s ++ c).map V.int ++ d.map V.int from List.map_append]
    exact upd_same
  have s7 := (s5.trans n6.2.1).trans (same_upd (o := .lst ((s ++ c).map V.int ++ d.map V.int)) nu)
  generalize upd H5 u (.lst ((s ++ c).map V.int ++ d.map V.int)) = H6 at *
  repeat walk_at "s"
  refine ⟨Nat.le_of_ble_eq_true rfl, fun z nz => ?_⟩
  repeat walk_at "s"
  refine yRep upd_same (by decide) (by decide) (Nat.le_of_ble_eq_true (by kernel_rfl)) fun y ny => ?_
  have s8 := (same_upd (H := H6) (o := .lst [.int 0]) nz)
  have ez : (List.replicate (Int.toNat 384) [V.int 0]).flatten = (List.replicate 384 (0 : Int)).map V.int := by
    rw [List.flatten_replicate_singleton, List.map_replicate]
    rfl
  rw [ez]
  refine yCat (same_upd ny _ _ (s8 _ _ hu)) upd_same (by rw [List.length_map, List.length_map, List.length_append, List.length_append, hlen, c1, d1, List.length_replicate]; exact Nat.le_of_ble_eq_true rfl) fun r2 nr2 => ?_
  have hz : By (List.replicate 384 (0 : Int)) := fun b hb => by
    rw [List.eq_of_mem_replicate hb]
    decide
  refine q r2 (s ++ (c ++ (d ++ List.replicate 384 0))) _ (sh.done (c2.app (d2.app hz)) (by rw [List.length_append, List.length_append, c1, d1, List.length_replicate])) ?_
  rw [← List.map_append, show s ++ c ++ d ++ List.replicate 384 (0 : Int) = s ++ (c ++ (d ++ List.replicate 384 0)) from by rw [List.append_assoc, List.append_assoc]]
  have s9 := (s7.trans s8).trans (same_upd (o := .lst ((List.replicate 384 (0 : Int)).map V.int)) ny)
  exact ⟨s9.free nr2, s9.trans (same_upd nr2), upd_same⟩
end K62
namespace K62
open PySem PySem.Spec PyProof.Rows L2 StX Kx
local macro_rules | `(tactic| walk_at "s") => `(tactic| first
  | with_reducible refine xSeq ?_ | with_reducible refine xAsg ?_ | with_reducible refine xNm ?_ | with_reducible refine xDrop ?_ | with_reducible refine xRet ?_ | with_reducible refine xRetN ?_ | with_reducible refine xNext ?_ | with_reducible refine xIfS ?_
  | ((with_reducible refine xVar (v := ?v) ?h ?q); (case h => exact rfl)) | with_reducible refine xC ?_ | with_reducible refine xOp ?_ | with_reducible refine xUn ?_ | with_reducible refine xI0 ?_ | with_reducible refine xU ?_
  | with_reducible refine xEqI ?_ | with_reducible refine xNeI ?_ | with_reducible refine xEqB ?_ | with_reducible refine xNeB ?_ | with_reducible refine xEqS ?_ | with_reducible refine xNeS ?_ | with_reducible refine xIsN ?_ | with_reducible refine xNotN ?_
  | with_reducible refine xChain ?_ | with_reducible refine xIf ?_ | with_reducible refine xAndV ?_ | with_reducible refine xOrV ?_ | with_reducible refine xNotV ?_
  | with_reducible refine xTest ?_ | with_reducible refine xB ?_ | with_reducible refine xAnd ?_ | with_reducible refine xOr ?_ | with_reducible refine xNot ?_ | with_reducible refine xYes ?_
  | with_reducible refine xNil ?_ | with_reducible refine xCons ?_ | with_reducible refine xTup ?_ | with_reducible refine xLst ?_ | with_reducible refine xCB ?_ | with_reducible refine xInt1I ?_ | with_reducible refine xInt1B ?_ | with_reducible refine xAbs ?_ | with_reducible refine xMin2 ?_ | with_reducible refine xMax2 ?_
  | with_reducible refine xFld ?_ | with_reducible refine xFldS ?_ | with_reducible refine xDG ?_ | with_reducible refine xDP ?_ | with_reducible refine xCall ?_ | with_reducible refine yMeth ?_ | with_reducible refine xBM ?_ | with_reducible refine xBM0 ?_
  | with_reducible refine xPar ?_ | with_reducible refine xPar3 ?_ | with_reducible refine yPar ?_ | with_reducible refine yPar3 ?_ | with_reducible refine xGNil ?_ | with_reducible refine xGCons ?_ | with_reducible refine xGSub ?_
  | with_reducible refine xSl ?_ | with_reducible refine xNoPart ?_ | with_reducible refine xPart ?_ | with_reducible refine xPI ?_ | with_reducible refine xStar ?_ | with_reducible refine xIn ?_ | with_reducible refine xNotIn ?_ | with_reducible refine xGF ?_
  | with_reducible refine xBl ?_ | with_reducible refine xPairs ?_ | with_reducible refine xPairs0 ?_)
local macro_rules | `(tactic| walk_at "h") => `(tactic| first | assumption | exact upd_same | exact same_upd (by assumption) _ _ (by walk_at "h"))
local macro_rules | `(tactic| walk_at "s") => `(tactic| first
  | ((with_reducible refine xI ?c ?q); (case c => first | (show (0 : Int) < _; decide) | exact ⟨by decide, by decide⟩ | exact .inl ⟨by decide, by decide⟩ | exact .inr ⟨by decide, by decide⟩)))
local macro_rules | `(tactic| walk_at "t") => `(tactic| ((fail_if_success (with_reducible refine xSeq ?_)); walk_at "s"))
/-! ### the mathematics: two sheets that show alike -/
theorem listM_map {s s' : List Int} {l l' : Int} {f : Mov → Mov} : ∀ n : Nat, (∀ k, k < n → onB s' l' k = onB s l k ∧ (onB s l k = true → movM s' k = f (movM s k))) → listM s' l' n = (listM s l n).map f
  | 0, _ => rfl
  | n + 1, h => by
    have h1 := h n (Nat.lt_succ_self n)
    rw [listM_succ, listM_succ, listM_map n fun k hk => h k (Nat.lt_succ_of_lt hk), h1.1, List.map_append]
    congr 1
    by_cases hb : onB s l n = true
    · rw [if_pos hb, if_pos hb, h1.2 hb]
      rfl
    · rw [if_neg hb, if_neg hb]
      rfl
theorem movers_sim {s s' : List Int} {t t' : Sett} {l l' : Int} {f : Mov → Mov} (h1 : bitM t'.on 1 = bitM t.on 1) (h2 : 24 ≤ l' ↔ 24 ≤ l) (h : ∀ k, k < 8 → onB s' l' k = onB s l k ∧ (onB s l k = true → movM s' k = f (movM s k))) :
    moversM s' t' l' = (moversM s t l).map f ∧ manyM s' t' l' = manyM s t l := by
  have e : allM s' t' l' = (allM s t l).map f := by
    unfold allM
    by_cases hc : bitM t.on 1 = 0 ∨ 24 ≤ l
    · rw [if_pos hc, if_pos (by rw [h1, h2]; exact hc)]
      rfl
    · rw [if_neg hc, if_neg (by rw [h1, h2]; exact hc), listM_map 8 h]
  unfold moversM manyM
  rw [e, List.map_take, List.length_map]
  exact ⟨rfl, rfl⟩
theorem show_sim {s s' : List Int} {c c' l l' : Int} {f : Mov → Mov} : ∀ ms : List Mov, (∀ m ∈ ms, ((f m).x ≤ c' ∧ c' < (f m).x + 8 ↔ m.x ≤ c ∧ c < m.x + 8) ∧ (m.x ≤ c ∧ c < m.x + 8 → mpixM s' (f m) c' l' = mpixM s m c l)) →
    showM s' c' l' (ms.map f) = (showM s c l ms).map fun mn => (f mn.1, mn.2)
  | [], _ => rfl
  | m :: ms, h => by
    have h1 := h m (List.mem_cons_self ..)
    rw [List.map_cons, showM, showM]
    by_cases hc : m.x ≤ c ∧ c < m.x + 8
    · rw [h1.2 hc]
      by_cases hp : mpixM s m c l ≠ 0
      · rw [if_pos ⟨(h1.1.mpr hc).1, (h1.1.mpr hc).2, hp⟩, if_pos ⟨hc.1, hc.2, hp⟩]
        rfl
      · rw [if_neg fun z => hp z.2.2, if_neg fun z => hp z.2.2]
        exact show_sim ms fun m hm => h m (List.mem_cons_of_mem _ hm)
    · rw [if_neg fun z => hc (h1.1.mp ⟨z.1, z.2.1⟩), if_neg fun z => hc ⟨z.1, z.2.1⟩]
      exact show_sim ms fun m hm => h m (List.mem_cons_of_mem _ hm)
theorem dot_sim {s s' : List Int} {t t' : Sett} {c c' l l' : Int} {f : Mov → Mov} {ms : List Mov} (hg : groundM s' t' c' l' = groundM s t c l)
    (hs : ∀ m ∈ ms, ((f m).x ≤ c' ∧ c' < (f m).x + 8 ↔ m.x ≤ c ∧ c < m.x + 8) ∧ (m.x ≤ c ∧ c < m.x + 8 → mpixM s' (f m) c' l' = mpixM s m c l))
    (hf : ∀ m ∈ ms, bitM (f m).looks 5 = bitM m.looks 5 ∧ (f m).looks % 4 = m.looks % 4 ∧ (f m).k = m.k) :
    (dotM s' t' (ms.map f) c' l').2 = (dotM s t ms c l).2 ∧ (dotM s' t' (ms.map f) c' l').1 = at_ s' (placeM (groundM s t c l) (showM s c l ms)) % 64 := by
  unfold dotM
  rw [hg, show_sim ms hs]
  cases e : showM s c l ms with
  | none => exact ⟨rfl, rfl⟩
  | some mn =>
    obtain ⟨m, n⟩ := mn
    obtain ⟨h1, h2, h3⟩ := hf m (show_some e).1
    show hitM _ (some (f m, n)) = hitM _ (some (m, n)) ∧ at_ s' (placeM _ (some (f m, n))) % 64 = at_ s' (placeM _ (some (m, n))) % 64
    rw [hitM_some, hitM_some, placeM_some, placeM_some, h1, h2, h3]
    exact ⟨rfl, rfl⟩
theorem dots_congr {s s' : List Int} {t t' : Sett} (h : ∀ l c : Nat, l < 24 → c < 32 → dotM s' t' (moversM s' t' (l : Int)) (c : Int) (l : Int) = dotM s t (moversM s t (l : Int)) (c : Int) (l : Int)) (hm : ∀ l : Nat, l < 24 → manyM s' t' (l : Int) = manyM s t (l : Int)) :
    ∀ n, n ≤ 24 → dotsU s' t' n = dotsU s t n ∧ hitU s' t' n = hitU s t n ∧ fullU s' t' n = fullU s t n
  | 0, _ => ⟨rfl, rfl, rfl⟩
  | n + 1, hn => by
    obtain ⟨h1, h2, h3⟩ := dots_congr h hm n (by omega)
    have hr : rowM s' t' (moversM s' t' (n : Int)) (n : Int) 0 32 = rowM s t (moversM s t (n : Int)) (n : Int) 0 32 := by
      unfold rowM
      refine List.map_congr_left fun c hc => ?_
      rw [Int.zero_add, h n c (by omega) (List.mem_range.mp hc)]
    have hh : rowH s' t' (moversM s' t' (n : Int)) (n : Int) 0 32 = rowH s t (moversM s t (n : Int)) (n : Int) 0 32 := by
      unfold rowH
      rw [Bool.eq_iff_iff, List.any_eq_true, List.any_eq_true]
      constructor
      · rintro ⟨c, hc, e⟩
        rw [Int.zero_add, h n c (by omega) (List.mem_range.mp hc)] at e
        exact ⟨c, hc, by rw [Int.zero_add]; exact e⟩
      · rintro ⟨c, hc, e⟩
        rw [Int.zero_add, ← h n c (by omega) (List.mem_range.mp hc)] at e
        exact ⟨c, hc, by rw [Int.zero_add]; exact e⟩
    refine ⟨?_, ?_, ?_⟩
    · rw [dotsU, dotsU, h1, hr]
    · rw [hitU, hitU, h2, hh]
    · rw [fullU, fullU, h3, hm n (by omega)]
theorem dots_at {s : List Int} {t : Sett} {l c : Nat} (hc : c < 32) : ∀ n, l < n → (dotsU s t n)[32 * l + c]? = some (dotM s t (moversM s t (l : Int)) (c : Int) (l : Int)).1
  | 0, h => absurd h (by omega)
  | n + 1, h => by
    rw [dotsU]
    by_cases e : l = n
    · subst e
      rw [List.getElem?_append_right (by rw [dotsU_len]; omega), dotsU_len, show 32 * l + c - 32 * l = c from by omega]
      unfold rowM
      rw [List.getElem?_map, List.getElem?_range hc]
      show some (dotM s t (moversM s t (l : Int)) (0 + (c : Int)) (l : Int)).1 = _
      rw [Int.zero_add]
    · rw [List.getElem?_append_left (by rw [dotsU_len]; omega)]
      exact dots_at hc n (by omega)
end K62
namespace K62
open PySem PySem.Spec PyProof.Rows L2 StX Kx
local macro_rules | `(tactic| walk_at "s") => `(tactic| first
  | with_reducible refine xSeq ?_ | with_reducible refine xAsg ?_ | with_reducible refine xNm ?_ | with_reducible refine xDrop ?_ | with_reducible refine xRet ?_ | with_reducible refine xRetN ?_ | with_reducible refine xNext ?_ | with_reducible refine xIfS ?_
  | ((with_reducible refine xVar (v := ?v) ?h ?q); (case h => exact rfl)) | with_reducible refine xC ?_ | with_reducible refine xOp ?_ | with_reducible refine xUn ?_ | with_reducible refine xI0 ?_ | with_reducible refine xU ?_
  | with_reducible refine xEqI ?_ | with_reducible refine xNeI ?_ | with_reducible refine xEqB ?_ | with_reducible refine xNeB ?_ | with_reducible refine xEqS ?_ | with_reducible refine xNeS ?_ | with_reducible refine xIsN ?_ | with_reducible refine xNotN ?_
  | with_reducible refine xChain ?_ | with_reducible refine xIf ?_ | with_reducible refine xAndV ?_ | with_reducible refine xOrV ?_ | with_reducible refine xNotV ?_
  | with_reducible refine xTest ?_ | with_reducible refine xB ?_ | with_reducible refine xAnd ?_ | with_reducible refine xOr ?_ | with_reducible refine xNot ?_ | with_reducible refine xYes ?_
  | with_reducible refine xNil ?_ | with_reducible refine xCons ?_ | with_reducible refine xTup ?_ | with_reducible refine xLst ?_ | with_reducible refine xCB ?_ | with_reducible refine xInt1I ?_ | with_reducible refine xInt1B ?_ | with_reducible refine xAbs ?_ | with_reducible refine xMin2 ?_ | with_reducible refine xMax2 ?_
  | with_reducible refine xFld ?_ | with_reducible refine xFldS ?_ | with_reducible refine xDG ?_ | with_reducible refine xDP ?_ | with_reducible refine xCall ?_ | with_reducible refine yMeth ?_ | with_reducible refine xBM ?_ | with_reducible refine xBM0 ?_
  | with_reducible refine xPar ?_ | with_reducible refine xPar3 ?_ | with_reducible refine yPar ?_ | with_reducible refine yPar3 ?_ | with_reducible refine xGNil ?_ | with_reducible refine xGCons ?_ | with_reducible refine xGSub ?_
  | with_reducible refine xSl ?_ | with_reducible refine xNoPart ?_ | with_reducible refine xPart ?_ | with_reducible refine xPI ?_ | with_reducible refine xStar ?_ | with_reducible refine xIn ?_ | with_reducible refine xNotIn ?_ | with_reducible refine xGF ?_
  | with_reducible refine xBl ?_ | with_reducible refine xPairs ?_ | with_reducible refine xPairs0 ?_)
local macro_rules | `(tactic| walk_at "h") => `(tactic| first | assumption | exact upd_same | exact same_upd (by assumption) _ _ (by walk_at "h"))
local macro_rules | `(tactic| walk_at "s") => `(tactic| first
  | ((with_reducible refine xI ?c ?q); (case c => first | (show (0 : Int) < _; decide) | exact ⟨by decide, by decide⟩ | exact .inl ⟨by decide, by decide⟩ | exact .inr ⟨by decide, by decide⟩)))
local macro_rules | `(tactic| walk_at "t") => `(tactic| ((fail_if_success (with_reducible refine xSeq ?_)); walk_at "s"))
/-! ### the moved map, the lowered movers, the other colours -/
theorem pix_congr {s s' : List Int} {tile row col : Int} (h : ∀ i : Int, 128 ≤ i → i < 640 → at_ s' i = at_ s i) (ht : 0 ≤ tile ∧ tile < 32) (hr : 0 ≤ row ∧ row < 8) : pixM s' tile row col = pixM s tile row col := by
  unfold pixM
  rw [h _ (by omega) (by omega), h _ (by omega) (by omega)]
theorem mpix_congr {s s' : List Int} {m : Mov} {c l : Int} (h : ∀ i : Int, 128 ≤ i → i < 640 → at_ s' i = at_ s i) (hl : m.y ≤ l ∧ l < m.y + 8) : mpixM s' m c l = mpixM s m c l := by
  unfold mpixM
  exact pix_congr h ⟨by omega, by omega⟩ (by split <;> omega)
theorem map_at {s : List Int} (ok : SheetOk s) {over up i : Int} (h0 : 0 ≤ i) (h1 : i < 1024) : at_ (mapM s over up) i = if i < 64 then at_ s (8 * ((i / 8 + up) % 8) + (i + over) % 8) else at_ s i := by
  have hl := ok.1
  have e : ((List.range 64).map fun t : Nat => at_ s (8 * (((t : Int) / 8 + up) % 8) + ((t : Int) + over) % 8)).length = 64 := by rw [List.length_map, List.length_range]
  unfold mapM
  split
  · next h =>
    rw [at_left h0 (by omega)]
    obtain ⟨n, rfl⟩ : ∃ n : Nat, i = (n : Int) := ⟨i.toNat, by omega⟩
    show ((List.range 64).map _).getD _ 0 = _
    rw [List.getD_eq_getElem?_getD, List.getElem?_map, show ((n : Int)).toNat = n from by omega, List.getElem?_range (by omega)]
    rfl
  · next h =>
    rw [at_right (by omega), e]
    unfold at_
    rw [List.getD_eq_getElem?_getD, List.getD_eq_getElem?_getD, List.getElem?_drop, show 64 + (i - ((64 : Nat) : Int)).toNat = i.toNat from by omega]
theorem map_ok {s : List Int} (ok : SheetOk s) {over up : Int} : SheetOk (mapM s over up) := by
  have hl := ok.1
  refine ⟨?_, fun b hb => ?_⟩
  · unfold mapM
    rw [List.length_append, List.length_map, List.length_range, List.length_drop, hl]
  · unfold mapM at hb
    rcases List.mem_append.mp hb with h | h
    · obtain ⟨t, ht, rfl⟩ := List.mem_map.mp h
      have := List.mem_range.mp ht
      exact at_bd ok (by omega) (by omega)
    · exact ok.2 b (List.mem_of_mem_drop h)
theorem map_same {s : List Int} (ok : SheetOk s) {t : Sett} {over up : Int} (ho : 0 ≤ over ∧ over < 8) (hu : 0 ≤ up ∧ up < 8) :
    let s' := mapM s over up
    let t' : Sett := ⟨(t.r + 256 - 8 * over) % 256, (t.d + 256 - 8 * up) % 256, 0, t.on⟩
    dotsU s' t' 24 = dotsU s t 24 ∧ hitU s' t' 24 = hitU s t 24 ∧ fullU s' t' 24 = fullU s t 24 := by
  intro s' t'
  have hi : ∀ i : Int, 64 ≤ i → i < 1024 → at_ s' i = at_ s i := fun i h0 h1 => by
    rw [map_at ok (by omega) h1, if_neg (by omega)]
  have hmv : ∀ l : Int, moversM s' t' l = moversM s t l ∧ manyM s' t' l = manyM s t l := fun l => by
    have h := movers_sim (s := s) (s' := s') (t := t) (t' := t') (l := l) (l' := l) (f := id) rfl Iff.rfl fun k hk => by
      unfold onB movM
      rw [hi _ (by omega) (by omega), hi _ (by omega) (by omega), hi _ (by omega) (by omega), hi _ (by omega) (by omega)]
      exact ⟨rfl, fun _ => rfl⟩
    rw [List.map_id] at h
    exact h
  refine dots_congr (fun l c hl hc => ?_) (fun l hl => (hmv l).2) 24 (Nat.le_refl _)
  rw [(hmv l).1]
  have hg : groundM s' t' (c : Int) (l : Int) = groundM s t (c : Int) (l : Int) := by
    unfold groundM
    show (if bitM t.on 0 = 0 then _ else _) = _
    by_cases h0 : bitM t.on 0 = 0
    · rw [if_pos h0, if_pos h0]
    · rw [if_neg h0, if_neg h0]
      have er : t'.r = (t.r + 256 - 8 * over) % 256 := rfl
      have ed : t'.d = (t.d + 256 - 8 * up) % 256 := rfl
      have eb : at_ s' (((l : Int) + t'.d) % 64 / 8 * 8 + ((c : Int) + t'.r) % 64 / 8) = at_ s (((l : Int) + t.d) % 64 / 8 * 8 + ((c : Int) + t.r) % 64 / 8) := by
        rw [map_at ok (by omega) (by omega), if_pos (by omega)]
        congr 1
        omega
      rw [eb, pix_congr (fun i h0 h1 => hi i (by omega) (by omega)) (by omega) (by omega), show ((l : Int) + t'.d) % 64 % 8 = ((l : Int) + t.d) % 64 % 8 from by omega, show ((c : Int) + t'.r) % 64 % 8 = ((c : Int) + t.r) % 64 % 8 from by omega]
  have hmo := (movers_ok (s := s) (t := t) (line := (l : Int)) ok).1
  have h := dot_sim (f := id) (ms := moversM s t (l : Int)) hg (fun m hm => ⟨Iff.rfl, fun _ => mpix_congr (fun i h0 h1 => hi i (by omega) (by omega)) (hmo m hm).1⟩) (fun m _ => ⟨rfl, rfl, rfl⟩)
  rw [List.map_id] at h
  have hp := place_bd (s := s) (t := t) (col := (c : Int)) (line := (l : Int)) (ms := moversM s t (l : Int))
  rw [hi _ (by omega) (by omega)] at h
  exact Prod.ext h.2 h.1
end K62
namespace K62
open PySem PySem.Spec PyProof.Rows L2 StX Kx
local macro_rules | `(tactic| walk_at "s") => `(tactic| first
  | with_reducible refine xSeq ?_ | with_reducible refine xAsg ?_ | with_reducible refine xNm ?_ | with_reducible refine xDrop ?_ | with_reducible refine xRet ?_ | with_reducible refine xRetN ?_ | with_reducible refine xNext ?_ | with_reducible refine xIfS ?_
  | ((with_reducible refine xVar (v := ?v) ?h ?q); (case h => exact rfl)) | with_reducible refine xC ?_ | with_reducible refine xOp ?_ | with_reducible refine xUn ?_ | with_reducible refine xI0 ?_ | with_reducible refine xU ?_
  | with_reducible refine xEqI ?_ | with_reducible refine xNeI ?_ | with_reducible refine xEqB ?_ | with_reducible refine xNeB ?_ | with_reducible refine xEqS ?_ | with_reducible refine xNeS ?_ | with_reducible refine xIsN ?_ | with_reducible refine xNotN ?_
  | with_reducible refine xChain ?_ | with_reducible refine xIf ?_ | with_reducible refine xAndV ?_ | with_reducible refine xOrV ?_ | with_reducible refine xNotV ?_
  | with_reducible refine xTest ?_ | with_reducible refine xB ?_ | with_reducible refine xAnd ?_ | with_reducible refine xOr ?_ | with_reducible refine xNot ?_ | with_reducible refine xYes ?_
  | with_reducible refine xNil ?_ | with_reducible refine xCons ?_ | with_reducible refine xTup ?_ | with_reducible refine xLst ?_ | with_reducible refine xCB ?_ | with_reducible refine xInt1I ?_ | with_reducible refine xInt1B ?_ | with_reducible refine xAbs ?_ | with_reducible refine xMin2 ?_ | with_reducible refine xMax2 ?_
  | with_reducible refine xFld ?_ | with_reducible refine xFldS ?_ | with_reducible refine xDG ?_ | with_reducible refine xDP ?_ | with_reducible refine xCall ?_ | with_reducible refine yMeth ?_ | with_reducible refine xBM ?_ | with_reducible refine xBM0 ?_
  | with_reducible refine xPar ?_ | with_reducible refine xPar3 ?_ | with_reducible refine yPar ?_ | with_reducible refine yPar3 ?_ | with_reducible refine xGNil ?_ | with_reducible refine xGCons ?_ | with_reducible refine xGSub ?_
  | with_reducible refine xSl ?_ | with_reducible refine xNoPart ?_ | with_reducible refine xPart ?_ | with_reducible refine xPI ?_ | with_reducible refine xStar ?_ | with_reducible refine xIn ?_ | with_reducible refine xNotIn ?_ | with_reducible refine xGF ?_
  | with_reducible refine xBl ?_ | with_reducible refine xPairs ?_ | with_reducible refine xPairs0 ?_)
local macro_rules | `(tactic| walk_at "h") => `(tactic| first | assumption | exact upd_same | exact same_upd (by assumption) _ _ (by walk_at "h"))
local macro_rules | `(tactic| walk_at "s") => `(tactic| first
  | ((with_reducible refine xI ?c ?q); (case c => first | (show (0 : Int) < _; decide) | exact ⟨by decide, by decide⟩ | exact .inl ⟨by decide, by decide⟩ | exact .inr ⟨by decide, by decide⟩)))
local macro_rules | `(tactic| walk_at "t") => `(tactic| ((fail_if_success (with_reducible refine xSeq ?_)); walk_at "s"))
/-! ### one less -/
theorem at_set {s : List Int} {n i v : Int} (n0 : 0 ≤ n) (n1 : n < s.length) (i0 : 0 ≤ i) : at_ (s.set n.toNat v) i = if i = n then v else at_ s i := by
  unfold at_
  rw [List.getD_eq_getElem?_getD, List.getD_eq_getElem?_getD]
  by_cases h : i = n
  · rw [if_pos h, h, List.getElem?_set_self (by omega)]
    rfl
  · rw [if_neg h, List.getElem?_set_ne (by omega)]
theorem less_at {s : List Int} (ok : SheetOk s) {part i : Int} (hp : 0 ≤ part ∧ part < 4) (h0 : 0 ≤ i) : ∀ n : Nat, n ≤ 8 → at_ (lessN s part n) i = if (i - 64 - part) % 4 = 0 ∧ 64 + part ≤ i ∧ i < 64 + part + 4 * (n : Int) then at_ s i - 1 else at_ s i
  | 0, _ => by
    rw [if_neg (by omega)]
    rfl
  | n + 1, hn => by
    have hl := ok.1
    rw [lessN_succ, at_set (by omega) (by rw [lessN_len]; omega) h0, less_at ok hp h0 n (by omega), less_at ok hp (by omega) n (by omega)]
    by_cases h : i = 64 + 4 * (n : Int) + part
    · rw [if_pos h, if_neg (by omega), if_pos (by omega), h]
    · rw [if_neg h]
      by_cases h2 : (i - 64 - part) % 4 = 0 ∧ 64 + part ≤ i ∧ i < 64 + part + 4 * (n : Int)
      · rw [if_pos h2, if_pos (by omega)]
      · rw [if_neg h2, if_neg (by omega)]
theorem less_ok {s : List Int} (w : SheetW s) {part : Int} (hp : part = 0 ∨ part = 3) : SheetOk (lessN s part 8) := by
  have ok := w.ok
  have hl := ok.1
  refine ⟨by rw [lessN_len, hl], fun b hb => ?_⟩
  obtain ⟨j, hj, rfl⟩ := List.mem_iff_getElem.mp hb
  rw [lessN_len, hl] at hj
  have e : (lessN s part 8)[j]'(by rw [lessN_len, hl]; exact hj) = at_ (lessN s part 8) (j : Int) := by
    unfold at_
    rw [List.getD_eq_getElem?_getD, show ((j : Int)).toNat = j from by omega, List.getElem?_eq_getElem (by rw [lessN_len, hl]; exact hj)]
    rfl
  rw [e, less_at ok (by omega) (by omega) 8 (by omega)]
  have hb := at_bd (i := (j : Int)) ok (by omega) (by omega)
  split
  · next h =>
    obtain ⟨h1, h2, h3⟩ := h
    have hm := w.mov (((j : Int) - 64 - part) / 4) (by omega) (by omega)
    rcases hp with h | h
    · have e : 64 + 4 * (((j : Int) - 64 - part) / 4) = (j : Int) := by omega
      rw [e] at hm
      omega
    · have e : 64 + 4 * (((j : Int) - 64 - part) / 4) + 3 = (j : Int) := by omega
      rw [e] at hm
      omega
  · exact hb
/-- the columns move by one -/
theorem less3 {s : List Int} (w : SheetW s) {t : Sett} {l c : Nat} :
    (dotM (lessN s 3 8) ⟨(t.r + 1) % 256, t.d, 0, t.on⟩ (moversM (lessN s 3 8) ⟨(t.r + 1) % 256, t.d, 0, t.on⟩ (l : Int)) (c : Int) (l : Int)).1 = (dotM s t (moversM s t (l : Int)) ((c : Int) + 1) (l : Int)).1 := by
  have ok := w.ok
  have hi : ∀ i : Int, 0 ≤ i → (i < 64 ∨ 96 ≤ i ∨ (i - 67) % 4 ≠ 0) → at_ (lessN s 3 8) i = at_ s i := fun i h0 h1 => by
    rw [less_at ok (by omega) h0 8 (by omega), if_neg (by omega)]
  have hx : ∀ k : Nat, k < 8 → at_ (lessN s 3 8) (64 + 4 * (k : Int) + 3) = at_ s (64 + 4 * (k : Int) + 3) - 1 := fun k hk => by
    rw [less_at ok (by omega) (by omega) 8 (by omega), if_pos (by omega)]
  have hmv := movers_sim (s := s) (s' := lessN s 3 8) (t := t) (t' := ⟨(t.r + 1) % 256, t.d, 0, t.on⟩) (l := (l : Int)) (l' := (l : Int)) (f := fun m => { m with x := m.x - 1 }) rfl Iff.rfl fun k hk => by
    unfold onB movM
    rw [hi _ (by omega) (by omega), hi _ (by omega) (by omega), hi _ (by omega) (by omega), hx k hk]
    exact ⟨rfl, fun _ => rfl⟩
  rw [hmv.1]
  have hpix : ∀ i : Int, 128 ≤ i → i < 640 → at_ (lessN s 3 8) i = at_ s i := fun i h0 h1 => hi i (by omega) (.inr (.inl (by omega)))
  have hg : groundM (lessN s 3 8) ⟨(t.r + 1) % 256, t.d, 0, t.on⟩ (c : Int) (l : Int) = groundM s t ((c : Int) + 1) (l : Int) := by
    unfold groundM
    show (if bitM t.on 0 = 0 then _ else _) = _
    by_cases h0 : bitM t.on 0 = 0
    · rw [if_pos h0, if_pos h0]
    · rw [if_neg h0, if_neg h0]
      show (pixM _ (at_ _ (((l : Int) + t.d) % 64 / 8 * 8 + ((c : Int) + (t.r + 1) % 256) % 64 / 8) % 32) (((l : Int) + t.d) % 64 % 8) (((c : Int) + (t.r + 1) % 256) % 64 % 8), _ ) = _
      rw [show ((c : Int) + (t.r + 1) % 256) % 64 = ((c : Int) + 1 + t.r) % 64 from by omega]
      rw [hi _ (by omega) (.inl (by omega)), pix_congr hpix (by omega) (by omega)]
  have hmo := (movers_ok (s := s) (t := t) (line := (l : Int)) ok).1
  have h := dot_sim (ms := moversM s t (l : Int)) (f := fun m => { m with x := m.x - 1 }) hg (fun m hm => ⟨by show m.x - 1 ≤ (c : Int) ∧ (c : Int) < m.x - 1 + 8 ↔ _; omega, fun _ => by
    show pixM _ (m.tile % 32) (if bitM m.looks 7 = 1 then 7 - ((l : Int) - m.y) else (l : Int) - m.y) (if bitM m.looks 6 = 1 then 7 - ((c : Int) - (m.x - 1)) else (c : Int) - (m.x - 1)) = _
    have hy := (hmo m hm).1
    rw [show (c : Int) - (m.x - 1) = (c : Int) + 1 - m.x from by omega]
    exact pix_congr hpix (by omega) (by split <;> omega)⟩) (fun m _ => ⟨rfl, rfl, rfl⟩)
  have hp := place_bd (s := s) (t := t) (col := (c : Int) + 1) (line := (l : Int)) (ms := moversM s t (l : Int))
  rw [h.2, hi _ (by omega) (.inr (.inl (by omega)))]
  rfl
end K62
namespace K62
open PySem PySem.Spec PyProof.Rows L2 StX Kx
local macro_rules | `(tactic| walk_at "s") => `(tactic| first
  | with_reducible refine xSeq ?_ | with_reducible refine xAsg ?_ | with_reducible refine xNm ?_ | with_reducible refine xDrop ?_ | with_reducible refine xRet ?_ | with_reducible refine xRetN ?_ | with_reducible refine xNext ?_ | with_reducible refine xIfS ?_
  | ((with_reducible refine xVar (v := ?v) ?h ?q); (case h => exact rfl)) | with_reducible refine xC ?_ | with_reducible refine xOp ?_ | with_reducible refine xUn ?_ | with_reducible refine xI0 ?_ | with_reducible refine xU ?_
  | with_reducible refine xEqI ?_ | with_reducible refine xNeI ?_ | with_reducible refine xEqB ?_ | with_reducible refine xNeB ?_ | with_reducible refine xEqS ?_ | with_reducible refine xNeS ?_ | with_reducible refine xIsN ?_ | with_reducible refine xNotN ?_
  | with_reducible refine xChain ?_ | with_reducible refine xIf ?_ | with_reducible refine xAndV ?_ | with_reducible refine xOrV ?_ | with_reducible refine xNotV ?_
  | with_reducible refine xTest ?_ | with_reducible refine xB ?_ | with_reducible refine xAnd ?_ | with_reducible refine xOr ?_ | with_reducible refine xNot ?_ | with_reducible refine xYes ?_
  | with_reducible refine xNil ?_ | with_reducible refine xCons ?_ | with_reducible refine xTup ?_ | with_reducible refine xLst ?_ | with_reducible refine xCB ?_ | with_reducible refine xInt1I ?_ | with_reducible refine xInt1B ?_ | with_reducible refine xAbs ?_ | with_reducible refine xMin2 ?_ | with_reducible refine xMax2 ?_
  | with_reducible refine xFld ?_ | with_reducible refine xFldS ?_ | with_reducible refine xDG ?_ | with_reducible refine xDP ?_ | with_reducible refine xCall ?_ | with_reducible refine yMeth ?_ | with_reducible refine xBM ?_ | with_reducible refine xBM0 ?_
  | with_reducible refine xPar ?_ | with_reducible refine xPar3 ?_ | with_reducible refine yPar ?_ | with_reducible refine yPar3 ?_ | with_reducible refine xGNil ?_ | with_reducible refine xGCons ?_ | with_reducible refine xGSub ?_
  | with_reducible refine xSl ?_ | with_reducible refine xNoPart ?_ | with_reducible refine xPart ?_ | with_reducible refine xPI ?_ | with_reducible refine xStar ?_ | with_reducible refine xIn ?_ | with_reducible refine xNotIn ?_ | with_reducible refine xGF ?_
  | with_reducible refine xBl ?_ | with_reducible refine xPairs ?_ | with_reducible refine xPairs0 ?_)
local macro_rules | `(tactic| walk_at "h") => `(tactic| first | assumption | exact upd_same | exact same_upd (by assumption) _ _ (by walk_at "h"))
local macro_rules | `(tactic| walk_at "s") => `(tactic| first
  | ((with_reducible refine xI ?c ?q); (case c => first | (show (0 : Int) < _; decide) | exact ⟨by decide, by decide⟩ | exact .inl ⟨by decide, by decide⟩ | exact .inr ⟨by decide, by decide⟩)))
local macro_rules | `(tactic| walk_at "t") => `(tactic| ((fail_if_success (with_reducible refine xSeq ?_)); walk_at "s"))
/-! ### one line up; the other colours -/
theorem less0 {s : List Int} (w : SheetW s) {t : Sett} {l c : Nat} (hl : l < 23) :
    (dotM (lessN s 0 8) ⟨t.r, (t.d + 1) % 256, 0, t.on⟩ (moversM (lessN s 0 8) ⟨t.r, (t.d + 1) % 256, 0, t.on⟩ (l : Int)) (c : Int) (l : Int)).1 = (dotM s t (moversM s t ((l : Int) + 1)) (c : Int) ((l : Int) + 1)).1 := by
  have ok := w.ok
  have hi : ∀ i : Int, 0 ≤ i → (i < 64 ∨ 96 ≤ i ∨ i % 4 ≠ 0) → at_ (lessN s 0 8) i = at_ s i := fun i h0 h1 => by
    rw [less_at ok (by omega) h0 8 (by omega), if_neg (by omega)]
  have hy : ∀ k : Nat, k < 8 → at_ (lessN s 0 8) (64 + 4 * (k : Int)) = at_ s (64 + 4 * (k : Int)) - 1 := fun k hk => by
    rw [less_at ok (by omega) (by omega) 8 (by omega), if_pos (by omega)]
  have hmv := movers_sim (s := s) (s' := lessN s 0 8) (t := t) (t' := ⟨t.r, (t.d + 1) % 256, 0, t.on⟩) (l := (l : Int) + 1) (l' := (l : Int)) (f := fun m => { m with y := m.y - 1 }) rfl (by omega) fun k hk => by
    unfold onB movM
    rw [hi (64 + 4 * (k : Int) + 1) (by omega) (by omega), hi (64 + 4 * (k : Int) + 2) (by omega) (by omega), hi (64 + 4 * (k : Int) + 3) (by omega) (by omega), hy k hk]
    refine ⟨?_, fun _ => rfl⟩
    rw [Bool.eq_iff_iff, Bool.and_eq_true, Bool.and_eq_true, decide_eq_true_eq, decide_eq_true_eq, decide_eq_true_eq, decide_eq_true_eq]
    omega
  rw [hmv.1]
  have hpix : ∀ i : Int, 128 ≤ i → i < 640 → at_ (lessN s 0 8) i = at_ s i := fun i h0 h1 => hi i (by omega) (.inr (.inl (by omega)))
  have hg : groundM (lessN s 0 8) ⟨t.r, (t.d + 1) % 256, 0, t.on⟩ (c : Int) (l : Int) = groundM s t (c : Int) ((l : Int) + 1) := by
    unfold groundM
    show (if bitM t.on 0 = 0 then _ else _) = _
    by_cases h0 : bitM t.on 0 = 0
    · rw [if_pos h0, if_pos h0]
    · rw [if_neg h0, if_neg h0]
      show (pixM _ (at_ _ (((l : Int) + (t.d + 1) % 256) % 64 / 8 * 8 + ((c : Int) + t.r) % 64 / 8) % 32) (((l : Int) + (t.d + 1) % 256) % 64 % 8) (((c : Int) + t.r) % 64 % 8), _ ) = _
      rw [show ((l : Int) + (t.d + 1) % 256) % 64 = ((l : Int) + 1 + t.d) % 64 from by omega]
      rw [hi _ (by omega) (.inl (by omega)), pix_congr hpix (by omega) (by omega)]
  have hmo := (movers_ok (s := s) (t := t) (line := (l : Int) + 1) ok).1
  have h := dot_sim (ms := moversM s t ((l : Int) + 1)) (f := fun m => { m with y := m.y - 1 }) hg (fun m hm => ⟨Iff.rfl, fun _ => by
    show pixM _ (m.tile % 32) (if bitM m.looks 7 = 1 then 7 - ((l : Int) - (m.y - 1)) else (l : Int) - (m.y - 1)) (if bitM m.looks 6 = 1 then 7 - ((c : Int) - m.x) else (c : Int) - m.x) = _
    have hy := (hmo m hm).1
    rw [show (l : Int) - (m.y - 1) = (l : Int) + 1 - m.y from by omega]
    exact pix_congr hpix (by omega) (by split <;> omega)⟩) (fun m _ => ⟨rfl, rfl, rfl⟩)
  have hp := place_bd (s := s) (t := t) (col := (c : Int)) (line := (l : Int) + 1) (ms := moversM s t ((l : Int) + 1))
  rw [h.2, hi _ (by omega) (.inr (.inl (by omega)))]
  rfl
theorem colours {s s' : List Int} (ok : SheetOk s) {t : Sett} {l c : Nat} (h1 : ∀ i : Int, 0 ≤ i → i < 1024 → (i < 96 ∨ 128 ≤ i) → at_ s' i = at_ s i) (h2 : ∀ i : Int, 96 ≤ i → i < 128 → at_ s' i = 255 - at_ s i) :
    (dotM s' t (moversM s' t (l : Int)) (c : Int) (l : Int)).1 = 63 - (dotM s t (moversM s t (l : Int)) (c : Int) (l : Int)).1 := by
  have hpix : ∀ i : Int, 128 ≤ i → i < 640 → at_ s' i = at_ s i := fun i h0 hb => h1 i (by omega) (by omega) (.inr h0)
  have hmv := movers_sim (s := s) (s' := s') (t := t) (t' := t) (l := (l : Int)) (l' := (l : Int)) (f := id) rfl Iff.rfl fun k hk => by
    unfold onB movM
    rw [h1 _ (by omega) (by omega) (by omega), h1 _ (by omega) (by omega) (by omega), h1 _ (by omega) (by omega) (by omega), h1 _ (by omega) (by omega) (by omega)]
    exact ⟨rfl, fun _ => rfl⟩
  rw [hmv.1]
  have hg : groundM s' t (c : Int) (l : Int) = groundM s t (c : Int) (l : Int) := by
    unfold groundM
    rw [h1 _ (by omega) (by omega) (.inl (by omega)), pix_congr hpix (by omega) (by omega)]
  have hmo := (movers_ok (s := s) (t := t) (line := (l : Int)) ok).1
  have h := dot_sim (ms := moversM s t (l : Int)) (f := id) hg (fun m hm => ⟨Iff.rfl, fun _ => mpix_congr hpix (hmo m hm).1⟩) (fun m _ => ⟨rfl, rfl, rfl⟩)
  have hp := place_bd (s := s) (t := t) (col := (c : Int)) (line := (l : Int)) (ms := moversM s t (l : Int))
  have hb := at_bd (i := placeM (groundM s t (c : Int) (l : Int)) (showM s (c : Int) (l : Int) (moversM s t (l : Int)))) ok (by omega) (by omega)
  rw [h.2, h2 _ (by omega) (by omega)]
  show _ = 63 - at_ s (placeM (groundM s t (c : Int) (l : Int)) (showM s (c : Int) (l : Int) (moversM s t (l : Int)))) % 64
  omega
end K62
namespace K62
open PySem PySem.Spec PyProof.Rows L2 StX Kx
local macro_rules | `(tactic| walk_at "s") => `(tactic| first
  | with_reducible refine xSeq ?_ | with_reducible refine xAsg ?_ | with_reducible refine xNm ?_ | with_reducible refine xDrop ?_ | with_reducible refine xRet ?_ | with_reducible refine xRetN ?_ | with_reducible refine xNext ?_ | with_reducible refine xIfS ?_
  | ((with_reducible refine xVar (v := ?v) ?h ?q); (case h => exact rfl)) | with_reducible refine xC ?_ | with_reducible refine xOp ?_ | with_reducible refine xUn ?_ | with_reducible refine xI0 ?_ | with_reducible refine xU ?_
  | with_reducible refine xEqI ?_ | with_reducible refine xNeI ?_ | with_reducible refine xEqB ?_ | with_reducible refine xNeB ?_ | with_reducible refine xEqS ?_ | with_reducible refine xNeS ?_ | with_reducible refine xIsN ?_ | with_reducible refine xNotN ?_
  | with_reducible refine xChain ?_ | with_reducible refine xIf ?_ | with_reducible refine xAndV ?_ | with_reducible refine xOrV ?_ | with_reducible refine xNotV ?_
  | with_reducible refine xTest ?_ | with_reducible refine xB ?_ | with_reducible refine xAnd ?_ | with_reducible refine xOr ?_ | with_reducible refine xNot ?_ | with_reducible refine xYes ?_
  | with_reducible refine xNil ?_ | with_reducible refine xCons ?_ | with_reducible refine xTup ?_ | with_reducible refine xLst ?_ | with_reducible refine xCB ?_ | with_reducible refine xInt1I ?_ | with_reducible refine xInt1B ?_ | with_reducible refine xAbs ?_ | with_reducible refine xMin2 ?_ | with_reducible refine xMax2 ?_
  | with_reducible refine xFld ?_ | with_reducible refine xFldS ?_ | with_reducible refine xDG ?_ | with_reducible refine xDP ?_ | with_reducible refine xCall ?_ | with_reducible refine yMeth ?_ | with_reducible refine xBM ?_ | with_reducible refine xBM0 ?_
  | with_reducible refine xPar ?_ | with_reducible refine xPar3 ?_ | with_reducible refine yPar ?_ | with_reducible refine yPar3 ?_ | with_reducible refine xGNil ?_ | with_reducible refine xGCons ?_ | with_reducible refine xGSub ?_
  | with_reducible refine xSl ?_ | with_reducible refine xNoPart ?_ | with_reducible refine xPart ?_ | with_reducible refine xPI ?_ | with_reducible refine xStar ?_ | with_reducible refine xIn ?_ | with_reducible refine xNotIn ?_ | with_reducible refine xGF ?_
  | with_reducible refine xBl ?_ | with_reducible refine xPairs ?_ | with_reducible refine xPairs0 ?_)
local macro_rules | `(tactic| walk_at "h") => `(tactic| first | assumption | exact upd_same | exact same_upd (by assumption) _ _ (by walk_at "h"))
local macro_rules | `(tactic| walk_at "s") => `(tactic| first
  | ((with_reducible refine xI ?c ?q); (case c => first | (show (0 : Int) < _; decide) | exact ⟨by decide, by decide⟩ | exact .inl ⟨by decide, by decide⟩ | exact .inr ⟨by decide, by decide⟩)))
local macro_rules | `(tactic| walk_at "t") => `(tactic| ((fail_if_success (with_reducible refine xSeq ?_)); walk_at "s"))
/-! ### a mover's tile turned round and its looks with it -/
theorem rev_bits : ∀ b : Fin 256, ∀ j : Fin 8, bitM (revB (b.val : Int)) (7 - (j.val : Int)) = bitM (b.val : Int) (j.val : Int) := by decide +kernel
theorem rev_bd : ∀ b : Fin 256, 0 ≤ revB (b.val : Int) ∧ revB (b.val : Int) < 256 := by decide +kernel
theorem rev_bit {b j : Int} (hb : 0 ≤ b ∧ b < 256) (hj : 0 ≤ j ∧ j < 8) : bitM (revB b) (7 - j) = bitM b j := by
  have h := rev_bits ⟨b.toNat, by omega⟩ ⟨j.toNat, by omega⟩
  rw [show ((b.toNat : Nat) : Int) = b from by omega, show ((j.toNat : Nat) : Int) = j from by omega] at h
  exact h
theorem rev_by {b : Int} (hb : 0 ≤ b ∧ b < 256) : 0 ≤ revB b ∧ revB b < 256 := by
  have h := rev_bd ⟨b.toNat, by omega⟩
  rw [show ((b.toNat : Nat) : Int) = b from by omega] at h
  exact h
def tog (b place : Int) : Int := b + (if place = 6 then 64 else 128) * (1 - 2 * bitM b place)
theorem tog6 : ∀ b : Fin 256, (0 ≤ tog (b.val : Int) 6 ∧ tog (b.val : Int) 6 < 256) ∧ bitM (tog (b.val : Int) 6) 5 = bitM (b.val : Int) 5 ∧ tog (b.val : Int) 6 % 4 = (b.val : Int) % 4 ∧ bitM (tog (b.val : Int) 6) 6 = 1 - bitM (b.val : Int) 6 ∧ bitM (tog (b.val : Int) 6) 7 = bitM (b.val : Int) 7 := by decide +kernel
theorem tog7 : ∀ b : Fin 256, (0 ≤ tog (b.val : Int) 7 ∧ tog (b.val : Int) 7 < 256) ∧ bitM (tog (b.val : Int) 7) 5 = bitM (b.val : Int) 5 ∧ tog (b.val : Int) 7 % 4 = (b.val : Int) % 4 ∧ bitM (tog (b.val : Int) 7) 6 = bitM (b.val : Int) 6 ∧ bitM (tog (b.val : Int) 7) 7 = 1 - bitM (b.val : Int) 7 := by decide +kernel
theorem tog_ok {b place : Int} (hb : 0 ≤ b ∧ b < 256) (hp : place = 6 ∨ place = 7) : (0 ≤ tog b place ∧ tog b place < 256) ∧ bitM (tog b place) 5 = bitM b 5 ∧ tog b place % 4 = b % 4 ∧ bitM (tog b place) 6 = (if place = 6 then 1 - bitM b 6 else bitM b 6) ∧ bitM (tog b place) 7 = (if place = 6 then bitM b 7 else 1 - bitM b 7) := by
  rcases hp with h | h <;> subst h
  · have h := tog6 ⟨b.toNat, by omega⟩
    rw [show ((b.toNat : Nat) : Int) = b from by omega] at h
    exact h
  · have h := tog7 ⟨b.toNat, by omega⟩
    rw [show ((b.toNat : Nat) : Int) = b from by omega] at h
    exact h
/-- the bytes of a tile, turned -/
theorem turn6_at {s : List Int} (hl : s.length = 1024) {a i : Int} (ha : 128 ≤ a ∧ a ≤ 624) (h0 : 0 ≤ i) : ∀ n : Nat, n ≤ 16 → at_ (turnN s a 6 n) i = if a ≤ i ∧ i < a + n then revB (at_ s i) else at_ s i
  | 0, _ => by
    rw [if_neg (by omega)]
    rfl
  | n + 1, hn => by
    rw [turnN_succ, turnStep, if_pos rfl, at_set (by omega) (by rw [turnN_len]; omega) h0, turn6_at hl ha h0 n (by omega)]
    by_cases h : i = a + (n : Int)
    · rw [if_pos h, if_pos (by omega), h]
    · rw [if_neg h]
      by_cases h2 : a ≤ i ∧ i < a + n
      · rw [if_pos h2, if_pos (by omega)]
      · rw [if_neg h2, if_neg (by omega)]
def flip (a i : Int) : Int := a + 14 - 2 * ((i - a) / 2) + (i - a) % 2
theorem turn7_at {s : List Int} (hl : s.length = 1024) {a i : Int} (ha : 128 ≤ a ∧ a ≤ 624) (h0 : 0 ≤ i) : ∀ n : Nat, n ≤ 16 → at_ (turnN s a 7 n) i = if a ≤ i ∧ i < a + 16 ∧ flip a i < a + n then at_ s (flip a i) else at_ s i
  | 0, _ => by
    rw [if_neg (by unfold flip; omega)]
    rfl
  | n + 1, hn => by
    rw [turnN_succ, turnStep, if_neg (by decide), at_set (by omega) (by rw [turnN_len]; omega) h0, turn7_at hl ha h0 n (by omega)]
    by_cases h : i = a + 14 - 2 * ((n : Int) / 2) + (n : Int) % 2
    · have e : flip a i = a + (n : Int) := by
        unfold flip
        omega
      rw [if_pos h, e, if_pos (by omega)]
    · rw [if_neg h]
      by_cases h2 : a ≤ i ∧ i < a + 16 ∧ flip a i < a + n
      · rw [if_pos h2, if_pos (by omega)]
      · rw [if_neg h2, if_neg]
        intro z
        unfold flip at z h2
        omega
end K62
namespace K62
open PySem PySem.Spec PyProof.Rows L2 StX Kx
local macro_rules | `(tactic| walk_at "s") => `(tactic| first
  | with_reducible refine xSeq ?_ | with_reducible refine xAsg ?_ | with_reducible refine xNm ?_ | with_reducible refine xDrop ?_ | with_reducible refine xRet ?_ | with_reducible refine xRetN ?_ | with_reducible refine xNext ?_ | with_reducible refine xIfS ?_
  | ((with_reducible refine xVar (v := ?v) ?h ?q); (case h => exact rfl)) | with_reducible refine xC ?_ | with_reducible refine xOp ?_ | with_reducible refine xUn ?_ | with_reducible refine xI0 ?_ | with_reducible refine xU ?_
  | with_reducible refine xEqI ?_ | with_reducible refine xNeI ?_ | with_reducible refine xEqB ?_ | with_reducible refine xNeB ?_ | with_reducible refine xEqS ?_ | with_reducible refine xNeS ?_ | with_reducible refine xIsN ?_ | with_reducible refine xNotN ?_
  | with_reducible refine xChain ?_ | with_reducible refine xIf ?_ | with_reducible refine xAndV ?_ | with_reducible refine xOrV ?_ | with_reducible refine xNotV ?_
  | with_reducible refine xTest ?_ | with_reducible refine xB ?_ | with_reducible refine xAnd ?_ | with_reducible refine xOr ?_ | with_reducible refine xNot ?_ | with_reducible refine xYes ?_
  | with_reducible refine xNil ?_ | with_reducible refine xCons ?_ | with_reducible refine xTup ?_ | with_reducible refine xLst ?_ | with_reducible refine xCB ?_ | with_reducible refine xInt1I ?_ | with_reducible refine xInt1B ?_ | with_reducible refine xAbs ?_ | with_reducible refine xMin2 ?_ | with_reducible refine xMax2 ?_
  | with_reducible refine xFld ?_ | with_reducible refine xFldS ?_ | with_reducible refine xDG ?_ | with_reducible refine xDP ?_ | with_reducible refine xCall ?_ | with_reducible refine yMeth ?_ | with_reducible refine xBM ?_ | with_reducible refine xBM0 ?_
  | with_reducible refine xPar ?_ | with_reducible refine xPar3 ?_ | with_reducible refine yPar ?_ | with_reducible refine yPar3 ?_ | with_reducible refine xGNil ?_ | with_reducible refine xGCons ?_ | with_reducible refine xGSub ?_
  | with_reducible refine xSl ?_ | with_reducible refine xNoPart ?_ | with_reducible refine xPart ?_ | with_reducible refine xPI ?_ | with_reducible refine xStar ?_ | with_reducible refine xIn ?_ | with_reducible refine xNotIn ?_ | with_reducible refine xGF ?_
  | with_reducible refine xBl ?_ | with_reducible refine xPairs ?_ | with_reducible refine xPairs0 ?_)
local macro_rules | `(tactic| walk_at "h") => `(tactic| first | assumption | exact upd_same | exact same_upd (by assumption) _ _ (by walk_at "h"))
local macro_rules | `(tactic| walk_at "s") => `(tactic| first
  | ((with_reducible refine xI ?c ?q); (case c => first | (show (0 : Int) < _; decide) | exact ⟨by decide, by decide⟩ | exact .inl ⟨by decide, by decide⟩ | exact .inr ⟨by decide, by decide⟩)))
local macro_rules | `(tactic| walk_at "t") => `(tactic| ((fail_if_success (with_reducible refine xSeq ?_)); walk_at "s"))
/-! ### a sheet alike shows the same -/
def mp (s : List Int) (k r c : Int) : Int := pixM s (16 + k) (if bitM (at_ s (64 + 4 * k + 2)) 7 = 1 then 7 - r else r) (if bitM (at_ s (64 + 4 * k + 2)) 6 = 1 then 7 - c else c)
structure Alike (s s' : List Int) : Prop where
  w : SheetW s'
  same : ∀ i : Int, 0 ≤ i → i < 1024 → (i < 64 ∨ (96 ≤ i ∧ i < 384)) → at_ s' i = at_ s i
  mov : ∀ k : Int, 0 ≤ k → k < 8 → at_ s' (64 + 4 * k) = at_ s (64 + 4 * k) ∧ at_ s' (64 + 4 * k + 1) = at_ s (64 + 4 * k + 1) ∧ at_ s' (64 + 4 * k + 3) = at_ s (64 + 4 * k + 3) ∧ bitM (at_ s' (64 + 4 * k + 2)) 5 = bitM (at_ s (64 + 4 * k + 2)) 5 ∧ at_ s' (64 + 4 * k + 2) % 4 = at_ s (64 + 4 * k + 2) % 4
  pix : ∀ k : Int, 0 ≤ k → k < 8 → ∀ r c : Int, (0 ≤ r ∧ r < 8) → (0 ≤ c ∧ c < 8) → mp s' k r c = mp s k r c
theorem Alike.refl {s : List Int} (w : SheetW s) : Alike s s := ⟨w, fun _ _ _ _ => rfl, fun _ _ _ => ⟨rfl, rfl, rfl, rfl, rfl⟩, fun _ _ _ _ _ _ _ => rfl⟩
theorem Alike.trans {s s1 s2 : List Int} (a : Alike s s1) (b : Alike s1 s2) : Alike s s2 := ⟨b.w, fun i h0 h1 h => (b.same i h0 h1 h).trans (a.same i h0 h1 h), fun k h0 h1 => by
  obtain ⟨a1, a2, a3, a4, a5⟩ := a.mov k h0 h1
  obtain ⟨b1, b2, b3, b4, b5⟩ := b.mov k h0 h1
  exact ⟨b1.trans a1, b2.trans a2, b3.trans a3, b4.trans a4, b5.trans a5⟩, fun k h0 h1 r c hr hc => (b.pix k h0 h1 r c hr hc).trans (a.pix k h0 h1 r c hr hc)⟩
theorem mem_movers {s : List Int} {t : Sett} {l : Int} {m : Mov} (h : m ∈ moversM s t l) : ∃ k : Nat, k < 8 ∧ m = movM s k := by
  have h := List.mem_of_mem_take h
  unfold allM at h
  split at h
  · cases h
  · unfold listM at h
    obtain ⟨k, hk, rfl⟩ := List.mem_map.mp h
    exact ⟨k, List.mem_range.mp (List.mem_filter.mp hk).1, rfl⟩
theorem Alike.dots {s s' : List Int} (w : SheetW s) (a : Alike s s') {t : Sett} : dotsU s' t 24 = dotsU s t 24 ∧ hitU s' t 24 = hitU s t 24 ∧ fullU s' t 24 = fullU s t 24 := by
  have ok := w.ok
  have hmv : ∀ l : Int, moversM s' t l = (moversM s t l).map (fun m => movM s' m.k.toNat) ∧ manyM s' t l = manyM s t l := fun l => movers_sim rfl Iff.rfl fun k hk => by
    obtain ⟨a1, a2, a3, a4, a5⟩ := a.mov (k : Int) (by omega) (by omega)
    refine ⟨by unfold onB; rw [a1], fun _ => ?_⟩
    show movM s' k = movM s' ((k : Int)).toNat
    rw [show ((k : Int)).toNat = k from by omega]
  refine dots_congr (fun l c hl hc => ?_) (fun l hl => (hmv l).2) 24 (Nat.le_refl _)
  rw [(hmv l).1]
  have hpix : ∀ tile row col : Int, (0 ≤ tile ∧ tile < 16) → (0 ≤ row ∧ row < 8) → pixM s' tile row col = pixM s tile row col := fun tile row col h1 h2 => by
    unfold pixM
    rw [a.same _ (by omega) (by omega) (.inr (by omega)), a.same _ (by omega) (by omega) (.inr (by omega))]
  have hg : groundM s' t (c : Int) (l : Int) = groundM s t (c : Int) (l : Int) := by
    unfold groundM
    have hm := w.map (((l : Int) + t.d) % 64 / 8 * 8 + ((c : Int) + t.r) % 64 / 8) (by omega) (by omega)
    rw [a.same _ (by omega) (by omega) (.inl (by omega)), hpix _ _ _ (by omega) (by omega)]
  have hmo := (movers_ok (s := s) (t := t) (line := (l : Int)) ok).1
  have h := dot_sim (ms := moversM s t (l : Int)) (f := fun m => movM s' m.k.toNat) hg (fun m hm => by
    obtain ⟨k, hk, rfl⟩ := mem_movers hm
    obtain ⟨a1, a2, a3, a4, a5⟩ := a.mov (k : Int) (by omega) (by omega)
    have hy := (hmo _ hm).1
    have ek : (movM s k).k.toNat = k := by
      show ((k : Int)).toNat = k
      omega
    have w1 := (w.mov (k : Int) (by omega) (by omega)).2.1
    rw [ek]
    constructor
    · show at_ s' (64 + 4 * (k : Int) + 3) ≤ _ ∧ _ < at_ s' (64 + 4 * (k : Int) + 3) + 8 ↔ at_ s (64 + 4 * (k : Int) + 3) ≤ _ ∧ _ < at_ s (64 + 4 * (k : Int) + 3) + 8
      rw [a3]
    · intro hx
      have h := a.pix (k : Int) (by omega) (by omega) ((l : Int) - (movM s k).y) ((c : Int) - (movM s k).x) (by omega) (by omega)
      unfold mp at h
      unfold mpixM
      show pixM s' (at_ s' (64 + 4 * (k : Int) + 1) % 32) (if bitM (at_ s' (64 + 4 * (k : Int) + 2)) 7 = 1 then 7 - ((l : Int) - at_ s' (64 + 4 * (k : Int))) else (l : Int) - at_ s' (64 + 4 * (k : Int))) (if bitM (at_ s' (64 + 4 * (k : Int) + 2)) 6 = 1 then 7 - ((c : Int) - at_ s' (64 + 4 * (k : Int) + 3)) else (c : Int) - at_ s' (64 + 4 * (k : Int) + 3)) = pixM s (at_ s (64 + 4 * (k : Int) + 1) % 32) _ _
      rw [a1, a2, a3, w1]
      exact h) (fun m hm => by
    obtain ⟨k, hk, rfl⟩ := mem_movers hm
    obtain ⟨a1, a2, a3, a4, a5⟩ := a.mov (k : Int) (by omega) (by omega)
    have ek : (movM s k).k.toNat = k := by
      show ((k : Int)).toNat = k
      omega
    rw [ek]
    exact ⟨a4, a5, rfl⟩)
  have hp := place_bd (s := s) (t := t) (col := (c : Int)) (line := (l : Int)) (ms := moversM s t (l : Int))
  rw [a.same _ (by omega) (by omega) (.inr (by omega))] at h
  exact Prod.ext h.2 h.1
/-- one turn -/
theorem turn_at {s : List Int} (w : SheetW s) {k place i : Int} (hk : 0 ≤ k ∧ k < 8) (hp : place = 6 ∨ place = 7) (h0 : 0 ≤ i) : at_ (turnM s k place) i =
    if i = 66 + 4 * k then tog (at_ s i) place else if 384 + 16 * k ≤ i ∧ i < 400 + 16 * k then (if place = 6 then revB (at_ s i) else at_ s (flip (384 + 16 * k) i)) else at_ s i := by
  have hl := w.ok.1
  have ea : tileAt s k = 384 + 16 * k := by
    have h := (w.mov k hk.1 hk.2).2.1
    unfold tileAt
    rw [show 65 + 4 * k = 64 + 4 * k + 1 from by omega, h]
    omega
  have e : turnM s k place = (turnN s (384 + 16 * k) place 16).set (66 + 4 * k).toNat (tog (at_ s (66 + 4 * k)) place) := by
    unfold turnM
    rw [ea]
    rfl
  rw [e, at_set (by omega) (by rw [turnN_len]; omega) h0]
  by_cases h1 : i = 66 + 4 * k
  · rw [if_pos h1, if_pos h1, h1]
  · rw [if_neg h1, if_neg h1]
    rcases hp with h | h <;> subst h
    · rw [turn6_at hl (by omega) h0 16 (Nat.le_refl _)]
      by_cases h2 : 384 + 16 * k ≤ i ∧ i < 400 + 16 * k
      · rw [if_pos h2, if_pos (by omega), if_pos rfl]
      · rw [if_neg h2, if_neg (by omega)]
    · rw [turn7_at hl (by omega) h0 16 (Nat.le_refl _)]
      by_cases h2 : 384 + 16 * k ≤ i ∧ i < 400 + 16 * k
      · rw [if_pos h2, if_pos (by unfold flip; omega), if_neg (by decide)]
      · rw [if_neg h2, if_neg (by omega)]
end K62
namespace K62
open PySem PySem.Spec PyProof.Rows L2 StX Kx
local macro_rules | `(tactic| walk_at "s") => `(tactic| first
  | with_reducible refine xSeq ?_ | with_reducible refine xAsg ?_ | with_reducible refine xNm ?_ | with_reducible refine xDrop ?_ | with_reducible refine xRet ?_ | with_reducible refine xRetN ?_ | with_reducible refine xNext ?_ | with_reducible refine xIfS ?_
  | ((with_reducible refine xVar (v := ?v) ?h ?q); (case h => exact rfl)) | with_reducible refine xC ?_ | with_reducible refine xOp ?_ | with_reducible refine xUn ?_ | with_reducible refine xI0 ?_ | with_reducible refine xU ?_
  | with_reducible refine xEqI ?_ | with_reducible refine xNeI ?_ | with_reducible refine xEqB ?_ | with_reducible refine xNeB ?_ | with_reducible refine xEqS ?_ | with_reducible refine xNeS ?_ | with_reducible refine xIsN ?_ | with_reducible refine xNotN ?_
  | with_reducible refine xChain ?_ | with_reducible refine xIf ?_ | with_reducible refine xAndV ?_ | with_reducible refine xOrV ?_ | with_reducible refine xNotV ?_
  | with_reducible refine xTest ?_ | with_reducible refine xB ?_ | with_reducible refine xAnd ?_ | with_reducible refine xOr ?_ | with_reducible refine xNot ?_ | with_reducible refine xYes ?_
  | with_reducible refine xNil ?_ | with_reducible refine xCons ?_ | with_reducible refine xTup ?_ | with_reducible refine xLst ?_ | with_reducible refine xCB ?_ | with_reducible refine xInt1I ?_ | with_reducible refine xInt1B ?_ | with_reducible refine xAbs ?_ | with_reducible refine xMin2 ?_ | with_reducible refine xMax2 ?_
  | with_reducible refine xFld ?_ | with_reducible refine xFldS ?_ | with_reducible refine xDG ?_ | with_reducible refine xDP ?_ | with_reducible refine xCall ?_ | with_reducible refine yMeth ?_ | with_reducible refine xBM ?_ | with_reducible refine xBM0 ?_
  | with_reducible refine xPar ?_ | with_reducible refine xPar3 ?_ | with_reducible refine yPar ?_ | with_reducible refine yPar3 ?_ | with_reducible refine xGNil ?_ | with_reducible refine xGCons ?_ | with_reducible refine xGSub ?_
  | with_reducible refine xSl ?_ | with_reducible refine xNoPart ?_ | with_reducible refine xPart ?_ | with_reducible refine xPI ?_ | with_reducible refine xStar ?_ | with_reducible refine xIn ?_ | with_reducible refine xNotIn ?_ | with_reducible refine xGF ?_
  | with_reducible refine xBl ?_ | with_reducible refine xPairs ?_ | with_reducible refine xPairs0 ?_)
local macro_rules | `(tactic| walk_at "h") => `(tactic| first | assumption | exact upd_same | exact same_upd (by assumption) _ _ (by walk_at "h"))
local macro_rules | `(tactic| walk_at "s") => `(tactic| first
  | ((with_reducible refine xI ?c ?q); (case c => first | (show (0 : Int) < _; decide) | exact ⟨by decide, by decide⟩ | exact .inl ⟨by decide, by decide⟩ | exact .inr ⟨by decide, by decide⟩)))
local macro_rules | `(tactic| walk_at "t") => `(tactic| ((fail_if_success (with_reducible refine xSeq ?_)); walk_at "s"))
theorem turned_alike {s : List Int} (w : SheetW s) {k place : Int} (hk : 0 ≤ k ∧ k < 8) (hp : place = 6 ∨ place = 7) : Alike s (turnM s k place) := by
  have hl := w.ok.1
  have T := fun i h0 => turn_at (i := i) w hk hp h0
  have hlen : (turnM s k place).length = 1024 := by
    unfold turnM
    rw [List.length_set]
    have : (turnN s (tileAt s k) place 16).length = 1024 := by rw [turnN_len, hl]
    exact this
  have hbl := tog_ok (at_bd (i := 66 + 4 * k) w.ok (by omega) (by omega)) hp
  have bd : ∀ i : Int, 0 ≤ i → i < 1024 → 0 ≤ at_ (turnM s k place) i ∧ at_ (turnM s k place) i < 256 := fun i h0 h1 => by
    rw [T i h0]
    split
    · next h => rw [h]; exact hbl.1
    · split
      · next h =>
        split
        · exact rev_by (at_bd w.ok h0 h1)
        · exact at_bd w.ok (by unfold flip; omega) (by unfold flip; omega)
      · exact at_bd w.ok h0 h1
  have ok : SheetOk (turnM s k place) := ⟨hlen, fun b hb => by
    obtain ⟨j, hj, rfl⟩ := List.mem_iff_getElem.mp hb
    have e : (turnM s k place)[j] = at_ (turnM s k place) (j : Int) := by
      unfold at_
      rw [List.getD_eq_getElem?_getD, show ((j : Int)).toNat = j from by omega, List.getElem?_eq_getElem hj]
      rfl
    rw [e]
    exact bd _ (by omega) (by omega)⟩
  have same : ∀ i : Int, 0 ≤ i → i < 384 → i ≠ 66 + 4 * k → at_ (turnM s k place) i = at_ s i := fun i h0 h1 h2 => by
    rw [T i h0, if_neg h2, if_neg (by omega)]
  have other : ∀ i : Int, 0 ≤ i → (i < 384 + 16 * k ∨ 400 + 16 * k ≤ i) → i ≠ 66 + 4 * k → at_ (turnM s k place) i = at_ s i := fun i h0 h1 h2 => by
    rw [T i h0, if_neg h2, if_neg (by omega)]
  refine ⟨⟨ok, fun t h0 h1 => ?_, fun j h0 h1 => ?_⟩, fun i h0 h1 h => same i h0 (by omega) (by omega), fun j h0 h1 => ?_, fun j h0 h1 r c hr hc => ?_⟩
  · rw [same t h0 (by omega) (by omega)]
    exact w.map t h0 h1
  · rw [same _ (by omega) (by omega) (by omega), same _ (by omega) (by omega) (by omega), same _ (by omega) (by omega) (by omega)]
    exact w.mov j h0 h1
  · rw [same (64 + 4 * j) (by omega) (by omega) (by omega), same (64 + 4 * j + 1) (by omega) (by omega) (by omega), same (64 + 4 * j + 3) (by omega) (by omega) (by omega)]
    refine ⟨rfl, rfl, rfl, ?_⟩
    by_cases h : j = k
    · subst h
      rw [T _ (by omega), if_pos (by omega), show 64 + 4 * j + 2 = 66 + 4 * j from by omega]
      exact ⟨hbl.2.1, hbl.2.2.1⟩
    · rw [same _ (by omega) (by omega) (by omega)]
      exact ⟨rfl, rfl⟩
  · by_cases h : j = k
    · subst h
      have eL : at_ (turnM s j place) (64 + 4 * j + 2) = tog (at_ s (66 + 4 * j)) place := by
        rw [T _ (by omega), if_pos (by omega), show 64 + 4 * j + 2 = 66 + 4 * j from by omega]
      have b6 := bit_bd (at_ s (66 + 4 * j)) 6
      have b7 := bit_bd (at_ s (66 + 4 * j)) 7
      have tile : ∀ i : Int, 384 + 16 * j ≤ i → i < 400 + 16 * j → at_ (turnM s j place) i = if place = 6 then revB (at_ s i) else at_ s (flip (384 + 16 * j) i) := fun i i0 i1 => by
        rw [T i (by omega), if_neg (by omega), if_pos ⟨i0, i1⟩]
      have pix : ∀ r c : Int, (0 ≤ r ∧ r < 8) → (0 ≤ c ∧ c < 8) → pixM (turnM s j place) (16 + j) r c = if place = 6 then pixM s (16 + j) r (7 - c) else pixM s (16 + j) (7 - r) c := fun r c hr hc => by
        unfold pixM
        rw [tile (128 + 16 * (16 + j) + 2 * r) (by omega) (by omega), tile (128 + 16 * (16 + j) + 2 * r + 1) (by omega) (by omega)]
        rcases hp with h | h
        · rw [if_pos h, if_pos h, if_pos h, rev_bit (at_bd w.ok (by omega) (by omega)) hc, rev_bit (at_bd w.ok (by omega) (by omega)) hc, show 7 - (7 - c) = c from by omega]
        · rw [if_neg (by omega), if_neg (by omega), if_neg (by omega)]
          unfold flip
          rw [show 384 + 16 * j + 14 - 2 * ((128 + 16 * (16 + j) + 2 * r - (384 + 16 * j)) / 2) + (128 + 16 * (16 + j) + 2 * r - (384 + 16 * j)) % 2 = 128 + 16 * (16 + j) + 2 * (7 - r) from by omega,
            show 384 + 16 * j + 14 - 2 * ((128 + 16 * (16 + j) + 2 * r + 1 - (384 + 16 * j)) / 2) + (128 + 16 * (16 + j) + 2 * r + 1 - (384 + 16 * j)) % 2 = 128 + 16 * (16 + j) + 2 * (7 - r) + 1 from by omega]
      unfold mp
      rw [eL, hbl.2.2.2.1, hbl.2.2.2.2, pix _ _ (by split <;> omega) (by split <;> omega), show 64 + 4 * j + 2 = 66 + 4 * j from by omega]
      rcases hp with h | h
      · rw [if_pos h, if_pos h, if_pos h]
        congr 1
        rcases b6 with e | e <;> rw [e] <;> simp
        omega
      · have np : ¬ place = 6 := by omega
        rw [if_neg np, if_neg np, if_neg np]
        congr 1
        rcases b7 with e | e <;> rw [e] <;> simp
        omega
    · unfold mp
      rw [same (64 + 4 * j + 2) (by omega) (by omega) (by omega)]
      have hrr : 0 ≤ (if bitM (at_ s (64 + 4 * j + 2)) 7 = 1 then 7 - r else r) ∧ (if bitM (at_ s (64 + 4 * j + 2)) 7 = 1 then 7 - r else r) < 8 := by split <;> omega
      generalize (if bitM (at_ s (64 + 4 * j + 2)) 7 = 1 then 7 - r else r) = rr at hrr ⊢
      unfold pixM
      rw [other _ (by omega) (by omega) (by omega), other _ (by omega) (by omega) (by omega)]
end K62
namespace K62
open PySem PySem.Spec PyProof.Rows L2 StX Kx
local macro_rules | `(tactic| walk_at "s") => `(tactic| first
  | with_reducible refine xSeq ?_ | with_reducible refine xAsg ?_ | with_reducible refine xNm ?_ | with_reducible refine xDrop ?_ | with_reducible refine xRet ?_ | with_reducible refine xRetN ?_ | with_reducible refine xNext ?_ | with_reducible refine xIfS ?_
  | ((with_reducible refine xVar (v := ?v) ?h ?q); (case h => exact rfl)) | with_reducible refine xC ?_ | with_reducible refine xOp ?_ | with_reducible refine xUn ?_ | with_reducible refine xI0 ?_ | with_reducible refine xU ?_
  | with_reducible refine xEqI ?_ | with_reducible refine xNeI ?_ | with_reducible refine xEqB ?_ | with_reducible refine xNeB ?_ | with_reducible refine xEqS ?_ | with_reducible refine xNeS ?_ | with_reducible refine xIsN ?_ | with_reducible refine xNotN ?_
  | with_reducible refine xChain ?_ | with_reducible refine xIf ?_ | with_reducible refine xAndV ?_ | with_reducible refine xOrV ?_ | with_reducible refine xNotV ?_
  | with_reducible refine xTest ?_ | with_reducible refine xB ?_ | with_reducible refine xAnd ?_ | with_reducible refine xOr ?_ | with_reducible refine xNot ?_ | with_reducible refine xYes ?_
  | with_reducible refine xNil ?_ | with_reducible refine xCons ?_ | with_reducible refine xTup ?_ | with_reducible refine xLst ?_ | with_reducible refine xCB ?_ | with_reducible refine xInt1I ?_ | with_reducible refine xInt1B ?_ | with_reducible refine xAbs ?_ | with_reducible refine xMin2 ?_ | with_reducible refine xMax2 ?_
  | with_reducible refine xFld ?_ | with_reducible refine xFldS ?_ | with_reducible refine xDG ?_ | with_reducible refine xDP ?_ | with_reducible refine xCall ?_ | with_reducible refine yMeth ?_ | with_reducible refine xBM ?_ | with_reducible refine xBM0 ?_
  | with_reducible refine xPar ?_ | with_reducible refine xPar3 ?_ | with_reducible refine yPar ?_ | with_reducible refine yPar3 ?_ | with_reducible refine xGNil ?_ | with_reducible refine xGCons ?_ | with_reducible refine xGSub ?_
  | with_reducible refine xSl ?_ | with_reducible refine xNoPart ?_ | with_reducible refine xPart ?_ | with_reducible refine xPI ?_ | with_reducible refine xStar ?_ | with_reducible refine xIn ?_ | with_reducible refine xNotIn ?_ | with_reducible refine xGF ?_
  | with_reducible refine xBl ?_ | with_reducible refine xPairs ?_ | with_reducible refine xPairs0 ?_)
local macro_rules | `(tactic| walk_at "h") => `(tactic| first | assumption | exact upd_same | exact same_upd (by assumption) _ _ (by walk_at "h"))
local macro_rules | `(tactic| walk_at "s") => `(tactic| first
  | ((with_reducible refine xI ?c ?q); (case c => first | (show (0 : Int) < _; decide) | exact ⟨by decide, by decide⟩ | exact .inl ⟨by decide, by decide⟩ | exact .inr ⟨by decide, by decide⟩)))
local macro_rules | `(tactic| walk_at "t") => `(tactic| ((fail_if_success (with_reducible refine xSeq ?_)); walk_at "s"))
/-! ### the lists that are compared -/
theorem dp_ints {K : PySem.W.Frag} {H : Hp} : ∀ ns : List Int, DpAll K H (ns.map V.int) (ns.map PyData.int)
  | [] => .nil
  | n :: ns => .cons (.int n) (dp_ints ns)
theorem canAll_ints : ∀ ns : List Int, PyData.canLayAll0 (ns.map PyData.int) = true
  | [] => rfl
  | n :: ns => by
    rw [List.map_cons, PyData.canLayAll0, canAll_ints ns]
    rfl
theorem depAll_ints : ∀ ns : List Int, PyData.depthAll (ns.map PyData.int) = 0
  | [] => rfl
  | n :: ns => by
    rw [List.map_cons, PyData.depthAll, depAll_ints ns]
    rfl
theorem shaped_ints (ns : List Int) : SeqAt.shaped (.list (ns.map PyData.int)) = true := by
  unfold SeqAt.shaped
  rw [PyData.canLay0, canAll_ints, PyData.depth, depAll_ints]
  rfl
theorem ne_ints {K : PySem.W.Frag} {H : Hp} {a b : Addr} {ns ms : List Int} {Q : VK} (h1 : SqL K H a (ns.map V.int)) (h2 : SqL K H b (ms.map V.int)) (e : ns = ms) (q : Q (.bl false) H) : rNeD K (.ref a) (.ref b) H Q := by
  subst e
  refine ⟨_, _, .lst h1 (dp_ints ns), .lst h2 (dp_ints ns), shaped_ints ns, shaped_ints ns, ?_⟩
  rw [SeqAt.eqv_refl _ (SeqAt.canLay_of_shaped (shaped_ints ns))]
  exact q
theorem due_eqL {K : PySem.W.Frag} {H : Hp} {m : Nat} : ∀ ns : List Int, Paired (EqX K H (m + 1)) (ns.map V.int) (ns.map V.int)
  | [] => .nil
  | n :: ns => .cons (.inl ⟨rfl, rfl⟩) (due_eqL ns)
theorem DueR.same {H H' : Hp} {q : Addr} {s : List Int} {t : Sett} (h : DueR H q s t) (e : Same H H') : DueR H' q s t := by
  obtain ⟨f, h1, h2⟩ := h
  exact ⟨f, e _ _ h1, e _ _ h2⟩
theorem ne_due {K : PySem.W.Frag} {H : Hp} {q r : Addr} {s s' : List Int} {t t' : Sett} {Q : VK} (h1 : DueR H q s' t') (h2 : DueR H r s t) (e : dotsU s' t' 24 = dotsU s t 24 ∧ hitU s' t' 24 = hitU s t 24 ∧ fullU s' t' 24 = fullU s t 24) (k : Q (.bl false) H) : rNeX K (.ref q) (.ref r) H Q := by
  obtain ⟨a, x1, x2⟩ := h1
  obtain ⟨c, y1, y2⟩ := h2
  rw [e.1] at x2
  rw [e.2.1, e.2.2] at x1
  exact ⟨3, q, r, _, _, by decide, rfl, rfl, SqT.of x1, SqT.of y1, .cons (.inr (.inr (.inl (.inl ⟨a, c, _, _, rfl, rfl, SqL.of x2, SqL.of y2, due_eqL _⟩)))) (.cons (.inl ⟨rfl, rfl⟩) (.cons (.inl ⟨rfl, rfl⟩) .nil)), k⟩
/-! ### dots by their places -/
def dt (s : List Int) (t : Sett) (k : Nat) : Int := (dotM s t (moversM s t ((k / 32 : Nat) : Int)) ((k % 32 : Nat) : Int) ((k / 32 : Nat) : Int)).1
theorem dots_k {s : List Int} {t : Sett} {k : Nat} (hk : k < 768) : (dotsU s t 24)[k]? = some (dt s t k) := by
  have h := dots_at (s := s) (t := t) (l := k / 32) (c := k % 32) (by omega) 24 (by omega)
  rw [show 32 * (k / 32) + k % 32 = k from by omega] at h
  exact h
theorem dots_list (s : List Int) (t : Sett) : dotsU s t 24 = (List.range 768).map (dt s t) := by
  refine List.ext_getElem? fun k => ?_
  by_cases hk : k < 768
  · rw [dots_k hk, List.getElem?_map, List.getElem?_range hk]
    rfl
  · rw [List.getElem?_eq_none (by rw [dotsU_len]; omega), List.getElem?_eq_none (by rw [List.length_map, List.length_range]; omega)]
theorem less3_k {s : List Int} (w : SheetW s) {t : Sett} {k : Nat} (h : k % 32 < 31) : dt (lessN s 3 8) ⟨(t.r + 1) % 256, t.d, 0, t.on⟩ k = dt s t (k + 1) := by
  unfold dt
  rw [less3 w, show (k + 1) / 32 = k / 32 from by omega, show (k + 1) % 32 = k % 32 + 1 from by omega]
  rfl
theorem less0_k {s : List Int} (w : SheetW s) {t : Sett} {k : Nat} (h : k < 736) : dt (lessN s 0 8) ⟨t.r, (t.d + 1) % 256, 0, t.on⟩ k = dt s t (k + 32) := by
  unfold dt
  rw [less0 w (by omega), show (k + 32) / 32 = k / 32 + 1 from by omega, show (k + 32) % 32 = k % 32 from by omega]
  rfl
theorem less0_list {s : List Int} (w : SheetW s) {t : Sett} : (dotsU (lessN s 0 8) ⟨t.r, (t.d + 1) % 256, 0, t.on⟩ 24).take 736 = (dotsU s t 24).drop 32 := by
  refine List.ext_getElem? fun k => ?_
  rw [List.getElem?_take, List.getElem?_drop]
  by_cases hk : k < 736
  · rw [if_pos hk, dots_k (by omega), dots_k (by omega), less0_k w hk, Nat.add_comm]
  · rw [if_neg hk, List.getElem?_eq_none (by rw [dotsU_len]; omega)]
def othM (s : List Int) : List Int := s.take 96 ++ ((s.drop 96).take 32).map (fun b => 255 - b) ++ s.drop 128
theorem oth_at {s : List Int} (ok : SheetOk s) {i : Int} (h0 : 0 ≤ i) (h1 : i < 1024) : at_ (othM s) i = if 96 ≤ i ∧ i < 128 then 255 - at_ s i else at_ s i := by
  have hl := ok.1
  have e1 : (s.take 96).length = 96 := by rw [List.length_take]; omega
  have e2 : (((s.drop 96).take 32).map (fun b : Int => 255 - b)).length = 32 := by rw [List.length_map, List.length_take, List.length_drop]; omega
  unfold othM
  rw [List.append_assoc]
  by_cases ha : i < 96
  · rw [at_left h0 (by omega), if_neg (by omega)]
    unfold at_
    rw [List.getD_eq_getElem?_getD, List.getD_eq_getElem?_getD, List.getElem?_take, if_pos (by omega)]
  · rw [at_right (by omega), e1]
    by_cases hb : i < 128
    · rw [at_left (by omega) (by omega), if_pos (by omega)]
      unfold at_
      rw [List.getD_eq_getElem?_getD, List.getD_eq_getElem?_getD, List.getElem?_map, List.getElem?_take, if_pos (by omega), List.getElem?_drop, show 96 + (i - ((96 : Nat) : Int)).toNat = i.toNat from by omega, List.getElem?_eq_getElem (by omega)]
      rfl
    · rw [at_right (by omega), e2, if_neg (by omega)]
      unfold at_
      rw [List.getD_eq_getElem?_getD, List.getD_eq_getElem?_getD, List.getElem?_drop, show 128 + (i - ((96 : Nat) : Int) - ((32 : Nat) : Int)).toNat = i.toNat from by omega]
theorem oth_ok {s : List Int} (ok : SheetOk s) : SheetOk (othM s) := by
  have hl := ok.1
  refine ⟨?_, fun b hb => ?_⟩
  · unfold othM
    rw [List.length_append, List.length_append, List.length_map, List.length_take, List.length_take, List.length_drop, List.length_drop]
    omega
  · unfold othM at hb
    rcases List.mem_append.mp hb with h | h
    · rcases List.mem_append.mp h with h | h
      · exact ok.2 b (List.mem_of_mem_take h)
      · obtain ⟨c, hc, rfl⟩ := List.mem_map.mp h
        have := ok.2 c (List.mem_of_mem_drop (List.mem_of_mem_take hc))
        omega
    · exact ok.2 b (List.mem_of_mem_drop h)
theorem oth_dots {s : List Int} (ok : SheetOk s) {t : Sett} : dotsU (othM s) t 24 = (dotsU s t 24).map (fun d => 63 - d) := by
  rw [dots_list, dots_list, List.map_map]
  refine List.map_congr_left fun k _ => ?_
  show dt (othM s) t k = 63 - dt s t k
  unfold dt
  exact colours ok (fun i h0 h1 h => by rw [oth_at ok h0 h1, if_neg (by omega)]) (fun i h0 h1 => by rw [oth_at ok (by omega) (by omega), if_pos ⟨h0, h1⟩])
/-- the columns but the last one -/
def cols (n : Nat) : List Nat := (List.range n).filter fun k => decide (k % 32 < 31)
theorem cols_succ (n : Nat) : cols (n + 1) = cols n ++ (if n % 32 < 31 then [n] else []) := by
  unfold cols
  rw [List.range_succ, List.filter_append]
  congr 1
  by_cases h : n % 32 < 31
  · rw [if_pos h, List.filter_cons, if_pos (by simpa using h)]
    rfl
  · rw [if_neg h, List.filter_cons, if_neg (by simpa using h)]
    rfl
theorem cols_len (n : Nat) : (cols n).length ≤ n := by
  unfold cols
  exact Nat.le_trans (List.length_filter_le _ _) (by rw [List.length_range]; exact Nat.le_refl _)
theorem less3_list {s : List Int} (w : SheetW s) {t : Sett} : (cols 768).map (dt (lessN s 3 8) ⟨(t.r + 1) % 256, t.d, 0, t.on⟩) = (cols 768).map fun k => dt s t (k + 1) := by
  refine List.map_congr_left fun k hk => ?_
  have h := (List.mem_filter.mp hk).2
  exact less3_k w (by simpa using h)
end K62
namespace K62
open PySem PySem.Spec PyProof.Rows L2 StX Kx
local macro_rules | `(tactic| walk_at "s") => `(tactic| first
  | with_reducible refine xSeq ?_ | with_reducible refine xAsg ?_ | with_reducible refine xNm ?_ | with_reducible refine xDrop ?_ | with_reducible refine xRet ?_ | with_reducible refine xRetN ?_ | with_reducible refine xNext ?_ | with_reducible refine xIfS ?_
  | ((with_reducible refine xVar (v := ?v) ?h ?q); (case h => exact rfl)) | with_reducible refine xC ?_ | with_reducible refine xOp ?_ | with_reducible refine xUn ?_ | with_reducible refine xI0 ?_ | with_reducible refine xU ?_
  | with_reducible refine xEqI ?_ | with_reducible refine xNeI ?_ | with_reducible refine xEqB ?_ | with_reducible refine xNeB ?_ | with_reducible refine xEqS ?_ | with_reducible refine xNeS ?_ | with_reducible refine xIsN ?_ | with_reducible refine xNotN ?_
  | with_reducible refine xChain ?_ | with_reducible refine xIf ?_ | with_reducible refine xAndV ?_ | with_reducible refine xOrV ?_ | with_reducible refine xNotV ?_
  | with_reducible refine xTest ?_ | with_reducible refine xB ?_ | with_reducible refine xAnd ?_ | with_reducible refine xOr ?_ | with_reducible refine xNot ?_ | with_reducible refine xYes ?_
  | with_reducible refine xNil ?_ | with_reducible refine xCons ?_ | with_reducible refine xTup ?_ | with_reducible refine xLst ?_ | with_reducible refine xCB ?_ | with_reducible refine xInt1I ?_ | with_reducible refine xInt1B ?_ | with_reducible refine xAbs ?_ | with_reducible refine xMin2 ?_ | with_reducible refine xMax2 ?_
  | with_reducible refine xFld ?_ | with_reducible refine xFldS ?_ | with_reducible refine xDG ?_ | with_reducible refine xDP ?_ | with_reducible refine xCall ?_ | with_reducible refine yMeth ?_ | with_reducible refine xBM ?_ | with_reducible refine xBM0 ?_
  | with_reducible refine xPar ?_ | with_reducible refine xPar3 ?_ | with_reducible refine yPar ?_ | with_reducible refine yPar3 ?_ | with_reducible refine xGNil ?_ | with_reducible refine xGCons ?_ | with_reducible refine xGSub ?_
  | with_reducible refine xSl ?_ | with_reducible refine xNoPart ?_ | with_reducible refine xPart ?_ | with_reducible refine xPI ?_ | with_reducible refine xStar ?_ | with_reducible refine xIn ?_ | with_reducible refine xNotIn ?_ | with_reducible refine xGF ?_
  | with_reducible refine xBl ?_ | with_reducible refine xPairs ?_ | with_reducible refine xPairs0 ?_)
local macro_rules | `(tactic| walk_at "h") => `(tactic| first | assumption | exact upd_same | exact same_upd (by assumption) _ _ (by walk_at "h"))
local macro_rules | `(tactic| walk_at "s") => `(tactic| first
  | ((with_reducible refine xI ?c ?q); (case c => first | (show (0 : Int) < _; decide) | exact ⟨by decide, by decide⟩ | exact .inl ⟨by decide, by decide⟩ | exact .inr ⟨by decide, by decide⟩)))
local macro_rules | `(tactic| walk_at "t") => `(tactic| ((fail_if_success (with_reducible refine xSeq ?_)); walk_at "s"))
local macro_rules | `(tactic| walk_at "u") => `(tactic| ((fail_if_success (with_reducible refine xSeq ?_)); (fail_if_success (with_reducible refine xRet ?_)); walk_at "s"))
theorem on_of {m : Int} (h0 : 0 ≤ m) (h1 : m < 5) : ∃ on, atI [V.int 3, V.int 3, V.int 3, V.int 1, V.int 2] m = some (.int on) ∧ (0 ≤ on ∧ on < 16) := by
  obtain h | h | h | h | h : m = 0 ∨ m = 1 ∨ m = 2 ∨ m = 3 ∨ m = 4 := by omega
  · subst h; exact ⟨3, rfl, by decide, by decide⟩
  · subst h; exact ⟨3, rfl, by decide, by decide⟩
  · subst h; exact ⟨3, rfl, by decide, by decide⟩
  · subst h; exact ⟨1, rfl, by decide, by decide⟩
  · subst h; exact ⟨2, rfl, by decide, by decide⟩
theorem sett_len (t : Sett) : (setV t).length = 4 := rfl
theorem lessM_eq (s : List Int) (part : Int) : lessM s part = lessN s part 8 := rfl
theorem at_dots {s : List Int} {t : Sett} {l c : Int} (hl : 0 ≤ l ∧ l < 24) (hc : 0 ≤ c ∧ c < 32) : atI ((dotsU s t 24).map V.int) (32 * l + c) = some (.int (dotM s t (moversM s t l) c l).1) := by
  obtain ⟨l', rfl⟩ : ∃ n : Nat, l = (n : Int) := ⟨l.toNat, by omega⟩
  obtain ⟨c', rfl⟩ : ∃ n : Nat, c = (n : Int) := ⟨c.toNat, by omega⟩
  rw [show 32 * (l' : Int) + (c' : Int) = ((32 * l' + c' : Nat) : Int) from by omega]
  refine atI_nat ?_
  rw [List.getElem?_map, dots_at (by omega) 24 (by omega)]
  rfl
theorem at_dots_k {s : List Int} {t : Sett} {k : Nat} (hk : k < 768) : atI ((dotsU s t 24).map V.int) (k : Int) = some (.int (dt s t k)) := by
  refine atI_nat ?_
  rw [List.getElem?_map, dots_k hk]
  rfl
theorem pure_law {K : PySem.W.Frag} (vs : List V) (H : Hp) (Q : VK) (E : XK) (h : sp_law K vs H Q E) : vs.length = 1 ∧ t_law K { nx := fun _ H' => Q .non H', rt := Q } (start N_law vs) H := by
  obtain ⟨a, ns, rfl, hS, hlen, q⟩ := h
  refine ⟨rfl, ?_⟩
  show t_law K _ [some (.ref a), none, none, none, none, none, none, none, none, none, none, none, none, none, none, none, none, none, none] H
  unfold t_law
  with_reducible refine xSeq ?_
  repeat walk_at "u"
  refine ⟨a, ns, rfl, hS, hlen, fun d ds H1 D N => ?_⟩
  have hd := SqL.of (K := K) N.2.2
  repeat walk_at "u"
  with_reducible refine xSeq ?_
  repeat walk_at "u"
  refine ⟨d, ds, 20, rfl, hd, D, ⟨by decide, by decide⟩, fun sa s H2 w N2 => ?_⟩
  have ok := w.ok
  have hd := N2.2.1.seq hd
  have hs := SqL.of (K := K) N2.2.2
  clear N2 N
  repeat walk_at "u"
  with_reducible refine xSeq ?_
  repeat walk_at "u"
  refine ⟨d, ds, _, _, rfl, hd, D, ⟨by decide, by decide⟩, by decide, fun r r0 r1 => ?_⟩
  repeat walk_at "u"
  refine ⟨d, ds, _, _, rfl, hd, D, ⟨by decide, by decide⟩, by decide, fun dn d0 d1 => ?_⟩
  repeat walk_at "u"
  with_reducible refine xSeq ?_
  repeat walk_at "u"
  refine ⟨Nat.le_of_ble_eq_true rfl, fun z nz => ?_⟩
  have hd3 := (same_upd (o := .lst [.int 3, .int 3, .int 3, .int 1, .int 2]) nz).seq hd
  have hs3 := (same_upd (o := .lst [.int 3, .int 3, .int 3, .int 1, .int 2]) nz).seq hs
  have hz : upd H2 z (.lst [.int 3, .int 3, .int 3, .int 1, .int 2]) z = _ := upd_same
  generalize upd H2 z (.lst [.int 3, .int 3, .int 3, .int 1, .int 2]) = H3 at hd3 hs3 hz
  repeat walk_at "u"
  refine ⟨d, ds, _, _, rfl, hd3, D, ⟨by decide, by decide⟩, by decide, fun m m0 m1 => ?_⟩
  obtain ⟨on, eon, bon⟩ := on_of m0 m1
  refine yIxL (SqL.of hz) eon ?_
  repeat walk_at "u"
  with_reducible refine xSeq ?_
  repeat walk_at "u"
  refine ⟨d, ds, _, _, rfl, hd3, D, ⟨by decide, by decide⟩, by decide, fun wt w0 w1 => ?_⟩
  repeat walk_at "u"
  refine ⟨Nat.le_of_ble_eq_true rfl, fun st nst => ?_⟩
  obtain ⟨t, et, so⟩ : ∃ t : Sett, t = ⟨r, dn, wt, on⟩ ∧ SettOk t := ⟨_, rfl, ⟨r0, r1, d0, d1, w0, w1, bon.1, bon.2⟩⟩
  have e1 : t.r = r := by rw [et]
  have e2 : t.d = dn := by rw [et]
  have e4 : t.on = on := by rw [et]
  have hd4 := (same_upd (o := .tup [.int r, .int dn, .int wt, .int on]) nst).seq hd3
  have hs4 := (same_upd (o := .tup [.int r, .int dn, .int wt, .int on]) nst).seq hs3
  have ht4 : SqT K (upd H3 st (.tup [.int r, .int dn, .int wt, .int on])) st (setV t) := SqT.of (by rw [et]; exact upd_same)
  generalize upd H3 st (.tup [.int r, .int dn, .int wt, .int on]) = H4 at hd4 hs4 ht4
  clear hd hs hd3 hs3 hz eon nz nst
  repeat walk_at "u"
  with_reducible refine xSeq ?_
  repeat walk_at "u"
  refine ⟨sa, st, s, t, rfl, hs4, ok, ht4, so, fun du H5 s5 D5 => ?_⟩
  have hd5 := s5.seq hd4
  have hs5 := s5.seq hs4
  have ht5 := Same.tup s5 ht4
  clear hd4 hs4 ht4 s5
  repeat walk_at "u"
  -- as told
  with_reducible refine xSeq ?_
  repeat walk_at "u"
  refine ⟨sa, st, s, t, rfl, hs5, ok, ht5, so, fun q1 H6 s6 D6 => ?_⟩
  repeat walk_at "u"
  refine ne_due D6 (D5.same s6) ⟨rfl, rfl, rfl⟩ ?_
  repeat walk_at "u"
  refine iteF ?_
  have hd6 := s6.seq hd5
  have hs6 := s6.seq hs5
  have ht6 := Same.tup s6 ht5
  have D6 := D5.same s6
  clear hd5 hs5 ht5 D5 s6
  repeat walk_at "u"
  -- the moved map
  with_reducible refine xSeq ?_
  repeat walk_at "u"
  refine ⟨d, ds, _, _, rfl, hd6, D, ⟨by decide, by decide⟩, by decide, fun ov o0 o1 => ?_⟩
  repeat walk_at "u"
  refine ⟨d, ds, _, _, rfl, hd6, D, ⟨by decide, by decide⟩, by decide, fun up u0 u1 => ?_⟩
  repeat walk_at "u"
  with_reducible refine xSeq ?_
  repeat walk_at "u"
  refine ⟨sa, s, ov, up, rfl, hs6, ok, ⟨o0, u0⟩, fun mp1 H7 N7 => ?_⟩
  repeat walk_at "u"
  refine ⟨Nat.le_of_ble_eq_true rfl, fun t7 n7 => ?_⟩
  have s7 := N7.2.1.trans (same_upd (o := .tup [.int ((r + 256 - 8 * ov) % 256), .int ((dn + 256 - 8 * up) % 256), .int 0, .int on]) n7)
  have hm7 := (same_upd (o := .tup [.int ((r + 256 - 8 * ov) % 256), .int ((dn + 256 - 8 * up) % 256), .int 0, .int on]) n7) _ _ N7.2.2
  have ht7 : SqT K (upd H7 t7 (.tup [.int ((r + 256 - 8 * ov) % 256), .int ((dn + 256 - 8 * up) % 256), .int 0, .int on])) t7 (setV ⟨(t.r + 256 - 8 * ov) % 256, (t.d + 256 - 8 * up) % 256, 0, t.on⟩) := SqT.of (by rw [e1, e2, e4]; exact upd_same)
  generalize upd H7 t7 (.tup [.int ((r + 256 - 8 * ov) % 256), .int ((dn + 256 - 8 * up) % 256), .int 0, .int on]) = H8 at s7 hm7 ht7
  repeat walk_at "u"
  refine ⟨mp1, t7, _, _, rfl, SqL.of hm7, map_ok ok, ht7, ⟨by show 0 ≤ (t.r + 256 - 8 * ov) % 256; omega, by show (t.r + 256 - 8 * ov) % 256 < 256; omega, by show 0 ≤ (t.d + 256 - 8 * up) % 256; omega, by show (t.d + 256 - 8 * up) % 256 < 256; omega, (by show (0 : Int) ≤ 0; decide), (by show (0 : Int) < 256; decide), so.o0, so.o1⟩, fun q2 H9 s9 D9 => ?_⟩
  have s69 := s7.trans s9
  repeat walk_at "u"
  refine ne_due D9 (D6.same s69) (map_same ok ⟨o0, o1⟩ ⟨u0, u1⟩) ?_
  repeat walk_at "u"
  refine iteF ?_
  have hd9 := s69.seq hd6
  have hs9 := s69.seq hs6
  have ht9 := Same.tup s69 ht6
  have D9 := D6.same s69
  clear hd6 hs6 ht6 D6 s69 s9 s7 hm7 ht7 N7 n7
  repeat walk_at "u"
  -- the turned tiles
  with_reducible refine xSeq ?_
  repeat walk_at "u"
  with_reducible refine xSeqW (fun σ' H' => ∃ (oa : Addr) (s' : List Int) (k : Option V), σ' = [some (.ref a), some (.ref d), some (.ref sa), some (.int r), some (.int dn), some (.int on), some (.ref st), some (.ref du), some (.int ov), some (.int up), some (.ref oa), k, none, none, none, none, none, none, none] ∧ Same H9 H' ∧ ShL K H' oa s' ∧ Alike s s') (fun nx hn => ?_) ?_
  · refine xForR1U ?_
    repeat walk_at "u"
    refine yForR1 (n := 8) rfl (by decide) (fun i σ' H' => ∃ (oa : Addr) (s' : List Int) (k : Option V), σ' = [some (.ref a), some (.ref d), some (.ref sa), some (.int r), some (.int dn), some (.int on), some (.ref st), some (.ref du), some (.int ov), some (.int up), some (.ref oa), k, none, none, none, none, none, none, none] ∧ Same H9 H' ∧ ShL K H' oa s' ∧ Alike s s') ⟨sa, s, _, rfl, fun _ _ h => h, hs9, Alike.refl w⟩ ?_ ?_
    · rintro i σ H10 hi ⟨oa, s', k, rfl, s10, ho, al⟩
      repeat walk_at "u"
      refine ⟨d, ds, _, _, rfl, s10.seq hd9, D, ⟨by omega, by omega⟩, by decide, fun m2 a2 b2 => ?_⟩
      repeat walk_at "u"
      refine iteD (fun h => ?_) (fun h => ?_)
      · repeat walk_at "u"
        refine ⟨d, ds, _, _, rfl, s10.seq hd9, D, ⟨by omega, by omega⟩, by decide, fun m3 a3 b3 => ?_⟩
        repeat walk_at "u"
        refine ⟨oa, s', (i : Int), 6 + m3, rfl, ho, al.w.ok, ⟨by omega, by omega⟩, by omega, fun o2 H11 N11 => ?_⟩
        repeat walk_at "u"
        exact ⟨o2, _, _, rfl, s10.trans N11.2.1, SqL.of N11.2.2, al.trans (turned_alike al.w ⟨by omega, by omega⟩ (by omega))⟩
      · repeat walk_at "u"
        exact ⟨oa, s', _, rfl, s10, ho, al⟩
    · rintro σ H10 ⟨oa, s', k, rfl, s10, ho, al⟩
      exact hn _ _ ⟨oa, s', k, rfl, s10, ho, al⟩
  rintro σ H10 ⟨oa, s', k, rfl, s10, ho, al⟩
  with_reducible refine xSeq ?_
  repeat walk_at "u"
  refine ⟨oa, st, s', t, rfl, ho, al.w.ok, Same.tup s10 ht9, so, fun q3 H11 s11 D11 => ?_⟩
  have s911 := s10.trans s11
  repeat walk_at "u"
  refine ne_due D11 (D9.same s911) (al.dots w) ?_
  repeat walk_at "u"
  refine iteF ?_
  have hd11 := s911.seq hd9
  have hs11 := s911.seq hs9
  have ht11 := Same.tup s911 ht9
  have D11 := D9.same s911
  clear hd9 hs9 ht9 D9 s911 s11 s10 ho al
  repeat walk_at "u"
  -- one column on
  with_reducible refine xSeq ?_
  repeat walk_at "u"
  refine ⟨sa, s, 3, rfl, hs11, ok, ⟨by decide, by decide⟩, fun l3 H12 N12 => ?_⟩
  repeat walk_at "u"
  refine ⟨Nat.le_of_ble_eq_true rfl, fun t12 n12 => ?_⟩
  have s12 := N12.2.1.trans (same_upd (o := .tup [.int ((r + 1) % 256), .int dn, .int 0, .int on]) n12)
  have hl12 := (same_upd (o := .tup [.int ((r + 1) % 256), .int dn, .int 0, .int on]) n12) _ _ N12.2.2
  have ht12 : SqT K (upd H12 t12 (.tup [.int ((r + 1) % 256), .int dn, .int 0, .int on])) t12 (setV ⟨(t.r + 1) % 256, t.d, 0, t.on⟩) := SqT.of (by rw [e1, e2, e4]; exact upd_same)
  generalize upd H12 t12 (.tup [.int ((r + 1) % 256), .int dn, .int 0, .int on]) = H13 at s12 hl12 ht12
  repeat walk_at "u"
  rw [lessM_eq] at hl12
  refine ⟨l3, t12, _, _, rfl, SqL.of hl12, less_ok w (.inr rfl), ht12, ⟨by show 0 ≤ (t.r + 1) % 256; omega, by show (t.r + 1) % 256 < 256; omega, so.d0, so.d1, (by show (0 : Int) ≤ 0; decide), (by show (0 : Int) < 256; decide), so.o0, so.o1⟩, fun q4 H14 s14 D14 => ?_⟩
  obtain ⟨rw4, x14, y14⟩ := D14
  have s1114 := s12.trans s14
  repeat walk_at "u"
  refine yIxT (SqT.of x14) (v := .ref rw4) rfl ?_
  have hd14 := s1114.seq hd11
  have hs14 := s1114.seq hs11
  have ht14 := Same.tup s1114 ht11
  have D14 := D11.same s1114
  clear hd11 hs11 ht11 D11 s1114 s14 s12 hl12 ht12 N12 n12 x14
  obtain ⟨f14, z14, v14⟩ := id D14
  repeat walk_at "u"
  with_reducible refine xSeq ?_
  repeat walk_at "u"
  refine xLcR ?_
  repeat walk_at "u"
  refine yLcR 768 rfl (by decide) (fun D' j H' => Same H14 H' ∧ H14 D' = none ∧ H' D' = some (.lst (((cols j).map (dt (lessN s 3 8) ⟨(t.r + 1) % 256, t.d, 0, t.on⟩)).map V.int))) (fun D' hD => ⟨same_upd hD, hD, upd_same⟩) ?_ ?_
  · rintro D' j H15 hj ⟨s15, nD, hD⟩
    refine xNm (yTurnT rfl ?_)
    repeat walk_at "u"
    rw [cols_succ]
    refine iteD (fun h => ?_) (fun h => ?_)
    · rw [if_pos (by omega)]
      repeat walk_at "u"
      refine yIxL (SqL.of (s15 _ _ y14)) (at_dots_k hj) ?_
      refine ⟨_, hD, ?_, fun b o eb => ?_, nD, ?_⟩
      · rw [List.length_map, List.length_map]
        have := cols_len j
        exact Nat.lt_of_le_of_lt (show (cols j).length ≤ 768 by omega) (by decide)
      · rw [upd_ne (ne_of_none eb nD)]
        exact s15 _ _ eb
      · rw [List.map_append, List.map_append]
        exact upd_same
    · rw [if_neg (by omega), List.append_nil]
      exact ⟨s15, nD, hD⟩
  rintro c1 H15 nc1 ⟨s15, _, hc1⟩
  repeat walk_at "u"
  refine xLcR ?_
  repeat walk_at "u"
  refine yLcR 768 rfl (by decide) (fun D' j H' => Same H15 H' ∧ H15 D' = none ∧ H' D' = some (.lst (((cols j).map fun k => dt s t (k + 1)).map V.int))) (fun D' hD => ⟨same_upd hD, hD, upd_same⟩) ?_ ?_
  · rintro D' j H16 hj ⟨s16, nD, hD⟩
    refine xNm (yTurnT rfl ?_)
    repeat walk_at "u"
    rw [cols_succ]
    refine iteD (fun h => ?_) (fun h => ?_)
    · rw [if_pos (by omega)]
      repeat walk_at "u"
      refine yIxT (SqT.of (s16 _ _ (s15 _ _ z14))) (v := .ref f14) rfl ?_
      repeat walk_at "u"
      refine yIxL (SqL.of (s16 _ _ (s15 _ _ v14))) (show atI _ ((j : Int) + 1) = some (.int (dt s t (j + 1))) from at_dots_k (k := j + 1) (by omega)) ?_
      refine ⟨_, hD, ?_, fun b o eb => ?_, nD, ?_⟩
      · rw [List.length_map, List.length_map]
        have := cols_len j
        exact Nat.lt_of_le_of_lt (show (cols j).length ≤ 768 by omega) (by decide)
      · rw [upd_ne (ne_of_none eb nD)]
        exact s16 _ _ eb
      · rw [List.map_append, List.map_append]
        exact upd_same
    · rw [if_neg (by omega), List.append_nil]
      exact ⟨s16, nD, hD⟩
  rintro c2 H16 nc2 ⟨s16, _, hc2⟩
  refine ne_ints (SqL.of (s16 _ _ hc1)) (SqL.of hc2) (less3_list w) ?_
  repeat walk_at "u"
  refine iteF ?_
  have s1416 := s15.trans s16
  have hd16 := s1416.seq hd14
  have hs16 := s1416.seq hs14
  have ht16 := Same.tup s1416 ht14
  have z16 := s1416 _ _ z14
  have v16 := s1416 _ _ v14
  clear hd14 hs14 ht14 D14 s1416 s16 s15 hc1 hc2 nc1 nc2 z14 v14 y14
  repeat walk_at "u"
  -- one line up
  with_reducible refine xSeq ?_
  repeat walk_at "u"
  refine ⟨sa, s, 0, rfl, hs16, ok, ⟨by decide, by decide⟩, fun l0 H17 N17 => ?_⟩
  repeat walk_at "u"
  refine ⟨Nat.le_of_ble_eq_true rfl, fun t17 n17 => ?_⟩
  have s17 := N17.2.1.trans (same_upd (o := .tup [.int r, .int ((dn + 1) % 256), .int 0, .int on]) n17)
  have hl17 := (same_upd (o := .tup [.int r, .int ((dn + 1) % 256), .int 0, .int on]) n17) _ _ N17.2.2
  have ht17 : SqT K (upd H17 t17 (.tup [.int r, .int ((dn + 1) % 256), .int 0, .int on])) t17 (setV ⟨t.r, (t.d + 1) % 256, 0, t.on⟩) := SqT.of (by rw [e1, e2, e4]; exact upd_same)
  generalize upd H17 t17 (.tup [.int r, .int ((dn + 1) % 256), .int 0, .int on]) = H18 at s17 hl17 ht17
  repeat walk_at "u"
  rw [lessM_eq] at hl17
  refine ⟨l0, t17, _, _, rfl, SqL.of hl17, less_ok w (.inl rfl), ht17, ⟨so.r0, so.r1, by show 0 ≤ (t.d + 1) % 256; omega, by show (t.d + 1) % 256 < 256; omega, (by show (0 : Int) ≤ 0; decide), (by show (0 : Int) < 256; decide), so.o0, so.o1⟩, fun q5 H19 s19 D19 => ?_⟩
  obtain ⟨rw5, x19, y19⟩ := D19
  repeat walk_at "u"
  refine yIxT (SqT.of x19) (v := .ref rw5) rfl ?_
  repeat walk_at "u"
  refine ySlL (SqL.of y19) fun c3 n3 => ?_
  have s1619 := s17.trans s19
  rw [cut_to (by decide), ← List.map_take]
  have s3 := s1619.trans (same_upd (o := .lst (((dotsU (lessN s 0 8) ⟨t.r, (t.d + 1) % 256, 0, t.on⟩ 24).take (Int.toNat 736)).map V.int)) n3)
  have hc3 : upd H19 c3 (.lst (((dotsU (lessN s 0 8) ⟨t.r, (t.d + 1) % 256, 0, t.on⟩ 24).take (Int.toNat 736)).map V.int)) c3 = _ := upd_same
  generalize upd H19 c3 (.lst (((dotsU (lessN s 0 8) ⟨t.r, (t.d + 1) % 256, 0, t.on⟩ 24).take (Int.toNat 736)).map V.int)) = H20 at s3 hc3
  repeat walk_at "u"
  refine yIxT (SqT.of (s3 _ _ z16)) (v := .ref f14) rfl ?_
  repeat walk_at "u"
  refine ySlL (SqL.of (s3 _ _ v16)) fun c4 n4 => ?_
  rw [cut_from (by decide) (by rw [List.length_map, dotsU_len]; decide), ← List.map_drop]
  have s4 := s3.trans (same_upd (o := .lst (((dotsU s t 24).drop (Int.toNat 32)).map V.int)) n4)
  have hc3 := (same_upd (o := .lst (((dotsU s t 24).drop (Int.toNat 32)).map V.int)) n4) _ _ hc3
  have hc4 : upd H20 c4 (.lst (((dotsU s t 24).drop (Int.toNat 32)).map V.int)) c4 = _ := upd_same
  generalize upd H20 c4 (.lst (((dotsU s t 24).drop (Int.toNat 32)).map V.int)) = H21 at s4 hc3 hc4
  refine ne_ints (SqL.of hc3) (SqL.of hc4) (less0_list w) ?_
  repeat walk_at "u"
  refine iteF ?_
  have hd21 := s4.seq hd16
  have hs21 := s4.seq hs16
  have ht21 := Same.tup s4 ht16
  have z21 := s4 _ _ z16
  have v21 := s4 _ _ v16
  clear hd16 hs16 ht16 s3 s4 s19 s17 hl17 ht17 N17 n17 x19 y19 z16 v16 s1619 hc3 hc4 n3 n4
  repeat walk_at "u"
  -- the other colours
  with_reducible refine xSeq ?_
  repeat walk_at "u"
  refine ySlL hs21 fun c5 n5 => ?_
  rw [cut_to (by decide), ← List.map_take]
  have s5 := same_upd (o := .lst ((s.take (Int.toNat 96)).map V.int)) n5
  have hc5 : upd H21 c5 (.lst ((s.take (Int.toNat 96)).map V.int)) c5 = _ := upd_same
  generalize upd H21 c5 (.lst ((s.take (Int.toNat 96)).map V.int)) = H22 at s5 hc5
  repeat walk_at "u"
  refine xLcL ?_
  repeat walk_at "u"
  have hl := ok.1
  refine ySlL (s5.seq hs21) fun c6 n6 => ?_
  rw [cut_in (by decide) (by decide) (by rw [List.length_map, hl]; decide), ← List.map_drop, ← List.map_take]
  have s6 := s5.trans (same_upd (o := .lst (((s.drop (Int.toNat 96)).take (Int.toNat 128 - Int.toNat 96)).map V.int)) n6)
  have hc5 := (same_upd (o := .lst (((s.drop (Int.toNat 96)).take (Int.toNat 128 - Int.toNat 96)).map V.int)) n6) _ _ hc5
  have hc6 : upd H22 c6 (.lst (((s.drop (Int.toNat 96)).take (Int.toNat 128 - Int.toNat 96)).map V.int)) c6 = some (.lst (((s.drop 96).take 32).map V.int)) := upd_same
  generalize upd H22 c6 (.lst (((s.drop (Int.toNat 96)).take (Int.toNat 128 - Int.toNat 96)).map V.int)) = H23 at s6 hc5 hc6
  refine yLcL (SqL.of hc6) (fun D' j H' => Same H23 H' ∧ H23 D' = none ∧ H' D' = some (.lst (((((s.drop 96).take 32).take j).map fun b => 255 - b).map V.int))) (fun D' hD => ⟨same_upd hD, hD, upd_same⟩) (fun D' j H' _ ⟨s7, _, _⟩ => SqL.of (s7 _ _ hc6)) ?_ ?_
  · rintro D' j x H24 hx ⟨s7, nD, hD⟩
    rw [List.getElem?_map] at hx
    cases eb : ((s.drop 96).take 32)[j]? with
    | none =>
      rw [eb] at hx
      cases hx
    | some b =>
      rw [eb] at hx
      cases hx
      refine xNm (yTurn rfl ?_)
      repeat walk_at "u"
      refine ⟨_, hD, ?_, fun c o ec => ?_, nD, ?_⟩
      · rw [List.length_map, List.length_map, List.length_take, List.length_take, List.length_drop]
        exact Nat.lt_of_le_of_lt (Nat.le_trans (Nat.min_le_right _ _) (Nat.min_le_left _ _)) (by decide)
      · rw [upd_ne (ne_of_none ec nD)]
        exact s7 _ _ ec
      · rw [take_snoc (x := b) eb, List.map_append, List.map_append]
        exact upd_same
  rintro c7 H24 nc7 ⟨s7, _, hc7⟩
  rw [List.length_map, List.take_length] at hc7
  have s24 := s6.trans s7
  have hc5 := s7 _ _ hc5
  repeat walk_at "u"
  refine yCat hc5 hc7 (by rw [List.length_map, List.length_map, List.length_map, List.length_take, List.length_take, List.length_drop]; exact Nat.le_trans (Nat.add_le_add (Nat.min_le_left _ _) (Nat.min_le_left _ _)) (Nat.le_of_ble_eq_true rfl)) fun c8 n8 => ?_
  rw [← List.map_append]
  have s8 := s24.trans (same_upd (o := .lst ((s.take (Int.toNat 96) ++ ((s.drop 96).take 32).map fun b => 255 - b).map V.int)) n8)
  have hc8 : upd H24 c8 (.lst ((s.take (Int.toNat 96) ++ ((s.drop 96).take 32).map fun b => 255 - b).map V.int)) c8 = _ := upd_same
  generalize upd H24 c8 (.lst ((s.take (Int.toNat 96) ++ ((s.drop 96).take 32).map fun b => 255 - b).map V.int)) = H25 at s8 hc8
  repeat walk_at "u"
  refine ySlL (s8.seq hs21) fun c9 n9 => ?_
  rw [cut_from (by decide) (by rw [List.length_map, hl]; decide), ← List.map_drop]
  have s9 := s8.trans (same_upd (o := .lst ((s.drop (Int.toNat 128)).map V.int)) n9)
  have hc8 := (same_upd (o := .lst ((s.drop (Int.toNat 128)).map V.int)) n9) _ _ hc8
  have hc9 : upd H25 c9 (.lst ((s.drop (Int.toNat 128)).map V.int)) c9 = _ := upd_same
  generalize upd H25 c9 (.lst ((s.drop (Int.toNat 128)).map V.int)) = H26 at s9 hc8 hc9
  refine yCat hc8 hc9 (by rw [List.length_map, List.length_map, List.length_append, List.length_map, List.length_take, List.length_take, List.length_drop, List.length_drop, hl]; exact Nat.le_of_ble_eq_true rfl) fun ot n10 => ?_
  rw [← List.map_append]
  have s10 := s9.trans (same_upd (o := .lst ((s.take (Int.toNat 96) ++ (((s.drop 96).take 32).map fun b => 255 - b) ++ s.drop (Int.toNat 128)).map V.int)) n10)
  have hot : upd H26 ot (.lst ((s.take (Int.toNat 96) ++ (((s.drop 96).take 32).map fun b => 255 - b) ++ s.drop (Int.toNat 128)).map V.int)) ot = some (.lst ((othM s).map V.int)) := upd_same
  generalize upd H26 ot (.lst ((s.take (Int.toNat 96) ++ (((s.drop 96).take 32).map fun b => 255 - b) ++ s.drop (Int.toNat 128)).map V.int)) = H27 at s10 hot
  have hd27 := s10.seq hd21
  have hs27 := s10.seq hs21
  have ht27 := Same.tup s10 ht21
  have z27 := s10 _ _ z21
  have v27 := s10 _ _ v21
  clear hd21 hs21 ht21 z21 v21 s5 s6 s7 s8 s9 s10 s24 hc5 hc6 hc7 hc8 hc9 n5 n6 n8 n9 n10 nc7
  repeat walk_at "u"
  with_reducible refine xSeq ?_
  repeat walk_at "u"
  refine ⟨ot, st, _, t, rfl, SqL.of hot, oth_ok ok, ht27, so, fun q6 H28 s28 D28 => ?_⟩
  obtain ⟨r6, x28, y28⟩ := D28
  repeat walk_at "u"
  refine yIxT (SqT.of x28) (v := .ref r6) rfl ?_
  repeat walk_at "u"
  refine xLcL ?_
  repeat walk_at "u"
  refine yIxT (SqT.of (s28 _ _ z27)) (v := .ref f14) rfl ?_
  refine yLcL (SqL.of (s28 _ _ v27)) (fun D' j H' => Same H28 H' ∧ H28 D' = none ∧ H' D' = some (.lst ((((dotsU s t 24).take j).map fun b => 63 - b).map V.int))) (fun D' hD => ⟨same_upd hD, hD, upd_same⟩) (fun D' j H' _ ⟨s7, _, _⟩ => SqL.of (s7 _ _ (s28 _ _ v27))) ?_ ?_
  · rintro D' j x H24 hx ⟨s7, nD, hD⟩
    rw [List.getElem?_map] at hx
    cases eb : (dotsU s t 24)[j]? with
    | none =>
      rw [eb] at hx
      cases hx
    | some b =>
      rw [eb] at hx
      cases hx
      refine xNm (yTurn rfl ?_)
      repeat walk_at "u"
      refine ⟨_, hD, ?_, fun c o ec => ?_, nD, ?_⟩
      · rw [List.length_map, List.length_map, List.length_take, dotsU_len]
        exact Nat.lt_of_le_of_lt (Nat.min_le_right _ _) (by decide)
      · rw [upd_ne (ne_of_none ec nD)]
        exact s7 _ _ ec
      · rw [take_snoc (x := b) eb, List.map_append, List.map_append]
        exact upd_same
  rintro c10 H29 nc10 ⟨s29, _, hc10⟩
  rw [List.length_map, List.take_length] at hc10
  refine ne_ints (SqL.of (s29 _ _ y28)) (SqL.of hc10) (oth_dots ok) ?_
  repeat walk_at "u"
  refine iteF ?_
  have s2729 := s28.trans s29
  have hd29 := s2729.seq hd27
  have hs29 := s2729.seq hs27
  have ht29 := Same.tup s2729 ht27
  have z29 := s2729 _ _ z27
  have v29 := s2729 _ _ v27
  clear hd27 hs27 ht27 z27 v27 s2729 s28 s29 x28 y28 hc10 nc10 hot
  repeat walk_at "u"
  -- six dots
  with_reducible refine xSeqW (fun σ' H' => True) (fun nx hn => ?_) ?_
  · refine xForR1U ?_
    repeat walk_at "u"
    refine yForR1 (n := 6) rfl (by decide) (fun i σ' H' => ∃ x11 x13 x14 x15 x16 x17 x18, σ' = [some (.ref a), some (.ref d), some (.ref sa), some (.int r), some (.int dn), some (.int on), some (.ref st), some (.ref du), some (.int ov), some (.int up), some (.ref ot), x11, some (.ref rw4), x13, x14, x15, x16, x17, x18] ∧ Same H29 H') ⟨_, _, _, _, _, _, _, rfl, fun _ _ h => h⟩ ?_ ?_
    · rintro i σ H30 hi ⟨x11, x13, x14, x15, x16, x17, x18, rfl, s30⟩
      repeat walk_at "u"
      with_reducible refine xSeq ?_
      repeat walk_at "u"
      refine ⟨d, ds, _, _, rfl, s30.seq hd29, D, ⟨by omega, by omega⟩, by decide, fun ln a2 b2 => ?_⟩
      repeat walk_at "u"
      refine ⟨d, ds, _, _, rfl, s30.seq hd29, D, ⟨by omega, by omega⟩, by decide, fun cl a3 b3 => ?_⟩
      repeat walk_at "u"
      with_reducible refine xSeq ?_
      repeat walk_at "u"
      refine ⟨sa, st, s, t, ln, rfl, s30.seq hs29, ok, Same.tup s30 ht29, a2, fun mp mq H31 s31 _ hmp hmv => ?_⟩
      have s31 := s30.trans s31
      repeat walk_at "u"
      refine yIxT (SqT.of hmp) (v := .ref mq) rfl ?_
      repeat walk_at "u"
      refine ⟨sa, st, mq, s, t, _, cl, ln, rfl, s31.seq hs29, ok, Same.tup s31 ht29, hmv, (movers_ok ok).1, fun dp H32 s32 hdp => ?_⟩
      have s32 := s31.trans s32
      repeat walk_at "u"
      refine yIxT (SqT.of hdp) (v := .int _) rfl ?_
      repeat walk_at "u"
      refine yIxT (SqT.of (s32 _ _ z29)) (v := .ref f14) rfl ?_
      repeat walk_at "u"
      refine yIxL (SqL.of (s32 _ _ v29)) (at_dots ⟨a2, b2⟩ ⟨a3, b3⟩) ?_
      repeat walk_at "u"
      refine iteDN (fun h => absurd rfl h) fun _ => ?_
      repeat walk_at "u"
      exact ⟨_, _, _, _, _, _, _, rfl, s32⟩
    · rintro σ H30 _
      exact hn _ _ True.intro
  rintro σ H30 _
  repeat walk_at "s"
  exact q H30
end K62
namespace K62
open PySem PySem.Spec PyProof.Rows L2 StX Kx
section
variable {P : Program} {w : World} {K : PySem.W.Frag} {mg : Str → Option Value} {base : Heap} {f : Addr} {cdv : Value} {A : Around} {outer : List Env} {s : Shared} {H : Hp} {E : XK}
theorem d_check_sheet (T : Txt K mg)  (hr : Room 0 (A.deeper (envOfC "check_sheet" (defScope s_check_sheet) s.heap.objs.size f cdv))) : PSs (cxOf CX0 P w K mg base N_check_sheet "check_sheet" (defScope s_check_sheet) f cdv A outer s H E).nox (defBody s_check_sheet) (t_check_sheet K) :=
  have nd := sc_check_sheet.nd
  pss_one (ps_if ((pw_or (pt_cmpR op_ne (pe_callB call_len (by rfl) T.free_len (by decide +kernel) (pa_cons (pv 0) pa_nil)) (pe_gi T.int_SHEET) (nomark _)) (pw_or1 (pt_not (pt_val (pe_callB (cr_all rfl) (by rfl) T.free_all (by decide +kernel) (pa_cons (pe_lc (own := [("byte", 1)]) (g := gName 1) rfl nd (pi_list (pv 0)) (blkOk_by (own := [("byte", 1)]) (N := N_check_sheet) (sc := defScope s_check_sheet) (by decide +kernel)) (fun _ _ _ _ _ => pg_name (i := 1) nd rfl (Or.inl rfl)) (fun _ _ _ _ _ => pts_nil) (fun _ _ _ _ _ => pe_chain op_le op_le pe_int (pv 1) pe_int)) pa_nil)))))).pt) (pss_one ps_never) pss_nil)
theorem fn_check_sheet (T : Txt K mg)  (pure : ∀ vs H Q E, sp_check_sheet K vs H Q E → vs.length = 1 ∧ t_check_sheet K { nx := fun _ H' => Q .non H', rt := Q } (start N_check_sheet vs) H) : Fn P w K mg base CX0 1 (He.fAd K ("check_sheet", none)) ["sheet"] (sp_check_sheet K) := by
  obtain ⟨fd, F⟩ := T.def_check_sheet
  refine ⟨fd, F.ok sc_check_sheet (fun vs H Q E h => (pure vs H Q E h).1) (fun cdv A outer s H vs Q E hr h => ⟨t_check_sheet K, PSs.nox (d_check_sheet T  hr), (pure vs H Q E h).2⟩), F.bindsN (fun _ _ _ _ _ _ us hl => match us, hl with | [_], _ => rfl), F.kp⟩
theorem d_bit (T : Txt K mg)  (hr : Room 0 (A.deeper (envOfC "bit" (defScope s_bit) s.heap.objs.size f cdv))) : PSs (cxOf CX0 P w K mg base N_bit "bit" (defScope s_bit) f cdv A outer s H E).nox (defBody s_bit) (t_bit K) :=
  have nd := sc_bit.nd
  pss_one (ps_ret (pe_op op_mod (pe_op op_fdiv (pv 0) (pe_ix ix_tup (pe_gr T.glo_POWERS) (pv 1) (fun _ _ => rfl))) pe_int))
theorem fn_bit (T : Txt K mg)  (pure : ∀ vs H Q E, sp_bit K vs H Q E → vs.length = 2 ∧ t_bit K { nx := fun _ H' => Q .non H', rt := Q } (start N_bit vs) H) : Fn P w K mg base CX0 1 (He.fAd K ("bit", none)) ["byte", "k"] (sp_bit K) := by
  obtain ⟨fd, F⟩ := T.def_bit
  refine ⟨fd, F.ok sc_bit (fun vs H Q E h => (pure vs H Q E h).1) (fun cdv A outer s H vs Q E hr h => ⟨t_bit K, PSs.nox (d_bit T  hr), (pure vs H Q E h).2⟩), F.bindsN (fun _ _ _ _ _ _ us hl => match us, hl with | [_, _], _ => rfl), F.kp⟩
theorem d_pixel_in (T : Txt K mg) (G_bit : Fn P w K mg base CX0 1 (He.fAd K ("bit", none)) ["byte", "k"] (sp_bit K)) (hr : Room 1 (A.deeper (envOfC "pixel_in" (defScope s_pixel_in) s.heap.objs.size f cdv))) : PSs (cxOf CX0 P w K mg base N_pixel_in "pixel_in" (defScope s_pixel_in) f cdv A outer s H E).nox (defBody s_pixel_in) (t_pixel_in K) :=
  have nd := sc_pixel_in.nd
  pss_cons (ps_set (i := 4) nd rfl (Or.inl rfl) (pe_op op_add (pe_op op_add (pe_gi T.int_TILES) (pe_op op_mul pe_int (pv 1))) (pe_op op_mul pe_int (pv 2))))
  (pss_one (ps_ret (pe_op op_add (pe_f G_bit hr (by decide) T.glo_bit pass0 (pa_cons (pe_ix ix_list (pv 0) (pv 4) (fun _ _ => rfl)) (pa_cons (pe_op op_sub pe_int (pv 3)) pa_nil))) (pe_op op_mul pe_int (pe_f G_bit hr (by decide) T.glo_bit pass0 (pa_cons (pe_ix ix_list (pv 0) (pe_op op_add (pv 4) pe_int) (fun _ _ => rfl)) (pa_cons (pe_op op_sub pe_int (pv 3)) pa_nil)))))))
theorem fn_pixel_in (T : Txt K mg) (G_bit : Fn P w K mg base CX0 1 (He.fAd K ("bit", none)) ["byte", "k"] (sp_bit K)) (pure : ∀ vs H Q E, sp_pixel_in K vs H Q E → vs.length = 4 ∧ t_pixel_in K { nx := fun _ H' => Q .non H', rt := Q } (start N_pixel_in vs) H) : Fn P w K mg base CX0 2 (He.fAd K ("pixel_in", none)) ["sheet", "tile", "row", "column"] (sp_pixel_in K) := by
  obtain ⟨fd, F⟩ := T.def_pixel_in
  refine ⟨fd, F.ok sc_pixel_in (fun vs H Q E h => (pure vs H Q E h).1) (fun cdv A outer s H vs Q E hr h => ⟨t_pixel_in K, PSs.nox (d_pixel_in T G_bit hr), (pure vs H Q E h).2⟩), F.bindsN (fun _ _ _ _ _ _ us hl => match us, hl with | [_, _, _, _], _ => rfl), F.kp⟩
theorem d_ground_in (T : Txt K mg) (G_bit : Fn P w K mg base CX0 1 (He.fAd K ("bit", none)) ["byte", "k"] (sp_bit K)) (G_pixel_in : Fn P w K mg base CX0 2 (He.fAd K ("pixel_in", none)) ["sheet", "tile", "row", "column"] (sp_pixel_in K)) (hr : Room 2 (A.deeper (envOfC "ground_in" (defScope s_ground_in) s.heap.objs.size f cdv))) : PSs (cxOf CX0 P w K mg base N_ground_in "ground_in" (defScope s_ground_in) f cdv A outer s H E).nox (defBody s_ground_in) (t_ground_in K) :=
  have nd := sc_ground_in.nd
  pss_cons (ps_asg (pv 1) (pg_tup rfl (pgs_cons (pg_name (i := 4) nd rfl (Or.inl rfl)) (pgs_cons (pg_name (i := 5) nd rfl (Or.inl rfl)) (pgs_cons (pg_name (i := 6) nd rfl (Or.inl rfl)) (pgs_cons (pg_name (i := 7) nd rfl (Or.inl rfl)) pgs_nil))))))
  (pss_cons (ps_if (pt_cmpR op_eq (pe_f G_bit hr (by decide) T.glo_bit pass0 (pa_cons (pv 7) (pa_cons pe_int pa_nil))) pe_int (nomark _)) (pss_one (ps_ret (pe_tup (pa_cons pe_int (pa_cons pe_int pa_nil))))) pss_nil)
  (pss_cons (ps_par (i := 8) (j := 9) rfl nd rfl rfl (by decide) rfl rfl (pa_cons (pe_op op_mod (pe_op op_add (pv 2) (pv 4)) pe_int) (pa_cons (pe_op op_mod (pe_op op_add (pv 3) (pv 5)) pe_int) pa_nil)) rfl)
  (pss_cons (ps_set (i := 10) nd rfl (Or.inl rfl) (pe_ix ix_list (pv 0) (pe_op op_add (pe_op op_mul (pe_op op_fdiv (pv 9) pe_int) pe_int) (pe_op op_fdiv (pv 8) pe_int)) (fun _ _ => rfl)))
  (pss_one (ps_ret (pe_tup (pa_cons (pe_f G_pixel_in hr (by decide) T.glo_pixel_in pass0 (pa_cons (pv 0) (pa_cons (pe_op op_mod (pv 10) pe_int) (pa_cons (pe_op op_mod (pv 9) pe_int) (pa_cons (pe_op op_mod (pv 8) pe_int) pa_nil))))) (pa_cons (pe_op op_mod (pe_op op_fdiv (pv 10) pe_int) pe_int) pa_nil))))))))
theorem fn_ground_in (T : Txt K mg) (G_bit : Fn P w K mg base CX0 1 (He.fAd K ("bit", none)) ["byte", "k"] (sp_bit K)) (G_pixel_in : Fn P w K mg base CX0 2 (He.fAd K ("pixel_in", none)) ["sheet", "tile", "row", "column"] (sp_pixel_in K)) (pure : ∀ vs H Q E, sp_ground_in K vs H Q E → vs.length = 4 ∧ t_ground_in K { nx := fun _ H' => Q .non H', rt := Q } (start N_ground_in vs) H) : Fn P w K mg base CX0 3 (He.fAd K ("ground_in", none)) ["sheet", "settings", "column", "line"] (sp_ground_in K) := by
  obtain ⟨fd, F⟩ := T.def_ground_in
  refine ⟨fd, F.ok sc_ground_in (fun vs H Q E h => (pure vs H Q E h).1) (fun cdv A outer s H vs Q E hr h => ⟨t_ground_in K, PSs.nox (d_ground_in T G_bit G_pixel_in hr), (pure vs H Q E h).2⟩), F.bindsN (fun _ _ _ _ _ _ us hl => match us, hl with | [_, _, _, _], _ => rfl), F.kp⟩
theorem d_movers_in (T : Txt K mg) (G_bit : Fn P w K mg base CX0 1 (He.fAd K ("bit", none)) ["byte", "k"] (sp_bit K)) (hr : Room 1 (A.deeper (envOfC "movers_in" (defScope s_movers_in) s.heap.objs.size f cdv))) : PSs (cxOf CX0 P w K mg base N_movers_in "movers_in" (defScope s_movers_in) f cdv A outer s H E).nox (defBody s_movers_in) (t_movers_in K) :=
  have nd := sc_movers_in.nd
  pss_cons (ps_if ((pw_or (pt_cmpR op_eq (pe_f G_bit hr (by decide) T.glo_bit pass0 (pa_cons (pe_ix ix_tup (pv 1) pe_int (fun _ _ => rfl)) (pa_cons pe_int pa_nil))) pe_int (nomark _)) (pw_or1 (pt_cmpR op_ge (pv 2) (pe_gi T.int_LINES) (nomark _)))).pt) (pss_one (ps_ret (pe_tup (pa_cons (pe_lst pa_nil) (pa_cons pe_bl pa_nil))))) pss_nil)
  (pss_cons (ps_set (i := 3) nd rfl (Or.inl rfl) (pe_lst pa_nil))
  (pss_cons (ps_for PassesOwn.never rfl (pi_range1 rfl T.free_range (pa_cons pe_int pa_nil)) (pg_name (i := 4) nd rfl (Or.inl rfl)) (pss_cons (ps_set (i := 5) nd rfl (Or.inl rfl) (pe_op op_add (pe_gi T.int_MOVERS) (pe_op op_mul pe_int (pv 4))))
  (pss_one (ps_if (pt_chain op_le op_lt (pe_ix ix_list (pv 0) (pv 5) (fun _ _ => rfl)) (pv 2) (pe_op op_add (pe_ix ix_list (pv 0) (pv 5) (fun _ _ => rfl)) pe_int)) (pss_one (ps_expr (pe_bm PySem.F.plainAttrs_list PySem.F.slot_list_append PySem.F.type_list_append mt_append (pv 3) (pa_cons (pe_tup (pa_cons (pv 4) (pa_star (pe_slice sl_list (pv 0) (po_some (pv 5)) (po_some (pe_op op_add (pv 5) pe_int))) pa_nil))) pa_nil)))) pss_nil))))
  (pss_one (ps_ret (pe_tup (pa_cons (pe_slice sl_list (pv 3) po_none (po_some (pe_gi T.int_MOST_SHOWN))) (pa_cons (pe_cmpR op_gt (pe_callB call_len (by rfl) T.free_len (by decide +kernel) (pa_cons (pv 3) pa_nil)) (pe_gi T.int_MOST_SHOWN) (nomark _)) pa_nil)))))))
theorem fn_movers_in (T : Txt K mg) (G_bit : Fn P w K mg base CX0 1 (He.fAd K ("bit", none)) ["byte", "k"] (sp_bit K)) (pure : ∀ vs H Q E, sp_movers_in K vs H Q E → vs.length = 3 ∧ t_movers_in K { nx := fun _ H' => Q .non H', rt := Q } (start N_movers_in vs) H) : Fn P w K mg base CX0 2 (He.fAd K ("movers_in", none)) ["sheet", "settings", "line"] (sp_movers_in K) := by
  obtain ⟨fd, F⟩ := T.def_movers_in
  refine ⟨fd, F.ok sc_movers_in (fun vs H Q E h => (pure vs H Q E h).1) (fun cdv A outer s H vs Q E hr h => ⟨t_movers_in K, PSs.nox (d_movers_in T G_bit hr), (pure vs H Q E h).2⟩), F.bindsN (fun _ _ _ _ _ _ us hl => match us, hl with | [_, _, _], _ => rfl), F.kp⟩
theorem d_movers_at (T : Txt K mg) (G_check_sheet : Fn P w K mg base CX0 1 (He.fAd K ("check_sheet", none)) ["sheet"] (sp_check_sheet K)) (G_movers_in : Fn P w K mg base CX0 2 (He.fAd K ("movers_in", none)) ["sheet", "settings", "line"] (sp_movers_in K)) (hr : Room 2 (A.deeper (envOfC "movers_at" (defScope s_movers_at) s.heap.objs.size f cdv))) : PSs (cxOf CX0 P w K mg base N_movers_at "movers_at" (defScope s_movers_at) f cdv A outer s H E).nox (defBody s_movers_at) (t_movers_at K) :=
  have nd := sc_movers_at.nd
  pss_cons (ps_expr (pe_f G_check_sheet hr (by decide) T.glo_check_sheet pass0 (pa_cons (pv 0) pa_nil)))
  (pss_one (ps_ret (pe_f G_movers_in hr (by decide) T.glo_movers_in pass0 (pa_cons (pv 0) (pa_cons (pv 1) (pa_cons (pv 2) pa_nil))))))
theorem fn_movers_at (T : Txt K mg) (G_check_sheet : Fn P w K mg base CX0 1 (He.fAd K ("check_sheet", none)) ["sheet"] (sp_check_sheet K)) (G_movers_in : Fn P w K mg base CX0 2 (He.fAd K ("movers_in", none)) ["sheet", "settings", "line"] (sp_movers_in K)) (pure : ∀ vs H Q E, sp_movers_at K vs H Q E → vs.length = 3 ∧ t_movers_at K { nx := fun _ H' => Q .non H', rt := Q } (start N_movers_at vs) H) : Fn P w K mg base CX0 3 (He.fAd K ("movers_at", none)) ["sheet", "settings", "line"] (sp_movers_at K) := by
  obtain ⟨fd, F⟩ := T.def_movers_at
  refine ⟨fd, F.ok sc_movers_at (fun vs H Q E h => (pure vs H Q E h).1) (fun cdv A outer s H vs Q E hr h => ⟨t_movers_at K, PSs.nox (d_movers_at T G_check_sheet G_movers_in hr), (pure vs H Q E h).2⟩), F.bindsN (fun _ _ _ _ _ _ us hl => match us, hl with | [_, _, _], _ => rfl), F.kp⟩
theorem d_mover_pixel (T : Txt K mg) (G_bit : Fn P w K mg base CX0 1 (He.fAd K ("bit", none)) ["byte", "k"] (sp_bit K)) (G_pixel_in : Fn P w K mg base CX0 2 (He.fAd K ("pixel_in", none)) ["sheet", "tile", "row", "column"] (sp_pixel_in K)) (hr : Room 2 (A.deeper (envOfC "mover_pixel" (defScope s_mover_pixel) s.heap.objs.size f cdv))) : PSs (cxOf CX0 P w K mg base N_mover_pixel "mover_pixel" (defScope s_mover_pixel) f cdv A outer s H E).nox (defBody s_mover_pixel) (t_mover_pixel K) :=
  have nd := sc_mover_pixel.nd
  pss_cons (ps_asg (pv 1) (pg_tup rfl (pgs_cons (pg_name (i := 4) nd rfl (Or.inl rfl)) (pgs_cons (pg_name (i := 5) nd rfl (Or.inl rfl)) (pgs_cons (pg_name (i := 6) nd rfl (Or.inl rfl)) (pgs_cons (pg_name (i := 7) nd rfl (Or.inl rfl)) (pgs_cons (pg_name (i := 8) nd rfl (Or.inl rfl)) pgs_nil)))))))
  (pss_cons (ps_par (i := 9) (j := 10) rfl nd rfl rfl (by decide) rfl rfl (pa_cons (pe_op op_sub (pv 3) (pv 5)) (pa_cons (pe_op op_sub (pv 2) (pv 8)) pa_nil)) rfl)
  (pss_cons (ps_if (pt_cmpR op_eq (pe_f G_bit hr (by decide) T.glo_bit pass0 (pa_cons (pv 7) (pa_cons pe_int pa_nil))) pe_int (nomark _)) (pss_one (ps_set (i := 10) nd rfl (Or.inl rfl) (pe_op op_sub pe_int (pv 10)))) pss_nil)
  (pss_cons (ps_if (pt_cmpR op_eq (pe_f G_bit hr (by decide) T.glo_bit pass0 (pa_cons (pv 7) (pa_cons pe_int pa_nil))) pe_int (nomark _)) (pss_one (ps_set (i := 9) nd rfl (Or.inl rfl) (pe_op op_sub pe_int (pv 9)))) pss_nil)
  (pss_one (ps_ret (pe_f G_pixel_in hr (by decide) T.glo_pixel_in pass0 (pa_cons (pv 0) (pa_cons (pe_op op_mod (pv 6) pe_int) (pa_cons (pv 9) (pa_cons (pv 10) pa_nil))))))))))
theorem fn_mover_pixel (T : Txt K mg) (G_bit : Fn P w K mg base CX0 1 (He.fAd K ("bit", none)) ["byte", "k"] (sp_bit K)) (G_pixel_in : Fn P w K mg base CX0 2 (He.fAd K ("pixel_in", none)) ["sheet", "tile", "row", "column"] (sp_pixel_in K)) (pure : ∀ vs H Q E, sp_mover_pixel K vs H Q E → vs.length = 4 ∧ t_mover_pixel K { nx := fun _ H' => Q .non H', rt := Q } (start N_mover_pixel vs) H) : Fn P w K mg base CX0 3 (He.fAd K ("mover_pixel", none)) ["sheet", "mover", "column", "line"] (sp_mover_pixel K) := by
  obtain ⟨fd, F⟩ := T.def_mover_pixel
  refine ⟨fd, F.ok sc_mover_pixel (fun vs H Q E h => (pure vs H Q E h).1) (fun cdv A outer s H vs Q E hr h => ⟨t_mover_pixel K, PSs.nox (d_mover_pixel T G_bit G_pixel_in hr), (pure vs H Q E h).2⟩), F.bindsN (fun _ _ _ _ _ _ us hl => match us, hl with | [_, _, _, _], _ => rfl), F.kp⟩
theorem d_showing (T : Txt K mg) (G_mover_pixel : Fn P w K mg base CX0 3 (He.fAd K ("mover_pixel", none)) ["sheet", "mover", "column", "line"] (sp_mover_pixel K)) (hr : Room 3 (A.deeper (envOfC "showing" (defScope s_showing) s.heap.objs.size f cdv))) : PSs (cxOf CX0 P w K mg base N_showing "showing" (defScope s_showing) f cdv A outer s H E).nox (defBody s_showing) (t_showing K) :=
  have nd := sc_showing.nd
  pss_cons (ps_for PassesOwn.never rfl (pi_list (pv 1)) (pg_name (i := 4) nd rfl (Or.inl rfl)) (pss_one (ps_if (pt_chain op_le op_lt (pe_ix ix_tup (pv 4) pe_int (fun _ _ => rfl)) (pv 2) (pe_op op_add (pe_ix ix_tup (pv 4) pe_int (fun _ _ => rfl)) pe_int)) (pss_cons (ps_set (i := 5) nd rfl (Or.inl rfl) (pe_f G_mover_pixel hr (by decide) T.glo_mover_pixel pass0 (pa_cons (pv 0) (pa_cons (pv 4) (pa_cons (pv 2) (pa_cons (pv 3) pa_nil))))))
  (pss_one (ps_if (pt_cmpR op_ne (pv 5) pe_int (nomark _)) (pss_one (ps_ret (pe_tup (pa_cons (pv 4) (pa_cons (pv 5) pa_nil))))) pss_nil))) pss_nil)))
  (pss_one (ps_ret pe_non))
theorem fn_showing (T : Txt K mg) (G_mover_pixel : Fn P w K mg base CX0 3 (He.fAd K ("mover_pixel", none)) ["sheet", "mover", "column", "line"] (sp_mover_pixel K)) (pure : ∀ vs H Q E, sp_showing K vs H Q E → vs.length = 4 ∧ t_showing K { nx := fun _ H' => Q .non H', rt := Q } (start N_showing vs) H) : Fn P w K mg base CX0 4 (He.fAd K ("showing", none)) ["sheet", "movers", "column", "line"] (sp_showing K) := by
  obtain ⟨fd, F⟩ := T.def_showing
  refine ⟨fd, F.ok sc_showing (fun vs H Q E h => (pure vs H Q E h).1) (fun cdv A outer s H vs Q E hr h => ⟨t_showing K, PSs.nox (d_showing T G_mover_pixel hr), (pure vs H Q E h).2⟩), F.bindsN (fun _ _ _ _ _ _ us hl => match us, hl with | [_, _, _, _], _ => rfl), F.kp⟩
theorem d_dot_in (T : Txt K mg) (G_ground_in : Fn P w K mg base CX0 3 (He.fAd K ("ground_in", none)) ["sheet", "settings", "column", "line"] (sp_ground_in K)) (G_showing : Fn P w K mg base CX0 4 (He.fAd K ("showing", none)) ["sheet", "movers", "column", "line"] (sp_showing K)) (G_bit : Fn P w K mg base CX0 1 (He.fAd K ("bit", none)) ["byte", "k"] (sp_bit K)) (hr : Room 4 (A.deeper (envOfC "dot_in" (defScope s_dot_in) s.heap.objs.size f cdv))) : PSs (cxOf CX0 P w K mg base N_dot_in "dot_in" (defScope s_dot_in) f cdv A outer s H E).nox (defBody s_dot_in) (t_dot_in K) :=
  have nd := sc_dot_in.nd
  pss_cons (ps_asg (pe_f G_ground_in hr (by decide) T.glo_ground_in pass0 (pa_cons (pv 0) (pa_cons (pv 1) (pa_cons (pv 3) (pa_cons (pv 4) pa_nil))))) (pg_tup rfl (pgs_cons (pg_name (i := 5) nd rfl (Or.inl rfl)) (pgs_cons (pg_name (i := 6) nd rfl (Or.inl rfl)) pgs_nil))))
  (pss_cons (ps_set (i := 7) nd rfl (Or.inl rfl) (pe_f G_showing hr (by decide) T.glo_showing pass0 (pa_cons (pv 0) (pa_cons (pv 2) (pa_cons (pv 3) (pa_cons (pv 4) pa_nil))))))
  (pss_cons (ps_set (i := 8) nd rfl (Or.inl rfl) (pe_and (pe_cmp (pc_notN (pv 7))) (pe_and (pe_cmpR op_eq (pe_ix ix_tup (pe_ix ix_tup (pv 7) pe_int (fun _ _ => rfl)) pe_int (fun _ _ => rfl)) pe_int (nomark _)) (pe_one (pe_cmpR op_ne (pv 5) pe_int (nomark _))))))
  (pss_cons (ps_if ((pw_and (pt_cmp (pc_notN (pv 7))) (pw_and1 ((pw_or (pt_cmpR op_eq (pe_f G_bit hr (by decide) T.glo_bit pass0 (pa_cons (pe_ix ix_tup (pe_ix ix_tup (pv 7) pe_int (fun _ _ => rfl)) pe_int (fun _ _ => rfl)) (pa_cons pe_int pa_nil))) pe_int (nomark _)) (pw_or1 (pt_cmpR op_eq (pv 5) pe_int (nomark _)))).pt))).pt) (pss_one (ps_set (i := 9) nd rfl (Or.inl rfl) (pe_op op_add (pe_op op_add (pe_gi T.int_MOVER_COLOURS) (pe_op op_mul pe_int (pe_op op_mod (pe_ix ix_tup (pe_ix ix_tup (pv 7) pe_int (fun _ _ => rfl)) pe_int (fun _ _ => rfl)) pe_int))) (pe_ix ix_tup (pv 7) pe_int (fun _ _ => rfl))))) (pss_one (ps_set (i := 9) nd rfl (Or.inl rfl) (pe_op op_add (pe_gi T.int_COLOURS) (pe_ifExp (pt_cmpR op_ne (pv 5) pe_int (nomark _)) (pe_op op_add (pe_op op_mul pe_int (pv 6)) (pv 5)) pe_int)))))
  (pss_one (ps_ret (pe_tup (pa_cons (pe_op op_mod (pe_ix ix_list (pv 0) (pv 9) (fun _ _ => rfl)) pe_int) (pa_cons (pv 8) pa_nil))))))))
theorem fn_dot_in (T : Txt K mg) (G_ground_in : Fn P w K mg base CX0 3 (He.fAd K ("ground_in", none)) ["sheet", "settings", "column", "line"] (sp_ground_in K)) (G_showing : Fn P w K mg base CX0 4 (He.fAd K ("showing", none)) ["sheet", "movers", "column", "line"] (sp_showing K)) (G_bit : Fn P w K mg base CX0 1 (He.fAd K ("bit", none)) ["byte", "k"] (sp_bit K)) (pure : ∀ vs H Q E, sp_dot_in K vs H Q E → vs.length = 5 ∧ t_dot_in K { nx := fun _ H' => Q .non H', rt := Q } (start N_dot_in vs) H) : Fn P w K mg base CX0 5 (He.fAd K ("dot_in", none)) ["sheet", "settings", "movers", "column", "line"] (sp_dot_in K) := by
  obtain ⟨fd, F⟩ := T.def_dot_in
  refine ⟨fd, F.ok sc_dot_in (fun vs H Q E h => (pure vs H Q E h).1) (fun cdv A outer s H vs Q E hr h => ⟨t_dot_in K, PSs.nox (d_dot_in T G_ground_in G_showing G_bit hr), (pure vs H Q E h).2⟩), F.bindsN (fun _ _ _ _ _ _ us hl => match us, hl with | [_, _, _, _, _], _ => rfl), F.kp⟩
theorem d_dot_at (T : Txt K mg) (G_check_sheet : Fn P w K mg base CX0 1 (He.fAd K ("check_sheet", none)) ["sheet"] (sp_check_sheet K)) (G_dot_in : Fn P w K mg base CX0 5 (He.fAd K ("dot_in", none)) ["sheet", "settings", "movers", "column", "line"] (sp_dot_in K)) (hr : Room 5 (A.deeper (envOfC "dot_at" (defScope s_dot_at) s.heap.objs.size f cdv))) : PSs (cxOf CX0 P w K mg base N_dot_at "dot_at" (defScope s_dot_at) f cdv A outer s H E).nox (defBody s_dot_at) (t_dot_at K) :=
  have nd := sc_dot_at.nd
  pss_cons (ps_expr (pe_f G_check_sheet hr (by decide) T.glo_check_sheet pass0 (pa_cons (pv 0) pa_nil)))
  (pss_one (ps_ret (pe_f G_dot_in hr (by decide) T.glo_dot_in pass0 (pa_cons (pv 0) (pa_cons (pv 1) (pa_cons (pv 2) (pa_cons (pv 3) (pa_cons (pv 4) pa_nil))))))))
theorem fn_dot_at (T : Txt K mg) (G_check_sheet : Fn P w K mg base CX0 1 (He.fAd K ("check_sheet", none)) ["sheet"] (sp_check_sheet K)) (G_dot_in : Fn P w K mg base CX0 5 (He.fAd K ("dot_in", none)) ["sheet", "settings", "movers", "column", "line"] (sp_dot_in K)) (pure : ∀ vs H Q E, sp_dot_at K vs H Q E → vs.length = 5 ∧ t_dot_at K { nx := fun _ H' => Q .non H', rt := Q } (start N_dot_at vs) H) : Fn P w K mg base CX0 6 (He.fAd K ("dot_at", none)) ["sheet", "settings", "movers", "column", "line"] (sp_dot_at K) := by
  obtain ⟨fd, F⟩ := T.def_dot_at
  refine ⟨fd, F.ok sc_dot_at (fun vs H Q E h => (pure vs H Q E h).1) (fun cdv A outer s H vs Q E hr h => ⟨t_dot_at K, PSs.nox (d_dot_at T G_check_sheet G_dot_in hr), (pure vs H Q E h).2⟩), F.bindsN (fun _ _ _ _ _ _ us hl => match us, hl with | [_, _, _, _, _], _ => rfl), F.kp⟩
theorem d_column_of (T : Txt K mg)  (hr : Room 0 (A.deeper (envOfC "column_of" (defScope s_column_of) s.heap.objs.size f cdv))) : PSs (cxOf CX0 P w K mg base N_column_of "column_of" (defScope s_column_of) f cdv A outer s H E).nox (defBody s_column_of) (t_column_of K) :=
  have nd := sc_column_of.nd
  pss_one (ps_ret (pe_op op_mod (pv 0) (pe_gi T.int_COLUMNS)))
theorem fn_column_of (T : Txt K mg)  (pure : ∀ vs H Q E, sp_column_of K vs H Q E → vs.length = 1 ∧ t_column_of K { nx := fun _ H' => Q .non H', rt := Q } (start N_column_of vs) H) : Fn P w K mg base CX0 1 (He.fAd K ("column_of", none)) ["now"] (sp_column_of K) := by
  obtain ⟨fd, F⟩ := T.def_column_of
  refine ⟨fd, F.ok sc_column_of (fun vs H Q E h => (pure vs H Q E h).1) (fun cdv A outer s H vs Q E hr h => ⟨t_column_of K, PSs.nox (d_column_of T  hr), (pure vs H Q E h).2⟩), F.bindsN (fun _ _ _ _ _ _ us hl => match us, hl with | [_], _ => rfl), F.kp⟩
theorem d_line_of (T : Txt K mg)  (hr : Room 0 (A.deeper (envOfC "line_of" (defScope s_line_of) s.heap.objs.size f cdv))) : PSs (cxOf CX0 P w K mg base N_line_of "line_of" (defScope s_line_of) f cdv A outer s H E).nox (defBody s_line_of) (t_line_of K) :=
  have nd := sc_line_of.nd
  pss_one (ps_ret (pe_op op_mod (pe_op op_fdiv (pv 0) (pe_gi T.int_COLUMNS)) (pe_gi T.int_ROWS)))
theorem fn_line_of (T : Txt K mg)  (pure : ∀ vs H Q E, sp_line_of K vs H Q E → vs.length = 1 ∧ t_line_of K { nx := fun _ H' => Q .non H', rt := Q } (start N_line_of vs) H) : Fn P w K mg base CX0 1 (He.fAd K ("line_of", none)) ["now"] (sp_line_of K) := by
  obtain ⟨fd, F⟩ := T.def_line_of
  refine ⟨fd, F.ok sc_line_of (fun vs H Q E h => (pure vs H Q E h).1) (fun cdv A outer s H vs Q E hr h => ⟨t_line_of K, PSs.nox (d_line_of T  hr), (pure vs H Q E h).2⟩), F.bindsN (fun _ _ _ _ _ _ us hl => match us, hl with | [_], _ => rfl), F.kp⟩
theorem d_Picture___init___LatePicture (T : Txt K mg)  (hr : Room 0 (A.deeper (envOfC "Picture.__init__" (defScope s_Picture___init__) s.heap.objs.size f cdv))) : PSs (cxOf CX0 P w K mg base N_Picture___init___LatePicture "Picture.__init__" (defScope s_Picture___init__) f cdv A outer s H E).nox (defBody s_Picture___init__) (t_Picture___init___LatePicture K) :=
  have nd := sc_Picture___init___LatePicture.nd
  pss_cons (ps_fld (pv 0) (pe_op op_rep (pe_lst (pa_cons pe_int pa_nil)) (pe_gi T.int_SHEET)) rfl)
  (pss_cons (ps_fld (pv 0) (pe_tup (pa_cons pe_int (pa_cons pe_int (pa_cons pe_int (pa_cons pe_int pa_nil))))) rfl)
  (pss_cons (ps_fld (pv 0) (pe_tup (pa_cons pe_bl (pa_cons pe_bl (pa_cons pe_bl pa_nil)))) rfl)
  (pss_cons (ps_fld (pv 0) (pe_lst pa_nil) rfl)
  (pss_cons (ps_fld (pv 0) (pe_op op_rep (pe_lst (pa_cons pe_int pa_nil)) (pe_gi T.int_DOTS)) rfl)
  (pss_cons (ps_fld (pv 0) pe_non rfl)
  (pss_one (ps_fld (pv 0) pe_int rfl)))))))
theorem fn_Picture___init___LatePicture (T : Txt K mg)  (pure : ∀ vs H Q E, sp_Picture___init___LatePicture K vs H Q E → vs.length = 1 ∧ t_Picture___init___LatePicture K { nx := fun _ H' => Q .non H', rt := Q } (start N_Picture___init___LatePicture vs) H) : Fn P w K mg base CX0 1 (He.fAd K ("Picture", some "__init__")) ["self"] (sp_Picture___init___LatePicture K) := by
  obtain ⟨fd, F⟩ := T.def_Picture___init___LatePicture
  refine ⟨fd, F.ok sc_Picture___init___LatePicture (fun vs H Q E h => (pure vs H Q E h).1) (fun cdv A outer s H vs Q E hr h => ⟨t_Picture___init___LatePicture K, PSs.nox (d_Picture___init___LatePicture T  hr), (pure vs H Q E h).2⟩), F.bindsN (fun _ _ _ _ _ _ us hl => match us, hl with | [_], _ => rfl), F.kp⟩
theorem d_Picture__begin_LatePicture (T : Txt K mg) (G_bit : Fn P w K mg base CX0 1 (He.fAd K ("bit", none)) ["byte", "k"] (sp_bit K)) (G_movers_in : Fn P w K mg base CX0 2 (He.fAd K ("movers_in", none)) ["sheet", "settings", "line"] (sp_movers_in K)) (hr : Room 2 (A.deeper (envOfC "Picture._begin" (defScope s_Picture__begin) s.heap.objs.size f cdv))) : PSs (cxOf CX0 P w K mg base N_Picture__begin_LatePicture "Picture._begin" (defScope s_Picture__begin) f cdv A outer s H E).nox (defBody s_Picture__begin) (t_Picture__begin_LatePicture K) :=
  have nd := sc_Picture__begin_LatePicture.nd
  pss_cons (ps_set (i := 2) nd rfl (Or.inl rfl) pe_bl)
  (pss_cons (ps_asg (pe_fld (pv 0) rfl) (pg_tup rfl (pgs_cons (pg_name (i := 3) nd rfl (Or.inl rfl)) (pgs_cons (pg_name (i := 4) nd rfl (Or.inl rfl)) (pgs_cons (pg_name (i := 5) nd rfl (Or.inl rfl)) pgs_nil)))))
  (pss_cons (ps_if (pt_cmpR op_eq (pv 1) pe_int (nomark _)) (pss_one (ps_asg (pe_tup (pa_cons pe_bl (pa_cons pe_bl (pa_cons pe_bl pa_nil)))) (pg_tup rfl (pgs_cons (pg_name (i := 3) nd rfl (Or.inl rfl)) (pgs_cons (pg_name (i := 4) nd rfl (Or.inl rfl)) (pgs_cons (pg_name (i := 5) nd rfl (Or.inl rfl)) pgs_nil)))))) pss_nil)
  (pss_cons (ps_if (pt_cmpR op_eq (pv 1) (pe_gi T.int_LINES) (nomark _)) (pss_cons (ps_set (i := 3) nd rfl (Or.inl rfl) pe_bl)
  (pss_cons (ps_set (i := 2) nd rfl (Or.inl rfl) (pe_cmpR op_eq (pe_f G_bit hr (by decide) T.glo_bit pass0 (pa_cons (pe_ix ix_tup (pe_fld (pv 0) rfl) pe_int (fun _ _ => rfl)) (pa_cons pe_int pa_nil))) pe_int (nomark _)))
  (pss_cons (ps_fld (pv 0) (pe_callTy call_list_of (by rfl) T.free_list (by decide +kernel) (pa_cons (pe_fld (pv 0) rfl) pa_nil)) rfl)
  (pss_one (ps_fld (pv 0) (pe_op op_add (pe_fld (pv 0) rfl) pe_int) rfl))))) pss_nil)
  (pss_cons (ps_asg (pe_f G_movers_in hr (by decide) T.glo_movers_in pass0 (pa_cons (pe_fld (pv 0) rfl) (pa_cons (pe_fld (pv 0) rfl) (pa_cons (pv 1) pa_nil)))) (pg_tup rfl (pgs_cons (pg_fld (pv 0)) (pgs_cons (pg_name (i := 6) nd rfl (Or.inl rfl)) pgs_nil))))
  (pss_cons (ps_fld (pv 0) (pe_tup (pa_cons (pv 3) (pa_cons (pv 4) (pa_cons (pe_or (pv 5) (pe_one (pv 6))) pa_nil)))) rfl)
  (pss_one (ps_ret (pv 2))))))))
theorem fn_Picture__begin_LatePicture (T : Txt K mg) (G_bit : Fn P w K mg base CX0 1 (He.fAd K ("bit", none)) ["byte", "k"] (sp_bit K)) (G_movers_in : Fn P w K mg base CX0 2 (He.fAd K ("movers_in", none)) ["sheet", "settings", "line"] (sp_movers_in K)) (pure : ∀ vs H Q E, sp_Picture__begin_LatePicture K vs H Q E → vs.length = 2 ∧ t_Picture__begin_LatePicture K { nx := fun _ H' => Q .non H', rt := Q } (start N_Picture__begin_LatePicture vs) H) : Fn P w K mg base CX0 3 (He.fAd K ("LatePicture", some "_begin")) ["self", "line"] (sp_Picture__begin_LatePicture K) := by
  obtain ⟨fd, F⟩ := T.def_Picture__begin_LatePicture
  refine ⟨fd, F.ok sc_Picture__begin_LatePicture (fun vs H Q E h => (pure vs H Q E h).1) (fun cdv A outer s H vs Q E hr h => ⟨t_Picture__begin_LatePicture K, PSs.nox (d_Picture__begin_LatePicture T G_bit G_movers_in hr), (pure vs H Q E h).2⟩), F.bindsN (fun _ _ _ _ _ _ us hl => match us, hl with | [_, _], _ => rfl), F.kp⟩
theorem d_Picture_put_LatePicture (T : Txt K mg)  (hr : Room 0 (A.deeper (envOfC "Picture.put" (defScope s_Picture_put) s.heap.objs.size f cdv))) : PSs (cxOf CX0 P w K mg base N_Picture_put_LatePicture "Picture.put" (defScope s_Picture_put) f cdv A outer s H E).nox (defBody s_Picture_put) (t_Picture_put_LatePicture K) :=
  have nd := sc_Picture_put_LatePicture.nd
  pss_one (ps_asg (pv 2) (pg_sub (pe_fld (pv 0) rfl) (pe_op op_mod (pv 1) (pe_gi T.int_SHEET)) set_list))
theorem fn_Picture_put_LatePicture (T : Txt K mg)  (pure : ∀ vs H Q E, sp_Picture_put_LatePicture K vs H Q E → vs.length = 3 ∧ t_Picture_put_LatePicture K { nx := fun _ H' => Q .non H', rt := Q } (start N_Picture_put_LatePicture vs) H) : Fn P w K mg base CX0 1 (He.fAd K ("LatePicture", some "put")) ["self", "place", "byte"] (sp_Picture_put_LatePicture K) := by
  obtain ⟨fd, F⟩ := T.def_Picture_put_LatePicture
  refine ⟨fd, F.ok sc_Picture_put_LatePicture (fun vs H Q E h => (pure vs H Q E h).1) (fun cdv A outer s H vs Q E hr h => ⟨t_Picture_put_LatePicture K, PSs.nox (d_Picture_put_LatePicture T  hr), (pure vs H Q E h).2⟩), F.bindsN (fun _ _ _ _ _ _ us hl => match us, hl with | [_, _, _], _ => rfl), F.kp⟩
theorem d_Picture_let_LatePicture (T : Txt K mg)  (hr : Room 0 (A.deeper (envOfC "Picture.let" (defScope s_Picture_let) s.heap.objs.size f cdv))) : PSs (cxOf CX0 P w K mg base N_Picture_let_LatePicture "Picture.let" (defScope s_Picture_let) f cdv A outer s H E).nox (defBody s_Picture_let) (t_Picture_let_LatePicture K) :=
  have nd := sc_Picture_let_LatePicture.nd
  pss_cons (ps_set (i := 3) nd rfl (Or.inr rfl) (pe_ifExp (pt_cmpR op_eq (pv 1) pe_int (nomark _)) (pe_op op_mod (pv 2) pe_int) (pv 2)))
  (pss_one (ps_fld (pv 0) (pe_callTy call_tuple_of (by rfl) T.free_tuple (by decide +kernel) (pa_cons (pe_lc (own := [("k", 4), ("one", 5)]) (g := gTup K 2 (gCons (gName 4) (gCons (gName 5) gNil))) rfl nd (pi_enumT rfl T.free_enumerate (pa_cons (pe_fld (pv 0) rfl) pa_nil)) (blkOk_by (own := [("k", 4), ("one", 5)]) (N := N_Picture_let_LatePicture) (sc := defScope s_Picture_let) (by decide +kernel)) (fun _ _ _ _ _ => pg_tup rfl (pgs_cons (pg_name (i := 4) nd rfl (Or.inl rfl)) (pgs_cons (pg_name (i := 5) nd rfl (Or.inl rfl)) pgs_nil))) (fun _ _ _ _ _ => pts_nil) (fun _ _ _ _ _ => pe_ifExp (pt_cmpR op_eq (pv 4) (pv 1) (nomark _)) (pv 3) (pv 5))) pa_nil)) rfl))
theorem fn_Picture_let_LatePicture (T : Txt K mg)  (pure : ∀ vs H Q E, sp_Picture_let_LatePicture K vs H Q E → vs.length = 3 ∧ t_Picture_let_LatePicture K { nx := fun _ H' => Q .non H', rt := Q } (start N_Picture_let_LatePicture vs) H) : Fn P w K mg base CX0 1 (He.fAd K ("LatePicture", some "let")) ["self", "which", "byte"] (sp_Picture_let_LatePicture K) := by
  obtain ⟨fd, F⟩ := T.def_Picture_let_LatePicture
  refine ⟨fd, F.ok sc_Picture_let_LatePicture (fun vs H Q E h => (pure vs H Q E h).1) (fun cdv A outer s H vs Q E hr h => ⟨t_Picture_let_LatePicture K, PSs.nox (d_Picture_let_LatePicture T  hr), (pure vs H Q E h).2⟩), F.bindsN (fun _ _ _ _ _ _ us hl => match us, hl with | [_, _, _], _ => rfl), F.kp⟩
theorem d_Picture_marks_LatePicture (T : Txt K mg)  (hr : Room 0 (A.deeper (envOfC "Picture.marks" (defScope s_Picture_marks) s.heap.objs.size f cdv))) : PSs (cxOf CX0 P w K mg base N_Picture_marks_LatePicture "Picture.marks" (defScope s_Picture_marks) f cdv A outer s H E).nox (defBody s_Picture_marks) (t_Picture_marks_LatePicture K) :=
  have nd := sc_Picture_marks_LatePicture.nd
  pss_one (ps_ret (pe_fld (pv 0) rfl))
theorem fn_Picture_marks_LatePicture (T : Txt K mg)  (pure : ∀ vs H Q E, sp_Picture_marks_LatePicture K vs H Q E → vs.length = 1 ∧ t_Picture_marks_LatePicture K { nx := fun _ H' => Q .non H', rt := Q } (start N_Picture_marks_LatePicture vs) H) : Fn P w K mg base CX0 1 (He.fAd K ("LatePicture", some "marks")) ["self"] (sp_Picture_marks_LatePicture K) := by
  obtain ⟨fd, F⟩ := T.def_Picture_marks_LatePicture
  refine ⟨fd, F.ok sc_Picture_marks_LatePicture (fun vs H Q E h => (pure vs H Q E h).1) (fun cdv A outer s H vs Q E hr h => ⟨t_Picture_marks_LatePicture K, PSs.nox (d_Picture_marks_LatePicture T  hr), (pure vs H Q E h).2⟩), F.bindsN (fun _ _ _ _ _ _ us hl => match us, hl with | [_], _ => rfl), F.kp⟩
theorem d_Picture_picture_LatePicture (T : Txt K mg)  (hr : Room 0 (A.deeper (envOfC "Picture.picture" (defScope s_Picture_picture) s.heap.objs.size f cdv))) : PSs (cxOf CX0 P w K mg base N_Picture_picture_LatePicture "Picture.picture" (defScope s_Picture_picture) f cdv A outer s H E).nox (defBody s_Picture_picture) (t_Picture_picture_LatePicture K) :=
  have nd := sc_Picture_picture_LatePicture.nd
  pss_one (ps_ret (pe_ifExp (pt_cmp (pc_isN (pe_fld (pv 0) rfl))) pe_non (pe_callTy call_list_of (by rfl) T.free_list (by decide +kernel) (pa_cons (pe_fld (pv 0) rfl) pa_nil))))
theorem fn_Picture_picture_LatePicture (T : Txt K mg)  (pure : ∀ vs H Q E, sp_Picture_picture_LatePicture K vs H Q E → vs.length = 1 ∧ t_Picture_picture_LatePicture K { nx := fun _ H' => Q .non H', rt := Q } (start N_Picture_picture_LatePicture vs) H) : Fn P w K mg base CX0 1 (He.fAd K ("LatePicture", some "picture")) ["self"] (sp_Picture_picture_LatePicture K) := by
  obtain ⟨fd, F⟩ := T.def_Picture_picture_LatePicture
  refine ⟨fd, F.ok sc_Picture_picture_LatePicture (fun vs H Q E h => (pure vs H Q E h).1) (fun cdv A outer s H vs Q E hr h => ⟨t_Picture_picture_LatePicture K, PSs.nox (d_Picture_picture_LatePicture T  hr), (pure vs H Q E h).2⟩), F.bindsN (fun _ _ _ _ _ _ us hl => match us, hl with | [_], _ => rfl), F.kp⟩
theorem d_tile_dots (T : Txt K mg) (G_bit : Fn P w K mg base CX0 1 (He.fAd K ("bit", none)) ["byte", "k"] (sp_bit K)) (hr : Room 1 (A.deeper (envOfC "tile_dots" (defScope s_tile_dots) s.heap.objs.size f cdv))) : PSs (cxOf CX0 P w K mg base N_tile_dots "tile_dots" (defScope s_tile_dots) f cdv A outer s H E).nox (defBody s_tile_dots) (t_tile_dots K) :=
  have nd := sc_tile_dots.nd
  pss_cons (ps_set (i := 5) nd rfl (Or.inl rfl) (pe_op op_add (pe_op op_add (pe_gi T.int_TILES) (pe_op op_mul pe_int (pv 1))) (pe_op op_mul pe_int (pv 2))))
  (pss_cons (ps_asg (pe_tup (pa_cons (pe_ix ix_list (pv 0) (pv 5) (fun _ _ => rfl)) (pa_cons (pe_ix ix_list (pv 0) (pe_op op_add (pv 5) pe_int) (fun _ _ => rfl)) pa_nil))) (pg_tup rfl (pgs_cons (pg_name (i := 6) nd rfl (Or.inr rfl)) (pgs_cons (pg_name (i := 7) nd rfl (Or.inr rfl)) pgs_nil))))
  (pss_one (ps_ret (pe_lc (own := [("k", 8)]) (g := gName 8) rfl nd (pi_range2 rfl T.free_range (pa_cons (pv 3) (pa_cons (pv 4) pa_nil))) (blkOk_by (own := [("k", 8)]) (N := N_tile_dots) (sc := defScope s_tile_dots) (by decide +kernel)) (fun _ _ _ _ _ => pg_name (i := 8) nd rfl (Or.inl rfl)) (fun _ _ _ _ _ => pts_nil) (fun _ _ _ _ _ => pe_op op_add (pe_f G_bit hr (by decide) T.glo_bit pass0 (pa_cons (pv 6) (pa_cons (pe_op op_sub pe_int (pv 8)) pa_nil))) (pe_op op_mul pe_int (pe_f G_bit hr (by decide) T.glo_bit pass0 (pa_cons (pv 7) (pa_cons (pe_op op_sub pe_int (pv 8)) pa_nil)))))))))
theorem fn_tile_dots (T : Txt K mg) (G_bit : Fn P w K mg base CX0 1 (He.fAd K ("bit", none)) ["byte", "k"] (sp_bit K)) (pure : ∀ vs H Q E, sp_tile_dots K vs H Q E → vs.length = 5 ∧ t_tile_dots K { nx := fun _ H' => Q .non H', rt := Q } (start N_tile_dots vs) H) : Fn P w K mg base CX0 2 (He.fAd K ("tile_dots", none)) ["sheet", "tile", "row", "first", "last"] (sp_tile_dots K) := by
  obtain ⟨fd, F⟩ := T.def_tile_dots
  refine ⟨fd, F.ok sc_tile_dots (fun vs H Q E h => (pure vs H Q E h).1) (fun cdv A outer s H vs Q E hr h => ⟨t_tile_dots K, PSs.nox (d_tile_dots T G_bit hr), (pure vs H Q E h).2⟩), F.bindsN (fun _ _ _ _ _ _ us hl => match us, hl with | [_, _, _, _, _], _ => rfl), F.kp⟩
theorem d_ground_dots (T : Txt K mg) (G_bit : Fn P w K mg base CX0 1 (He.fAd K ("bit", none)) ["byte", "k"] (sp_bit K)) (G_tile_dots : Fn P w K mg base CX0 2 (He.fAd K ("tile_dots", none)) ["sheet", "tile", "row", "first", "last"] (sp_tile_dots K)) (hr : Room 2 (A.deeper (envOfC "ground_dots" (defScope s_ground_dots) s.heap.objs.size f cdv))) : PSs (cxOf CX0 P w K mg base N_ground_dots "ground_dots" (defScope s_ground_dots) f cdv A outer s H E).nox (defBody s_ground_dots) (t_ground_dots K) :=
  have nd := sc_ground_dots.nd
  pss_cons (ps_asg (pv 1) (pg_tup rfl (pgs_cons (pg_name (i := 5) nd rfl (Or.inl rfl)) (pgs_cons (pg_name (i := 6) nd rfl (Or.inl rfl)) (pgs_cons (pg_name (i := 7) nd rfl (Or.inl rfl)) (pgs_cons (pg_name (i := 8) nd rfl (Or.inl rfl)) pgs_nil))))))
  (pss_cons (ps_if (pt_cmpR op_eq (pe_f G_bit hr (by decide) T.glo_bit pass0 (pa_cons (pv 8) (pa_cons pe_int pa_nil))) pe_int (nomark _)) (pss_one (ps_ret (pe_op op_rep (pe_lst (pa_cons (pe_tup (pa_cons pe_int (pa_cons pe_int pa_nil))) pa_nil)) (pe_op op_sub (pv 4) (pv 3))))) pss_nil)
  (pss_cons (ps_set (i := 9) nd rfl (Or.inl rfl) (pe_op op_mod (pe_op op_add (pv 2) (pv 6)) (pe_gi T.int_MAP)))
  (pss_cons (ps_set (i := 10) nd rfl (Or.inl rfl) (pe_lst pa_nil))
  (pss_cons (ps_set (i := 11) nd rfl (Or.inl rfl) (pv 3))
  (pss_cons (ps_while PassesOwn.never (pt_cmpR op_lt (pv 11) (pv 4) (nomark _)) (pss_cons (ps_set (i := 12) nd rfl (Or.inl rfl) (pe_op op_mod (pe_op op_add (pv 11) (pv 5)) (pe_gi T.int_MAP)))
  (pss_cons (ps_set (i := 13) nd rfl (Or.inr rfl) (pe_ix ix_list (pv 0) (pe_op op_add (pe_op op_mul (pe_op op_fdiv (pv 9) (pe_gi T.int_TILE)) (pe_gi T.int_TILE)) (pe_op op_fdiv (pv 12) (pe_gi T.int_TILE))) (fun _ _ => rfl)))
  (pss_cons (ps_set (i := 14) nd rfl (Or.inl rfl) (pe_callB (call_min2 rfl) (by rfl) T.free_min (by decide +kernel) (pa_cons (pv 4) (pa_cons (pe_op op_sub (pe_op op_add (pv 11) (pe_gi T.int_TILE)) (pe_op op_mod (pv 12) (pe_gi T.int_TILE))) pa_nil))))
  (pss_cons (ps_set (i := 15) nd rfl (Or.inl rfl) (pe_f G_tile_dots hr (by decide) T.glo_tile_dots pass0 (pa_cons (pv 0) (pa_cons (pe_op op_mod (pv 13) pe_int) (pa_cons (pe_op op_mod (pv 9) (pe_gi T.int_TILE)) (pa_cons (pe_op op_mod (pv 12) (pe_gi T.int_TILE)) (pa_cons (pe_op op_sub (pe_op op_add (pe_op op_mod (pv 12) (pe_gi T.int_TILE)) (pv 14)) (pv 11)) pa_nil)))))))
  (pss_cons (ps_expr (pe_bm PySem.F.plainAttrs_list PySem.F.slot_list_extend PySem.F.type_list_extend mt_extend (pv 10) (pa_cons (pe_lc (own := [("number", 16)]) (g := gName 16) rfl nd (pi_list (pv 15)) (blkOk_by (own := [("number", 16)]) (N := N_ground_dots) (sc := defScope s_ground_dots) (by decide +kernel)) (fun _ _ _ _ _ => pg_name (i := 16) nd rfl (Or.inl rfl)) (fun _ _ _ _ _ => pts_nil) (fun _ _ _ _ _ => pe_tup (pa_cons (pv 16) (pa_cons (pe_op op_mod (pe_op op_fdiv (pv 13) pe_int) pe_int) pa_nil)))) pa_nil)))
  (pss_one (ps_set (i := 11) nd rfl (Or.inl rfl) (pv 14)))))))))
  (pss_one (ps_ret (pv 10))))))))
theorem fn_ground_dots (T : Txt K mg) (G_bit : Fn P w K mg base CX0 1 (He.fAd K ("bit", none)) ["byte", "k"] (sp_bit K)) (G_tile_dots : Fn P w K mg base CX0 2 (He.fAd K ("tile_dots", none)) ["sheet", "tile", "row", "first", "last"] (sp_tile_dots K)) (pure : ∀ vs H Q E, sp_ground_dots K vs H Q E → vs.length = 5 ∧ t_ground_dots K { nx := fun _ H' => Q .non H', rt := Q } (start N_ground_dots vs) H) : Fn P w K mg base CX0 3 (He.fAd K ("ground_dots", none)) ["sheet", "settings", "line", "first", "last"] (sp_ground_dots K) := by
  obtain ⟨fd, F⟩ := T.def_ground_dots
  refine ⟨fd, F.ok sc_ground_dots (fun vs H Q E h => (pure vs H Q E h).1) (fun cdv A outer s H vs Q E hr h => ⟨t_ground_dots K, PSs.nox (d_ground_dots T G_bit G_tile_dots hr), (pure vs H Q E h).2⟩), F.bindsN (fun _ _ _ _ _ _ us hl => match us, hl with | [_, _, _, _, _], _ => rfl), F.kp⟩
theorem d_mover_dots (T : Txt K mg) (G_mover_pixel : Fn P w K mg base CX0 3 (He.fAd K ("mover_pixel", none)) ["sheet", "mover", "column", "line"] (sp_mover_pixel K)) (hr : Room 3 (A.deeper (envOfC "mover_dots" (defScope s_mover_dots) s.heap.objs.size f cdv))) : PSs (cxOf CX0 P w K mg base N_mover_dots "mover_dots" (defScope s_mover_dots) f cdv A outer s H E).nox (defBody s_mover_dots) (t_mover_dots K) :=
  have nd := sc_mover_dots.nd
  pss_cons (ps_set (i := 5) nd rfl (Or.inl rfl) pe_dnewK)
  (pss_cons (ps_for PassesOwn.never rfl (pi_list (pv 1)) (pg_name (i := 6) nd rfl (Or.inl rfl)) (pss_one (ps_for PassesOwn.never rfl (pi_range2 rfl T.free_range (pa_cons (pe_callB (call_max2 rfl) (by rfl) T.free_max (by decide +kernel) (pa_cons (pv 3) (pa_cons (pe_ix ix_tup (pv 6) pe_int (fun _ _ => rfl)) pa_nil))) (pa_cons (pe_callB (call_min2 rfl) (by rfl) T.free_min (by decide +kernel) (pa_cons (pv 4) (pa_cons (pe_op op_add (pe_ix ix_tup (pv 6) pe_int (fun _ _ => rfl)) (pe_gi T.int_TILE)) pa_nil))) pa_nil))) (pg_name (i := 7) nd rfl (Or.inl rfl)) (pss_cons (ps_set (i := 8) nd rfl (Or.inl rfl) (pe_f G_mover_pixel hr (by decide) T.glo_mover_pixel pass0 (pa_cons (pv 0) (pa_cons (pv 6) (pa_cons (pv 7) (pa_cons (pv 2) pa_nil))))))
  (pss_one (ps_if ((pw_and (pt_cmp (pc_dnotin (hu_of hr) (pv 7) (pv 5))) (pw_and1 (pt_cmpR op_ne (pv 8) pe_int (nomark _)))).pt) (pss_one (ps_dput (hu_of hr) (pv 5) (pv 7) (pe_tup (pa_cons (pv 6) (pa_cons (pv 8) pa_nil))) rfl)) pss_nil))))))
  (pss_one (ps_ret (pv 5))))
theorem fn_mover_dots (T : Txt K mg) (G_mover_pixel : Fn P w K mg base CX0 3 (He.fAd K ("mover_pixel", none)) ["sheet", "mover", "column", "line"] (sp_mover_pixel K)) (pure : ∀ vs H Q E, sp_mover_dots K vs H Q E → vs.length = 5 ∧ t_mover_dots K { nx := fun _ H' => Q .non H', rt := Q } (start N_mover_dots vs) H) : Fn P w K mg base CX0 4 (He.fAd K ("mover_dots", none)) ["sheet", "movers", "line", "first", "last"] (sp_mover_dots K) := by
  obtain ⟨fd, F⟩ := T.def_mover_dots
  refine ⟨fd, F.ok sc_mover_dots (fun vs H Q E h => (pure vs H Q E h).1) (fun cdv A outer s H vs Q E hr h => ⟨t_mover_dots K, PSs.nox (d_mover_dots T G_mover_pixel hr), (pure vs H Q E h).2⟩), F.bindsN (fun _ _ _ _ _ _ us hl => match us, hl with | [_, _, _, _, _], _ => rfl), F.kp⟩
theorem d_dots_of (T : Txt K mg) (G_mover_dots : Fn P w K mg base CX0 4 (He.fAd K ("mover_dots", none)) ["sheet", "movers", "line", "first", "last"] (sp_mover_dots K)) (G_ground_dots : Fn P w K mg base CX0 3 (He.fAd K ("ground_dots", none)) ["sheet", "settings", "line", "first", "last"] (sp_ground_dots K)) (G_bit : Fn P w K mg base CX0 1 (He.fAd K ("bit", none)) ["byte", "k"] (sp_bit K)) (hr : Room 4 (A.deeper (envOfC "dots_of" (defScope s_dots_of) s.heap.objs.size f cdv))) : PSs (cxOf CX0 P w K mg base N_dots_of "dots_of" (defScope s_dots_of) f cdv A outer s H E).nox (defBody s_dots_of) (t_dots_of K) :=
  have nd := sc_dots_of.nd
  pss_cons (ps_set (i := 6) nd rfl (Or.inl rfl) (pe_f G_mover_dots hr (by decide) T.glo_mover_dots pass0 (pa_cons (pv 0) (pa_cons (pv 2) (pa_cons (pv 3) (pa_cons (pv 4) (pa_cons (pv 5) pa_nil)))))))
  (pss_cons (ps_set (i := 7) nd rfl (Or.inl rfl) (pe_lst pa_nil))
  (pss_cons (ps_set (i := 8) nd rfl (Or.inl rfl) pe_bl)
  (pss_cons (ps_for PassesOwn.never rfl (pi_enum rfl T.free_enumerate (pa_cons (pe_f G_ground_dots hr (by decide) T.glo_ground_dots pass0 (pa_cons (pv 0) (pa_cons (pv 1) (pa_cons (pv 3) (pa_cons (pv 4) (pa_cons (pv 5) pa_nil)))))) pa_nil)) (pg_tup rfl (pgs_cons (pg_name (i := 9) nd rfl (Or.inl rfl)) (pgs_cons (pg_tup rfl (pgs_cons (pg_name (i := 10) nd rfl (Or.inl rfl)) (pgs_cons (pg_name (i := 11) nd rfl (Or.inl rfl)) pgs_nil))) pgs_nil))) (pss_cons (ps_set (i := 12) nd rfl (Or.inl rfl) (pe_op op_add (pe_gi T.int_COLOURS) (pe_ifExp (pt_cmpR op_ne (pv 10) pe_int (nomark _)) (pe_op op_add (pe_op op_mul pe_int (pv 11)) (pv 10)) pe_int)))
  (pss_cons (ps_if (pt_cmp (pc_din (hu_of hr) (pe_op op_add (pv 4) (pv 9)) (pv 6))) (pss_cons (ps_asg (pe_dget (hu_of hr) (pv 6) (pe_op op_add (pv 4) (pv 9)) (fun _ _ => rfl)) (pg_tup rfl (pgs_cons (pg_name (i := 13) nd rfl (Or.inl rfl)) (pgs_cons (pg_name (i := 14) nd rfl (Or.inl rfl)) pgs_nil))))
  (pss_cons (ps_set (i := 8) nd rfl (Or.inl rfl) (pe_or (pv 8) (pe_one (pe_and (pe_cmpR op_eq (pe_ix ix_tup (pv 13) pe_int (fun _ _ => rfl)) pe_int (nomark _)) (pe_one (pe_cmpR op_ne (pv 10) pe_int (nomark _)))))))
  (pss_one (ps_if ((pw_or (pt_cmpR op_eq (pv 10) pe_int (nomark _)) (pw_or1 (pt_cmpR op_eq (pe_f G_bit hr (by decide) T.glo_bit pass0 (pa_cons (pe_ix ix_tup (pv 13) pe_int (fun _ _ => rfl)) (pa_cons pe_int pa_nil))) pe_int (nomark _)))).pt) (pss_one (ps_set (i := 12) nd rfl (Or.inl rfl) (pe_op op_add (pe_op op_add (pe_gi T.int_MOVER_COLOURS) (pe_op op_mul pe_int (pe_op op_mod (pe_ix ix_tup (pv 13) pe_int (fun _ _ => rfl)) pe_int))) (pv 14)))) pss_nil)))) pss_nil)
  (pss_one (ps_expr (pe_bm PySem.F.plainAttrs_list PySem.F.slot_list_append PySem.F.type_list_append mt_append (pv 7) (pa_cons (pe_op op_mod (pe_ix ix_list (pv 0) (pv 12) (fun _ _ => rfl)) pe_int) pa_nil)))))))
  (pss_one (ps_ret (pe_tup (pa_cons (pv 7) (pa_cons (pv 8) pa_nil))))))))
theorem fn_dots_of (T : Txt K mg) (G_mover_dots : Fn P w K mg base CX0 4 (He.fAd K ("mover_dots", none)) ["sheet", "movers", "line", "first", "last"] (sp_mover_dots K)) (G_ground_dots : Fn P w K mg base CX0 3 (He.fAd K ("ground_dots", none)) ["sheet", "settings", "line", "first", "last"] (sp_ground_dots K)) (G_bit : Fn P w K mg base CX0 1 (He.fAd K ("bit", none)) ["byte", "k"] (sp_bit K)) (pure : ∀ vs H Q E, sp_dots_of K vs H Q E → vs.length = 6 ∧ t_dots_of K { nx := fun _ H' => Q .non H', rt := Q } (start N_dots_of vs) H) : Fn P w K mg base CX0 5 (He.fAd K ("dots_of", none)) ["sheet", "settings", "movers", "line", "first", "last"] (sp_dots_of K) := by
  obtain ⟨fd, F⟩ := T.def_dots_of
  refine ⟨fd, F.ok sc_dots_of (fun vs H Q E h => (pure vs H Q E h).1) (fun cdv A outer s H vs Q E hr h => ⟨t_dots_of K, PSs.nox (d_dots_of T G_mover_dots G_ground_dots G_bit hr), (pure vs H Q E h).2⟩), F.bindsN (fun _ _ _ _ _ _ us hl => match us, hl with | [_, _, _, _, _, _], _ => rfl), F.kp⟩
theorem d_LatePicture__draw (T : Txt K mg) (G_dots_of : Fn P w K mg base CX0 5 (He.fAd K ("dots_of", none)) ["sheet", "settings", "movers", "line", "first", "last"] (sp_dots_of K)) (hr : Room 5 (A.deeper (envOfC "LatePicture._draw" (defScope s_LatePicture__draw) s.heap.objs.size f cdv))) : PSs (cxOf CX0 P w K mg base N_LatePicture__draw "LatePicture._draw" (defScope s_LatePicture__draw) f cdv A outer s H E).nox (defBody s_LatePicture__draw) (t_LatePicture__draw K) :=
  have nd := sc_LatePicture__draw.nd
  pss_cons (ps_asg (pe_f G_dots_of hr (by decide) T.glo_dots_of pass0 (pa_cons (pe_fld (pv 0) rfl) (pa_cons (pe_fld (pv 0) rfl) (pa_cons (pe_fld (pv 0) rfl) (pa_cons (pv 1) (pa_cons (pv 2) (pa_cons (pv 3) pa_nil))))))) (pg_tup rfl (pgs_cons (pg_name (i := 4) nd rfl (Or.inl rfl)) (pgs_cons (pg_name (i := 5) nd rfl (Or.inl rfl)) pgs_nil))))
  (pss_cons (ps_for PassesOwn.never rfl (pi_enum rfl T.free_enumerate (pa_cons (pv 4) pa_nil)) (pg_tup rfl (pgs_cons (pg_name (i := 6) nd rfl (Or.inl rfl)) (pgs_cons (pg_name (i := 7) nd rfl (Or.inl rfl)) pgs_nil))) (pss_one (ps_asg (pv 7) (pg_sub (pe_fld (pv 0) rfl) (pe_op op_add (pe_op op_add (pe_op op_mul (pe_gi T.int_WIDE) (pv 1)) (pv 2)) (pv 6)) set_list))))
  (pss_one (ps_if (pt_val (pv 5)) (pss_one (ps_fld (pv 0) (pe_tup (pa_cons (pe_ix ix_tup (pe_fld (pv 0) rfl) pe_int (fun _ _ => rfl)) (pa_cons pe_bl (pa_cons (pe_ix ix_tup (pe_fld (pv 0) rfl) pe_int (fun _ _ => rfl)) pa_nil)))) rfl)) pss_nil)))
theorem fn_LatePicture__draw (T : Txt K mg) (G_dots_of : Fn P w K mg base CX0 5 (He.fAd K ("dots_of", none)) ["sheet", "settings", "movers", "line", "first", "last"] (sp_dots_of K)) (pure : ∀ vs H Q E, sp_LatePicture__draw K vs H Q E → vs.length = 4 ∧ t_LatePicture__draw K { nx := fun _ H' => Q .non H', rt := Q } (start N_LatePicture__draw vs) H) : Fn P w K mg base CX0 6 (He.fAd K ("LatePicture", some "_draw")) ["self", "line", "first", "last"] (sp_LatePicture__draw K) := by
  obtain ⟨fd, F⟩ := T.def_LatePicture__draw
  refine ⟨fd, F.ok sc_LatePicture__draw (fun vs H Q E h => (pure vs H Q E h).1) (fun cdv A outer s H vs Q E hr h => ⟨t_LatePicture__draw K, PSs.nox (d_LatePicture__draw T G_dots_of hr), (pure vs H Q E h).2⟩), F.bindsN (fun _ _ _ _ _ _ us hl => match us, hl with | [_, _, _, _], _ => rfl), F.kp⟩
theorem d_LatePicture__run (T : Txt K mg) (G_Picture__begin_LatePicture : Fn P w K mg base CX0 3 (He.fAd K ("LatePicture", some "_begin")) ["self", "line"] (sp_Picture__begin_LatePicture K)) (G_bit : Fn P w K mg base CX0 1 (He.fAd K ("bit", none)) ["byte", "k"] (sp_bit K)) (G_LatePicture__draw : Fn P w K mg base CX0 6 (He.fAd K ("LatePicture", some "_draw")) ["self", "line", "first", "last"] (sp_LatePicture__draw K)) (hr : Room 6 (A.deeper (envOfC "LatePicture._run" (defScope s_LatePicture__run) s.heap.objs.size f cdv))) : PSs (cxOf CX0 P w K mg base N_LatePicture__run "LatePicture._run" (defScope s_LatePicture__run) f cdv A outer s H E).nox (defBody s_LatePicture__run) (t_LatePicture__run K) :=
  have nd := sc_LatePicture__run.nd
  pss_cons (ps_set (i := 4) nd rfl (Or.inl rfl) (pe_lst pa_nil))
  (pss_cons (ps_if ((pw_and (pt_cmpR op_eq (pv 2) pe_int (nomark _)) (pw_and1 (pt_val (pe_m G_Picture__begin_LatePicture hr (by decide) T.cls_LatePicture T.meth_LatePicture__begin pass0 (pv 0) (pa_cons (pv 1) pa_nil))))).pt) (pss_one (ps_expr (pe_bm PySem.F.plainAttrs_list PySem.F.slot_list_append PySem.F.type_list_append mt_append (pv 4) (pa_cons pe_int pa_nil)))) pss_nil)
  (pss_cons (ps_if ((pw_and (pt_chain op_le op_lt (pv 2) (pe_gi T.int_WIDE) (pv 3)) (pw_and (pt_cmpR op_eq (pv 1) (pe_ix ix_tup (pe_fld (pv 0) rfl) pe_int (fun _ _ => rfl)) (nomark _)) (pw_and1 (pt_cmpR op_eq (pe_f G_bit hr (by decide) T.glo_bit pass0 (pa_cons (pe_ix ix_tup (pe_fld (pv 0) rfl) pe_int (fun _ _ => rfl)) (pa_cons pe_int pa_nil))) pe_int (nomark _))))).pt) (pss_one (ps_expr (pe_bm PySem.F.plainAttrs_list PySem.F.slot_list_append PySem.F.type_list_append mt_append (pv 4) (pa_cons pe_int pa_nil)))) pss_nil)
  (pss_cons (ps_if ((pw_and (pt_cmpR op_lt (pv 1) (pe_gi T.int_LINES) (nomark _)) (pw_and1 (pt_cmpR op_lt (pv 2) (pe_gi T.int_WIDE) (nomark _)))).pt) (pss_one (ps_expr (pe_m G_LatePicture__draw hr (by decide) T.cls_LatePicture T.meth_LatePicture__draw pass0 (pv 0) (pa_cons (pv 1) (pa_cons (pv 2) (pa_cons (pe_callB (call_min2 rfl) (by rfl) T.free_min (by decide +kernel) (pa_cons (pv 3) (pa_cons (pe_gi T.int_WIDE) pa_nil))) pa_nil)))))) pss_nil)
  (pss_one (ps_ret (pv 4))))))
theorem fn_LatePicture__run (T : Txt K mg) (G_Picture__begin_LatePicture : Fn P w K mg base CX0 3 (He.fAd K ("LatePicture", some "_begin")) ["self", "line"] (sp_Picture__begin_LatePicture K)) (G_bit : Fn P w K mg base CX0 1 (He.fAd K ("bit", none)) ["byte", "k"] (sp_bit K)) (G_LatePicture__draw : Fn P w K mg base CX0 6 (He.fAd K ("LatePicture", some "_draw")) ["self", "line", "first", "last"] (sp_LatePicture__draw K)) (pure : ∀ vs H Q E, sp_LatePicture__run K vs H Q E → vs.length = 4 ∧ t_LatePicture__run K { nx := fun _ H' => Q .non H', rt := Q } (start N_LatePicture__run vs) H) : Fn P w K mg base CX0 7 (He.fAd K ("LatePicture", some "_run")) ["self", "line", "first", "last"] (sp_LatePicture__run K) := by
  obtain ⟨fd, F⟩ := T.def_LatePicture__run
  refine ⟨fd, F.ok sc_LatePicture__run (fun vs H Q E h => (pure vs H Q E h).1) (fun cdv A outer s H vs Q E hr h => ⟨t_LatePicture__run K, PSs.nox (d_LatePicture__run T G_Picture__begin_LatePicture G_bit G_LatePicture__draw hr), (pure vs H Q E h).2⟩), F.bindsN (fun _ _ _ _ _ _ us hl => match us, hl with | [_, _, _, _], _ => rfl), F.kp⟩
theorem d_LatePicture_live_to (T : Txt K mg) (G_column_of : Fn P w K mg base CX0 1 (He.fAd K ("column_of", none)) ["now"] (sp_column_of K)) (G_LatePicture__run : Fn P w K mg base CX0 7 (He.fAd K ("LatePicture", some "_run")) ["self", "line", "first", "last"] (sp_LatePicture__run K)) (G_line_of : Fn P w K mg base CX0 1 (He.fAd K ("line_of", none)) ["now"] (sp_line_of K)) (hr : Room 7 (A.deeper (envOfC "LatePicture.live_to" (defScope s_LatePicture_live_to) s.heap.objs.size f cdv))) : PSs (cxOf CX0 P w K mg base N_LatePicture_live_to "LatePicture.live_to" (defScope s_LatePicture_live_to) f cdv A outer s H E).nox (defBody s_LatePicture_live_to) (t_LatePicture_live_to K) :=
  have nd := sc_LatePicture_live_to.nd
  pss_cons (ps_set (i := 2) nd rfl (Or.inl rfl) (pe_lst pa_nil))
  (pss_cons (ps_while PassesOwn.never (pt_cmpR op_lt (pe_fld (pv 0) rfl) (pv 1) (nomark _)) (pss_cons (ps_set (i := 3) nd rfl (Or.inl rfl) (pe_f G_column_of hr (by decide) T.glo_column_of pass0 (pa_cons (pe_fld (pv 0) rfl) pa_nil)))
  (pss_cons (ps_set (i := 4) nd rfl (Or.inl rfl) (pe_callB (call_min2 rfl) (by rfl) T.free_min (by decide +kernel) (pa_cons (pe_gi T.int_COLUMNS) (pa_cons (pe_op op_sub (pe_op op_add (pv 3) (pv 1)) (pe_fld (pv 0) rfl)) pa_nil))))
  (pss_cons (ps_expr (pe_bm PySem.F.plainAttrs_list PySem.F.slot_list_extend PySem.F.type_list_extend mt_extend (pv 2) (pa_cons (pe_m G_LatePicture__run hr (by decide) T.cls_LatePicture T.meth_LatePicture__run pass0 (pv 0) (pa_cons (pe_f G_line_of hr (by decide) T.glo_line_of pass0 (pa_cons (pe_fld (pv 0) rfl) pa_nil)) (pa_cons (pv 3) (pa_cons (pv 4) pa_nil)))) pa_nil)))
  (pss_one (ps_fld (pv 0) (pe_op op_sub (pe_op op_add (pe_fld (pv 0) rfl) (pv 4)) (pv 3)) rfl))))))
  (pss_one (ps_ret (pe_sortedSet rfl T.free_sorted rfl T.free_set (pv 2)))))
theorem fn_LatePicture_live_to (T : Txt K mg) (G_column_of : Fn P w K mg base CX0 1 (He.fAd K ("column_of", none)) ["now"] (sp_column_of K)) (G_LatePicture__run : Fn P w K mg base CX0 7 (He.fAd K ("LatePicture", some "_run")) ["self", "line", "first", "last"] (sp_LatePicture__run K)) (G_line_of : Fn P w K mg base CX0 1 (He.fAd K ("line_of", none)) ["now"] (sp_line_of K)) (pure : ∀ vs H Q E, sp_LatePicture_live_to K vs H Q E → vs.length = 2 ∧ t_LatePicture_live_to K { nx := fun _ H' => Q .non H', rt := Q } (start N_LatePicture_live_to vs) H) : Fn P w K mg base CX0 8 (He.fAd K ("LatePicture", some "live_to")) ["self", "goal"] (sp_LatePicture_live_to K) := by
  obtain ⟨fd, F⟩ := T.def_LatePicture_live_to
  refine ⟨fd, F.ok sc_LatePicture_live_to (fun vs H Q E h => (pure vs H Q E h).1) (fun cdv A outer s H vs Q E hr h => ⟨t_LatePicture_live_to K, PSs.nox (d_LatePicture_live_to T G_column_of G_LatePicture__run G_line_of hr), (pure vs H Q E h).2⟩), F.bindsN (fun _ _ _ _ _ _ us hl => match us, hl with | [_, _], _ => rfl), F.kp⟩
theorem d__law_draws (T : Txt K mg)  (hr : Room 0 (A.deeper (envOfC "_law_draws" (defScope s__law_draws) s.heap.objs.size f cdv))) : PSs (cxOf CX0 P w K mg base N__law_draws "_law_draws" (defScope s__law_draws) f cdv A outer s H E).nox (defBody s__law_draws) (t__law_draws K) :=
  have nd := sc__law_draws.nd
  pss_cons (ps_set (i := 1) nd rfl (Or.inl rfl) (pe_lst pa_nil))
  (pss_cons (ps_for PassesOwn.never rfl (pi_range1 rfl T.free_range (pa_cons (pe_callB (call_min2 rfl) (by rfl) T.free_min (by decide +kernel) (pa_cons pe_int (pa_cons (pe_callB call_len (by rfl) T.free_len (by decide +kernel) (pa_cons (pv 0) pa_nil)) pa_nil))) pa_nil)) (pg_name (i := 2) nd rfl (Or.inl rfl)) (pss_cons (ps_set (i := 3) nd rfl (Or.inl rfl) (pe_callB call_abs (by rfl) T.free_abs (by decide +kernel) (pa_cons (pe_ix ix_list (pv 0) (pv 2) (fun _ _ => rfl)) pa_nil)))
  (pss_one (ps_if (pt_cmpR op_ge (pv 3) (pe_op op_pow pe_int pe_int) (nomark _)) (pss_one (ps_for PassesOwn.never rfl (pi_range1 rfl T.free_range (pa_cons pe_int pa_nil)) (pg_name (i := 4) nd rfl (Or.inl rfl)) (pss_one (ps_if (pt_cmpR op_gt (pv 3) pe_int (nomark _)) (pss_cons (ps_expr (pe_bm PySem.F.plainAttrs_list PySem.F.slot_list_append PySem.F.type_list_append mt_append (pv 1) (pa_cons (pe_op op_mod (pe_callTy call_int1 (by rfl) T.free_int (by decide +kernel) (pa_cons (pv 3) pa_nil)) pe_int) pa_nil)))
  (pss_one (ps_set (i := 3) nd rfl (Or.inl rfl) (pe_op op_fdiv (pv 3) pe_int)))) pss_nil)))) (pss_cons (ps_set (i := 5) nd rfl (Or.inl rfl) (pe_op op_mod (pe_callTy call_int1 (by rfl) T.free_int (by decide +kernel) (pa_cons (pe_op op_add (pe_op op_mul (pv 3) pe_int) (pe_op op_mul (pe_op op_add (pv 2) pe_int) pe_int)) pa_nil)) pe_int))
  (pss_cons (ps_set (i := 5) nd rfl (Or.inl rfl) (pe_op op_mod (pe_callTy call_int1 (by rfl) T.free_int (by decide +kernel) (pa_cons (pe_op op_add (pe_op op_add (pe_op op_mul (pv 5) pe_int) (pe_op op_mul pe_int (pv 2))) pe_int) pa_nil)) pe_int))
  (pss_cons (ps_expr (pe_bm PySem.F.plainAttrs_list PySem.F.slot_list_append PySem.F.type_list_append mt_append (pv 1) (pa_cons (pe_op op_mod (pe_callTy call_int1 (by rfl) T.free_int (by decide +kernel) (pa_cons (pv 5) pa_nil)) pe_int) pa_nil)))
  (pss_one (ps_expr (pe_bm PySem.F.plainAttrs_list PySem.F.slot_list_append PySem.F.type_list_append mt_append (pv 1) (pa_cons (pe_op op_mod (pe_callTy call_int1 (by rfl) T.free_int (by decide +kernel) (pa_cons (pe_op op_fdiv (pv 5) pe_int) pa_nil)) pe_int) pa_nil)))))))))))
  (pss_one (ps_ret (pv 1))))
theorem fn__law_draws (T : Txt K mg)  (pure : ∀ vs H Q E, sp__law_draws K vs H Q E → vs.length = 1 ∧ t__law_draws K { nx := fun _ H' => Q .non H', rt := Q } (start N__law_draws vs) H) : Fn P w K mg base CX0 1 (He.fAd K ("_law_draws", none)) ["script"] (sp__law_draws K) := by
  obtain ⟨fd, F⟩ := T.def__law_draws
  refine ⟨fd, F.ok sc__law_draws (fun vs H Q E h => (pure vs H Q E h).1) (fun cdv A outer s H vs Q E hr h => ⟨t__law_draws K, PSs.nox (d__law_draws T  hr), (pure vs H Q E h).2⟩), F.bindsN (fun _ _ _ _ _ _ us hl => match us, hl with | [_], _ => rfl), F.kp⟩
theorem d__law_mix (T : Txt K mg)  (hr : Room 0 (A.deeper (envOfC "_law_mix" (defScope s__law_mix) s.heap.objs.size f cdv))) : PSs (cxOf CX0 P w K mg base N__law_mix "_law_mix" (defScope s__law_mix) f cdv A outer s H E).nox (defBody s__law_mix) (t__law_mix K) :=
  have nd := sc__law_mix.nd
  pss_cons (ps_set (i := 3) nd rfl (Or.inl rfl) pe_int)
  (pss_cons (ps_if (pt_cmpR op_gt (pe_callB call_len (by rfl) T.free_len (by decide +kernel) (pa_cons (pv 0) pa_nil)) pe_int (nomark _)) (pss_one (ps_set (i := 3) nd rfl (Or.inl rfl) (pe_ix ix_list (pv 0) (pe_op op_mod (pe_callTy call_int1 (by rfl) T.free_int (by decide +kernel) (pa_cons (pv 1) pa_nil)) (pe_callB call_len (by rfl) T.free_len (by decide +kernel) (pa_cons (pv 0) pa_nil))) (fun _ _ => rfl)))) pss_nil)
  (pss_cons (ps_if (pt_cmpR op_lt (pv 1) (pe_callB call_len (by rfl) T.free_len (by decide +kernel) (pa_cons (pv 0) pa_nil)) (nomark _)) (pss_one (ps_ret (pe_op op_mod (pe_callTy call_int1 (by rfl) T.free_int (by decide +kernel) (pa_cons (pv 3) pa_nil)) (pv 2)))) pss_nil)
  (pss_one (ps_ret (pe_op op_mod (pe_callTy call_int1 (by rfl) T.free_int (by decide +kernel) (pa_cons (pe_op op_fdiv (pe_callTy call_int1 (by rfl) T.free_int (by decide +kernel) (pa_cons (pe_op op_add (pe_op op_mul (pv 3) pe_int) (pe_op op_mul (pv 1) pe_int)) pa_nil)) pe_int) pa_nil)) (pv 2))))))
theorem fn__law_mix (T : Txt K mg)  (pure : ∀ vs H Q E, sp__law_mix K vs H Q E → vs.length = 3 ∧ t__law_mix K { nx := fun _ H' => Q .non H', rt := Q } (start N__law_mix vs) H) : Fn P w K mg base CX0 1 (He.fAd K ("_law_mix", none)) ["draws", "k", "many"] (sp__law_mix K) := by
  obtain ⟨fd, F⟩ := T.def__law_mix
  refine ⟨fd, F.ok sc__law_mix (fun vs H Q E h => (pure vs H Q E h).1) (fun cdv A outer s H vs Q E hr h => ⟨t__law_mix K, PSs.nox (d__law_mix T  hr), (pure vs H Q E h).2⟩), F.bindsN (fun _ _ _ _ _ _ us hl => match us, hl with | [_, _, _], _ => rfl), F.kp⟩
theorem d__law_bit (T : Txt K mg)  (hr : Room 0 (A.deeper (envOfC "_law_bit" (defScope s__law_bit) s.heap.objs.size f cdv))) : PSs (cxOf CX0 P w K mg base N__law_bit "_law_bit" (defScope s__law_bit) f cdv A outer s H E).nox (defBody s__law_bit) (t__law_bit K) :=
  have nd := sc__law_bit.nd
  pss_one (ps_ret (pe_op op_mod (pe_callTy call_int1 (by rfl) T.free_int (by decide +kernel) (pa_cons (pe_op op_fdiv (pv 0) (pe_ix ix_list (pe_lst (pa_cons pe_int (pa_cons pe_int (pa_cons pe_int (pa_cons pe_int (pa_cons pe_int (pa_cons pe_int (pa_cons pe_int (pa_cons pe_int pa_nil))))))))) (pv 1) (fun _ _ => rfl))) pa_nil)) pe_int))
theorem fn__law_bit (T : Txt K mg)  (pure : ∀ vs H Q E, sp__law_bit K vs H Q E → vs.length = 2 ∧ t__law_bit K { nx := fun _ H' => Q .non H', rt := Q } (start N__law_bit vs) H) : Fn P w K mg base CX0 1 (He.fAd K ("_law_bit", none)) ["byte", "place"] (sp__law_bit K) := by
  obtain ⟨fd, F⟩ := T.def__law_bit
  refine ⟨fd, F.ok sc__law_bit (fun vs H Q E h => (pure vs H Q E h).1) (fun cdv A outer s H vs Q E hr h => ⟨t__law_bit K, PSs.nox (d__law_bit T  hr), (pure vs H Q E h).2⟩), F.bindsN (fun _ _ _ _ _ _ us hl => match us, hl with | [_, _], _ => rfl), F.kp⟩
theorem d__law_pixel (T : Txt K mg) (G__law_bit : Fn P w K mg base CX0 1 (He.fAd K ("_law_bit", none)) ["byte", "place"] (sp__law_bit K)) (hr : Room 1 (A.deeper (envOfC "_law_pixel" (defScope s__law_pixel) s.heap.objs.size f cdv))) : PSs (cxOf CX0 P w K mg base N__law_pixel "_law_pixel" (defScope s__law_pixel) f cdv A outer s H E).nox (defBody s__law_pixel) (t__law_pixel K) :=
  have nd := sc__law_pixel.nd
  pss_cons (ps_set (i := 4) nd rfl (Or.inl rfl) (pe_op op_add (pe_op op_add pe_int (pe_op op_mul pe_int (pv 1))) (pe_op op_mul pe_int (pv 2))))
  (pss_one (ps_ret (pe_op op_add (pe_f G__law_bit hr (by decide) T.glo__law_bit pass0 (pa_cons (pe_ix ix_list (pv 0) (pv 4) (fun _ _ => rfl)) (pa_cons (pe_op op_sub pe_int (pv 3)) pa_nil))) (pe_op op_mul pe_int (pe_f G__law_bit hr (by decide) T.glo__law_bit pass0 (pa_cons (pe_ix ix_list (pv 0) (pe_op op_add (pv 4) pe_int) (fun _ _ => rfl)) (pa_cons (pe_op op_sub pe_int (pv 3)) pa_nil)))))))
theorem fn__law_pixel (T : Txt K mg) (G__law_bit : Fn P w K mg base CX0 1 (He.fAd K ("_law_bit", none)) ["byte", "place"] (sp__law_bit K)) (pure : ∀ vs H Q E, sp__law_pixel K vs H Q E → vs.length = 4 ∧ t__law_pixel K { nx := fun _ H' => Q .non H', rt := Q } (start N__law_pixel vs) H) : Fn P w K mg base CX0 2 (He.fAd K ("_law_pixel", none)) ["sheet", "tile", "row", "column"] (sp__law_pixel K) := by
  obtain ⟨fd, F⟩ := T.def__law_pixel
  refine ⟨fd, F.ok sc__law_pixel (fun vs H Q E h => (pure vs H Q E h).1) (fun cdv A outer s H vs Q E hr h => ⟨t__law_pixel K, PSs.nox (d__law_pixel T G__law_bit hr), (pure vs H Q E h).2⟩), F.bindsN (fun _ _ _ _ _ _ us hl => match us, hl with | [_, _, _, _], _ => rfl), F.kp⟩
theorem d__law_showing (T : Txt K mg) (G__law_pixel : Fn P w K mg base CX0 2 (He.fAd K ("_law_pixel", none)) ["sheet", "tile", "row", "column"] (sp__law_pixel K)) (G__law_bit : Fn P w K mg base CX0 1 (He.fAd K ("_law_bit", none)) ["byte", "place"] (sp__law_bit K)) (hr : Room 2 (A.deeper (envOfC "_law_showing" (defScope s__law_showing) s.heap.objs.size f cdv))) : PSs (cxOf CX0 P w K mg base N__law_showing "_law_showing" (defScope s__law_showing) f cdv A outer s H E).nox (defBody s__law_showing) (t__law_showing K) :=
  have nd := sc__law_showing.nd
  pss_cons (ps_for PassesOwn.never rfl (pi_list (pv 1)) (pg_lst rfl (pgs_cons (pg_name (i := 4) nd rfl (Or.inl rfl)) (pgs_cons (pg_name (i := 5) nd rfl (Or.inl rfl)) (pgs_cons (pg_name (i := 6) nd rfl (Or.inl rfl)) (pgs_cons (pg_name (i := 7) nd rfl (Or.inl rfl)) (pgs_cons (pg_name (i := 8) nd rfl (Or.inl rfl)) pgs_nil)))))) (pss_one (ps_if (pt_chain op_le op_lt (pv 7) (pv 2) (pe_op op_add (pv 7) pe_int)) (pss_cons (ps_par (i := 9) (j := 10) rfl nd rfl rfl (by decide) rfl rfl (pa_cons (pe_op op_sub (pv 3) (pv 4)) (pa_cons (pe_op op_sub (pv 2) (pv 7)) pa_nil)) rfl)
  (pss_cons (ps_set (i := 11) nd rfl (Or.inl rfl) (pe_f G__law_pixel hr (by decide) T.glo__law_pixel pass0 (pa_cons (pv 0) (pa_cons (pe_op op_mod (pe_callTy call_int1 (by rfl) T.free_int (by decide +kernel) (pa_cons (pv 5) pa_nil)) pe_int) (pa_cons (pe_ix ix_list (pe_lst (pa_cons (pv 9) (pa_cons (pe_op op_sub pe_int (pv 9)) pa_nil))) (pe_f G__law_bit hr (by decide) T.glo__law_bit pass0 (pa_cons (pv 6) (pa_cons pe_int pa_nil))) (fun _ _ => rfl)) (pa_cons (pe_ix ix_list (pe_lst (pa_cons (pv 10) (pa_cons (pe_op op_sub pe_int (pv 10)) pa_nil))) (pe_f G__law_bit hr (by decide) T.glo__law_bit pass0 (pa_cons (pv 6) (pa_cons pe_int pa_nil))) (fun _ _ => rfl)) pa_nil))))))
  (pss_one (ps_if (pt_cmpR op_gt (pv 11) pe_int (nomark _)) (pss_one (ps_ret (pe_lst (pa_cons (pe_tup (pa_cons (pv 8) (pa_cons (pv 6) (pa_cons (pv 11) pa_nil)))) pa_nil)))) pss_nil)))) pss_nil)))
  (pss_one (ps_ret (pe_lst pa_nil)))
theorem fn__law_showing (T : Txt K mg) (G__law_pixel : Fn P w K mg base CX0 2 (He.fAd K ("_law_pixel", none)) ["sheet", "tile", "row", "column"] (sp__law_pixel K)) (G__law_bit : Fn P w K mg base CX0 1 (He.fAd K ("_law_bit", none)) ["byte", "place"] (sp__law_bit K)) (pure : ∀ vs H Q E, sp__law_showing K vs H Q E → vs.length = 4 ∧ t__law_showing K { nx := fun _ H' => Q .non H', rt := Q } (start N__law_showing vs) H) : Fn P w K mg base CX0 3 (He.fAd K ("_law_showing", none)) ["sheet", "there", "column", "line"] (sp__law_showing K) := by
  obtain ⟨fd, F⟩ := T.def__law_showing
  refine ⟨fd, F.ok sc__law_showing (fun vs H Q E h => (pure vs H Q E h).1) (fun cdv A outer s H vs Q E hr h => ⟨t__law_showing K, PSs.nox (d__law_showing T G__law_pixel G__law_bit hr), (pure vs H Q E h).2⟩), F.bindsN (fun _ _ _ _ _ _ us hl => match us, hl with | [_, _, _, _], _ => rfl), F.kp⟩
theorem d__law_due (T : Txt K mg) (G__law_bit : Fn P w K mg base CX0 1 (He.fAd K ("_law_bit", none)) ["byte", "place"] (sp__law_bit K)) (G__law_pixel : Fn P w K mg base CX0 2 (He.fAd K ("_law_pixel", none)) ["sheet", "tile", "row", "column"] (sp__law_pixel K)) (G__law_showing : Fn P w K mg base CX0 3 (He.fAd K ("_law_showing", none)) ["sheet", "there", "column", "line"] (sp__law_showing K)) (hr : Room 3 (A.deeper (envOfC "_law_due" (defScope s__law_due) s.heap.objs.size f cdv))) : PSs (cxOf CX0 P w K mg base N__law_due "_law_due" (defScope s__law_due) f cdv A outer s H E).nox (defBody s__law_due) (t__law_due K) :=
  have nd := sc__law_due.nd
  pss_cons (ps_asg (pv 1) (pg_tup rfl (pgs_cons (pg_name (i := 2) nd rfl (Or.inl rfl)) (pgs_cons (pg_name (i := 3) nd rfl (Or.inl rfl)) (pgs_cons (pg_name (i := 4) nd rfl (Or.inl rfl)) (pgs_cons (pg_name (i := 5) nd rfl (Or.inr rfl)) pgs_nil))))))
  (pss_cons (ps_par3 (i := 6) (j := 7) (l := 8) rfl nd rfl rfl rfl (by decide) (by decide) (by decide) rfl rfl rfl (pa_cons (pe_lst pa_nil) (pa_cons pe_bl (pa_cons pe_bl pa_nil))) rfl)
  (pss_cons (ps_for PassesOwn.never rfl (pi_range1 rfl T.free_range (pa_cons pe_int pa_nil)) (pg_name (i := 9) nd rfl (Or.inr rfl)) (pss_cons (ps_setLc (i := 11) (own := [("k", 10)]) (g := gName 10) rfl nd rfl rfl (sw_true rfl rfl rfl (by decide +kernel)) (pi_range1 rfl T.free_range (pa_cons pe_int pa_nil)) (blkOk_by (own := [("k", 10)]) (N := N__law_due) (sc := defScope s__law_due) (by decide +kernel)) (fun _ _ _ _ _ => pg_name (i := 10) nd rfl (Or.inl rfl)) (fun _ _ _ _ _ => pts_one ((pw_and (pt_cmpR op_eq (pe_f G__law_bit hr (by decide) T.glo__law_bit pass0 (pa_cons (pv 5) (pa_cons pe_int pa_nil))) pe_int (nomark _)) (pw_and1 (pt_chain op_le op_lt (pe_ix ix_list (pv 0) (pe_op op_add pe_int (pe_op op_mul pe_int (pv 10))) (fun _ _ => rfl)) (pv 9) (pe_op op_add (pe_ix ix_list (pv 0) (pe_op op_add pe_int (pe_op op_mul pe_int (pv 10))) (fun _ _ => rfl)) pe_int)))).pt)) (fun _ _ _ _ _ => pe_op op_cat (pe_slice sl_list (pv 0) (po_some (pe_op op_add pe_int (pe_op op_mul pe_int (pv 10)))) (po_some (pe_op op_add pe_int (pe_op op_mul pe_int (pv 10))))) (pe_lst (pa_cons (pv 10) pa_nil))))
  (pss_cons (ps_set (i := 8) nd rfl (Or.inl rfl) (pe_or (pv 8) (pe_one (pe_cmpR op_gt (pe_callB call_len (by rfl) T.free_len (by decide +kernel) (pa_cons (pv 11) pa_nil)) pe_int (nomark _)))))
  (pss_one (ps_for PassesOwn.never rfl (pi_range1 rfl T.free_range (pa_cons pe_int pa_nil)) (pg_name (i := 12) nd rfl (Or.inl rfl)) (pss_cons (ps_par (i := 13) (j := 14) rfl nd rfl rfl (by decide) rfl rfl (pa_cons (pe_op op_mod (pe_callTy call_int1 (by rfl) T.free_int (by decide +kernel) (pa_cons (pe_op op_add (pv 12) (pv 2)) pa_nil)) pe_int) (pa_cons (pe_op op_mod (pe_callTy call_int1 (by rfl) T.free_int (by decide +kernel) (pa_cons (pe_op op_add (pv 9) (pv 3)) pa_nil)) pe_int) pa_nil)) rfl)
  (pss_cons (ps_set (i := 15) nd rfl (Or.inl rfl) (pe_ix ix_list (pv 0) (pe_op op_add (pe_op op_mul pe_int (pe_op op_fdiv (pv 14) pe_int)) (pe_op op_fdiv (pv 13) pe_int)) (fun _ _ => rfl)))
  (pss_cons (ps_set (i := 16) nd rfl (Or.inl rfl) (pe_op op_mul (pe_f G__law_pixel hr (by decide) T.glo__law_pixel pass0 (pa_cons (pv 0) (pa_cons (pe_op op_mod (pe_callTy call_int1 (by rfl) T.free_int (by decide +kernel) (pa_cons (pv 15) pa_nil)) pe_int) (pa_cons (pe_op op_mod (pe_callTy call_int1 (by rfl) T.free_int (by decide +kernel) (pa_cons (pv 14) pa_nil)) pe_int) (pa_cons (pe_op op_mod (pe_callTy call_int1 (by rfl) T.free_int (by decide +kernel) (pa_cons (pv 13) pa_nil)) pe_int) pa_nil))))) (pe_f G__law_bit hr (by decide) T.glo__law_bit pass0 (pa_cons (pv 5) (pa_cons pe_int pa_nil)))))
  (pss_cons (ps_set (i := 17) nd rfl (Or.inl rfl) (pe_op op_add pe_int (pe_op op_mul (pe_op op_add (pe_op op_mul pe_int (pe_op op_mod (pe_callTy call_int1 (by rfl) T.free_int (by decide +kernel) (pa_cons (pe_op op_fdiv (pv 15) pe_int) pa_nil)) pe_int)) (pv 16)) (pe_callTy call_int1 (by rfl) T.free_int (by decide +kernel) (pa_cons (pe_cmpR op_gt (pv 16) pe_int (nomark _)) pa_nil)))))
  (pss_cons (ps_for PassesOwn.never rfl (pi_list (pe_f G__law_showing hr (by decide) T.glo__law_showing pass0 (pa_cons (pv 0) (pa_cons (pe_slice sl_list (pv 11) po_none (po_some pe_int)) (pa_cons (pv 12) (pa_cons (pv 9) pa_nil)))))) (pg_tup rfl (pgs_cons (pg_name (i := 10) nd rfl (Or.inl rfl)) (pgs_cons (pg_name (i := 18) nd rfl (Or.inl rfl)) (pgs_cons (pg_name (i := 19) nd rfl (Or.inl rfl)) pgs_nil)))) (pss_cons (ps_set (i := 7) nd rfl (Or.inl rfl) (pe_or (pv 7) (pe_one (pe_and (pe_cmpR op_eq (pv 10) pe_int (nomark _)) (pe_one (pe_cmpR op_gt (pv 16) pe_int (nomark _)))))))
  (pss_one (ps_if ((pw_or (pt_cmpR op_eq (pe_f G__law_bit hr (by decide) T.glo__law_bit pass0 (pa_cons (pv 18) (pa_cons pe_int pa_nil))) pe_int (nomark _)) (pw_or1 (pt_cmpR op_eq (pv 16) pe_int (nomark _)))).pt) (pss_one (ps_set (i := 17) nd rfl (Or.inl rfl) (pe_op op_add (pe_op op_add pe_int (pe_op op_mul pe_int (pe_op op_mod (pe_callTy call_int1 (by rfl) T.free_int (by decide +kernel) (pa_cons (pv 18) pa_nil)) pe_int))) (pv 19)))) pss_nil))))
  (pss_one (ps_expr (pe_bm PySem.F.plainAttrs_list PySem.F.slot_list_append PySem.F.type_list_append mt_append (pv 6) (pa_cons (pe_op op_mod (pe_callTy call_int1 (by rfl) T.free_int (by decide +kernel) (pa_cons (pe_ix ix_list (pv 0) (pv 17) (fun _ _ => rfl)) pa_nil)) pe_int) pa_nil))))))))))))))
  (pss_one (ps_ret (pe_tup (pa_cons (pv 6) (pa_cons (pv 7) (pa_cons (pv 8) pa_nil))))))))
theorem fn__law_due (T : Txt K mg) (G__law_bit : Fn P w K mg base CX0 1 (He.fAd K ("_law_bit", none)) ["byte", "place"] (sp__law_bit K)) (G__law_pixel : Fn P w K mg base CX0 2 (He.fAd K ("_law_pixel", none)) ["sheet", "tile", "row", "column"] (sp__law_pixel K)) (G__law_showing : Fn P w K mg base CX0 3 (He.fAd K ("_law_showing", none)) ["sheet", "there", "column", "line"] (sp__law_showing K)) (pure : ∀ vs H Q E, sp__law_due K vs H Q E → vs.length = 2 ∧ t__law_due K { nx := fun _ H' => Q .non H', rt := Q } (start N__law_due vs) H) : Fn P w K mg base CX0 4 (He.fAd K ("_law_due", none)) ["sheet", "settings"] (sp__law_due K) := by
  obtain ⟨fd, F⟩ := T.def__law_due
  refine ⟨fd, F.ok sc__law_due (fun vs H Q E h => (pure vs H Q E h).1) (fun cdv A outer s H vs Q E hr h => ⟨t__law_due K, PSs.nox (d__law_due T G__law_bit G__law_pixel G__law_showing hr), (pure vs H Q E h).2⟩), F.bindsN (fun _ _ _ _ _ _ us hl => match us, hl with | [_, _], _ => rfl), F.kp⟩
theorem d__law_shown (T : Txt K mg) (G_LatePicture___init__ : Fn P w K mg base CX0 2 (He.fAd K ("LatePicture", some "__init__")) ["self"] (sp_LatePicture___init__ K)) (G_Picture_put_LatePicture : Fn P w K mg base CX0 1 (He.fAd K ("LatePicture", some "put")) ["self", "place", "byte"] (sp_Picture_put_LatePicture K)) (G_Picture_let_LatePicture : Fn P w K mg base CX0 1 (He.fAd K ("LatePicture", some "let")) ["self", "which", "byte"] (sp_Picture_let_LatePicture K)) (G_LatePicture_live_to : Fn P w K mg base CX0 8 (He.fAd K ("LatePicture", some "live_to")) ["self", "goal"] (sp_LatePicture_live_to K)) (G_Picture_marks_LatePicture : Fn P w K mg base CX0 1 (He.fAd K ("LatePicture", some "marks")) ["self"] (sp_Picture_marks_LatePicture K)) (G_Picture_picture_LatePicture : Fn P w K mg base CX0 1 (He.fAd K ("LatePicture", some "picture")) ["self"] (sp_Picture_picture_LatePicture K)) (hr : Room 8 (A.deeper (envOfC "_law_shown" (defScope s__law_shown) s.heap.objs.size f cdv))) : PSs (cxOf CX0 P w K mg base N__law_shown "_law_shown" (defScope s__law_shown) f cdv A outer s H E).nox (defBody s__law_shown) (t__law_shown K) :=
  have nd := sc__law_shown.nd
  pss_cons (ps_set (i := 2) nd rfl (Or.inl rfl) (pe_mk0 G_LatePicture___init__ hr (by decide) T.mkr_LatePicture T.glo_LatePicture pass0))
  (pss_cons (ps_for PassesOwn.never rfl (pi_range1 rfl T.free_range (pa_cons pe_int pa_nil)) (pg_name (i := 3) nd rfl (Or.inl rfl)) (pss_one (ps_expr (pe_m G_Picture_put_LatePicture hr (by decide) T.cls_LatePicture T.meth_LatePicture_put pass0 (pv 2) (pa_cons (pv 3) (pa_cons (pe_ix ix_list (pv 0) (pv 3) (fun _ _ => rfl)) pa_nil))))))
  (pss_cons (ps_for PassesOwn.never rfl (pi_range1 rfl T.free_range (pa_cons pe_int pa_nil)) (pg_name (i := 4) nd rfl (Or.inl rfl)) (pss_one (ps_expr (pe_m G_Picture_let_LatePicture hr (by decide) T.cls_LatePicture T.meth_LatePicture_let pass0 (pv 2) (pa_cons (pv 4) (pa_cons (pe_ix ix_tup (pv 1) (pv 4) (fun _ _ => rfl)) pa_nil))))))
  (pss_cons (ps_expr (pe_m G_LatePicture_live_to hr (by decide) T.cls_LatePicture T.meth_LatePicture_live_to pass0 (pv 2) (pa_cons pe_int pa_nil)))
  (pss_one (ps_ret (pe_tup (pa_cons (pe_m0 G_Picture_picture_LatePicture hr (by decide) T.cls_LatePicture T.meth_LatePicture_picture pass0 (pv 2)) (pa_cons (pe_ix ix_tup (pe_m0 G_Picture_marks_LatePicture hr (by decide) T.cls_LatePicture T.meth_LatePicture_marks pass0 (pv 2)) pe_int (fun _ _ => rfl)) (pa_cons (pe_ix ix_tup (pe_m0 G_Picture_marks_LatePicture hr (by decide) T.cls_LatePicture T.meth_LatePicture_marks pass0 (pv 2)) pe_int (fun _ _ => rfl)) pa_nil)))))))))
theorem fn__law_shown (T : Txt K mg) (G_LatePicture___init__ : Fn P w K mg base CX0 2 (He.fAd K ("LatePicture", some "__init__")) ["self"] (sp_LatePicture___init__ K)) (G_Picture_put_LatePicture : Fn P w K mg base CX0 1 (He.fAd K ("LatePicture", some "put")) ["self", "place", "byte"] (sp_Picture_put_LatePicture K)) (G_Picture_let_LatePicture : Fn P w K mg base CX0 1 (He.fAd K ("LatePicture", some "let")) ["self", "which", "byte"] (sp_Picture_let_LatePicture K)) (G_LatePicture_live_to : Fn P w K mg base CX0 8 (He.fAd K ("LatePicture", some "live_to")) ["self", "goal"] (sp_LatePicture_live_to K)) (G_Picture_marks_LatePicture : Fn P w K mg base CX0 1 (He.fAd K ("LatePicture", some "marks")) ["self"] (sp_Picture_marks_LatePicture K)) (G_Picture_picture_LatePicture : Fn P w K mg base CX0 1 (He.fAd K ("LatePicture", some "picture")) ["self"] (sp_Picture_picture_LatePicture K)) (pure : ∀ vs H Q E, sp__law_shown K vs H Q E → vs.length = 2 ∧ t__law_shown K { nx := fun _ H' => Q .non H', rt := Q } (start N__law_shown vs) H) : Fn P w K mg base CX0 9 (He.fAd K ("_law_shown", none)) ["sheet", "settings"] (sp__law_shown K) := by
  obtain ⟨fd, F⟩ := T.def__law_shown
  refine ⟨fd, F.ok sc__law_shown (fun vs H Q E h => (pure vs H Q E h).1) (fun cdv A outer s H vs Q E hr h => ⟨t__law_shown K, PSs.nox (d__law_shown T G_LatePicture___init__ G_Picture_put_LatePicture G_Picture_let_LatePicture G_LatePicture_live_to G_Picture_marks_LatePicture G_Picture_picture_LatePicture hr), (pure vs H Q E h).2⟩), F.bindsN (fun _ _ _ _ _ _ us hl => match us, hl with | [_, _], _ => rfl), F.kp⟩
theorem d__law_sheet (T : Txt K mg) (G__law_mix : Fn P w K mg base CX0 1 (He.fAd K ("_law_mix", none)) ["draws", "k", "many"] (sp__law_mix K)) (hr : Room 1 (A.deeper (envOfC "_law_sheet" (defScope s__law_sheet) s.heap.objs.size f cdv))) : PSs (cxOf CX0 P w K mg base N__law_sheet "_law_sheet" (defScope s__law_sheet) f cdv A outer s H E).nox (defBody s__law_sheet) (t__law_sheet K) :=
  have nd := sc__law_sheet.nd
  pss_cons (ps_setLc (i := 3) (own := [("t", 2)]) (g := gName 2) rfl nd rfl rfl (sw_true rfl rfl rfl (by decide +kernel)) (pi_range1 rfl T.free_range (pa_cons pe_int pa_nil)) (blkOk_by (own := [("t", 2)]) (N := N__law_sheet) (sc := defScope s__law_sheet) (by decide +kernel)) (fun _ _ _ _ _ => pg_name (i := 2) nd rfl (Or.inl rfl)) (fun _ _ _ _ _ => pts_nil) (fun _ _ _ _ _ => pe_op op_add (pe_op op_mul pe_int (pe_f G__law_mix hr (by decide) T.glo__law_mix pass0 (pa_cons (pv 0) (pa_cons (pe_op op_add (pv 1) (pv 2)) (pa_cons pe_int pa_nil))))) (pe_f G__law_mix hr (by decide) T.glo__law_mix pass0 (pa_cons (pv 0) (pa_cons (pe_op op_add (pe_op op_add (pv 1) pe_int) (pv 2)) (pa_cons pe_int pa_nil))))))
  (pss_cons (ps_set (i := 4) nd rfl (Or.inl rfl) (pe_ix ix_list (pe_lst (pa_cons pe_int (pa_cons pe_int pa_nil))) (pe_f G__law_mix hr (by decide) T.glo__law_mix pass0 (pa_cons (pv 0) (pa_cons (pe_op op_add (pv 1) pe_int) (pa_cons pe_int pa_nil)))) (fun _ _ => rfl)))
  (pss_cons (ps_for PassesOwn.never rfl (pi_range1 rfl T.free_range (pa_cons pe_int pa_nil)) (pg_name (i := 2) nd rfl (Or.inl rfl)) (pss_one (ps_set (i := 3) nd rfl (Or.inl rfl) (pe_op op_cat (pv 3) (pe_lst (pa_cons (pe_op op_add pe_int (pe_f G__law_mix hr (by decide) T.glo__law_mix pass0 (pa_cons (pv 0) (pa_cons (pe_op op_add (pe_op op_add (pv 1) pe_int) (pe_op op_mul pe_int (pv 2))) (pa_cons (pv 4) pa_nil))))) (pa_cons (pe_op op_add (pe_op op_add pe_int (pv 2)) (pe_op op_mul pe_int (pe_f G__law_mix hr (by decide) T.glo__law_mix pass0 (pa_cons (pv 0) (pa_cons (pe_op op_add (pe_op op_add (pv 1) pe_int) (pv 2)) (pa_cons pe_int pa_nil)))))) (pa_cons (pe_f G__law_mix hr (by decide) T.glo__law_mix pass0 (pa_cons (pv 0) (pa_cons (pe_op op_add (pe_op op_add (pv 1) pe_int) (pe_op op_mul pe_int (pv 2))) (pa_cons pe_int pa_nil)))) (pa_cons (pe_op op_add pe_int (pe_f G__law_mix hr (by decide) T.glo__law_mix pass0 (pa_cons (pv 0) (pa_cons (pe_op op_add (pe_op op_add (pv 1) pe_int) (pe_op op_mul pe_int (pv 2))) (pa_cons pe_int pa_nil))))) pa_nil)))))))))
  (pss_cons (ps_set (i := 3) nd rfl (Or.inl rfl) (pe_op op_cat (pv 3) (pe_lc (own := [("t", 2)]) (g := gName 2) rfl nd (pi_range1 rfl T.free_range (pa_cons pe_int pa_nil)) (blkOk_by (own := [("t", 2)]) (N := N__law_sheet) (sc := defScope s__law_sheet) (by decide +kernel)) (fun _ _ _ _ _ => pg_name (i := 2) nd rfl (Or.inl rfl)) (fun _ _ _ _ _ => pts_nil) (fun _ _ _ _ _ => pe_f G__law_mix hr (by decide) T.glo__law_mix pass0 (pa_cons (pv 0) (pa_cons (pe_op op_add (pe_op op_add (pv 1) pe_int) (pv 2)) (pa_cons pe_int pa_nil)))))))
  (pss_one (ps_ret (pe_op op_cat (pe_op op_cat (pv 3) (pe_lc (own := [("t", 2)]) (g := gName 2) rfl nd (pi_range1 rfl T.free_range (pa_cons pe_int pa_nil)) (blkOk_by (own := [("t", 2)]) (N := N__law_sheet) (sc := defScope s__law_sheet) (by decide +kernel)) (fun _ _ _ _ _ => pg_name (i := 2) nd rfl (Or.inl rfl)) (fun _ _ _ _ _ => pts_nil) (fun _ _ _ _ _ => pe_f G__law_mix hr (by decide) T.glo__law_mix pass0 (pa_cons (pv 0) (pa_cons (pe_op op_add (pe_op op_add (pv 1) pe_int) (pv 2)) (pa_cons pe_int pa_nil)))))) (pe_op op_rep (pe_lst (pa_cons pe_int pa_nil)) pe_int)))))))
theorem fn__law_sheet (T : Txt K mg) (G__law_mix : Fn P w K mg base CX0 1 (He.fAd K ("_law_mix", none)) ["draws", "k", "many"] (sp__law_mix K)) (pure : ∀ vs H Q E, sp__law_sheet K vs H Q E → vs.length = 2 ∧ t__law_sheet K { nx := fun _ H' => Q .non H', rt := Q } (start N__law_sheet vs) H) : Fn P w K mg base CX0 2 (He.fAd K ("_law_sheet", none)) ["draws", "k"] (sp__law_sheet K) := by
  obtain ⟨fd, F⟩ := T.def__law_sheet
  refine ⟨fd, F.ok sc__law_sheet (fun vs H Q E h => (pure vs H Q E h).1) (fun cdv A outer s H vs Q E hr h => ⟨t__law_sheet K, PSs.nox (d__law_sheet T G__law_mix hr), (pure vs H Q E h).2⟩), F.bindsN (fun _ _ _ _ _ _ us hl => match us, hl with | [_, _], _ => rfl), F.kp⟩
theorem d__law_map (T : Txt K mg)  (hr : Room 0 (A.deeper (envOfC "_law_map" (defScope s__law_map) s.heap.objs.size f cdv))) : PSs (cxOf CX0 P w K mg base N__law_map "_law_map" (defScope s__law_map) f cdv A outer s H E).nox (defBody s__law_map) (t__law_map K) :=
  have nd := sc__law_map.nd
  pss_one (ps_ret (pe_op op_cat (pe_lc (own := [("t", 3)]) (g := gName 3) rfl nd (pi_range1 rfl T.free_range (pa_cons pe_int pa_nil)) (blkOk_by (own := [("t", 3)]) (N := N__law_map) (sc := defScope s__law_map) (by decide +kernel)) (fun _ _ _ _ _ => pg_name (i := 3) nd rfl (Or.inl rfl)) (fun _ _ _ _ _ => pts_nil) (fun _ _ _ _ _ => pe_ix ix_list (pv 0) (pe_op op_add (pe_op op_mul pe_int (pe_op op_mod (pe_callTy call_int1 (by rfl) T.free_int (by decide +kernel) (pa_cons (pe_op op_add (pe_op op_fdiv (pv 3) pe_int) (pv 2)) pa_nil)) pe_int)) (pe_op op_mod (pe_callTy call_int1 (by rfl) T.free_int (by decide +kernel) (pa_cons (pe_op op_add (pv 3) (pv 1)) pa_nil)) pe_int)) (fun _ _ => rfl))) (pe_slice sl_list (pv 0) (po_some pe_int) po_none)))
theorem fn__law_map (T : Txt K mg)  (pure : ∀ vs H Q E, sp__law_map K vs H Q E → vs.length = 3 ∧ t__law_map K { nx := fun _ H' => Q .non H', rt := Q } (start N__law_map vs) H) : Fn P w K mg base CX0 1 (He.fAd K ("_law_map", none)) ["sheet", "over", "up"] (sp__law_map K) := by
  obtain ⟨fd, F⟩ := T.def__law_map
  refine ⟨fd, F.ok sc__law_map (fun vs H Q E h => (pure vs H Q E h).1) (fun cdv A outer s H vs Q E hr h => ⟨t__law_map K, PSs.nox (d__law_map T  hr), (pure vs H Q E h).2⟩), F.bindsN (fun _ _ _ _ _ _ us hl => match us, hl with | [_, _, _], _ => rfl), F.kp⟩
theorem d__law_turned (T : Txt K mg) (G__law_bit : Fn P w K mg base CX0 1 (He.fAd K ("_law_bit", none)) ["byte", "place"] (sp__law_bit K)) (hr : Room 1 (A.deeper (envOfC "_law_turned" (defScope s__law_turned) s.heap.objs.size f cdv))) : PSs (cxOf CX0 P w K mg base N__law_turned "_law_turned" (defScope s__law_turned) f cdv A outer s H E).nox (defBody s__law_turned) (t__law_turned K) :=
  have nd := sc__law_turned.nd
  pss_cons (ps_par (i := 3) (j := 4) rfl nd rfl rfl (by decide) rfl rfl (pa_cons (pe_op op_add pe_int (pe_op op_mul pe_int (pe_op op_mod (pe_callTy call_int1 (by rfl) T.free_int (by decide +kernel) (pa_cons (pe_ix ix_list (pv 0) (pe_op op_add pe_int (pe_op op_mul pe_int (pv 1))) (fun _ _ => rfl)) pa_nil)) pe_int))) (pa_cons (pe_ix ix_list (pv 0) (pe_op op_add pe_int (pe_op op_mul pe_int (pv 1))) (fun _ _ => rfl)) pa_nil)) rfl)
  (pss_cons (ps_set (i := 5) nd rfl (Or.inl rfl) (pe_callTy call_list_of (by rfl) T.free_list (by decide +kernel) (pa_cons (pv 0) pa_nil)))
  (pss_cons (ps_for PassesOwn.never rfl (pi_range1 rfl T.free_range (pa_cons pe_int pa_nil)) (pg_name (i := 6) nd rfl (Or.inl rfl)) (pss_cons (ps_set (i := 7) nd rfl (Or.inr rfl) (pe_ix ix_list (pv 0) (pe_op op_add (pv 3) (pv 6)) (fun _ _ => rfl)))
  (pss_one (ps_if (pt_cmpR op_eq (pv 2) pe_int (nomark _)) (pss_one (ps_asg (pe_callB (cr_sum rfl) (by rfl) T.free_sum (by decide +kernel) (pa_cons (pe_lc (own := [("j", 8)]) (g := gName 8) rfl nd (pi_range1 rfl T.free_range (pa_cons pe_int pa_nil)) (blkOk_by (own := [("j", 8)]) (N := N__law_turned) (sc := defScope s__law_turned) (by decide +kernel)) (fun _ _ _ _ _ => pg_name (i := 8) nd rfl (Or.inl rfl)) (fun _ _ _ _ _ => pts_nil) (fun _ _ _ _ _ => pe_op op_mul (pe_f G__law_bit hr (by decide) T.glo__law_bit pass0 (pa_cons (pv 7) (pa_cons (pv 8) pa_nil))) (pe_ix ix_list (pe_lst (pa_cons pe_int (pa_cons pe_int (pa_cons pe_int (pa_cons pe_int (pa_cons pe_int (pa_cons pe_int (pa_cons pe_int (pa_cons pe_int pa_nil))))))))) (pv 8) (fun _ _ => rfl)))) pa_nil)) (pg_sub (pv 5) (pe_op op_add (pv 3) (pv 6)) set_list))) (pss_one (ps_asg (pv 7) (pg_sub (pv 5) (pe_op op_add (pe_op op_sub (pe_op op_add (pv 3) pe_int) (pe_op op_mul pe_int (pe_op op_fdiv (pv 6) pe_int))) (pe_op op_mod (pe_callTy call_int1 (by rfl) T.free_int (by decide +kernel) (pa_cons (pv 6) pa_nil)) pe_int)) set_list)))))))
  (pss_cons (ps_asg (pe_op op_add (pv 4) (pe_op op_mul (pe_ix ix_list (pe_lst (pa_cons pe_int (pa_cons pe_int pa_nil))) (pe_op op_sub (pv 2) pe_int) (fun _ _ => rfl)) (pe_op op_sub pe_int (pe_op op_mul pe_int (pe_f G__law_bit hr (by decide) T.glo__law_bit pass0 (pa_cons (pv 4) (pa_cons (pv 2) pa_nil))))))) (pg_sub (pv 5) (pe_op op_add pe_int (pe_op op_mul pe_int (pv 1))) set_list))
  (pss_one (ps_ret (pv 5))))))
theorem fn__law_turned (T : Txt K mg) (G__law_bit : Fn P w K mg base CX0 1 (He.fAd K ("_law_bit", none)) ["byte", "place"] (sp__law_bit K)) (pure : ∀ vs H Q E, sp__law_turned K vs H Q E → vs.length = 3 ∧ t__law_turned K { nx := fun _ H' => Q .non H', rt := Q } (start N__law_turned vs) H) : Fn P w K mg base CX0 2 (He.fAd K ("_law_turned", none)) ["sheet", "k", "place"] (sp__law_turned K) := by
  obtain ⟨fd, F⟩ := T.def__law_turned
  refine ⟨fd, F.ok sc__law_turned (fun vs H Q E h => (pure vs H Q E h).1) (fun cdv A outer s H vs Q E hr h => ⟨t__law_turned K, PSs.nox (d__law_turned T G__law_bit hr), (pure vs H Q E h).2⟩), F.bindsN (fun _ _ _ _ _ _ us hl => match us, hl with | [_, _, _], _ => rfl), F.kp⟩
theorem d__law_less (T : Txt K mg)  (hr : Room 0 (A.deeper (envOfC "_law_less" (defScope s__law_less) s.heap.objs.size f cdv))) : PSs (cxOf CX0 P w K mg base N__law_less "_law_less" (defScope s__law_less) f cdv A outer s H E).nox (defBody s__law_less) (t__law_less K) :=
  have nd := sc__law_less.nd
  pss_cons (ps_set (i := 2) nd rfl (Or.inl rfl) (pe_callTy call_list_of (by rfl) T.free_list (by decide +kernel) (pa_cons (pv 0) pa_nil)))
  (pss_cons (ps_for PassesOwn.never rfl (pi_range1 rfl T.free_range (pa_cons pe_int pa_nil)) (pg_name (i := 3) nd rfl (Or.inl rfl)) (pss_one (ps_asg (pe_op op_sub (pe_ix ix_list (pv 2) (pe_op op_add (pe_op op_add pe_int (pe_op op_mul pe_int (pv 3))) (pv 1)) (fun _ _ => rfl)) pe_int) (pg_sub (pv 2) (pe_op op_add (pe_op op_add pe_int (pe_op op_mul pe_int (pv 3))) (pv 1)) set_list))))
  (pss_one (ps_ret (pv 2))))
theorem fn__law_less (T : Txt K mg)  (pure : ∀ vs H Q E, sp__law_less K vs H Q E → vs.length = 2 ∧ t__law_less K { nx := fun _ H' => Q .non H', rt := Q } (start N__law_less vs) H) : Fn P w K mg base CX0 1 (He.fAd K ("_law_less", none)) ["sheet", "part"] (sp__law_less K) := by
  obtain ⟨fd, F⟩ := T.def__law_less
  refine ⟨fd, F.ok sc__law_less (fun vs H Q E h => (pure vs H Q E h).1) (fun cdv A outer s H vs Q E hr h => ⟨t__law_less K, PSs.nox (d__law_less T  hr), (pure vs H Q E h).2⟩), F.bindsN (fun _ _ _ _ _ _ us hl => match us, hl with | [_, _], _ => rfl), F.kp⟩
theorem d_law (T : Txt K mg) (G__law_draws : Fn P w K mg base CX0 1 (He.fAd K ("_law_draws", none)) ["script"] (sp__law_draws K)) (G__law_sheet : Fn P w K mg base CX0 2 (He.fAd K ("_law_sheet", none)) ["draws", "k"] (sp__law_sheet K)) (G__law_mix : Fn P w K mg base CX0 1 (He.fAd K ("_law_mix", none)) ["draws", "k", "many"] (sp__law_mix K)) (G__law_due : Fn P w K mg base CX0 4 (He.fAd K ("_law_due", none)) ["sheet", "settings"] (sp__law_due K)) (G__law_shown : Fn P w K mg base CX0 9 (He.fAd K ("_law_shown", none)) ["sheet", "settings"] (sp__law_shown K)) (G__law_map : Fn P w K mg base CX0 1 (He.fAd K ("_law_map", none)) ["sheet", "over", "up"] (sp__law_map K)) (G__law_turned : Fn P w K mg base CX0 2 (He.fAd K ("_law_turned", none)) ["sheet", "k", "place"] (sp__law_turned K)) (G__law_less : Fn P w K mg base CX0 1 (He.fAd K ("_law_less", none)) ["sheet", "part"] (sp__law_less K)) (G_movers_at : Fn P w K mg base CX0 3 (He.fAd K ("movers_at", none)) ["sheet", "settings", "line"] (sp_movers_at K)) (G_dot_at : Fn P w K mg base CX0 6 (He.fAd K ("dot_at", none)) ["sheet", "settings", "movers", "column", "line"] (sp_dot_at K)) (hr : Room 9 (A.deeper (envOfC "law" (defScope s_law) s.heap.objs.size f cdv))) : PSs (cxOf CX0 P w K mg base N_law "law" (defScope s_law) f cdv A outer s H E).nox (defBody s_law) (t_law K) :=
  have nd := sc_law.nd
  pss_cons (ps_set (i := 1) nd rfl (Or.inl rfl) (pe_f G__law_draws hr (by decide) T.glo__law_draws pass0 (pa_cons (pv 0) pa_nil)))
  (pss_cons (ps_set (i := 2) nd rfl (Or.inl rfl) (pe_f G__law_sheet hr (by decide) T.glo__law_sheet pass0 (pa_cons (pv 1) (pa_cons pe_int pa_nil))))
  (pss_cons (ps_par (i := 3) (j := 4) rfl nd rfl rfl (by decide) rfl rfl (pa_cons (pe_f G__law_mix hr (by decide) T.glo__law_mix pass0 (pa_cons (pv 1) (pa_cons pe_int (pa_cons pe_int pa_nil)))) (pa_cons (pe_f G__law_mix hr (by decide) T.glo__law_mix pass0 (pa_cons (pv 1) (pa_cons pe_int (pa_cons pe_int pa_nil)))) pa_nil)) rfl)
  (pss_cons (ps_set (i := 5) nd rfl (Or.inl rfl) (pe_ix ix_list (pe_lst (pa_cons pe_int (pa_cons pe_int (pa_cons pe_int (pa_cons pe_int (pa_cons pe_int pa_nil)))))) (pe_f G__law_mix hr (by decide) T.glo__law_mix pass0 (pa_cons (pv 1) (pa_cons pe_int (pa_cons pe_int pa_nil)))) (fun _ _ => rfl)))
  (pss_cons (ps_set (i := 6) nd rfl (Or.inl rfl) (pe_tup (pa_cons (pv 3) (pa_cons (pv 4) (pa_cons (pe_f G__law_mix hr (by decide) T.glo__law_mix pass0 (pa_cons (pv 1) (pa_cons pe_int (pa_cons pe_int pa_nil)))) (pa_cons (pv 5) pa_nil))))))
  (pss_cons (ps_set (i := 7) nd rfl (Or.inr rfl) (pe_f G__law_due hr (by decide) T.glo__law_due pass0 (pa_cons (pv 2) (pa_cons (pv 6) pa_nil))))
  (pss_cons (ps_if (pt_cmpR (op_neX hr.units) (pe_f G__law_shown hr (by decide) T.glo__law_shown pass0 (pa_cons (pv 2) (pa_cons (pv 6) pa_nil))) (pv 7) (nomark _)) (pss_one (ps_ret pe_bl)) pss_nil)
  (pss_cons (ps_par (i := 8) (j := 9) rfl nd rfl rfl (by decide) rfl rfl (pa_cons (pe_f G__law_mix hr (by decide) T.glo__law_mix pass0 (pa_cons (pv 1) (pa_cons pe_int (pa_cons pe_int pa_nil)))) (pa_cons (pe_f G__law_mix hr (by decide) T.glo__law_mix pass0 (pa_cons (pv 1) (pa_cons pe_int (pa_cons pe_int pa_nil)))) pa_nil)) rfl)
  (pss_cons (ps_if (pt_cmpR (op_neX hr.units) (pe_f G__law_shown hr (by decide) T.glo__law_shown pass0 (pa_cons (pe_f G__law_map hr (by decide) T.glo__law_map pass0 (pa_cons (pv 2) (pa_cons (pv 8) (pa_cons (pv 9) pa_nil)))) (pa_cons (pe_tup (pa_cons (pe_op op_mod (pe_callTy call_int1 (by rfl) T.free_int (by decide +kernel) (pa_cons (pe_op op_sub (pe_op op_add (pv 3) pe_int) (pe_op op_mul pe_int (pv 8))) pa_nil)) pe_int) (pa_cons (pe_op op_mod (pe_callTy call_int1 (by rfl) T.free_int (by decide +kernel) (pa_cons (pe_op op_sub (pe_op op_add (pv 4) pe_int) (pe_op op_mul pe_int (pv 9))) pa_nil)) pe_int) (pa_cons pe_int (pa_cons (pv 5) pa_nil))))) pa_nil))) (pv 7) (nomark _)) (pss_one (ps_ret pe_bl)) pss_nil)
  (pss_cons (ps_set (i := 10) nd rfl (Or.inl rfl) (pv 2))
  (pss_cons (ps_for PassesOwn.never rfl (pi_range1 rfl T.free_range (pa_cons pe_int pa_nil)) (pg_name (i := 11) nd rfl (Or.inl rfl)) (pss_one (ps_if (pt_cmpR op_gt (pe_f G__law_mix hr (by decide) T.glo__law_mix pass0 (pa_cons (pv 1) (pa_cons (pe_op op_add pe_int (pv 11)) (pa_cons pe_int pa_nil)))) pe_int (nomark _)) (pss_one (ps_set (i := 10) nd rfl (Or.inl rfl) (pe_f G__law_turned hr (by decide) T.glo__law_turned pass0 (pa_cons (pv 10) (pa_cons (pv 11) (pa_cons (pe_op op_add pe_int (pe_f G__law_mix hr (by decide) T.glo__law_mix pass0 (pa_cons (pv 1) (pa_cons (pe_op op_add pe_int (pv 11)) (pa_cons pe_int pa_nil))))) pa_nil)))))) pss_nil)))
  (pss_cons (ps_if (pt_cmpR (op_neX hr.units) (pe_f G__law_shown hr (by decide) T.glo__law_shown pass0 (pa_cons (pv 10) (pa_cons (pv 6) pa_nil))) (pv 7) (nomark _)) (pss_one (ps_ret pe_bl)) pss_nil)
  (pss_cons (ps_set (i := 12) nd rfl (Or.inr rfl) (pe_ix ix_tup (pe_f G__law_shown hr (by decide) T.glo__law_shown pass0 (pa_cons (pe_f G__law_less hr (by decide) T.glo__law_less pass0 (pa_cons (pv 2) (pa_cons pe_int pa_nil))) (pa_cons (pe_tup (pa_cons (pe_op op_mod (pe_callTy call_int1 (by rfl) T.free_int (by decide +kernel) (pa_cons (pe_op op_add (pv 3) pe_int) pa_nil)) pe_int) (pa_cons (pv 4) (pa_cons pe_int (pa_cons (pv 5) pa_nil))))) pa_nil))) pe_int (fun _ _ => rfl)))
  (pss_cons (ps_if (pt_cmpR (op_neD hr.units) (pe_lc (own := [("k", 11)]) (g := gName 11) rfl nd (pi_range1 rfl T.free_range (pa_cons pe_int pa_nil)) (blkOk_by (own := [("k", 11)]) (N := N_law) (sc := defScope s_law) (by decide +kernel)) (fun _ _ _ _ _ => pg_name (i := 11) nd rfl (Or.inl rfl)) (fun _ _ _ _ _ => pts_one (pt_cmpR op_lt (pe_op op_mod (pe_callTy call_int1 (by rfl) T.free_int (by decide +kernel) (pa_cons (pv 11) pa_nil)) pe_int) pe_int (nomark _))) (fun _ _ _ _ _ => pe_ix ix_list (pv 12) (pv 11) (fun _ _ => rfl))) (pe_lc (own := [("k", 11)]) (g := gName 11) rfl nd (pi_range1 rfl T.free_range (pa_cons pe_int pa_nil)) (blkOk_by (own := [("k", 11)]) (N := N_law) (sc := defScope s_law) (by decide +kernel)) (fun _ _ _ _ _ => pg_name (i := 11) nd rfl (Or.inl rfl)) (fun _ _ _ _ _ => pts_one (pt_cmpR op_lt (pe_op op_mod (pe_callTy call_int1 (by rfl) T.free_int (by decide +kernel) (pa_cons (pv 11) pa_nil)) pe_int) pe_int (nomark _))) (fun _ _ _ _ _ => pe_ix ix_list (pe_ix ix_tup (pv 7) pe_int (fun _ _ => rfl)) (pe_op op_add (pv 11) pe_int) (fun _ _ => rfl))) (nomark _)) (pss_one (ps_ret pe_bl)) pss_nil)
  (pss_cons (ps_if (pt_cmpR (op_neD hr.units) (pe_slice sl_list (pe_ix ix_tup (pe_f G__law_shown hr (by decide) T.glo__law_shown pass0 (pa_cons (pe_f G__law_less hr (by decide) T.glo__law_less pass0 (pa_cons (pv 2) (pa_cons pe_int pa_nil))) (pa_cons (pe_tup (pa_cons (pv 3) (pa_cons (pe_op op_mod (pe_callTy call_int1 (by rfl) T.free_int (by decide +kernel) (pa_cons (pe_op op_add (pv 4) pe_int) pa_nil)) pe_int) (pa_cons pe_int (pa_cons (pv 5) pa_nil))))) pa_nil))) pe_int (fun _ _ => rfl)) po_none (po_some pe_int)) (pe_slice sl_list (pe_ix ix_tup (pv 7) pe_int (fun _ _ => rfl)) (po_some pe_int) po_none) (nomark _)) (pss_one (ps_ret pe_bl)) pss_nil)
  (pss_cons (ps_set (i := 10) nd rfl (Or.inl rfl) (pe_op op_cat (pe_op op_cat (pe_slice sl_list (pv 2) po_none (po_some pe_int)) (pe_lc (own := [("byte", 17)]) (g := gName 17) rfl nd (pi_list (pe_slice sl_list (pv 2) (po_some pe_int) (po_some pe_int))) (blkOk_by (own := [("byte", 17)]) (N := N_law) (sc := defScope s_law) (by decide +kernel)) (fun _ _ _ _ _ => pg_name (i := 17) nd rfl (Or.inl rfl)) (fun _ _ _ _ _ => pts_nil) (fun _ _ _ _ _ => pe_op op_sub pe_int (pv 17)))) (pe_slice sl_list (pv 2) (po_some pe_int) po_none)))
  (pss_cons (ps_if (pt_cmpR (op_neD hr.units) (pe_ix ix_tup (pe_f G__law_shown hr (by decide) T.glo__law_shown pass0 (pa_cons (pv 10) (pa_cons (pv 6) pa_nil))) pe_int (fun _ _ => rfl)) (pe_lc (own := [("dot", 18)]) (g := gName 18) rfl nd (pi_list (pe_ix ix_tup (pv 7) pe_int (fun _ _ => rfl))) (blkOk_by (own := [("dot", 18)]) (N := N_law) (sc := defScope s_law) (by decide +kernel)) (fun _ _ _ _ _ => pg_name (i := 18) nd rfl (Or.inl rfl)) (fun _ _ _ _ _ => pts_nil) (fun _ _ _ _ _ => pe_op op_sub pe_int (pv 18))) (nomark _)) (pss_one (ps_ret pe_bl)) pss_nil)
  (pss_cons (ps_for PassesOwn.never rfl (pi_range1 rfl T.free_range (pa_cons pe_int pa_nil)) (pg_name (i := 13) nd rfl (Or.inl rfl)) (pss_cons (ps_par (i := 14) (j := 15) rfl nd rfl rfl (by decide) rfl rfl (pa_cons (pe_f G__law_mix hr (by decide) T.glo__law_mix pass0 (pa_cons (pv 1) (pa_cons (pe_op op_add pe_int (pe_op op_mul pe_int (pv 13))) (pa_cons pe_int pa_nil)))) (pa_cons (pe_f G__law_mix hr (by decide) T.glo__law_mix pass0 (pa_cons (pv 1) (pa_cons (pe_op op_add pe_int (pe_op op_mul pe_int (pv 13))) (pa_cons pe_int pa_nil)))) pa_nil)) rfl)
  (pss_cons (ps_set (i := 16) nd rfl (Or.inl rfl) (pe_ix ix_tup (pe_f G_movers_at hr (by decide) T.glo_movers_at pass0 (pa_cons (pv 2) (pa_cons (pv 6) (pa_cons (pv 14) pa_nil)))) pe_int (fun _ _ => rfl)))
  (pss_one (ps_if (pt_cmpR op_ne (pe_ix ix_tup (pe_f G_dot_at hr (by decide) T.glo_dot_at pass0 (pa_cons (pv 2) (pa_cons (pv 6) (pa_cons (pv 16) (pa_cons (pv 15) (pa_cons (pv 14) pa_nil)))))) pe_int (fun _ _ => rfl)) (pe_ix ix_list (pe_ix ix_tup (pv 7) pe_int (fun _ _ => rfl)) (pe_op op_add (pe_op op_mul pe_int (pv 14)) (pv 15)) (fun _ _ => rfl)) (nomark _)) (pss_one (ps_ret pe_bl)) pss_nil)))))
  (pss_one (ps_ret pe_bl)))))))))))))))))))
theorem fn_law (T : Txt K mg) (G__law_draws : Fn P w K mg base CX0 1 (He.fAd K ("_law_draws", none)) ["script"] (sp__law_draws K)) (G__law_sheet : Fn P w K mg base CX0 2 (He.fAd K ("_law_sheet", none)) ["draws", "k"] (sp__law_sheet K)) (G__law_mix : Fn P w K mg base CX0 1 (He.fAd K ("_law_mix", none)) ["draws", "k", "many"] (sp__law_mix K)) (G__law_due : Fn P w K mg base CX0 4 (He.fAd K ("_law_due", none)) ["sheet", "settings"] (sp__law_due K)) (G__law_shown : Fn P w K mg base CX0 9 (He.fAd K ("_law_shown", none)) ["sheet", "settings"] (sp__law_shown K)) (G__law_map : Fn P w K mg base CX0 1 (He.fAd K ("_law_map", none)) ["sheet", "over", "up"] (sp__law_map K)) (G__law_turned : Fn P w K mg base CX0 2 (He.fAd K ("_law_turned", none)) ["sheet", "k", "place"] (sp__law_turned K)) (G__law_less : Fn P w K mg base CX0 1 (He.fAd K ("_law_less", none)) ["sheet", "part"] (sp__law_less K)) (G_movers_at : Fn P w K mg base CX0 3 (He.fAd K ("movers_at", none)) ["sheet", "settings", "line"] (sp_movers_at K)) (G_dot_at : Fn P w K mg base CX0 6 (He.fAd K ("dot_at", none)) ["sheet", "settings", "movers", "column", "line"] (sp_dot_at K)) (pure : ∀ vs H Q E, sp_law K vs H Q E → vs.length = 1 ∧ t_law K { nx := fun _ H' => Q .non H', rt := Q } (start N_law vs) H) : Fn P w K mg base CX0 10 (He.fAd K ("law", none)) ["script"] (sp_law K) := by
  obtain ⟨fd, F⟩ := T.def_law
  refine ⟨fd, F.ok sc_law (fun vs H Q E h => (pure vs H Q E h).1) (fun cdv A outer s H vs Q E hr h => ⟨t_law K, PSs.nox (d_law T G__law_draws G__law_sheet G__law_mix G__law_due G__law_shown G__law_map G__law_turned G__law_less G_movers_at G_dot_at hr), (pure vs H Q E h).2⟩), F.bindsN (fun _ _ _ _ _ _ us hl => match us, hl with | [_], _ => rfl), F.kp⟩
end
end K62
namespace K62
open PySem PySem.Spec PyProof.Rows L2 NdefX StX Kx
def N_LatePicture___init__ : List Str := ["self", "__class__"]
theorem sc_LatePicture___init__ : NScope N_LatePicture___init__ ["self"] ["__class__"] (defScope s_LatePicture___init__) := nscope_by (by decide +kernel)
def t_LatePicture___init__ (K : PySem.W.Frag) : TS :=
  tSeq (tDrop (tSup (He.ga K "LatePicture") (sp_Picture___init___LatePicture K) [] E0 tNil)) (sFld K (tVar 0) (tC (.int 0)) "_next")
theorem p_nx0 {sa st mk mv ca : Addr} {pv : V} {n : Int} (k : Int) : putF "_next" (.int k) (pf sa st mk mv ca pv n none) = pf sa st mk mv ca pv n (some k) := by kernel_rfl
theorem pure_linit {K : PySem.W.Frag} (c : CF K) (vs : List V) (H : Hp) (Q : VK) (E : XK) (h : sp_LatePicture___init__ K vs H Q E) :
    vs.length = 1 ∧ t_LatePicture___init__ K { nx := fun _ H' => Q .non H', rt := Q } (startF N_LatePicture___init__ vs [some (.ref (He.ga K "LatePicture"))]) H := by
  obtain ⟨p, dx, rfl, hp, q⟩ := h
  refine ⟨rfl, ?_⟩
  show t_LatePicture___init__ K _ [some (.ref p), some (.ref (He.ga K "LatePicture"))] H
  unfold t_LatePicture___init__
  refine xSeq (xDrop ?_)
  refine ⟨p, dx, [], rfl, hp, xNil ?_⟩
  refine ⟨p, dx, rfl, hp, fun sa ca H1 U nsa nca k => ?_⟩
  refine xFldS (xC (xVar rfl ?_))
  obtain ⟨dx1, st, mk, mv, pv, ho, hst, hmk, hmv, hp0, hp1⟩ := id U.ob
  refine yFldS ho c.cl c.nx (f_len ..) ?_
  rw [p_nx0]
  exact q sa ca _ (U.put rfl rfl hst hmk hmv hp0 hp1) nsa nca (k.trans (.upd (by simp)))
section
variable {P : Program} {w : World} {K : PySem.W.Frag} {mg : Str → Option Value} {base : Heap}
theorem cf_of (T : Txt K mg) : CF K := ⟨T.cls_LatePicture, T.noat_LatePicture__sheet, T.noat_LatePicture__settings, T.noat_LatePicture__marks, T.noat_LatePicture__movers, T.noat_LatePicture__screen, T.noat_LatePicture__picture, T.noat_LatePicture__number, T.noat_LatePicture__next⟩
theorem fn_LatePicture___init__ (T : Txt K mg) (SD : ∃ fd cda cc, SupD P K "__init__" "LatePicture.__init__" (defArgs s_LatePicture___init__) (defBody s_LatePicture___init__) (defScope s_LatePicture___init__) (He.fAd K ("LatePicture", some "__init__")) cda cc (He.ga K "LatePicture") fd)
    (S : Sup K (He.ga K "LatePicture") (He.ga K "LatePicture") "__init__" (He.fAd K ("Picture", some "__init__"))) (G : Fn P w K mg base CX0 1 (He.fAd K ("Picture", some "__init__")) ["self"] (sp_Picture___init___LatePicture K)) (hg : mg "super" = none) (htop : (P.main.scope.names.lookup ("super" : Str)).isSome = false) :
    Fn P w K mg base CX0 2 (He.fAd K ("LatePicture", some "__init__")) ["self"] (sp_LatePicture___init__ K) := by
  obtain ⟨fd, cda, cc, SD⟩ := SD
  obtain ⟨fg, Fg, bg, _⟩ := G
  have pure := fun vs H Q E h => pure_linit (K := K) (cf_of T) vs H Q E h
  refine ⟨fd, fn_sup (k := 1) SD sc_LatePicture___init__ (fun vs H Q E h => (pure vs H Q E h).1) (fun A outer s H vs Q E hr h => ⟨t_LatePicture___init__ K, PSts.nox ?_, (pure vs H Q E h).2⟩), SD.bindsN (fun _ _ _ _ _ _ us hl => match us, hl with | [_], _ => rfl), SD.kp⟩
  refine psts_cons (pst_expr (pet_sup0 (k := 1) (ps := ["self"]) (ds := []) SD S Fg (hr.mono (by decide)) bg .nil pass0 rfl (by rfl) rfl (by decide +kernel) (by decide +kernel) (by decide +kernel) rfl hg htop)) (PSts.of (pss_one (ps_fld (pv 0) pe_int rfl)))
end
end K62
namespace K62
open PySem PySem.Spec PyProof.Rows L2 NdefX StX Kx
abbrev R : PySem.W.OpenRow := PySem.W.OpenLaw.row PySem.Challenge.rw_caughtup_k62_main_pictures_that_are_move
def fa : List He.Fa := [.cls "LatePicture", .free "abs", .free "all", .free "enumerate", .free "int", .free "len", .free "list", .free "max", .free "min", .free "range", .free "set", .free "sorted", .free "sum", .free "tuple", .glo "LatePicture", .glo "POWERS", .glo "_law_bit", .glo "_law_draws", .glo "_law_due", .glo "_law_less", .glo "_law_map", .glo "_law_mix", .glo "_law_pixel", .glo "_law_sheet", .glo "_law_showing", .glo "_law_shown", .glo "_law_turned", .glo "bit", .glo "check_sheet", .glo "column_of", .glo "dot_at", .glo "dot_in", .glo "dots_of", .glo "ground_dots", .glo "ground_in", .glo "line_of", .glo "mover_dots", .glo "mover_pixel", .glo "movers_at", .glo "movers_in", .glo "pixel_in", .glo "showing", .glo "tile_dots", .int "COLOURS" 96, .int "COLUMNS" 48, .int "DOTS" 768, .int "LINES" 24, .int "MAP" 64, .int "MOST_SHOWN" 4, .int "MOVERS" 64, .int "MOVER_COLOURS" 112, .int "ROWS" 32, .int "SHEET" 1024, .int "TILE" 8, .int "TILES" 128, .int "WIDE" 32, .meth "LatePicture" "_begin", .meth "LatePicture" "_draw", .meth "LatePicture" "_run", .meth "LatePicture" "let", .meth "LatePicture" "live_to", .meth "LatePicture" "marks", .meth "LatePicture" "picture", .meth "LatePicture" "put", .mkr "LatePicture", .noat "LatePicture" "_marks", .noat "LatePicture" "_movers", .noat "LatePicture" "_next", .noat "LatePicture" "_number", .noat "LatePicture" "_picture", .noat "LatePicture" "_screen", .noat "LatePicture" "_settings", .noat "LatePicture" "_sheet", .free "super", .glo "law"]
def D_check_sheet : He.DefD := ⟨("check_sheet", none), "check_sheet", "check_sheet", defArgs s_check_sheet, defBody s_check_sheet, defScope s_check_sheet, [], []⟩
def D_bit : He.DefD := ⟨("bit", none), "bit", "bit", defArgs s_bit, defBody s_bit, defScope s_bit, [], []⟩
def D_pixel_in : He.DefD := ⟨("pixel_in", none), "pixel_in", "pixel_in", defArgs s_pixel_in, defBody s_pixel_in, defScope s_pixel_in, [], []⟩
def D_ground_in : He.DefD := ⟨("ground_in", none), "ground_in", "ground_in", defArgs s_ground_in, defBody s_ground_in, defScope s_ground_in, [], []⟩
def D_movers_in : He.DefD := ⟨("movers_in", none), "movers_in", "movers_in", defArgs s_movers_in, defBody s_movers_in, defScope s_movers_in, [], []⟩
def D_movers_at : He.DefD := ⟨("movers_at", none), "movers_at", "movers_at", defArgs s_movers_at, defBody s_movers_at, defScope s_movers_at, [], []⟩
def D_mover_pixel : He.DefD := ⟨("mover_pixel", none), "mover_pixel", "mover_pixel", defArgs s_mover_pixel, defBody s_mover_pixel, defScope s_mover_pixel, [], []⟩
def D_showing : He.DefD := ⟨("showing", none), "showing", "showing", defArgs s_showing, defBody s_showing, defScope s_showing, [], []⟩
def D_dot_in : He.DefD := ⟨("dot_in", none), "dot_in", "dot_in", defArgs s_dot_in, defBody s_dot_in, defScope s_dot_in, [], []⟩
def D_dot_at : He.DefD := ⟨("dot_at", none), "dot_at", "dot_at", defArgs s_dot_at, defBody s_dot_at, defScope s_dot_at, [], []⟩
def D_column_of : He.DefD := ⟨("column_of", none), "column_of", "column_of", defArgs s_column_of, defBody s_column_of, defScope s_column_of, [], []⟩
def D_line_of : He.DefD := ⟨("line_of", none), "line_of", "line_of", defArgs s_line_of, defBody s_line_of, defScope s_line_of, [], []⟩
def D_Picture___init___LatePicture : He.DefD := ⟨("Picture", some "__init__"), "__init__", "Picture.__init__", defArgs s_Picture___init__, defBody s_Picture___init__, defScope s_Picture___init__, [], []⟩
def D_Picture__begin_LatePicture : He.DefD := ⟨("LatePicture", some "_begin"), "_begin", "Picture._begin", defArgs s_Picture__begin, defBody s_Picture__begin, defScope s_Picture__begin, [], []⟩
def D_Picture_put_LatePicture : He.DefD := ⟨("LatePicture", some "put"), "put", "Picture.put", defArgs s_Picture_put, defBody s_Picture_put, defScope s_Picture_put, [], []⟩
def D_Picture_let_LatePicture : He.DefD := ⟨("LatePicture", some "let"), "let", "Picture.let", defArgs s_Picture_let, defBody s_Picture_let, defScope s_Picture_let, [], []⟩
def D_Picture_marks_LatePicture : He.DefD := ⟨("LatePicture", some "marks"), "marks", "Picture.marks", defArgs s_Picture_marks, defBody s_Picture_marks, defScope s_Picture_marks, [], []⟩
def D_Picture_picture_LatePicture : He.DefD := ⟨("LatePicture", some "picture"), "picture", "Picture.picture", defArgs s_Picture_picture, defBody s_Picture_picture, defScope s_Picture_picture, [], []⟩
def D_tile_dots : He.DefD := ⟨("tile_dots", none), "tile_dots", "tile_dots", defArgs s_tile_dots, defBody s_tile_dots, defScope s_tile_dots, [], []⟩
def D_ground_dots : He.DefD := ⟨("ground_dots", none), "ground_dots", "ground_dots", defArgs s_ground_dots, defBody s_ground_dots, defScope s_ground_dots, [], []⟩
def D_mover_dots : He.DefD := ⟨("mover_dots", none), "mover_dots", "mover_dots", defArgs s_mover_dots, defBody s_mover_dots, defScope s_mover_dots, [], []⟩
def D_dots_of : He.DefD := ⟨("dots_of", none), "dots_of", "dots_of", defArgs s_dots_of, defBody s_dots_of, defScope s_dots_of, [], []⟩
def D_LatePicture__draw : He.DefD := ⟨("LatePicture", some "_draw"), "_draw", "LatePicture._draw", defArgs s_LatePicture__draw, defBody s_LatePicture__draw, defScope s_LatePicture__draw, [], []⟩
def D_LatePicture__run : He.DefD := ⟨("LatePicture", some "_run"), "_run", "LatePicture._run", defArgs s_LatePicture__run, defBody s_LatePicture__run, defScope s_LatePicture__run, [], []⟩
def D_LatePicture_live_to : He.DefD := ⟨("LatePicture", some "live_to"), "live_to", "LatePicture.live_to", defArgs s_LatePicture_live_to, defBody s_LatePicture_live_to, defScope s_LatePicture_live_to, [], []⟩
def D__law_draws : He.DefD := ⟨("_law_draws", none), "_law_draws", "_law_draws", defArgs s__law_draws, defBody s__law_draws, defScope s__law_draws, [], []⟩
def D__law_mix : He.DefD := ⟨("_law_mix", none), "_law_mix", "_law_mix", defArgs s__law_mix, defBody s__law_mix, defScope s__law_mix, [], []⟩
def D__law_bit : He.DefD := ⟨("_law_bit", none), "_law_bit", "_law_bit", defArgs s__law_bit, defBody s__law_bit, defScope s__law_bit, [], []⟩
def D__law_pixel : He.DefD := ⟨("_law_pixel", none), "_law_pixel", "_law_pixel", defArgs s__law_pixel, defBody s__law_pixel, defScope s__law_pixel, [], []⟩
def D__law_showing : He.DefD := ⟨("_law_showing", none), "_law_showing", "_law_showing", defArgs s__law_showing, defBody s__law_showing, defScope s__law_showing, [], []⟩
def D__law_due : He.DefD := ⟨("_law_due", none), "_law_due", "_law_due", defArgs s__law_due, defBody s__law_due, defScope s__law_due, [], []⟩
def D__law_shown : He.DefD := ⟨("_law_shown", none), "_law_shown", "_law_shown", defArgs s__law_shown, defBody s__law_shown, defScope s__law_shown, [], []⟩
def D__law_sheet : He.DefD := ⟨("_law_sheet", none), "_law_sheet", "_law_sheet", defArgs s__law_sheet, defBody s__law_sheet, defScope s__law_sheet, [], []⟩
def D__law_map : He.DefD := ⟨("_law_map", none), "_law_map", "_law_map", defArgs s__law_map, defBody s__law_map, defScope s__law_map, [], []⟩
def D__law_turned : He.DefD := ⟨("_law_turned", none), "_law_turned", "_law_turned", defArgs s__law_turned, defBody s__law_turned, defScope s__law_turned, [], []⟩
def D__law_less : He.DefD := ⟨("_law_less", none), "_law_less", "_law_less", defArgs s__law_less, defBody s__law_less, defScope s__law_less, [], []⟩
def D_law : He.DefD := ⟨("law", none), "law", "law", defArgs s_law, defBody s_law, defScope s_law, [], []⟩
def fn : List He.DefD := [D_check_sheet, D_bit, D_pixel_in, D_ground_in, D_movers_in, D_movers_at, D_mover_pixel, D_showing, D_dot_in, D_dot_at, D_column_of, D_line_of, D_Picture___init___LatePicture, D_Picture__begin_LatePicture, D_Picture_put_LatePicture, D_Picture_let_LatePicture, D_Picture_marks_LatePicture, D_Picture_picture_LatePicture, D_tile_dots, D_ground_dots, D_mover_dots, D_dots_of, D_LatePicture__draw, D_LatePicture__run, D_LatePicture_live_to, D__law_draws, D__law_mix, D__law_bit, D__law_pixel, D__law_showing, D__law_due, D__law_shown, D__law_sheet, D__law_map, D__law_turned, D__law_less, D_law]
def U_LatePicture___init__ : SuD := ⟨("LatePicture", some "__init__"), "__init__", "LatePicture.__init__", defArgs s_LatePicture___init__, defBody s_LatePicture___init__, defScope s_LatePicture___init__, "LatePicture"⟩
def su : List SuD := [U_LatePicture___init__]
def ex (K : PySem.W.Frag) : Bool := He.tupB K "POWERS" [.int 1, .int 2, .int 4, .int 8, .int 16, .int 32, .int 64, .int 128] && supB K (He.ga K "LatePicture") (He.ga K "LatePicture") "__init__" (He.fAd K ("Picture", some "__init__"))
abbrev hk : PySem.W.Hook := hookS R.prog 5 fa fn su ex
def ob (s : PySem.W.SharedT) : AlS := obsSG R.prog 5 fa fn su ex (HandSHeadRun.getT s)
theorem ob_eq (s : PySem.W.SharedT) : ob s = hk.obs s.abs := obsSG_eq (HandSHeadRun.getT_eq s)
def loose : List PySem.Str := "_wall" :: "BoxError" :: "BadSheet" :: "SHEET" :: "MOVERS" :: "COLOURS" :: "MOVER_COLOURS" :: "TILES" :: "POWERS" :: "MOST_SHOWN" :: "LINES" :: "check_sheet" :: "bit" :: "pixel_in" :: "ground_in" :: "movers_in" :: "movers_at" :: "mover_pixel" :: "showing" :: "dot_in" :: "dot_at" :: "COLUMNS" :: "ROWS" :: "WIDE" :: "DOTS" :: "column_of" :: "line_of" :: "Picture" :: "TILE" :: "MAP" :: "tile_dots" :: "ground_dots" :: "mover_dots" :: "dots_of" :: "LatePicture" :: "_law_draws" :: "_law_mix" :: "_law_bit" :: "_law_pixel" :: "_law_showing" :: "_law_due" :: "_law_shown" :: "_law_sheet" :: "_law_map" :: "_law_turned" :: "_law_less" :: []
theorem run (w : World) : HandSHeadRun.RunEq R (PySem.W.view R.prog [52]) hk ob 3000 loose w := by
  intro os
  kernel_rfl
theorem txt_of {K : PySem.W.Frag} {h : Heap} {mg : Str → Option Value} (X : K.In h) (G : h.Ns mainGlobals mg) (c : SaysS R.prog fa fn su ex K) : Txt K mg where
  cls_LatePicture := He.cls_ok (c.fact 0 (f := .cls "LatePicture") rfl)
  free_abs := He.free_ok X G (c.fact 1 (f := .free "abs") rfl)
  free_all := He.free_ok X G (c.fact 2 (f := .free "all") rfl)
  free_enumerate := He.free_ok X G (c.fact 3 (f := .free "enumerate") rfl)
  free_int := He.free_ok X G (c.fact 4 (f := .free "int") rfl)
  free_len := He.free_ok X G (c.fact 5 (f := .free "len") rfl)
  free_list := He.free_ok X G (c.fact 6 (f := .free "list") rfl)
  free_max := He.free_ok X G (c.fact 7 (f := .free "max") rfl)
  free_min := He.free_ok X G (c.fact 8 (f := .free "min") rfl)
  free_range := He.free_ok X G (c.fact 9 (f := .free "range") rfl)
  free_set := He.free_ok X G (c.fact 10 (f := .free "set") rfl)
  free_sorted := He.free_ok X G (c.fact 11 (f := .free "sorted") rfl)
  free_sum := He.free_ok X G (c.fact 12 (f := .free "sum") rfl)
  free_tuple := He.free_ok X G (c.fact 13 (f := .free "tuple") rfl)
  glo_LatePicture := He.glo_ok X G (c.fact 14 (f := .glo "LatePicture") rfl)
  glo_POWERS := He.glo_ok X G (c.fact 15 (f := .glo "POWERS") rfl)
  glo__law_bit := He.glo_ok X G (c.fact 16 (f := .glo "_law_bit") rfl)
  glo__law_draws := He.glo_ok X G (c.fact 17 (f := .glo "_law_draws") rfl)
  glo__law_due := He.glo_ok X G (c.fact 18 (f := .glo "_law_due") rfl)
  glo__law_less := He.glo_ok X G (c.fact 19 (f := .glo "_law_less") rfl)
  glo__law_map := He.glo_ok X G (c.fact 20 (f := .glo "_law_map") rfl)
  glo__law_mix := He.glo_ok X G (c.fact 21 (f := .glo "_law_mix") rfl)
  glo__law_pixel := He.glo_ok X G (c.fact 22 (f := .glo "_law_pixel") rfl)
  glo__law_sheet := He.glo_ok X G (c.fact 23 (f := .glo "_law_sheet") rfl)
  glo__law_showing := He.glo_ok X G (c.fact 24 (f := .glo "_law_showing") rfl)
  glo__law_shown := He.glo_ok X G (c.fact 25 (f := .glo "_law_shown") rfl)
  glo__law_turned := He.glo_ok X G (c.fact 26 (f := .glo "_law_turned") rfl)
  glo_bit := He.glo_ok X G (c.fact 27 (f := .glo "bit") rfl)
  glo_check_sheet := He.glo_ok X G (c.fact 28 (f := .glo "check_sheet") rfl)
  glo_column_of := He.glo_ok X G (c.fact 29 (f := .glo "column_of") rfl)
  glo_dot_at := He.glo_ok X G (c.fact 30 (f := .glo "dot_at") rfl)
  glo_dot_in := He.glo_ok X G (c.fact 31 (f := .glo "dot_in") rfl)
  glo_dots_of := He.glo_ok X G (c.fact 32 (f := .glo "dots_of") rfl)
  glo_ground_dots := He.glo_ok X G (c.fact 33 (f := .glo "ground_dots") rfl)
  glo_ground_in := He.glo_ok X G (c.fact 34 (f := .glo "ground_in") rfl)
  glo_line_of := He.glo_ok X G (c.fact 35 (f := .glo "line_of") rfl)
  glo_mover_dots := He.glo_ok X G (c.fact 36 (f := .glo "mover_dots") rfl)
  glo_mover_pixel := He.glo_ok X G (c.fact 37 (f := .glo "mover_pixel") rfl)
  glo_movers_at := He.glo_ok X G (c.fact 38 (f := .glo "movers_at") rfl)
  glo_movers_in := He.glo_ok X G (c.fact 39 (f := .glo "movers_in") rfl)
  glo_pixel_in := He.glo_ok X G (c.fact 40 (f := .glo "pixel_in") rfl)
  glo_showing := He.glo_ok X G (c.fact 41 (f := .glo "showing") rfl)
  glo_tile_dots := He.glo_ok X G (c.fact 42 (f := .glo "tile_dots") rfl)
  int_COLOURS := He.int_ok X G (c.fact 43 (f := .int "COLOURS" 96) rfl)
  int_COLUMNS := He.int_ok X G (c.fact 44 (f := .int "COLUMNS" 48) rfl)
  int_DOTS := He.int_ok X G (c.fact 45 (f := .int "DOTS" 768) rfl)
  int_LINES := He.int_ok X G (c.fact 46 (f := .int "LINES" 24) rfl)
  int_MAP := He.int_ok X G (c.fact 47 (f := .int "MAP" 64) rfl)
  int_MOST_SHOWN := He.int_ok X G (c.fact 48 (f := .int "MOST_SHOWN" 4) rfl)
  int_MOVERS := He.int_ok X G (c.fact 49 (f := .int "MOVERS" 64) rfl)
  int_MOVER_COLOURS := He.int_ok X G (c.fact 50 (f := .int "MOVER_COLOURS" 112) rfl)
  int_ROWS := He.int_ok X G (c.fact 51 (f := .int "ROWS" 32) rfl)
  int_SHEET := He.int_ok X G (c.fact 52 (f := .int "SHEET" 1024) rfl)
  int_TILE := He.int_ok X G (c.fact 53 (f := .int "TILE" 8) rfl)
  int_TILES := He.int_ok X G (c.fact 54 (f := .int "TILES" 128) rfl)
  int_WIDE := He.int_ok X G (c.fact 55 (f := .int "WIDE" 32) rfl)
  meth_LatePicture__begin := He.meth_ok (c.fact 56 (f := .meth "LatePicture" "_begin") rfl)
  meth_LatePicture__draw := He.meth_ok (c.fact 57 (f := .meth "LatePicture" "_draw") rfl)
  meth_LatePicture__run := He.meth_ok (c.fact 58 (f := .meth "LatePicture" "_run") rfl)
  meth_LatePicture_let := He.meth_ok (c.fact 59 (f := .meth "LatePicture" "let") rfl)
  meth_LatePicture_live_to := He.meth_ok (c.fact 60 (f := .meth "LatePicture" "live_to") rfl)
  meth_LatePicture_marks := He.meth_ok (c.fact 61 (f := .meth "LatePicture" "marks") rfl)
  meth_LatePicture_picture := He.meth_ok (c.fact 62 (f := .meth "LatePicture" "picture") rfl)
  meth_LatePicture_put := He.meth_ok (c.fact 63 (f := .meth "LatePicture" "put") rfl)
  mkr_LatePicture := He.mkr_ok (c.fact 64 (f := .mkr "LatePicture") rfl)
  noat_LatePicture__marks := He.noat_ok (c.fact 65 (f := .noat "LatePicture" "_marks") rfl)
  noat_LatePicture__movers := He.noat_ok (c.fact 66 (f := .noat "LatePicture" "_movers") rfl)
  noat_LatePicture__next := He.noat_ok (c.fact 67 (f := .noat "LatePicture" "_next") rfl)
  noat_LatePicture__number := He.noat_ok (c.fact 68 (f := .noat "LatePicture" "_number") rfl)
  noat_LatePicture__picture := He.noat_ok (c.fact 69 (f := .noat "LatePicture" "_picture") rfl)
  noat_LatePicture__screen := He.noat_ok (c.fact 70 (f := .noat "LatePicture" "_screen") rfl)
  noat_LatePicture__settings := He.noat_ok (c.fact 71 (f := .noat "LatePicture" "_settings") rfl)
  noat_LatePicture__sheet := He.noat_ok (c.fact 72 (f := .noat "LatePicture" "_sheet") rfl)
  def_check_sheet := c.def_ 0 (d := D_check_sheet) rfl
  def_bit := c.def_ 1 (d := D_bit) rfl
  def_pixel_in := c.def_ 2 (d := D_pixel_in) rfl
  def_ground_in := c.def_ 3 (d := D_ground_in) rfl
  def_movers_in := c.def_ 4 (d := D_movers_in) rfl
  def_movers_at := c.def_ 5 (d := D_movers_at) rfl
  def_mover_pixel := c.def_ 6 (d := D_mover_pixel) rfl
  def_showing := c.def_ 7 (d := D_showing) rfl
  def_dot_in := c.def_ 8 (d := D_dot_in) rfl
  def_dot_at := c.def_ 9 (d := D_dot_at) rfl
  def_column_of := c.def_ 10 (d := D_column_of) rfl
  def_line_of := c.def_ 11 (d := D_line_of) rfl
  def_Picture___init___LatePicture := c.def_ 12 (d := D_Picture___init___LatePicture) rfl
  def_Picture__begin_LatePicture := c.def_ 13 (d := D_Picture__begin_LatePicture) rfl
  def_Picture_put_LatePicture := c.def_ 14 (d := D_Picture_put_LatePicture) rfl
  def_Picture_let_LatePicture := c.def_ 15 (d := D_Picture_let_LatePicture) rfl
  def_Picture_marks_LatePicture := c.def_ 16 (d := D_Picture_marks_LatePicture) rfl
  def_Picture_picture_LatePicture := c.def_ 17 (d := D_Picture_picture_LatePicture) rfl
  def_tile_dots := c.def_ 18 (d := D_tile_dots) rfl
  def_ground_dots := c.def_ 19 (d := D_ground_dots) rfl
  def_mover_dots := c.def_ 20 (d := D_mover_dots) rfl
  def_dots_of := c.def_ 21 (d := D_dots_of) rfl
  def_LatePicture__draw := c.def_ 22 (d := D_LatePicture__draw) rfl
  def_LatePicture__run := c.def_ 23 (d := D_LatePicture__run) rfl
  def_LatePicture_live_to := c.def_ 24 (d := D_LatePicture_live_to) rfl
  def__law_draws := c.def_ 25 (d := D__law_draws) rfl
  def__law_mix := c.def_ 26 (d := D__law_mix) rfl
  def__law_bit := c.def_ 27 (d := D__law_bit) rfl
  def__law_pixel := c.def_ 28 (d := D__law_pixel) rfl
  def__law_showing := c.def_ 29 (d := D__law_showing) rfl
  def__law_due := c.def_ 30 (d := D__law_due) rfl
  def__law_shown := c.def_ 31 (d := D__law_shown) rfl
  def__law_sheet := c.def_ 32 (d := D__law_sheet) rfl
  def__law_map := c.def_ 33 (d := D__law_map) rfl
  def__law_turned := c.def_ 34 (d := D__law_turned) rfl
  def__law_less := c.def_ 35 (d := D__law_less) rfl
  def_law := c.def_ 36 (d := D_law) rfl
section
variable {P : Program} {w : World} {K : PySem.W.Frag} {mg : Str → Option Value} {base : Heap}
theorem all_ok (T : Txt K mg) (TP : Tab K) (SD : ∃ fd cda cc, SupD P K "__init__" "LatePicture.__init__" (defArgs s_LatePicture___init__) (defBody s_LatePicture___init__) (defScope s_LatePicture___init__) (He.fAd K ("LatePicture", some "__init__")) cda cc (He.ga K "LatePicture") fd) (S : Sup K (He.ga K "LatePicture") (He.ga K "LatePicture") "__init__" (He.fAd K ("Picture", some "__init__"))) (hg : mg "super" = none) (htop : (P.main.scope.names.lookup ("super" : Str)).isSome = false) {fd : FuncData} (F : FunD K "law" "law" (defArgs s_law) (defBody s_law) (defScope s_law) [] [] (He.fAd K ("law", none)) fd) : FnOk P w K mg base CX0 10 (He.fAd K ("law", none)) fd ["script"] (sp_law K) := by
  have c0 : CF K := cf_of T
  have G_check_sheet := fn_check_sheet (P := P) (w := w) (base := base) T  (pure_check)
  have G_bit := fn_bit (P := P) (w := w) (base := base) T  (pure_bit TP)
  have G_pixel_in := fn_pixel_in (P := P) (w := w) (base := base) T G_bit (pure_pixel)
  have G_ground_in := fn_ground_in (P := P) (w := w) (base := base) T G_bit G_pixel_in (pure_ground)
  have G_movers_in := fn_movers_in (P := P) (w := w) (base := base) T G_bit (pure_movers)
  have G_movers_at := fn_movers_at (P := P) (w := w) (base := base) T G_check_sheet G_movers_in (pure_movers_at)
  have G_mover_pixel := fn_mover_pixel (P := P) (w := w) (base := base) T G_bit G_pixel_in (pure_mpix)
  have G_showing := fn_showing (P := P) (w := w) (base := base) T G_mover_pixel (pure_showing)
  have G_dot_in := fn_dot_in (P := P) (w := w) (base := base) T G_ground_in G_showing G_bit (pure_dot)
  have G_dot_at := fn_dot_at (P := P) (w := w) (base := base) T G_check_sheet G_dot_in (pure_dot_at)
  have G_column_of := fn_column_of (P := P) (w := w) (base := base) T  (pure_column)
  have G_line_of := fn_line_of (P := P) (w := w) (base := base) T  (pure_line)
  have G_Picture___init___LatePicture := fn_Picture___init___LatePicture (P := P) (w := w) (base := base) T  (pure_pinit c0)
  have G_LatePicture___init__ := fn_LatePicture___init__ (P := P) (w := w) (base := base) T SD S G_Picture___init___LatePicture hg htop
  have G_Picture__begin_LatePicture := fn_Picture__begin_LatePicture (P := P) (w := w) (base := base) T G_bit G_movers_in (pure_begin c0)
  have G_Picture_put_LatePicture := fn_Picture_put_LatePicture (P := P) (w := w) (base := base) T  (pure_put c0)
  have G_Picture_let_LatePicture := fn_Picture_let_LatePicture (P := P) (w := w) (base := base) T  (pure_let c0)
  have G_Picture_marks_LatePicture := fn_Picture_marks_LatePicture (P := P) (w := w) (base := base) T  (pure_marks c0)
  have G_Picture_picture_LatePicture := fn_Picture_picture_LatePicture (P := P) (w := w) (base := base) T  (pure_picture c0)
  have G_tile_dots := fn_tile_dots (P := P) (w := w) (base := base) T G_bit (pure_tile)
  have G_ground_dots := fn_ground_dots (P := P) (w := w) (base := base) T G_bit G_tile_dots (pure_gdots)
  have G_mover_dots := fn_mover_dots (P := P) (w := w) (base := base) T G_mover_pixel (pure_mdots)
  have G_dots_of := fn_dots_of (P := P) (w := w) (base := base) T G_mover_dots G_ground_dots G_bit (pure_dots)
  have G_LatePicture__draw := fn_LatePicture__draw (P := P) (w := w) (base := base) T G_dots_of (pure_draw c0)
  have G_LatePicture__run := fn_LatePicture__run (P := P) (w := w) (base := base) T G_Picture__begin_LatePicture G_bit G_LatePicture__draw (pure_run c0)
  have G_LatePicture_live_to := fn_LatePicture_live_to (P := P) (w := w) (base := base) T G_column_of G_LatePicture__run G_line_of (pure_plive c0)
  have G__law_draws := fn__law_draws (P := P) (w := w) (base := base) T  (pure_draws)
  have G__law_mix := fn__law_mix (P := P) (w := w) (base := base) T  (pure_mix)
  have G__law_bit := fn__law_bit (P := P) (w := w) (base := base) T  (pure_lbit)
  have G__law_pixel := fn__law_pixel (P := P) (w := w) (base := base) T G__law_bit (pure_lpixel)
  have G__law_showing := fn__law_showing (P := P) (w := w) (base := base) T G__law_pixel G__law_bit (pure_lshowing)
  have G__law_due := fn__law_due (P := P) (w := w) (base := base) T G__law_bit G__law_pixel G__law_showing (pure_due)
  have G__law_shown := fn__law_shown (P := P) (w := w) (base := base) T G_LatePicture___init__ G_Picture_put_LatePicture G_Picture_let_LatePicture G_LatePicture_live_to G_Picture_marks_LatePicture G_Picture_picture_LatePicture (pure_shown)
  have G__law_sheet := fn__law_sheet (P := P) (w := w) (base := base) T G__law_mix (pure_sheet)
  have G__law_map := fn__law_map (P := P) (w := w) (base := base) T  (pure_map)
  have G__law_turned := fn__law_turned (P := P) (w := w) (base := base) T G__law_bit (pure_turned)
  have G__law_less := fn__law_less (P := P) (w := w) (base := base) T  (pure_less)
  exact F.ok sc_law (fun vs H Q E h => (pure_law vs H Q E h).1) (fun cdv A outer s H vs Q E hr h => ⟨t_law K, PSs.nox (d_law T G__law_draws G__law_sheet G__law_mix G__law_due G__law_shown G__law_map G__law_turned G__law_less G_movers_at G_dot_at hr), (pure_law vs H Q E h).2⟩)
end
theorem facts {w : World} {K : PySem.W.Frag} {h : Heap} {mg : Str → Option Value} {f : Addr} (X : K.In h) (G : h.Ns mainGlobals mg) (hfa : mg ("law" : Str) = some (.ref f)) (c : SaysS R.prog fa fn su ex K) :
    ∃ fd : FuncData, (∀ (s : Shared) (v : Value), BindsTo s fd ⟨[v], []⟩ [("script", v)]) ∧ ∀ base : Heap, K.In base → base.Ns mainGlobals mg → FnOk R.prog w K mg base CX0 10 f fd ["script"] (sp_law K) := by
  have T := txt_of X G c
  obtain ⟨fd, F⟩ := T.def_law
  have e := hfa.symm.trans (He.glo_ok X G (c.fact 74 (f := .glo "law") rfl))
  cases e
  have b := FunD.bindsA (ps := ["script"]) F fun _ _ _ _ _ _ us hl => match us, hl with | [_], _ => rfl
  have SD := c.sup_ 0 (d := U_LatePicture___init__) rfl
  have ex := He.ba c.ex_
  have S := Sup.by_ ex.2
  have TP : Tab K := fun H => He.tupB_ok ex.1 H
  have hg := He.free_ok X G (c.fact 73 (f := .free "super") rfl)
  exact ⟨fd, fun s v => b s [v] rfl, fun base _ _ => all_ok (P := R.prog) (w := w) (base := base) T TP SD S hg (by kernel_rfl) F⟩
end K62
open PySem PySem.W PySem.Calls PyProof.Rows
theorem PySem.Challenge.cw_caughtup_k62_main_pictures_that_are_move_holds : PySem.Challenge.rw_caughtup_k62_main_pictures_that_are_move.Holds := by
  w_on; o_law
  refine HandSHeadRun.head_any (r := OpenLaw.row PySem.Challenge.rw_caughtup_k62_main_pictures_that_are_move) (q := view (OpenLaw.row PySem.Challenge.rw_caughtup_k62_main_pictures_that_are_move).prog [52]) (H := K62.hk) (ob := K62.ob) (M := 3000) (loose := K62.loose) (d := HandSHeadRun.topDef (OpenLaw.row PySem.Challenge.rw_caughtup_k62_main_pictures_that_are_move).prog 52) (kwd := []) K62.ob_eq
    (by kernel_rfl) (fun s => by kernel_rfl) K62.run (by kernel_rfl) (by kernel_rfl) (by kernel_rfl) (by rfl) (by first | assumption | decide +kernel) (by decide +kernel) ⟨rfl, rfl, rfl, rfl, rfl, by decide +kernel⟩ ?hw ?hc
  case hw => w_witness2
  case hc =>
    refine L2.walk_ofE (l := PySem.Challenge.rw_caughtup_k62_main_pictures_that_are_move) (n := 63) (k := 10) (x := "script") (CX := L2.CX0) rfl (by decide) (by kernel_rfl) ⟨rfl, by decide, by decide⟩ ?F (fun _ _ _ _ z => z)
    intro w mg fa h Y G hmg0
    obtain ⟨K, KX, c⟩ := Y
    have hmg : mg ("law" : PySem.Str) = some (.ref fa) := by
      have e : (HandSHeadRun.topDef (OpenLaw.row PySem.Challenge.rw_caughtup_k62_main_pictures_that_are_move).prog 52).name = ("law" : PySem.Str) := by kernel_rfl
      rw [← e]
      exact hmg0
    obtain ⟨fd, hb, hF⟩ := K62.facts (w := w) KX G hmg c
    exact ⟨K, fd, K62.sp_law K, KX, hb, fun H a ns hl _ hS => ⟨a, ns, rfl, hS, hl, fun _ => rfl⟩, hF⟩
