import PyProof.Rows.All
import Wide.All
import OpenK.AllK
import Wide.FinOn
import PyProof.CollectIter
import PyProof.WalksMore
import KE.KExcInit
import HandS.ForMost
import HandS.ForExc
import HandS.More
import HandS.ExcInit
import PyProof.ListStr
import HandS.OwnEq
import HandS.TryMany
import HandS.Finally
import HandS.ExcField
import HandS.Lambda
import HandS.ExcOwn
import HandS.Flow
import HandS.Style
import HandS.Defaults
import HandS.MakeKwOnly
import HandS.HeadHook4
import HandS.HeadWalk
import HandS.IsInst
import HandS.Deep
import HandS.FStr
import HandS.Replace
import HandS.Codes
import HandS.Head3
import HandS.Dict
import HandS.Walk
import HandS.Head2
import KE.KStateDown
import PySem.Challenge.RW_echoladder_k70_whole_independent_objects
set_option Elab.async false
set_option linter.all false
set_option maxRecDepth 100000
set_option maxHeartbeats 4000000
/-! rules of our own, 1: a star among the targets -/
namespace K70
open PySem PySem.Spec PyProof.Rows L2
section
variable {prog : Program} {w : World} {A : Around} {E : Value → Shared → Prop} {s : Shared}
theorem walk_from {it : Addr} {fp wr : List Addr} {n : Nat} {P : Nat → Value → Prop} {St : Nat → Heap → Prop} (W : Walks prog w A it fp wr n P St) (k : Nat) (hk : k ≤ n) :
    Walks prog w A it fp wr (n - k) (fun i v => P (k + i) v) (fun i h => St (k + i) h) where
  sub := W.sub
  frame := fun i h h' st e => W.frame (k + i) h h' st e
  item := fun i s Q E hi st hQ => W.item (k + i) s Q E (by omega) st fun v h' tk p st' e => hQ v h' tk p st' e
  done := fun s Q E st hQ => W.done s Q E (by
    have e : k + (n - k) = n := by omega
    rw [e] at st
    exact st) hQ
  self := fun i s Q E st hQ => W.self (k + i) s Q E st hQ
theorem draw_walk {it : Addr} {fp wr : List Addr} {n : Nat} {P : Nat → Value → Prop} {St : Nat → Heap → Prop} (W : Walks prog w A it fp wr n P St) :
    ∀ (k i : Nat) (s : Shared) (Q : List Value → Shared → Prop), St i s.heap → i + k ≤ n →
      (∀ vs h' tk, vs.length = k → (∀ (j : Nat) v, vs[j]? = some v → P (i + j) v) → St (i + k) h' → (∀ b o, b ∉ wr → s.heap.get? b = some o → h'.get? b = some o) → Q vs { s with heap := h', toks := tk }) →
      wpAny (model prog w) A (draw (.ref it) k) Q E s
  | 0, i, s, Q, st, _, hQ => by
    show wpAny _ _ (pure []) Q E s
    exact wpAny_pure (hQ [] s.heap s.toks rfl (fun j v e => by simp at e) st fun b o _ e => e)
  | k + 1, i, s, Q, st, hk, hQ => by
    show wpAny _ _ (pyNext (.ref it) >>= _) Q E s
    refine wpAny_bind (W.item i s _ E (by omega) st fun v h1 t1 p1 st1 e1 => ?_)
    refine wpAny_bind (wpAny_holding (draw_walk W k (i + 1) _ _ st1 (by omega) fun vs h2 t2 hl hp st2 e2 => wpAny_pure ?_))
    refine hQ (v :: vs) h2 t2 (by rw [List.length_cons, hl]) (fun j u e => ?_) (by rw [show i + (k + 1) = i + 1 + k by omega]; exact st2) fun b o hb e => e2 b o hb (e1 b o hb e)
    cases j with
    | zero =>
      simp at e
      rw [← e]
      exact p1
    | succ j =>
      simp at e
      rw [show i + (j + 1) = i + 1 + j by omega]
      exact hp j u e
end
theorem list_at {items : List Value} {vs : List Value} {i : Nat} (h : ∀ (j : Nat) v, vs[j]? = some v → items[i + j]? = some v) : vs = (items.drop i).take vs.length := by
  apply List.ext_getElem?
  intro j
  by_cases hj : j < vs.length
  · have e := h j vs[j] (List.getElem?_eq_getElem hj)
    rw [List.getElem?_eq_getElem hj, List.getElem?_take, if_pos hj, List.getElem?_drop, e]
  · rw [List.getElem?_eq_none (by omega), List.getElem?_eq_none]
    rw [List.length_take]
    omega
section
variable {prog : Program} {w : World} {A : Around} {E : Value → Shared → Prop} {s : Shared}
/-- an iterator that gives the items one by one, from its place k on, collected -/
theorem collect_from {it ax : Addr} {T : String} (hT : T = "list_iterator" ∨ T = "tuple_iterator") {items : Array Value} {St : Nat → Heap → Prop} (W : Walks prog w A.in1 it [it, ax] [it] items.size (fun i v => items[i]? = some v) St)
    (ht : ∀ i (s : Shared), St i s.heap → s.TypeIs (.ref it) T) (k : Nat) (hk : k ≤ items.size) (hz : items.size ≤ sizeLine) (st : St k s.heap) (h1 : it < s.heap.objs.size) (h2 : ax < s.heap.objs.size) {Q : List Value → Shared → Prop}
    (hQ : ∀ s', (∀ b o, b ≠ it → s.heap.get? b = some o → s'.heap.get? b = some o) → s'.gens = s.gens → s'.drawn = s.drawn → s'.os = s.os → Q (items.toList.drop k) s') : wpAny (model prog w) A (collect (.ref it)) Q E s := by
  have W2 := (walk_from W k hk).toS
  refine wpAny_collect_iter (T := T) (by rcases hT with e | e <;> simp [e]) W2 (fun i s st => ht (k + i) s st) st (fun b hb => ?_) (by simp) (fun s' acc mv io => ?_) (by omega)
  · simp at hb
    rcases hb with rfl | rfl
    · exact h1
    · exact h2
  · have e : acc.toList = items.toList.drop k := by
      apply List.ext_getElem?
      intro j
      rw [List.getElem?_drop]
      by_cases hj : j < acc.size
      · have q := io.2 j acc[j] (by simp [hj])
        have q2 : items[k + j]? = some acc[j] := q
        rw [← Array.getElem?_toList] at q2
        rw [q2, Array.getElem?_toList]
        simp [hj]
      · have e1 := io.1
        rw [List.getElem?_eq_none (by simpa using hj), List.getElem?_eq_none]
        simp
        omega
    rw [e]
    exact hQ s' (fun b o hb q => mv.heap b o (by simpa using hb) q) mv.gens mv.drawn mv.os
/-- a, .., *r = a list or a tuple: the values handed out; the rest is a new list -/
theorem unpack_star {v : Value} {ax : Addr} {items : Array Value} {i : Nat} {Q : List Value → Shared → Prop} (hh : A.handled = none) (hv : v = .ref ax) (ho : s.heap.IsList ax items ∨ s.heap.IsTuple ax items) (hi : i ≤ items.size) (hz : items.size ≤ sizeLine)
    (hQ : ∀ (h' : Heap) (tk : Nat), (∀ b o, s.heap.get? b = some o → h'.get? b = some o) → Q (items.toList.take i ++ [.ref h'.objs.size]) { s with heap := h'.push { cls := .type "list", data := .seq (items.toList.drop i).toArray }, toks := tk }) :
    wpAny (model prog w) A (unpackItems v (i + 1) (some i)) Q E s := by
  subst hv
  have hax : ax < s.heap.objs.size := by
    rcases ho with ⟨o, e, _⟩ | ⟨o, e, _⟩ <;> exact Heap.lt_size e
  have hlt : ax ≠ s.heap.objs.size := Nat.ne_of_lt hax
  have key : ∀ {T : String} {o : Obj} {St : Nat → Heap → Prop}, (T = "list_iterator" ∨ T = "tuple_iterator") → Walks prog w A s.heap.objs.size [s.heap.objs.size, ax] [s.heap.objs.size] items.size (fun i v => items[i]? = some v) St →
      Walks prog w A.in1 s.heap.objs.size [s.heap.objs.size, ax] [s.heap.objs.size] items.size (fun i v => items[i]? = some v) St →
      (∀ i (s' : Shared), St i s'.heap → s'.TypeIs (.ref s.heap.objs.size) T) → St 0 (s.heap.push o) → o.isFreed = false →
      wpAny (model prog w) A (do
        let first ← holding [.ref s.heap.objs.size] (draw (.ref s.heap.objs.size) i)
        if first.length < i then
          rule "unpack.star.too-few-before"
          raiseError "ValueError" s!"not enough values to unpack (expected at least {(i + 1) - 1}, got {first.length})"
        let rest ← holding first (collect (.ref s.heap.objs.size))
        let after := (i + 1) - 1 - i
        if rest.length < after then
          rule "unpack.star.too-few"
          raiseError "ValueError" s!"not enough values to unpack (expected at least {(i + 1) - 1}, got {i + rest.length})"
        let mid := rest.length - after
        return first ++ [← newList (rest.take mid)] ++ rest.drop mid) Q E { s with heap := s.heap.push o } := by
    intro T o St hT W W1 ht st fr
    refine wpAny_bind (wpAny_holding (draw_walk W i 0 _ _ st (by omega) fun vs h1 t1 hl hp st1 e1 => ?_))
    rw [if_neg (by omega)]
    have hs1 : s.heap.objs.size < h1.objs.size := by
      obtain ⟨o1, q1, _⟩ := ht _ { s with heap := h1 } st1
      exact Heap.lt_size q1
    have keep1 : ∀ b o', s.heap.get? b = some o' → h1.get? b = some o' := fun b o' q => e1 b o' (by simp; exact Nat.ne_of_lt (Heap.lt_size q)) (Heap.get?_push_of_some _ q)
    refine wpAny_bind (wpAny_holding (collect_from hT W1 ht i hi hz (by simpa using st1) hs1 (Nat.lt_trans hax hs1) fun s2 k2 g2 d2 o2 => ?_))
    have ea : (i + 1) - 1 - i = 0 := by omega
    dsimp only
    rw [ea, if_neg (by omega), Nat.sub_zero, List.take_length, List.drop_length]
    refine wpAny_bind (wpAny_newList ?_)
    refine wpAny_pure ?_
    have ev : vs = items.toList.take i := by
      have q := list_at (items := items.toList) (vs := vs) (i := 0) fun j v e => by
        have z := hp j v e
        rw [← Array.getElem?_toList] at z
        exact z
      rw [List.drop_zero, hl] at q
      exact q
    rw [ev, List.append_nil]
    obtain ⟨hp2, g', d', tk2, os'⟩ := s2
    obtain rfl : g' = s.gens := g2
    obtain rfl : d' = s.drawn := d2
    obtain rfl : os' = s.os := o2
    have kk : ∀ b o', s.heap.get? b = some o' → hp2.get? b = some o' := fun b o' q => k2 b o' (Nat.ne_of_lt (Heap.lt_size q)) (keep1 b o' q)
    exact hQ hp2 tk2 kk
  unfold unpackItems
  refine wpAny_bind ?_
  unfold notIterableAtAll
  rcases ho with ho | ho
  · refine wpAny_bind (wpAny_specialOf ho.typeIs PySem.slot_list_iter.lookup ?_)
    refine wpAny_pure ?_
    simp only [Bool.false_eq_true, if_false]
    refine wpAny_bind (wpAny_holding (wpAny_pyIter_list ho ?_))
    exact key (.inl rfl) (Walks.list hh _ ax hlt items) (Walks.list (A := A.in1) hh _ ax hlt items) (fun i s' st => st.1.typeIs) ⟨⟨_, Heap.get?_push_size _ rfl, rfl, rfl⟩, ho.push _⟩ rfl
  · refine wpAny_bind (wpAny_specialOf ho.typeIs F.slot_tuple_iter.lookup ?_)
    refine wpAny_pure ?_
    simp only [Bool.false_eq_true, if_false]
    refine wpAny_bind (wpAny_holding (wpAny_pyIter_tuple ho ?_))
    exact key (.inr rfl) (Walks.tuple hh _ ax hlt items) (Walks.tuple (A := A.in1) hh _ ax hlt items) (fun i s' st => st.1.typeIs) ⟨⟨_, Heap.get?_push_size _ rfl, rfl, rfl⟩, ho.push _⟩ rfl
end
/-! ### as targets -/
def gStar (K : PySem.W.Frag) (n : Nat) (t : TGs) : TG := fun v σ H Q => ∃ a xs, v = .ref a ∧ (SqL K H a xs ∨ SqT K H a xs) ∧ n ≤ xs.length ∧ ∀ l, H l = none → t (xs.take n ++ [.ref l]) σ (upd H l (.lst (xs.drop n))) Q
section
variable {X : Cx} {pos : Pos}
theorem pgs_star {e : Expr} {es : List Expr} {t : TG} {u : TGs} {p : Pos} (h1 : PG X e t) (h2 : PGs X es u)
    (hs : (assignEach (.Starred e p :: es) X.env).map (·.2) = assign e X.env :: (assignEach es X.env).map (·.2) := by rfl) : PGs X (.Starred e p :: es) (gCons t u) := by
  refine ⟨fun pins s σ H vs us Q I r h => ?_⟩
  obtain ⟨v, vr, rfl, h⟩ := h
  cases r with
  | cons r rr =>
    rw [hs]
    exact assignInOrder_cons (thn (h1.run pins s σ H _ _ _ I r h) fun _ s1 ⟨σ1, H1, I1, q1⟩ => h2.run pins s1 σ1 H1 _ _ Q I1 rr q1)
theorem pg_star {es : List Expr} {k : Nat} {t : TGs} {n : Nat} (hc : X.calm = true) (h : PGs X es t) (hn : (assignEach es X.env).length = n + 1 := by rfl) (hst : (assignEach es X.env).findIdx? (·.1) = some n := by rfl) :
    PG X (.Tuple es k pos) (gStar X.K n t) := by
  refine ⟨fun pins s σ H v u Q I r hw => ?_⟩
  obtain ⟨a, xs, rfl, hq, hl, hw⟩ := hw
  cases r
  obtain ⟨its, rv, ht, hz⟩ : ∃ its : List Value, Vals xs its ∧ (s.heap.IsList a its.toArray ∨ s.heap.IsTuple a its.toArray) ∧ xs.length ≤ sizeLine := by
    rcases hq with q | q
    · obtain ⟨its, r1, p1, z1⟩ := I.list q
      exact ⟨its, r1, .inl p1.isList, z1⟩
    · obtain ⟨its, r1, p1, z1⟩ := I.tuple q
      exact ⟨its, r1, .inr p1, z1⟩
  rw [arm_assign_Tuple]
  refine wpAny_bind (wpAny_standAt ?_)
  unfold unpack
  rw [hn, hst]
  refine wpAny_bind (wpAny_holding (unpack_star (I.ok.hd hc) rfl ht (by simpa [← rv.length] using hl) (by simpa [← rv.length] using hz) fun h' tk kk => ?_))
  have I1 : Inv X pins σ H { s with heap := h', toks := tk } := I.kept kk
  have hH : H h'.objs.size = none := I1.hok.fresh (Nat.le_refl _)
  have I2 := I1.laid (t' := tk) (a := h'.objs.size) (o := .lst (xs.drop n)) (h' := h'.push { cls := .type "list", data := .seq (its.drop n).toArray }) (fun b o e => Heap.get?_push_of_some _ e) (Nat.le_refl _)
    ⟨Nat.le_trans (by rw [List.length_drop]; omega) hz, its.drop n, 0, rv.drop n, Heap.get?_push_size _ rfl⟩
  exact h.run pins _ σ _ _ _ Q I2 ((rv.take n).append (.cons (show RelV (.ref h'.objs.size) (Value.ref h'.objs.size) from rfl) .nil)) (hw _ hH)
end
end K70
/-! rules of our own, 2: own __len__, own __eq__ -/
namespace K70
open PySem PySem.Spec PyProof.Rows L2
section
variable {X : Cx} {CX : CXT} {k : Nat} {f C : Addr} {fd : FuncData} {ps : List Str} {sp : Sp} {E : XK}
/-- len(o), o an instance of a class of the text with its own length -/
def rLenOwn (C : Addr) (sp : Sp) (E : XK) : List V → Hp → VK → Prop := fun xs H Q => ∃ a dx fs, xs = [.ref a] ∧ H a = some (.ins C dx fs) ∧ sp [.ref a] H (fun v H' => ∃ n : Nat, v = .int n ∧ n < 2 ^ 63 ∧ Q (.int n) H') E
theorem call_lenOwn (F : FnOk X.prog X.w X.K X.mg X.base CX k f fd ps sp) (hr : Room (k + 1) X.A) (hs : PySem.W.findIn X.K (.ref C) "__len__" = some (some (.ref f))) (hf : PySem.W.isFn X.K (.ref f) = true) (hb : Binds X.K fd ps []) (hx : Passes CX X E) :
    CallR X (.builtin "len") (rLenOwn C sp E) := by
  intro pins s σ H xs us Q I r h
  obtain ⟨a, dx, fs, rfl, ha, hsp⟩ := h
  obtain ⟨u, rfl, ru⟩ := vals1 r
  cases ru
  obtain ⟨mA, J, _⟩ := ins_get I.hok ha
  obtain ⟨od, J, _⟩ := J.look
  obtain ⟨m, hF⟩ := I.fr
  have hl := F.len _ _ _ _ hsp
  refine PySem.W.len_K hF I.ok.mod.kin J hs hf ?_
  refine wpAny_call (codeAny_mono (F.run X.A.in1 X.stack s H ⟨[.ref a], []⟩ [.ref a] [.ref a] _ E hr.in1 I.env0.in1 (by
    have z := hb s [.ref a] I.kIn (by simpa using hl)
    simpa using z) (.cons rfl .nil) hsp) fun r s' hq => ?_)
  cases r with
  | error e => exact hx pins σ H s e s' I hq
  | ok fl =>
    cases fl with
    | ret w =>
      obtain ⟨z, H', I', rz, n, ez, hn, q⟩ := I.after hq
      subst ez
      obtain ⟨t, rfl⟩ := rz
      exact ⟨⟨by omega, by omega⟩, .int n, H', I'.tok _, ⟨_, rfl⟩, q⟩
    | next => exact False.elim hq
    | brk => exact False.elim hq
    | cont => exact False.elim hq
/-- x == y, both instances of a class of the text with its own == that gives a bool -/
def rEqOwn (C : Addr) (sp : Sp) (E : XK) : R2 := fun x y H Q => ∃ a b dx dy fs gs, x = .ref a ∧ y = .ref b ∧ H a = some (.ins C dx fs) ∧ H b = some (.ins C dy gs) ∧ sp [.ref a, .ref b] H (fun v H' => ∃ k, v = .bl k ∧ Q (.bl k) H') E
theorem op_eqOwn (F : FnOk X.prog X.w X.K X.mg X.base CX k f fd ps sp) (hr : Room k X.A) (hs : PySem.W.findIn X.K (.ref C) "__eq__" = some (some (.ref f))) (hf : PySem.W.isFn X.K (.ref f) = true) (hb : Binds X.K fd ps []) (hx : Passes CX X E) :
    OpR X (compareOp .Eq) (rEqOwn C sp E) := by
  intro pins s σ H x y v u Q I rx ry h
  obtain ⟨a, b, dx, dy, fs, gs, rfl, rfl, ha, hb', hsp⟩ := h
  cases rx
  cases ry
  obtain ⟨mA, J, _⟩ := ins_get I.hok ha
  obtain ⟨mB, J', _⟩ := ins_get I.hok hb'
  obtain ⟨od, J, _⟩ := J.look
  obtain ⟨od', J', _⟩ := J'.look
  obtain ⟨m, hF⟩ := I.fr
  have hl := F.len _ _ _ _ hsp
  refine PySem.W.cmp_K (op := .Eq) (tb := .ref C) hr.units0 hF I.ok.mod.kin J J'.type (by simp [PySem.W.notFirst]) hs hf ?_
  refine wpAny_call (codeAny_mono (F.run X.A X.stack s H ⟨[.ref a, .ref b], []⟩ [.ref a, .ref b] [.ref a, .ref b] _ E hr I.env0 (by
    have z := hb s [.ref a, .ref b] I.kIn (by simpa using hl)
    simpa using z) (.cons rfl (.cons rfl .nil)) hsp) fun r s' hq => ?_)
  cases r with
  | error e => exact hx pins σ H s e s' I hq
  | ok fl =>
    cases fl with
    | ret w =>
      obtain ⟨z, H', I', rz, kk, ez, q⟩ := I.after hq
      subst ez
      cases rz
      exact ⟨.bl kk, H', I', rfl, q⟩
    | next => exact False.elim hq
    | brk => exact False.elim hq
    | cont => exact False.elim hq
end
/-- list(text): its signs -/
def signsV (x : Str) : List V := x.cps.toList.map fun c => .str ⟨#[c]⟩
theorem call_listS {X : Cx} (hc : X.calm = true) : CallR X (.type "list") (fun xs H Q => ∃ x, xs = [.str x] ∧ x.cps.size ≤ sizeLine ∧ ∀ l, H l = none → Q (.ref l) (upd H l (.lst (signsV x)))) := by
  intro pins s σ H xs us Q I r h
  obtain ⟨x, rfl, hz, q⟩ := h
  obtain ⟨u, rfl, t, rfl⟩ := vals1 r
  have hT : ∀ j v, SignAt x j v → ∃ c, x.cps.toList[j]? = some c ∧ RelV (.str ⟨#[c]⟩) v := fun j v ⟨c, w, e1, e2⟩ => ⟨c, by rw [Array.getElem?_toList]; exact e1, w, e2⟩
  refine call_list_str (I.ok.hd hc) x t (fun h' tk acc c' kp e io => ?_) hz
  have hl : (signsV x).length = x.cps.size := by simp [signsV]
  have hv : Vals (signsV x) acc.toList := by
    refine vals_of_idx _ _ (by rw [hl, ← io.1]; simp) fun j u e => ?_
    rw [Array.getElem?_toList] at e
    obtain ⟨c, e1, e2⟩ := hT j u (io.2 j u e)
    exact ⟨.str ⟨#[c]⟩, by rw [signsV, List.getElem?_map, e1]; rfl, e2⟩
  exact ⟨.ref s.heap.objs.size, _, I.laid (t' := tk) kp (Nat.le_refl _) (show ObjOk X.prog X.w _ h' _ (.lst (signsV x)) from ⟨by rw [hl]; exact hz, acc.toList, c', hv, by simpa using e⟩), rfl, q _ (I.hok.fresh (Nat.le_refl _))⟩
/-- xs == []: whatever xs holds -/
theorem list_eq_nil {prog : Program} {w : World} {A : Around} {R : Result → Shared → Prop} {s : Shared} {l b : Addr} {items : Array Value} {n n2 : Nat} (h1 : s.heap.get? l = some { cls := .type "list", data := .seq items n }) (h2 : s.heap.get? b = some { cls := .type "list", data := .seq #[] n2 }) (hne : items.size ≠ 0)
    (hq : R (.ok (.ret (.bool false))) s) : wpAny (model prog w) A.in1 (Builtin.«list.__eq__» ⟨[.ref l, .ref b], []⟩) (GQ.FinOf prog w A R) (fun e s' => R (.error e) s') s := by
  obtain ⟨hp, g, d, tk, os⟩ := s
  have f3 := AutoSeq1.sub_list_list
  have hne' : (items.size != (#[] : Array Value).size) = true := by simpa using hne
  wp_walk using AutoSeq1.wpAny_loadPart' h1, AutoSeq1.wpAny_loadPart' h2
  exact hq
section
variable {X : Cx}
def rEqNil : R2 := fun x y H Q => ∃ p q xs, x = .ref p ∧ y = .ref q ∧ H p = some (.lst xs) ∧ H q = some (.lst []) ∧ Q (.bl xs.isEmpty) H
theorem op_eqNil (hu : X.A.units < cLine) : OpR X (compareOp .Eq) rEqNil := by
  intro pins s σ H x y v u Q I rx ry h
  obtain ⟨p, q, xs, rfl, rfl, hp, hq, hQ⟩ := h
  cases rx
  cases ry
  obtain ⟨z1, its, n1, r1, e1⟩ := I.hok p _ hp
  obtain ⟨z2, its2, n2, r2, e2⟩ := I.hok q _ hq
  have en : its2 = [] := by
    cases r2
    rfl
  subst en
  show wpAny (model X.prog X.w) X.A (richCompare .Eq (.ref p) (.ref q)) (EP X pins σ Q) X.xe s
  cases r1 with
  | nil =>
    refine GQ.rc_listG (N := 0) hu (fun _ s' => s' = s) (fun i s' hs => ?_) (fun s' hs => ?_) rfl
    · subst hs
      exact ⟨_, _, n1, n2, e1, e2, rfl, rfl, fun h1 => absurd h1 (by simp)⟩
    · subst hs
      exact ⟨.bl true, H, I, rfl, hQ⟩
  | @cons x0 u0 xr ur rv rr =>
    refine wpAny_richCompare_same_room (op := .Eq) ⟨_, e1, rfl⟩ ⟨_, e2, rfl⟩ F.slot_list_eq (GQ.call_here F.slot_list_eq ⟨_, e1, rfl⟩ F.entry_list_eq (F.args_list_eq_2 _ _) ?_) hu
    exact list_eq_nil e1 e2 (by simp) ⟨(fun z => nomatch z), .bl false, H, I, rfl, hQ⟩
end
/-! ### a written dict with text keys: .get(k, default) -/
section
variable {X : Cx} {o e f : Expr} {apos cpos : Pos} {td ty tx : TE} {d : Addr} {es : Array DictEntry} {n : Nat}
def tKGet2 (K : PySem.W.Frag) (d : Addr) (td ty tx : TE) : TE := fun σ H Q => td σ H fun x H1 => x = .ref d ∧ ty σ H1 fun y H2 => tx σ H2 fun z H3 => ∃ (k : Str) (r : Option Value) (v : V), y = .str k ∧ PySem.W.nsIn K d k = some r ∧ (∀ u0, r = some u0 → RelV v u0) ∧ (r = none → v = z) ∧ Q v H3
theorem pe_kget2 (D : KDict X.K X.w d es n) (ho : PE X o td) (he : PE X e ty) (hf : PE X f tx) (m : M2 X o "get" apos e f cpos) : PE X (.Call (.Attribute o "get" apos) [e, f] [] cpos) (tKGet2 X.K d td ty tx) := by
  refine ⟨fun pins s σ H Q I h => ?_⟩
  refine wpAny_Call_method m.base m.few m.line PySem.F.plainAttrs_dict PySem.F.slot_dict_get PySem.F.type_dict_get (thn (ho.run pins s σ H _ I h) fun u s1 ⟨x, H1, I1, rx, ex, q1⟩ => ?_)
  subst ex
  cases rx
  refine ⟨kd_type D I1, fun b q => ?_, ?_⟩
  · cases q
    exact ⟨_, I1.kIn _ _ D.at_, rfl⟩
  rw [m.trees]
  refine Calls.callWith_builtin rfl (Calls.evalArgs_plain (Calls.spliced_cons (thn (he.run pins s1 σ H1 _ I1 q1) fun iv s2 ⟨y, H2, I2, ry, q2⟩ =>
    Calls.spliced_cons (thn (hf.run pins s2 σ H2 _ I2 q2) fun fv s3 hz => Calls.spliced_nil ?_))))
  obtain ⟨z, H3, I3, rz, k, r, v, rfl, en, hs, hn, q3⟩ := hz
  obtain ⟨t, rfl⟩ := ry
  have mo := PySem.W.mapOf_K (prog := X.prog) (w := X.w) I3.kIn D.at_ D.lit
  refine call_meetsIn PySem.F.slot_dict_get mo.typeIs PySem.F.entry_dict_get (PySem.F.args_dict_get_3 _ _ _) (meets_dict_get_default (strKind X.prog X.w) d (PySem.strKind_is X.prog X.w k t) D.low fv) ⟨_, mo, ?_⟩
  rw [PySem.W.find_K D.at_ en]
  cases r with
  | some u0 => exact ⟨v, H3, I3.tok _, hs u0 rfl, q3⟩
  | none =>
    have e3 := hn rfl
    subst e3
    exact ⟨v, H3, I3.tok _, rz, q3⟩
end
end K70
/-! rules of our own, 3: exceptions of own classes with an __init__, over any built-in base -/
namespace K70
open PySem PySem.Spec PyProof.Rows L2
/-- what the written part says of the class at C: own classes, then bmB, the built-in base's order -/
structure ExC (K : PySem.W.Frag) (C : Addr) (bmB : List Value) (newId : String) : Prop where
  made : PySem.W.excInitIn K C bmB newId = true
  ov : PySem.W.excOver K C bmB = true
  hd : PySem.W.hasDictIn K C = true
  sa : PySem.W.findIn K (.ref C) "__setattr__" = some (some (.builtin "object.__setattr__"))
  exC : PySem.W.subIn K (.ref C) (.type "BaseException") = some true
  tyC : PySem.W.typeIn K (.ref C) = some (.type "type")
  kC : PySem.W.keepIn K (.ref C) = true
theorem noTaker {K : PySem.W.Frag} {C : Addr} {f : Str} (h : PySem.W.findIn K (.ref C) f = some none) : PySem.W.takerIn K C f = some none := NoAttr.taker h
section
variable {X : Cx} {pins : List (Addr × Obj)} {σ : L2.St} {H : Hp} {s : Shared} {a C dx : Addr} {f : Str} {y : V} {u : Value} {fs : List (Str × V)} {Q : Unit → Shared → Prop} {E : Value → Shared → Prop} {A : Around} {B newId : String} {bmB : List Value}
/-- self.f = y, the first field -/
theorem exs_first (SF : StoreFacts B bmB "object.__setattr__" "object") (T : ExC X.K C bmB newId) (I : Inv X pins σ H s) (e : H a = some (exo a C none)) (hno : PySem.W.findIn X.K (.ref C) f = some none) (ry : RelV y u)
    (h : ∀ dx s', H dx = none → dx ≠ a → Inv X pins σ (upd (upd H dx (exd dx [(f, y)])) a (exo a C (some dx))) s' → Q () s') : wpAny (model X.prog X.w) A (setAttr (.ref a) f u) Q E s := by
  obtain ⟨t1, ho⟩ := exo_at I.hok e
  obtain ⟨hp, g, d, t, os⟩ := s
  obtain ⟨cd, hcd, hhd⟩ := PySem.W.any_some T.hd
  have inst : PySem.W.InstAt hp a { cls := .ref C, dict := none, data := .fields #[.ref t1, .none, .none, .none, .bool false, .none] } C none := ⟨ho, rfl, rfl, True.intro⟩
  refine PySem.W.set_plain I.kIn inst T.sa ?_
  refine PySem.W.osa_openX (s := ⟨hp, g, d, t + 1, os⟩) SF I.kIn inst T.ov (noTaker hno) fun b => ?_
  have hax : a ≠ hp.objs.size := Nat.ne_of_lt (Heap.lt_size ho)
  refine wpAny_bind (wpAny_pure (wpAny_bind (PySem.W.instanceDict_exc (c2 := .none) (t := t1) ho (PySem.W.looks_clsIn (show X.K.In hp from I.kIn) hcd) hhd ?_)))
  show wpAny _ _ (Builtin.ObjectAttr.storeInDict hp.objs.size (.str f t) f u) _ _ _
  refine PySem.HandSPX.store_in_new ?_ ?_
  · exact ⟨_, #[], 0, (Heap.get?_update_ne _ _ _ _ hax.symm).trans (Heap.get?_push_at rfl rfl), rfl, fun e he => absurd he (by simp), fun _ => rfl⟩
  intro h' tk' hn' hs
  have na : ∀ {b : Addr}, H b = none → b ≠ a := fun {b} n z => by
    rw [z, e] at n
    cases n
  have hnd : H hp.objs.size = none := I.hok.fresh (Nat.le_refl _)
  have nd : ∀ {b : Addr} {o : Obj}, hp.get? b = some o → b ≠ hp.objs.size := fun {b o} q => Nat.ne_of_lt (Heap.lt_size q)
  have kp : ∀ b o, b ≠ a → hp.get? b = some o → h'.get? b = some o := fun b o hb q => (hs.2 b (nd q)).trans ((Heap.get?_update_ne _ _ _ _ hb).trans (Heap.get?_push_of_some _ q))
  have hx : h'.get? a = some { cls := .ref C, dict := some hp.objs.size, data := .fields #[.ref t1, .none, .none, .none, .bool false, .none] } := (hs.2 a hax).trans (Heap.get?_update_self _ (Heap.get?_push_of_some _ ho) rfl)
  refine h hp.objs.size _ hnd hax.symm (I.un (t' := tk') (h' := h') ?_ fun b o q => ?_)
  · refine ⟨fun b o q n _ _ => kp b o (na n) q, fun b o q n _ _ => ⟨o.slots, kp b o (na n) q⟩, fun b o q n _ => by rw [upd_ne (na n), upd_ne (nd q)]; exact n, fun b o q _ => ?_,
      fun b xs q => by rw [upd_ne (at_ne e q exo_tup), upd_ne (ne_of_none q hnd)]; exact q, fun b o v q => by rw [upd_ne (at_ne e q exo_frz), upd_ne (ne_of_none q hnd)]; exact q,
      fun b ps q => ⟨#[], by rw [upd_ne (at_ne e q exo_tbl), upd_ne (ne_of_none q hnd), q]; simp⟩⟩
    by_cases hb : b = a
    · exact ⟨_, hb ▸ hx⟩
    · exact ⟨o, kp b o hb q⟩
  · by_cases hb : b = a
    · subst hb
      rw [upd_same] at q
      cases q
      exact exo_ok hx
    · rw [upd_ne hb] at q
      by_cases hd : b = hp.objs.size
      · subst hd
        rw [upd_same] at q
        cases q
        exact exd_ok hn' (relO_put (fs := []) ry fun g => True.intro)
      · rw [upd_ne hd] at q
        refine (I.hok b o q).stay (fun c v hc z => kp c v ?_ z) (fun c hc => by rw [upd_ne (at_ne e hc exo_own), upd_ne (ne_of_none hc hnd)]; exact hc) fun c xs hc => by rw [upd_ne (at_ne e hc exo_tup), upd_ne (ne_of_none hc hnd)]; exact hc
        rcases hc with hc | hc
        · rw [hc]
          exact hb
        · exact at_ne e hc exo_own
/-- self.f = y, a further field -/
theorem exs_more (SF : StoreFacts B bmB "object.__setattr__" "object") (T : ExC X.K C bmB newId) (I : Inv X pins σ H s) (e : H a = some (exo a C (some dx))) (ed : H dx = some (exd dx fs)) (hl : fs.length ≤ 900) (hno : PySem.W.findIn X.K (.ref C) f = some none) (ry : RelV y u)
    (h : ∀ s', Inv X pins σ (upd H dx (exd dx ((f, y) :: fs))) s' → Q () s') : wpAny (model X.prog X.w) A (setAttr (.ref a) f u) Q E s := by
  obtain ⟨t1, ho⟩ := exo_at I.hok e
  obtain ⟨mA, hns, rel⟩ := exd_at I.hok ed
  have hw := within_of rel
  obtain ⟨hp, g, d, t, os⟩ := s
  obtain ⟨cd, hcd, hhd⟩ := PySem.W.any_some T.hd
  obtain ⟨oD, _, _, hoD, _, _⟩ := hns.count hw
  have inst : PySem.W.InstAt hp a { cls := .ref C, dict := some dx, data := .fields #[.ref t1, .none, .none, .none, .bool false, .none] } C (some oD) := ⟨ho, rfl, rfl, hoD⟩
  refine PySem.W.set_plain I.kIn inst T.sa ?_
  refine PySem.W.osa_openX (s := ⟨hp, g, d, t + 1, os⟩) SF I.kIn inst T.ov (noTaker hno) fun b => ?_
  refine wpAny_bind (wpAny_pure (wpAny_bind (wpAny_bind (wpAny_loadPart ho (wpAny_bind ((PySem.W.looks_clsIn (show X.K.In hp from I.kIn) hcd).at ?_))))))
  rw [hhd]
  refine wpAny_pure (a := some dx) ?_
  refine PySem.OEX.store_in_old hns hw (by rw [List.length_map]; omega) fun h' tk' hn' hs => ?_
  have hex : ∃ o, h'.get? dx = some o := by
    obtain ⟨o, _, _, e', _⟩ := hn'
    exact ⟨o, e'⟩
  exact h _ (I.write (t' := tk') (x := dx) (e := dx) (o := exd dx ((f, y) :: fs)) (by rw [ed]; exact True.intro) (.inl rfl) (fun b o hb q => (hs.2 b hb).trans q) hex (exd_ok hn' (relO_put ry rel)))
end
/-! ### as statements and as operands of raise -/
def tEst (K : PySem.W.Frag) (bmB : List Value) (newId : String) (f : Str) (to te : TE) : TS := fun D σ H => te σ H fun y H1 => to σ H1 fun x H2 => ∃ a C : Addr, x = .ref a ∧ ExC K C bmB newId ∧ PySem.W.findIn K (.ref C) f = some none ∧
  ((H2 a = some (exo a C none) ∧ ∀ dx, H2 dx = none → dx ≠ a → D.nx σ (upd (upd H2 dx (exd dx [(f, y)])) a (exo a C (some dx)))) ∨
    ∃ (dx : Addr) (fs : List (Str × V)), H2 a = some (exo a C (some dx)) ∧ H2 dx = some (exd dx fs) ∧ fs.length ≤ 900 ∧ D.nx σ (upd H2 dx (exd dx ((f, y) :: fs))))
/-- C(e, ..): what its __init__ leaves -/
def tMkE (C : Addr) (sp : Sp) (ta : TA) : L2.St → Hp → XK → Prop := fun σ H Q => ta σ H fun vs H1 => vs.length ≤ 1000 ∧ ∀ a, H1 a = none → sp (.ref a :: vs) (upd H1 a (exo a C none))
  (fun v H2 => v = .non ∧ ∃ (d : Addr) (fs : List (Str × V)), H2 a = some (exo a C (some d)) ∧ H2 d = some (exd d fs) ∧ H1 d = none ∧ Q (.ref C) (some d) (upd (del H2 a) d (.xd fs))) (fun _ _ _ => False)
section
variable {X : Cx} {o e : Expr} {es : List Expr} {to te : TE} {ta : TA} {f : Str} {p p' pos : Pos} {B newId initId : String} {bmB : List Value}
theorem ps_est (SF : StoreFacts B bmB "object.__setattr__" "object") (ho : PE X o to) (he : PE X e te) (hs : swapsWith e (some (.Attribute o f p')) pos.line X.env = pure false := by rfl) : PS X (.Assign [.Attribute o f p'] e pos) (tEst X.K bmB newId f to te) := by
  refine ⟨fun pins s σ H D I h => plainObj_wpAny_Assign_Attribute (thn (he.run pins s σ H _ I h) fun v s1 hv => ?_) hs⟩
  obtain ⟨y, H1, I1, r1, q1⟩ := hv
  refine thn (ho.run pins s1 σ H1 _ I1 q1) fun u s2 hu => ?_
  obtain ⟨x, H2, I2, r2, a, C, rfl, T, hno, q⟩ := hu
  cases r2
  rcases q with ⟨ea, q⟩ | ⟨dx, fs, ea, ed, hl, q⟩
  · exact exs_first SF T I2 ea hno r1 fun dx s' n ne J => ⟨σ, _, J, q dx n ne⟩
  · exact exs_more SF T I2 ea ed hl hno r1 fun s' J => ⟨σ, _, J, q⟩
variable {CX : CXT} {x : Str} {C fI : Addr} {k : Nat} {fd : FuncData} {ps : List Str} {sp : Sp}
/-- the call of the class, by values -/
theorem make_exc (FB : ExcBaseFacts B newId initId bmB) (T : ExC X.K C bmB newId) (iC : PySem.W.findIn X.K (.ref C) "__init__" = some (some (.ref fI))) (tI : PySem.W.typeIn X.K (.ref fI) = some (.type "function"))
    (G : FnOk X.prog X.w X.K X.mg X.base CX k fI fd ps sp) (hr : Room (k + 1) X.A) (hb : Binds X.K fd ps []) (hx : Passes CX X (fun _ _ _ => False)) {pins : List (Addr × Obj)} {s : Shared} {σ : L2.St} {H : Hp} {vs : List V} {us : List Value} {Q : XK} (I : Inv X pins σ H s) (rv : Vals vs us)
    (h : tMkE C sp (fun _ H Q => Q vs H) σ H Q) : wpAny (model X.prog X.w) X.A (call (.ref C) us) (MkP X pins σ Q) X.xe s := by
  obtain ⟨hz, q1⟩ := h
  obtain ⟨nm, N', qn, bs, bm, hdct, sn, sub, ab, col, dd, k0, k1, k2, k3, k5, hC, hT⟩ := PySem.W.excInit_of I.kIn T.made
  obtain ⟨hp, g, dr, tk, os⟩ := s
  have hsz : hp.objs.size ≤ hp.objs.size + 1 := Nat.le_succ _
  have hn : H (hp.objs.size + 1) = none := I.hok.fresh hsz
  have hq := q1 (hp.objs.size + 1) hn
  have kk : ∀ b o, hp.get? b = some o → ((hp.push (PySem.W.kdv_tup us)).push (PySem.HandSPX.excO C hp.objs.size)).get? b = some o := fun b o e => Heap.get?_push_of_some _ (Heap.get?_push_of_some _ e)
  have hget : ((hp.push (PySem.W.kdv_tup us)).push (PySem.HandSPX.excO C hp.objs.size)).get? (hp.objs.size + 1) = some (PySem.HandSPX.excO C hp.objs.size) := by heap_get
  have I2 := I.laid (t' := tk) (a := hp.objs.size + 1) (o := exo (hp.objs.size + 1) C none) (h' := (hp.push (PySem.W.kdv_tup us)).push (PySem.HandSPX.excO C hp.objs.size)) kk hsz (exo_ok hget)
  have r2 : Vals (V.ref (hp.objs.size + 1) :: vs) (Value.ref (hp.objs.size + 1) :: us) := .cons rfl rv
  have hl : (Value.ref (hp.objs.size + 1) :: us ++ []).length = ps.length := by
    have z := r2.length
    rw [G.len _ _ _ _ hq] at z
    rw [List.append_nil]
    exact z.symm
  have hus : us.length ≤ sizeLine := by
    rw [← rv.length, sizeLine_eq]
    omega
  have run := G.run _ X.stack _ _ ⟨Value.ref (hp.objs.size + 1) :: us, []⟩ (Value.ref (hp.objs.size + 1) :: us) _ _ (fun _ _ _ => False) (hr.make C us []) (I2.env0.make C us []) (by
    have z := hb _ (Value.ref (hp.objs.size + 1) :: us) I2.kIn hl
    rw [List.append_nil] at z
    exact z) r2 hq
  refine wpAny_call (PySem.HandSPX.call_own FB hT hC (PySem.W.looks_findIn I.kIn iC) (fun self => PySem.W.bind_fn I.kIn self tI) hus (codeAny_mono run fun r s' hq' => ?_))
  cases r with
  | error er => exact hx pins σ _ _ er s' I2 hq'
  | ok fl =>
    cases fl with
    | ret u =>
      obtain ⟨v, H2, os2, bare2, un2, hok2, rv2, ev, d, fs, ea, ed, hd1, q2⟩ := hq'
      subst ev
      obtain ⟨h2, g2, d2, t2, os'⟩ := s'
      exact ⟨rv2, mk_end (raises_own T.exC T.tyC) I hsz kk un2 hok2 os2 bare2 ea ed hd1 q2⟩
    | next => exact False.elim hq'
    | brk => exact False.elim hq'
    | cont => exact False.elim hq'
theorem pmk_exc (FB : ExcBaseFacts B newId initId bmB) (T : ExC X.K C bmB newId) (iC : PySem.W.findIn X.K (.ref C) "__init__" = some (some (.ref fI))) (tI : PySem.W.typeIn X.K (.ref fI) = some (.type "function"))
    (G : FnOk X.prog X.w X.K X.mg X.base CX k fI fd ps sp) (hr : Room (k + 1) X.A) (hb : Binds X.K fd ps []) (hx : Passes CX X (fun _ _ _ => False)) (hg : Gl X x) (hm : X.mg x = some (.ref C)) (ha : PA X (e :: es) ta)
    (hdb : (x == ("__debug__" : Str)) = false := by decide) (he : starEach (e :: es) X.env = (false, eval e X.env) :: starEach es X.env := by rfl) (hpl : (backTo pos (starEach es X.env)).any (·.1) = false := by rfl) :
    PMk X (.Call (.Name x p) (e :: es) [] pos) (tMkE C sp ta) := by
  intro pins s σ H Q I h
  refine wpAny_Call_Name_kw (ld_glob I hg hm ?_ hdb)
  refine PySem.W.callWith_K (h₀ := X.base) I.ok.mod.kin T.kC (thn (ha.run pos pins s σ H _ I h) fun us s1 hv => ?_) he hpl
  obtain ⟨vs, H1, I1, r1, hz, q1⟩ := hv
  exact ⟨I1.kIn, make_exc (k := k) FB T iC tI G hr hb hx I1 r1 ⟨hz, q1⟩⟩
end
end K70
/-! rules of our own, 4: several clauses «except X as e», «except (X, Y, Z) as e» -/
namespace K70
open PySem PySem.Spec PyProof.Rows L2
/-- a clause's test: m tells of the exception's class whether it is met -/
def TestR (X : Cx) (te : Expr) (m : Value → Option Bool) : Prop :=
  ∀ (a : Addr) (oe : Obj) (cls : Value) (pn : List (Addr × Obj)) (s : Shared) (σ : L2.St) (H : Hp) (b : Bool) (Q : Value → Shared → Prop) (E : Value → Shared → Prop), Inv (X.suite a ((a, oe) :: pn)) [] σ H s → s.heap.get? a = some oe → oe.cls = cls → m cls = some b →
    (∀ (h' : Heap) (v : Value), (∀ b o, s.heap.get? b = some o → h'.get? b = some o) → PySem.W.Looks (model X.prog X.w) h' (excMatches (.ref a) v) b → Q v { s with heap := h' }) →
    wpAny (model X.prog X.w) (X.A.mark (some (.ref a))) (eval te X.env) Q E s
section
variable {X : Cx}
theorem ld_names {a : Addr} {oe : Obj} {pn : List (Addr × Obj)} {s : Shared} {σ : L2.St} {H : Hp} {x : Str} {c : Value} {np : Pos} {Q : Value → Shared → Prop} {E : Value → Shared → Prop} (N : Names X x c) (I : Inv (X.suite a ((a, oe) :: pn)) [] σ H s) (q : Q c s) :
    wpAny (model X.prog X.w) (X.A.mark (some (.ref a))) (eval (.Name x np) X.env) Q E s := by
  obtain ⟨g, nd, z⟩ := N
  rcases z with z | ⟨z1, z2, z3⟩
  · exact ld_glob (X := X.suite a ((a, oe) :: pn)) I g z q nd
  · exact ld_blt (X := X.suite a ((a, oe) :: pn)) I g z1 z2 q z3 nd
theorem test_one {x : Str} {c : Value} {np : Pos} (N : Names X x c) : TestR X (.Name x np) (fun cls => PySem.W.exmOne X.K cls c) := by
  intro a oe cls pn s σ H b Q E I ha hc hm k
  have LT : PySem.W.Looks (model X.prog X.w) s.heap (typeOf (.ref a)) cls := fun A' Q' E' s' kp q => wpAny_typeOf_ref (kp _ _ ha) (by rw [hc]; exact q)
  exact ld_names N I (k s.heap c (fun _ _ e => e) (PySem.W.exm_one I.kIn LT hm))
theorem test_three {x y z : Str} {c1 c2 c3 : Value} {p1 p2 p3 pos : Pos} {k0} (N1 : Names X x c1) (N2 : Names X y c2) (N3 : Names X z c3) : TestR X (.Tuple [.Name x p1, .Name y p2, .Name z p3] k0 pos) (fun cls => PySem.W.exmAny X.K cls [c1, c2, c3]) := by
  intro a oe cls pn s σ H b Q E I ha hc hm k
  refine wpAny_Tuple_spliced ?_
  show wpAny _ _ (spliced [(false, eval (.Name x p1) X.env), (false, eval (.Name y p2) X.env), (false, eval (.Name z p3) X.env)]) _ _ _
  refine Calls.spliced_cons (ld_names N1 I (Calls.spliced_cons (ld_names N2 I (Calls.spliced_cons (ld_names N3 I (Calls.spliced_nil ?_))))))
  refine ⟨by show 3 ≤ sizeLine; rw [sizeLine_eq]; omega, ?_⟩
  have kp : ∀ b o, s.heap.get? b = some o → (s.heap.push { cls := .type "tuple", data := .seq [c1, c2, c3].toArray }).get? b = some o := fun b o e => Heap.get?_push_of_some _ e
  have LT : PySem.W.Looks (model X.prog X.w) (s.heap.push { cls := .type "tuple", data := .seq [c1, c2, c3].toArray }) (typeOf (.ref a)) cls := fun A' Q' E' s' kq q => wpAny_typeOf_ref (kq _ _ (kp _ _ ha)) (by rw [hc]; exact q)
  exact k _ _ kp (PySem.W.exm_tup3 (I.ok.mod.kin.keeps fun b o e => kp b o (I.bk b o e)) LT (Heap.get?_push_size _ rfl) hm)
end
abbrev Cl : Type := (Value → Option Bool) × Nat × (Addr → Value → Option Addr → TS)
/-- what the clauses wish, one behind the other -/
def wClauses (Wout : WX) (D : Ends) : List Cl → WX
  | [] => Wout
  | (m, i, ts) :: r => fun cls d σ H => ∃ b, m cls = some b ∧
      (b = true → ∀ a, H a = none → ts a cls d { nx := fun σ' H' => D.nx (σ'.set i none) H', rt := D.rt, bk := fun σ' H' => D.bk (σ'.set i none) H', ct := fun σ' H' => D.ct (σ'.set i none) H' } (σ.set i (some (.ref a))) H) ∧ (b = false → wClauses Wout D r cls d σ H)
inductive Clauses (X : Cx) : List ExceptHandler → List Cl → Prop
  | nil : Clauses X [] []
  | cons {te : Expr} {n : Str} {b₀ : Stmt} {suite : List Stmt} {pos' : Pos} {m : Value → Option Bool} {i : Nat} {ts : Addr → Value → Option Addr → TS} {hds : List ExceptHandler} {l : List Cl} (ht : TestR X te m) (hi : X.N[i]? = some n) (hn : X.env.kindOf n = some .local)
      (hsu : ∀ (a : Addr) (oe : Obj) (cls : Value) (d : Option Addr) (pn : List (Addr × Obj)), Zc cls d oe → (∃ vs, oe.data = .fields vs) → PSs (X.suite a ((a, oe) :: pn)) (b₀ :: suite) (ts a cls d)) (r : Clauses X hds l) :
      Clauses X (.ExceptHandler (some te) (some n) (b₀ :: suite) pos' :: hds) ((m, i, ts) :: l)
section
variable {X : Cx} {body : List Stmt} {h₀ : ExceptHandler} {hds : List ExceptHandler} {l : List Cl} {pos : Pos} {tb : WX → TS} {Wout : WX}
theorem ps_clauses (hs : X.stack = X.env :: X.outer) (hf : X.env.frame = some X.env.locals) (hN : X.N.Nodup) (tk : Takes X Wout)
    (hb : ∀ (W : WX) (pn : List (Addr × Obj)) (xe : Value → Shared → Prop), Takes (X.tr pn xe) W → PassesOwn (model X.prog X.w) X.A X.env xe → PSs (X.tr pn xe) body (tb W))
    (hh : Clauses X (h₀ :: hds) l) : PS X (.Try body (h₀ :: hds) [] [] pos) (fun D σ H => tb (wClauses Wout D l) D σ H) := by
  refine ⟨fun pins s σ H D I0 h => wpAny_Try_except ?_⟩
  have ok := I0.ok
  have frm : X.A.frames = some (X.env :: X.outer) := ok.frames.trans (congrArg some hs)
  let Xc : Value → Shared → Prop := fun e s₁ => wpAny (model X.prog X.w) X.A (noteFrame e X.env) (fun _ s₂ => wpAny (model X.prog X.w) X.A (setFlight e none) (fun _ s₃ => wpAny (model X.prog X.w) X.A (handleBy e X.env (h₀ :: hds)) (SP X pins D) X.xe s₃) X.xe s₂) X.xe s₁
  have catch_ : Takes (X.tr (X.pn ++ pins) Xc) (wClauses Wout D l) := by
    intro u s' xx
    obtain ⟨a, B, sI, pins', σ1, H1, cls, d, rfl, J', nb, up, sky, na, os, ag, wish⟩ := xx
    have J : Inv X pins σ1 H1 sI := J'.ofTry ok
    have sky2 : Sky B (X.env :: X.outer) a (Zc cls d) X.env.locals s'.heap := hs ▸ sky
    show wpAny (model X.prog X.w) X.A (noteFrame (.ref a) X.env) _ _ s'
    refine Sky.land Zc.steady frm hf sky2 fun g3 f3 u3 => ?_
    have go : ∀ {hx : List ExceptHandler} {lx : List Cl}, Clauses X hx lx → ∀ g : Heap, HandSPX.FlyingZ B (X.env :: X.outer) a (Zc cls d) g → s'.heap.UpToSlots g → wClauses Wout D lx cls d σ1 H1 →
        wpAny (model X.prog X.w) X.A (handleBy (.ref a) X.env hx) (SP X pins D) X.xe { s' with heap := g } := by
      intro hx lx hk
      induction hk with
      | nil =>
        intro g fl ug w
        refine wpAny_handleBy_nil ?_
        obtain ⟨_, _, _, oe, vs, T, oT, ts', he, _, hd, h1, _⟩ := id fl
        unfold PySem.passOn
        refine wpAny_bind (wpAny_field he hd h1 ?_)
        rw [if_neg (show ¬ ((Value.ref T == Value.none) = true) by simp)]
        have out : wpAny (model X.prog X.w) X.A (setFlight (.ref a) X.env.frame) (fun _ s4 => wpAny (model X.prog X.w) X.A (throw (.ref a) : Sem Flow) (SP X pins D) X.xe s4) X.xe { s' with heap := g } := by
          rw [hf]
          exact HandSPX.setFlight_upZ fl fun g4 hh4 u4 => wpAny_throw (tk _ _ ⟨a, B, sI, pins, σ1, H1, cls, d, rfl, J, nb, (up.trans ug).trans u4, .inr (.inr (hs ▸ hh4)), na, os, ag, w⟩)
        first | exact wpAny_bind (wpAny_pure (wpAny_bind out)) | exact wpAny_bind out
      | @cons te n b₀ suite pos' m i ts hx2 lx2 ht hi hn hsu r ih =>
        intro g fl ug w
        obtain ⟨b, hm, yes, no⟩ := w
        have inSuite : ∀ g : Heap, HandSPX.FlyingZ B (X.env :: X.outer) a (Zc cls d) g → s'.heap.UpToSlots g → ∃ oe, g.get? a = some oe ∧ Zc cls d oe ∧ (∃ vs, oe.data = .fields vs) ∧ Inv (X.suite a ((a, oe) :: (X.pn ++ pins))) [] σ1 H1 { s' with heap := g } := by
          intro g fl ug
          obtain ⟨oe, vs, e1, z1, d1⟩ := fl.there
          have far : a ∉ frs (X.env :: X.outer) := fun hm => by
            obtain ⟨_, o2, e2, n2⟩ := fl.2.2.1.mem hm
            rw [e1] at e2
            cases e2
            exact n2 _ d1
          have n1 : a ≠ X.env.locals := fun z => far (List.mem_filterMap.mpr ⟨X.env, List.mem_cons_self, by rw [hf, z]⟩)
          have n2 : a ∉ X.fs := fun hm => by
            obtain ⟨v, hv, q⟩ := List.mem_filterMap.mp hm
            exact far (List.mem_filterMap.mpr ⟨v, List.mem_cons_of_mem _ hv, q⟩)
          exact ⟨oe, e1, z1, ⟨vs, d1⟩, (J.landed (s' := { s' with heap := g }) nb fl.1 (up.trans ug) os ag).suite e1 d1 na n1 n2⟩
        obtain ⟨oe, e1, z1, _, S1⟩ := inSuite g fl ug
        refine wpAny_handleBy_cons (codeAny_handlers_test (ht a oe cls _ _ σ1 H1 b _ _ S1 e1 z1.1 hm fun g' v kp look => ?_)) (by intro q; cases q)
        have fl' : HandSPX.FlyingZ B (X.env :: X.outer) a (Zc cls d) g' := by
          obtain ⟨k1, k2, k3, oe', vs', T, oT, tt, q1, q2, q3, q4, q5, q6, q7, q8⟩ := fl
          exact ⟨fun b o q => kp _ _ (k1 b o q), k2, Heap.FunFrames.of_keeps (fun b o q _ => ⟨o, kp b o q, rfl⟩) k3, oe', vs', T, oT, tt, kp _ _ q1, q2, q3, q4, q5, q6, kp _ _ q7, q8⟩
        have ug' : s'.heap.UpToSlots g' := ug.trans (Heap.UpToSlots.of_keeps kp)
        refine look.here ?_
        cases b with
        | false => exact ih g' fl' ug' (no rfl)
        | true =>
          refine codeAny_handlers_suite_as (HandSPX.lands_againZ fl' fun g4 fl4 u4 => ?_)
          obtain ⟨oe4, e4, z4, d4, S4⟩ := inSuite g4 fl4 (ug'.trans u4)
          refine store_ok (X := X.suite a ((a, oe4) :: (X.pn ++ pins))) (v := .ref a) S4 hN hi (.inl hn) rfl (fun s5 S5 => ?_) (.inr hn)
          refine wpAny_mono ((hsu a oe4 cls d (X.pn ++ pins) z4 d4).run [] s5 _ H1 _ S5 (yes rfl a na)) (fun f s6 z => ?_) fun _ _ z => False.elim z
          have forget : ∀ {σ6 : L2.St} {H6 : Hp} {P : Shared → Prop}, Inv (X.suite a ((a, oe4) :: (X.pn ++ pins))) [] σ6 H6 s6 → (∀ s7, Inv X pins (σ6.set i none) H6 s7 → P s7) →
              wpAny (model X.prog X.w) X.A (do bindName X.env n .none; unbindBehindTheSuite X.env n pos') (fun _ s7 => P s7) X.xe s6 := fun S6 hp => gone_ok (S6.unsuite ok) hN hi hn hp
          cases f with
          | ret u =>
            obtain ⟨v6, σ6, H6, S6, r6, q6⟩ := z
            exact forget S6 fun s7 J7 => ⟨v6, _, H6, J7, r6, q6⟩
          | next =>
            obtain ⟨σ6, H6, S6, q6⟩ := z
            exact forget S6 fun s7 J7 => ⟨_, H6, J7, q6⟩
          | brk =>
            obtain ⟨σ6, H6, S6, q6⟩ := z
            exact forget S6 fun s7 J7 => ⟨_, H6, J7, q6⟩
          | cont =>
            obtain ⟨σ6, H6, S6, q6⟩ := z
            exact forget S6 fun s7 J7 => ⟨_, H6, J7, q6⟩
    exact go hh g3 f3 u3 wish
  refine wpAny_mono ((hb (wClauses Wout D l) (X.pn ++ pins) Xc catch_ PassesOwn.looking).run [] s σ H D (I0.toTry _) h) (fun f s1 z => ?_) fun e s1 z => z
  cases f with
  | ret u =>
    obtain ⟨v, σ', H', J', r, q⟩ := z
    exact ⟨v, σ', H', J'.ofTry ok, r, q⟩
  | next =>
    obtain ⟨σ', H', J', q⟩ := z
    exact wpAny_execs_nil ⟨σ', H', J'.ofTry ok, q⟩
  | brk =>
    obtain ⟨σ', H', J', q⟩ := z
    exact ⟨σ', H', J'.ofTry ok, q⟩
  | cont =>
    obtain ⟨σ', H', J', q⟩ := z
    exact ⟨σ', H', J'.ofTry ok, q⟩
end
end K70
/-! rules of our own, 5: an attribute as a target, methods called within a try -/
namespace K70
open PySem PySem.Spec PyProof.Rows L2
section
variable {X : Cx} {o : Expr} {to : TE} {f : Str} {pos : Pos}
def gFld (K : PySem.W.Frag) (to : TE) (f : Str) : TG := fun v σ H Q => to σ H fun x H1 => ∃ a C dx fs, x = .ref a ∧ H1 a = some (.ins C dx fs) ∧ Cls K C ∧ NoAttr K C f ∧ fs.length < 1000 ∧ Q σ (upd H1 a (.ins C dx (putF f v fs)))
theorem pg_fld (ho : PE X o to) : PG X (.Attribute o f pos) (gFld X.K to f) := by
  refine ⟨fun pins s σ H v u Q I r h => ?_⟩
  rw [arm_assign_Attribute]
  refine wpAny_bind (wpAny_holding (thn (ho.run pins s σ H _ I h) fun w s1 hw => ?_))
  obtain ⟨x, H1, I1, rx, a, C, dx, fs, rfl, ha, c, n, hl, q⟩ := hw
  cases rx
  refine wpAny_bind (wpAny_standAt (wpAny_bind (wpAny_holding (setattr_ok I1 ha c n hl r fun s2 I2 => ?_))))
  exact wpAny_release ⟨σ, _, I2, q⟩
end
section
variable {X : Cx} {CX : CXT} {k : Nat} {f C : Addr} {fd : FuncData} {ps : List Str} {sp : Sp} {E : L2.St → XK} {m : Str} {p pos apos : Pos} {e o : Expr} {es : List Expr} {ta : TE} {t : TA}
/-- o.m(e, ..), what it lets out told of the caller's slots -/
def tMethT (C : Addr) (m : Str) (sp : Sp) (E : L2.St → XK) (ta : TE) (t : TA) : TE := fun σ H Q => ta σ H fun x H1 => ∃ a dx fs, x = .ref a ∧ H1 a = some (.ins C dx fs) ∧ fs.lookup m = none ∧ t σ H1 fun vs H2 => sp (x :: vs) H2 Q (E σ)
theorem pe_methT {pl : Sem Bool} (he : PE X o ta) (c : Cls X.K C) (hm : Meth X.K C m f) (F : FnOk X.prog X.w X.K X.mg X.base CX k f fd ps sp) (hr : Room k X.A) (hb : Binds X.K fd ps []) (hx : ∀ σ, PassesAt CX X σ (E σ)) (ha : PA X (e :: es) t)
    (hst : starEach (e :: es) X.env = (false, eval e X.env) :: starEach es X.env := by rfl) (hpl : (backTo pos (starEach es X.env)).any (·.1) = false := by rfl)
    (ht : eval (.Call (.Attribute o m apos) (e :: es) [] pos) X.env = (do
      let ov ← eval o X.env
      standAt apos.atName
      let (f, first) ← holding [ov] (getMethod ov m pl)
      callWith pos f first (backTo pos (starEach (e :: es) X.env)) (backToKw pos (keywordEach [] X.env))) := by rfl) :
    PE X (.Call (.Attribute o m apos) (e :: es) [] pos) (tMethT C m sp E ta t) := by
  refine ⟨fun pins s σ H Q I h => PySem.W.methodCall_KW (pl := pl) (thn (he.run pins s σ H _ I h) fun u s1 hu => ?_) ht⟩
  obtain ⟨x, H1, I1, rx, a, dx, fs, rfl, ea, l, q⟩ := hu
  cases rx
  refine getmeth_ok I1 ea c hm l (PySem.W.callWith_K (first := [.ref a]) (h₀ := X.base) I.ok.mod.kin hm.kp (thn (ha.run pos pins s1 σ H1 _ I1 q) fun us s2 hv => ?_) hst hpl)
  obtain ⟨vs, H2, I2, r, q2⟩ := hv
  exact ⟨I2.kIn, run_fnS (us := .ref a :: us) (vs := .ref a :: vs) F hr hb (hx σ) I2 (.cons rfl r) q2⟩
theorem pe_methT0 {pl : Sem Bool} (he : PE X o ta) (c : Cls X.K C) (hm : Meth X.K C m f) (F : FnOk X.prog X.w X.K X.mg X.base CX k f fd ps sp) (hr : Room k X.A) (hb : Binds X.K fd ps []) (hx : ∀ σ, PassesAt CX X σ (E σ))
    (ht : eval (.Call (.Attribute o m apos) [] [] pos) X.env = (do
      let ov ← eval o X.env
      standAt apos.atName
      let (f, first) ← holding [ov] (getMethod ov m pl)
      callWith pos f first (backTo pos (starEach [] X.env)) (backToKw pos (keywordEach [] X.env))) := by rfl) :
    PE X (.Call (.Attribute o m apos) [] [] pos) (tMethT C m sp E ta tNil) := by
  refine ⟨fun pins s σ H Q I h => PySem.W.methodCall_KW (pl := pl) (thn (he.run pins s σ H _ I h) fun u s1 hu => ?_) ht⟩
  obtain ⟨x, H1, I1, rx, a, dx, fs, rfl, ea, l, q⟩ := hu
  cases rx
  exact getmeth_ok I1 ea c hm l (PySem.W.callWith_K0 (first := [.ref a]) I1.kIn hm.kp (run_fnS (us := [.ref a]) (vs := [.ref a]) F hr hb (hx σ) I1 (.cons rfl .nil) q))
end
/-- C(): an own exception without arguments -/
theorem pmk_exc0 {X : Cx} {CX : CXT} {x : Str} {C fI : Addr} {k : Nat} {fd : FuncData} {ps : List Str} {sp : Sp} {p pos : Pos} {B newId initId : String} {bmB : List Value} (FB : ExcBaseFacts B newId initId bmB) (T : ExC X.K C bmB newId) (iC : PySem.W.findIn X.K (.ref C) "__init__" = some (some (.ref fI)))
    (tI : PySem.W.typeIn X.K (.ref fI) = some (.type "function")) (G : FnOk X.prog X.w X.K X.mg X.base CX k fI fd ps sp) (hr : Room (k + 1) X.A) (hb : Binds X.K fd ps []) (hx : Passes CX X (fun _ _ _ => False)) (hg : Gl X x) (hm : X.mg x = some (.ref C)) (hdb : (x == ("__debug__" : Str)) = false := by decide) :
    PMk X (.Call (.Name x p) [] [] pos) (tMkE C sp tNil) := by
  intro pins s σ H Q I h
  refine wpAny_Call_Name_kw (ld_glob I hg hm ?_ hdb)
  exact PySem.W.callWith_K0 I.kIn T.kC (make_exc (k := k) FB T iC tI G hr hb hx I .nil h)
end K70
/-! the text by places; what the head leaves -/
namespace K70
open PySem PySem.Spec PyProof.Rows L2
def top (i : Nat) : Stmt := PySem.Challenge.pw_echoladder_k70_whole_independent_objects.main.body.getD i (.Pass ⟨0, 0, 0, 0⟩)
abbrev s_InvalidName_init : Stmt := inClass (top 24) 0
abbrev s_DuplicateName_init : Stmt := inClass (top 25) 0
abbrev s_LimitExceeded_init : Stmt := inClass (top 20) 0
abbrev s_NothingLeft_init : Stmt := inClass (top 27) 0
abbrev s_UnknownName_init : Stmt := inClass (top 28) 0
abbrev s_is_alphabet : Stmt := top 35
abbrev s_need_alphabet : Stmt := top 36
abbrev s_is_state : Stmt := top 38
abbrev s_Machine_init : Stmt := inClass (top 39) 0
abbrev s_Machine_letters : Stmt := inClass (top 39) 4
abbrev s_Machine_states : Stmt := inClass (top 39) 5
abbrev s_Machine_start : Stmt := inClass (top 39) 6
abbrev s_is_answer : Stmt := top 47
abbrev s_Translator_init : Stmt := inClass (top 49) 0
abbrev s_Translator_eq : Stmt := inClass (top 49) 1
abbrev s_Translator_start : Stmt := inClass (top 49) 7
abbrev s_Translator_step : Stmt := inClass (top 49) 8
abbrev s_transition_in : Stmt := top 65
abbrev s_parse_machine : Stmt := top 66
abbrev s_is_name : Stmt := top 72
abbrev s_Ladder_init : Stmt := inClass (top 73) 0
abbrev s_Ladder_len : Stmt := inClass (top 73) 2
abbrev s_Ladder_names : Stmt := inClass (top 73) 3
abbrev s_Ladder_machine : Stmt := inClass (top 73) 4
abbrev s_Ladder_do_add : Stmt := inClass (top 73) 5
abbrev s_Ladder_do_replace : Stmt := inClass (top 73) 6
abbrev s_Ladder_do_remove : Stmt := inClass (top 73) 7
abbrev s_Ladder_batch : Stmt := inClass (top 73) 8
abbrev s_Ladder_add : Stmt := inClass (top 73) 9
abbrev s_Ladder_replace : Stmt := inClass (top 73) 10
abbrev s_Ladder_remove : Stmt := inClass (top 73) 11
abbrev s_Ladder_undo : Stmt := inClass (top 73) 12
abbrev s_behaviours : Stmt := top 78
abbrev s_minimized : Stmt := top 79
abbrev s_Session_init : Stmt := inClass (top 81) 0
abbrev s_Session_eq : Stmt := inClass (top 81) 1
abbrev s_Session_write : Stmt := inClass (top 81) 3
abbrev s_Session_written : Stmt := inClass (top 81) 6
abbrev s_Shell_init : Stmt := inClass (top 96) 0
abbrev s_Shell_len : Stmt := inClass (top 96) 1
abbrev s_Shell_log : Stmt := inClass (top 96) 3
abbrev s_Shell_command : Stmt := inClass (top 96) 4
abbrev s_Shell_query : Stmt := inClass (top 96) 5
abbrev s_Shell_answer : Stmt := inClass (top 96) 6
abbrev s_Shell_run : Stmt := inClass (top 96) 7
abbrev s_l_bag : Stmt := top 98
abbrev s_l_pull : Stmt := top 99
abbrev s_l_of : Stmt := top 100
abbrev s_l_names : Stmt := top 101
abbrev s_l_raw : Stmt := top 102
abbrev s_l_read : Stmt := top 103
abbrev s_l_made : Stmt := top 104
abbrev s_l_pool : Stmt := top 105
abbrev s_l_told : Stmt := top 106
abbrev s_l_translator : Stmt := top 107
abbrev s_l_command : Stmt := top 108
abbrev s_l_is_name : Stmt := top 109
abbrev s_l_result : Stmt := top 110
abbrev s_l_same : Stmt := top 111
abbrev s_l_try : Stmt := top 112
abbrev s_l_run : Stmt := top 113
abbrev s_l_matches : Stmt := top 114
abbrev s_law : Stmt := top 115
def d_InvalidName_init : He.DefD := ⟨("InvalidName", some "__init__"), "__init__", "InvalidName.__init__", defArgs s_InvalidName_init, defBody s_InvalidName_init, defScope s_InvalidName_init, [], []⟩
def d_DuplicateName_init : He.DefD := ⟨("DuplicateName", some "__init__"), "__init__", "DuplicateName.__init__", defArgs s_DuplicateName_init, defBody s_DuplicateName_init, defScope s_DuplicateName_init, [], []⟩
def d_LimitExceeded_init : He.DefD := ⟨("LimitExceeded", some "__init__"), "__init__", "LimitExceeded.__init__", defArgs s_LimitExceeded_init, defBody s_LimitExceeded_init, defScope s_LimitExceeded_init, [], []⟩
def d_NothingLeft_init : He.DefD := ⟨("NothingLeft", some "__init__"), "__init__", "NothingLeft.__init__", defArgs s_NothingLeft_init, defBody s_NothingLeft_init, defScope s_NothingLeft_init, [], []⟩
def d_UnknownName_init : He.DefD := ⟨("UnknownName", some "__init__"), "__init__", "UnknownName.__init__", defArgs s_UnknownName_init, defBody s_UnknownName_init, defScope s_UnknownName_init, [], []⟩
def d_is_alphabet : He.DefD := ⟨("is_alphabet", none), "is_alphabet", "is_alphabet", defArgs s_is_alphabet, defBody s_is_alphabet, defScope s_is_alphabet, [], []⟩
def d_need_alphabet : He.DefD := ⟨("need_alphabet", none), "need_alphabet", "need_alphabet", defArgs s_need_alphabet, defBody s_need_alphabet, defScope s_need_alphabet, [], []⟩
def d_is_state : He.DefD := ⟨("is_state", none), "is_state", "is_state", defArgs s_is_state, defBody s_is_state, defScope s_is_state, [], []⟩
def d_Machine_init : He.DefD := ⟨("Machine", some "__init__"), "__init__", "Machine.__init__", defArgs s_Machine_init, defBody s_Machine_init, defScope s_Machine_init, [], [("start", .int 0)]⟩
def d_Machine_letters : He.DefD := ⟨("Machine", some "letters"), "letters", "Machine.letters", defArgs s_Machine_letters, defBody s_Machine_letters, defScope s_Machine_letters, [], []⟩
def d_Machine_states : He.DefD := ⟨("Machine", some "states"), "states", "Machine.states", defArgs s_Machine_states, defBody s_Machine_states, defScope s_Machine_states, [], []⟩
def d_Machine_start : He.DefD := ⟨("Machine", some "start"), "start", "Machine.start", defArgs s_Machine_start, defBody s_Machine_start, defScope s_Machine_start, [], []⟩
def d_is_answer : He.DefD := ⟨("is_answer", none), "is_answer", "is_answer", defArgs s_is_answer, defBody s_is_answer, defScope s_is_answer, [], []⟩
def d_Translator_init : He.DefD := ⟨("Translator", some "__init__"), "__init__", "Translator.__init__", defArgs s_Translator_init, defBody s_Translator_init, defScope s_Translator_init, [], [("start", .int 0)]⟩
def d_Translator_eq : He.DefD := ⟨("Translator", some "__eq__"), "__eq__", "Translator.__eq__", defArgs s_Translator_eq, defBody s_Translator_eq, defScope s_Translator_eq, [], []⟩
def d_Translator_start : He.DefD := ⟨("Translator", some "start"), "start", "Translator.start", defArgs s_Translator_start, defBody s_Translator_start, defScope s_Translator_start, [], []⟩
def d_Translator_step : He.DefD := ⟨("Translator", some "step"), "step", "Translator.step", defArgs s_Translator_step, defBody s_Translator_step, defScope s_Translator_step, [], []⟩
def d_transition_in : He.DefD := ⟨("transition_in", none), "transition_in", "transition_in", defArgs s_transition_in, defBody s_transition_in, defScope s_transition_in, [], []⟩
def d_parse_machine : He.DefD := ⟨("parse_machine", none), "parse_machine", "parse_machine", defArgs s_parse_machine, defBody s_parse_machine, defScope s_parse_machine, [], []⟩
def d_is_name : He.DefD := ⟨("is_name", none), "is_name", "is_name", defArgs s_is_name, defBody s_is_name, defScope s_is_name, [], []⟩
def d_Ladder_init : He.DefD := ⟨("Ladder", some "__init__"), "__init__", "Ladder.__init__", defArgs s_Ladder_init, defBody s_Ladder_init, defScope s_Ladder_init, [], []⟩
def d_Ladder_len : He.DefD := ⟨("Ladder", some "__len__"), "__len__", "Ladder.__len__", defArgs s_Ladder_len, defBody s_Ladder_len, defScope s_Ladder_len, [], []⟩
def d_Ladder_names : He.DefD := ⟨("Ladder", some "names"), "names", "Ladder.names", defArgs s_Ladder_names, defBody s_Ladder_names, defScope s_Ladder_names, [], []⟩
def d_Ladder_machine : He.DefD := ⟨("Ladder", some "machine"), "machine", "Ladder.machine", defArgs s_Ladder_machine, defBody s_Ladder_machine, defScope s_Ladder_machine, [], []⟩
def d_Ladder_do_add : He.DefD := ⟨("Ladder", some "do_add"), "do_add", "Ladder.do_add", defArgs s_Ladder_do_add, defBody s_Ladder_do_add, defScope s_Ladder_do_add, [], []⟩
def d_Ladder_do_replace : He.DefD := ⟨("Ladder", some "do_replace"), "do_replace", "Ladder.do_replace", defArgs s_Ladder_do_replace, defBody s_Ladder_do_replace, defScope s_Ladder_do_replace, [], []⟩
def d_Ladder_do_remove : He.DefD := ⟨("Ladder", some "do_remove"), "do_remove", "Ladder.do_remove", defArgs s_Ladder_do_remove, defBody s_Ladder_do_remove, defScope s_Ladder_do_remove, [], []⟩
def d_Ladder_batch : He.DefD := ⟨("Ladder", some "batch"), "batch", "Ladder.batch", defArgs s_Ladder_batch, defBody s_Ladder_batch, defScope s_Ladder_batch, [], []⟩
def d_Ladder_add : He.DefD := ⟨("Ladder", some "add"), "add", "Ladder.add", defArgs s_Ladder_add, defBody s_Ladder_add, defScope s_Ladder_add, [], []⟩
def d_Ladder_replace : He.DefD := ⟨("Ladder", some "replace"), "replace", "Ladder.replace", defArgs s_Ladder_replace, defBody s_Ladder_replace, defScope s_Ladder_replace, [], []⟩
def d_Ladder_remove : He.DefD := ⟨("Ladder", some "remove"), "remove", "Ladder.remove", defArgs s_Ladder_remove, defBody s_Ladder_remove, defScope s_Ladder_remove, [], []⟩
def d_Ladder_undo : He.DefD := ⟨("Ladder", some "undo"), "undo", "Ladder.undo", defArgs s_Ladder_undo, defBody s_Ladder_undo, defScope s_Ladder_undo, [], []⟩
def d_behaviours : He.DefD := ⟨("behaviours", none), "behaviours", "behaviours", defArgs s_behaviours, defBody s_behaviours, defScope s_behaviours, [], []⟩
def d_minimized : He.DefD := ⟨("minimized", none), "minimized", "minimized", defArgs s_minimized, defBody s_minimized, defScope s_minimized, [], []⟩
def d_Session_init : He.DefD := ⟨("Session", some "__init__"), "__init__", "Session.__init__", defArgs s_Session_init, defBody s_Session_init, defScope s_Session_init, [], []⟩
def d_Session_eq : He.DefD := ⟨("Session", some "__eq__"), "__eq__", "Session.__eq__", defArgs s_Session_eq, defBody s_Session_eq, defScope s_Session_eq, [], []⟩
def d_Session_write : He.DefD := ⟨("Session", some "write"), "write", "Session.write", defArgs s_Session_write, defBody s_Session_write, defScope s_Session_write, [], []⟩
def d_Session_written : He.DefD := ⟨("Session", some "written"), "written", "Session.written", defArgs s_Session_written, defBody s_Session_written, defScope s_Session_written, [], []⟩
def d_Shell_init : He.DefD := ⟨("Shell", some "__init__"), "__init__", "Shell.__init__", defArgs s_Shell_init, defBody s_Shell_init, defScope s_Shell_init, [.non], []⟩
def d_Shell_len : He.DefD := ⟨("Shell", some "__len__"), "__len__", "Shell.__len__", defArgs s_Shell_len, defBody s_Shell_len, defScope s_Shell_len, [], []⟩
def d_Shell_log : He.DefD := ⟨("Shell", some "log"), "log", "Shell.log", defArgs s_Shell_log, defBody s_Shell_log, defScope s_Shell_log, [], []⟩
def d_Shell_command : He.DefD := ⟨("Shell", some "command"), "command", "Shell.command", defArgs s_Shell_command, defBody s_Shell_command, defScope s_Shell_command, [], []⟩
def d_Shell_query : He.DefD := ⟨("Shell", some "query"), "query", "Shell.query", defArgs s_Shell_query, defBody s_Shell_query, defScope s_Shell_query, [], []⟩
def d_Shell_answer : He.DefD := ⟨("Shell", some "answer"), "answer", "Shell.answer", defArgs s_Shell_answer, defBody s_Shell_answer, defScope s_Shell_answer, [], []⟩
def d_Shell_run : He.DefD := ⟨("Shell", some "run"), "run", "Shell.run", defArgs s_Shell_run, defBody s_Shell_run, defScope s_Shell_run, [], []⟩
def d_l_bag : He.DefD := ⟨("_law_bag", none), "_law_bag", "_law_bag", defArgs s_l_bag, defBody s_l_bag, defScope s_l_bag, [], []⟩
def d_l_pull : He.DefD := ⟨("_law_pull", none), "_law_pull", "_law_pull", defArgs s_l_pull, defBody s_l_pull, defScope s_l_pull, [], []⟩
def d_l_of : He.DefD := ⟨("_law_of", none), "_law_of", "_law_of", defArgs s_l_of, defBody s_l_of, defScope s_l_of, [], []⟩
def d_l_names : He.DefD := ⟨("_law_names", none), "_law_names", "_law_names", defArgs s_l_names, defBody s_l_names, defScope s_l_names, [], []⟩
def d_l_raw : He.DefD := ⟨("_law_raw", none), "_law_raw", "_law_raw", defArgs s_l_raw, defBody s_l_raw, defScope s_l_raw, [], []⟩
def d_l_read : He.DefD := ⟨("_law_read", none), "_law_read", "_law_read", defArgs s_l_read, defBody s_l_read, defScope s_l_read, [], []⟩
def d_l_made : He.DefD := ⟨("_law_made", none), "_law_made", "_law_made", defArgs s_l_made, defBody s_l_made, defScope s_l_made, [], []⟩
def d_l_pool : He.DefD := ⟨("_law_pool", none), "_law_pool", "_law_pool", defArgs s_l_pool, defBody s_l_pool, defScope s_l_pool, [], []⟩
def d_l_told : He.DefD := ⟨("_law_told", none), "_law_told", "_law_told", defArgs s_l_told, defBody s_l_told, defScope s_l_told, [], []⟩
def d_l_translator : He.DefD := ⟨("_law_translator", none), "_law_translator", "_law_translator", defArgs s_l_translator, defBody s_l_translator, defScope s_l_translator, [], []⟩
def d_l_command : He.DefD := ⟨("_law_command", none), "_law_command", "_law_command", defArgs s_l_command, defBody s_l_command, defScope s_l_command, [], []⟩
def d_l_is_name : He.DefD := ⟨("_law_is_name", none), "_law_is_name", "_law_is_name", defArgs s_l_is_name, defBody s_l_is_name, defScope s_l_is_name, [], []⟩
def d_l_result : He.DefD := ⟨("_law_result", none), "_law_result", "_law_result", defArgs s_l_result, defBody s_l_result, defScope s_l_result, [], []⟩
def d_l_same : He.DefD := ⟨("_law_same", none), "_law_same", "_law_same", defArgs s_l_same, defBody s_l_same, defScope s_l_same, [], []⟩
def d_l_try : He.DefD := ⟨("_law_try", none), "_law_try", "_law_try", defArgs s_l_try, defBody s_l_try, defScope s_l_try, [], []⟩
def d_l_run : He.DefD := ⟨("_law_run", none), "_law_run", "_law_run", defArgs s_l_run, defBody s_l_run, defScope s_l_run, [], []⟩
def d_l_matches : He.DefD := ⟨("_law_matches", none), "_law_matches", "_law_matches", defArgs s_l_matches, defBody s_l_matches, defScope s_l_matches, [], []⟩
def d_law : He.DefD := ⟨("law", none), "law", "law", defArgs s_law, defBody s_law, defScope s_law, [], []⟩
/-- the function object at an address of the written part -/
def fdOf (K : PySem.W.Frag) (a : Addr) : FuncData := match K.lookup a with
  | some ⟨_, _, .func fd, _⟩ => fd
  | _ => ⟨"", "", ⟨[], [], none, [], [], none, []⟩, .stmts [], ⟨.function, [], false, false, []⟩, 0, [], .none, .none, .none, .none, none, .none, .none, 0⟩
theorem fdOf_eq {K : PySem.W.Frag} {x qual : Str} {params : Arguments} {body : List Stmt} {scope : Scope} {dvs : List V} {kws : List (Str × V)} {a : Addr} {fd : FuncData} (h : FunD K x qual params body scope dvs kws a fd) : FunD K x qual params body scope dvs kws a (fdOf K a) := by
  obtain ⟨⟨oc, od, dV, kV, doc, pm, an, cdv, ct, osl, rfl, lk, r⟩, kp⟩ := id h
  have e : fdOf K a = PySem.W.fnOf x qual params body scope dV kV doc pm an cdv ct := by
    unfold fdOf
    rw [lk]
  rw [e]
  exact h
def DefT (K : PySem.W.Frag) (d : He.DefD) : Prop := FunD K d.name d.qual d.params d.body d.scope (d.dvs K) (d.kws K) (He.fAd K d.at_) (fdOf K (He.fAd K d.at_))
abbrev vTail : List Value := [.type "ValueError", .type "Exception", .type "BaseException", .type "object"]
abbrev lTail : List Value := [.type "LookupError", .type "Exception", .type "BaseException", .type "object"]
/-- what the head leaves -/
structure Tx (w : World) (mg : Str → Option Value) (K : PySem.W.Frag) : Prop where
  F_InvalidName_init : DefT K d_InvalidName_init
  F_DuplicateName_init : DefT K d_DuplicateName_init
  F_LimitExceeded_init : DefT K d_LimitExceeded_init
  F_NothingLeft_init : DefT K d_NothingLeft_init
  F_UnknownName_init : DefT K d_UnknownName_init
  F_is_alphabet : DefT K d_is_alphabet
  F_need_alphabet : DefT K d_need_alphabet
  F_is_state : DefT K d_is_state
  F_Machine_init : DefT K d_Machine_init
  F_Machine_letters : DefT K d_Machine_letters
  F_Machine_states : DefT K d_Machine_states
  F_Machine_start : DefT K d_Machine_start
  F_is_answer : DefT K d_is_answer
  F_Translator_init : DefT K d_Translator_init
  F_Translator_eq : DefT K d_Translator_eq
  F_Translator_start : DefT K d_Translator_start
  F_Translator_step : DefT K d_Translator_step
  F_transition_in : DefT K d_transition_in
  F_parse_machine : DefT K d_parse_machine
  F_is_name : DefT K d_is_name
  F_Ladder_init : DefT K d_Ladder_init
  F_Ladder_len : DefT K d_Ladder_len
  F_Ladder_names : DefT K d_Ladder_names
  F_Ladder_machine : DefT K d_Ladder_machine
  F_Ladder_do_add : DefT K d_Ladder_do_add
  F_Ladder_do_replace : DefT K d_Ladder_do_replace
  F_Ladder_do_remove : DefT K d_Ladder_do_remove
  F_Ladder_batch : DefT K d_Ladder_batch
  F_Ladder_add : DefT K d_Ladder_add
  F_Ladder_replace : DefT K d_Ladder_replace
  F_Ladder_remove : DefT K d_Ladder_remove
  F_Ladder_undo : DefT K d_Ladder_undo
  F_behaviours : DefT K d_behaviours
  F_minimized : DefT K d_minimized
  F_Session_init : DefT K d_Session_init
  F_Session_eq : DefT K d_Session_eq
  F_Session_write : DefT K d_Session_write
  F_Session_written : DefT K d_Session_written
  F_Shell_init : DefT K d_Shell_init
  F_Shell_len : DefT K d_Shell_len
  F_Shell_log : DefT K d_Shell_log
  F_Shell_command : DefT K d_Shell_command
  F_Shell_query : DefT K d_Shell_query
  F_Shell_answer : DefT K d_Shell_answer
  F_Shell_run : DefT K d_Shell_run
  F_l_bag : DefT K d_l_bag
  F_l_pull : DefT K d_l_pull
  F_l_of : DefT K d_l_of
  F_l_names : DefT K d_l_names
  F_l_raw : DefT K d_l_raw
  F_l_read : DefT K d_l_read
  F_l_made : DefT K d_l_made
  F_l_pool : DefT K d_l_pool
  F_l_told : DefT K d_l_told
  F_l_translator : DefT K d_l_translator
  F_l_command : DefT K d_l_command
  F_l_is_name : DefT K d_l_is_name
  F_l_result : DefT K d_l_result
  F_l_same : DefT K d_l_same
  F_l_try : DefT K d_l_try
  F_l_run : DefT K d_l_run
  F_l_matches : DefT K d_l_matches
  F_law : DefT K d_law
  g_is_alphabet : mg "is_alphabet" = some (.ref (He.ga K "is_alphabet"))
  g_need_alphabet : mg "need_alphabet" = some (.ref (He.ga K "need_alphabet"))
  g_is_state : mg "is_state" = some (.ref (He.ga K "is_state"))
  g_is_answer : mg "is_answer" = some (.ref (He.ga K "is_answer"))
  g_transition_in : mg "transition_in" = some (.ref (He.ga K "transition_in"))
  g_parse_machine : mg "parse_machine" = some (.ref (He.ga K "parse_machine"))
  g_is_name : mg "is_name" = some (.ref (He.ga K "is_name"))
  g_behaviours : mg "behaviours" = some (.ref (He.ga K "behaviours"))
  g_minimized : mg "minimized" = some (.ref (He.ga K "minimized"))
  g_l_bag : mg "_law_bag" = some (.ref (He.ga K "_law_bag"))
  g_l_pull : mg "_law_pull" = some (.ref (He.ga K "_law_pull"))
  g_l_of : mg "_law_of" = some (.ref (He.ga K "_law_of"))
  g_l_names : mg "_law_names" = some (.ref (He.ga K "_law_names"))
  g_l_raw : mg "_law_raw" = some (.ref (He.ga K "_law_raw"))
  g_l_read : mg "_law_read" = some (.ref (He.ga K "_law_read"))
  g_l_made : mg "_law_made" = some (.ref (He.ga K "_law_made"))
  g_l_pool : mg "_law_pool" = some (.ref (He.ga K "_law_pool"))
  g_l_told : mg "_law_told" = some (.ref (He.ga K "_law_told"))
  g_l_translator : mg "_law_translator" = some (.ref (He.ga K "_law_translator"))
  g_l_command : mg "_law_command" = some (.ref (He.ga K "_law_command"))
  g_l_is_name : mg "_law_is_name" = some (.ref (He.ga K "_law_is_name"))
  g_l_result : mg "_law_result" = some (.ref (He.ga K "_law_result"))
  g_l_same : mg "_law_same" = some (.ref (He.ga K "_law_same"))
  g_l_try : mg "_law_try" = some (.ref (He.ga K "_law_try"))
  g_l_run : mg "_law_run" = some (.ref (He.ga K "_law_run"))
  g_l_matches : mg "_law_matches" = some (.ref (He.ga K "_law_matches"))
  g_law : mg "law" = some (.ref (He.ga K "law"))
  g_Machine : mg "Machine" = some (.ref (He.ga K "Machine"))
  g_Translator : mg "Translator" = some (.ref (He.ga K "Translator"))
  g_Ladder : mg "Ladder" = some (.ref (He.ga K "Ladder"))
  g_Session : mg "Session" = some (.ref (He.ga K "Session"))
  g_Shell : mg "Shell" = some (.ref (He.ga K "Shell"))
  g_InvalidMachine : mg "InvalidMachine" = some (.ref (He.ga K "InvalidMachine"))
  g_InvalidTranslator : mg "InvalidTranslator" = some (.ref (He.ga K "InvalidTranslator"))
  g_InvalidOpponent : mg "InvalidOpponent" = some (.ref (He.ga K "InvalidOpponent"))
  g_InvalidLetters : mg "InvalidLetters" = some (.ref (He.ga K "InvalidLetters"))
  g_OutOfRange : mg "OutOfRange" = some (.ref (He.ga K "OutOfRange"))
  g_InvalidFile : mg "InvalidFile" = some (.ref (He.ga K "InvalidFile"))
  g_InvalidCommand : mg "InvalidCommand" = some (.ref (He.ga K "InvalidCommand"))
  g_UnknownLetter : mg "UnknownLetter" = some (.ref (He.ga K "UnknownLetter"))
  g_EchoError : mg "EchoError" = some (.ref (He.ga K "EchoError"))
  g_NotFound : mg "NotFound" = some (.ref (He.ga K "NotFound"))
  g_LimitExceeded : mg "LimitExceeded" = some (.ref (He.ga K "LimitExceeded"))
  g_InvalidName : mg "InvalidName" = some (.ref (He.ga K "InvalidName"))
  g_DuplicateName : mg "DuplicateName" = some (.ref (He.ga K "DuplicateName"))
  g_NothingLeft : mg "NothingLeft" = some (.ref (He.ga K "NothingLeft"))
  g_UnknownName : mg "UnknownName" = some (.ref (He.ga K "UnknownName"))
  g_COUNTS_ladder : mg "COUNTS_ladder" = some (.ref (He.ga K "COUNTS_ladder"))
  g_COUNTS_shell : mg "COUNTS_shell" = some (.ref (He.ga K "COUNTS_shell"))
  f_len : mg "len" = none
  f_list : mg "list" = none
  f_tuple : mg "tuple" = none
  f_all : mg "all" = none
  f_range : mg "range" = none
  f_enumerate : mg "enumerate" = none
  f_sorted : mg "sorted" = none
  f_dict : mg "dict" = none
  f_isinstance : mg "isinstance" = none
  f_int : mg "int" = none
  f_bool : mg "bool" = none
  f_str : mg "str" = none
  i_MAX_LETTERS : ∃ t, mg "MAX_LETTERS" = some (.int 3 t)
  i_MAX_STATES : ∃ t, mg "MAX_STATES" = some (.int 5 t)
  i_MAX_PRIORITY : ∃ t, mg "MAX_PRIORITY" = some (.int 3 t)
  i_MAX_NAME : ∃ t, mg "MAX_NAME" = some (.int 8 t)
  i_MAX_NAMES : ∃ t, mg "MAX_NAMES" = some (.int 6 t)
  z_LOWERCASE : ∃ t, mg "LOWERCASE" = some (.str "abcdefghijklmnopqrstuvwxyz" t)
  z_DIGITS : ∃ t, mg "DIGITS" = some (.str "0123456789" t)
  z_UNKNOWN : ∃ t, mg "UNKNOWN" = some (.str "unknown" t)
  c_Machine : Cls K (He.ga K "Machine")
  k_Machine : Mk K (He.ga K "Machine") (He.ma K (He.ga K "Machine") "__init__")
  n_Machine_alphabet : NoAttr K (He.ga K "Machine") "alphabet"
  n_Machine_table : NoAttr K (He.ga K "Machine") "table"
  n_Machine_first : NoAttr K (He.ga K "Machine") "first"
  c_Translator : Cls K (He.ga K "Translator")
  k_Translator : Mk K (He.ga K "Translator") (He.ma K (He.ga K "Translator") "__init__")
  n_Translator_inputs : NoAttr K (He.ga K "Translator") "inputs"
  n_Translator_outputs : NoAttr K (He.ga K "Translator") "outputs"
  n_Translator_table : NoAttr K (He.ga K "Translator") "table"
  n_Translator_first : NoAttr K (He.ga K "Translator") "first"
  c_Ladder : Cls K (He.ga K "Ladder")
  k_Ladder : Mk K (He.ga K "Ladder") (He.ma K (He.ga K "Ladder") "__init__")
  n_Ladder_contents : NoAttr K (He.ga K "Ladder") "contents"
  n_Ladder_past : NoAttr K (He.ga K "Ladder") "past"
  n_Ladder_future : NoAttr K (He.ga K "Ladder") "future"
  n_Ladder_known : NoAttr K (He.ga K "Ladder") "known"
  c_Session : Cls K (He.ga K "Session")
  k_Session : Mk K (He.ga K "Session") (He.ma K (He.ga K "Session") "__init__")
  n_Session_engine : NoAttr K (He.ga K "Session") "engine"
  n_Session_done : NoAttr K (He.ga K "Session") "done"
  n_Session_later : NoAttr K (He.ga K "Session") "later"
  c_Shell : Cls K (He.ga K "Shell")
  k_Shell : Mk K (He.ga K "Shell") (He.ma K (He.ga K "Shell") "__init__")
  n_Shell_place : NoAttr K (He.ga K "Shell") "place"
  n_Shell_entries : NoAttr K (He.ga K "Shell") "entries"
  m_Machine_init : Meth K (He.ga K "Machine") "__init__" (He.ma K (He.ga K "Machine") "__init__")
  m_Machine_letters : Meth K (He.ga K "Machine") "letters" (He.ma K (He.ga K "Machine") "letters")
  m_Machine_states : Meth K (He.ga K "Machine") "states" (He.ma K (He.ga K "Machine") "states")
  m_Machine_start : Meth K (He.ga K "Machine") "start" (He.ma K (He.ga K "Machine") "start")
  m_Translator_init : Meth K (He.ga K "Translator") "__init__" (He.ma K (He.ga K "Translator") "__init__")
  m_Translator_eq : Meth K (He.ga K "Translator") "__eq__" (He.ma K (He.ga K "Translator") "__eq__")
  m_Translator_start : Meth K (He.ga K "Translator") "start" (He.ma K (He.ga K "Translator") "start")
  m_Translator_step : Meth K (He.ga K "Translator") "step" (He.ma K (He.ga K "Translator") "step")
  m_Ladder_init : Meth K (He.ga K "Ladder") "__init__" (He.ma K (He.ga K "Ladder") "__init__")
  m_Ladder_len : Meth K (He.ga K "Ladder") "__len__" (He.ma K (He.ga K "Ladder") "__len__")
  m_Ladder_names : Meth K (He.ga K "Ladder") "names" (He.ma K (He.ga K "Ladder") "names")
  m_Ladder_machine : Meth K (He.ga K "Ladder") "machine" (He.ma K (He.ga K "Ladder") "machine")
  m_Ladder_do_add : Meth K (He.ga K "Ladder") "do_add" (He.ma K (He.ga K "Ladder") "do_add")
  m_Ladder_do_replace : Meth K (He.ga K "Ladder") "do_replace" (He.ma K (He.ga K "Ladder") "do_replace")
  m_Ladder_do_remove : Meth K (He.ga K "Ladder") "do_remove" (He.ma K (He.ga K "Ladder") "do_remove")
  m_Ladder_batch : Meth K (He.ga K "Ladder") "batch" (He.ma K (He.ga K "Ladder") "batch")
  m_Ladder_add : Meth K (He.ga K "Ladder") "add" (He.ma K (He.ga K "Ladder") "add")
  m_Ladder_replace : Meth K (He.ga K "Ladder") "replace" (He.ma K (He.ga K "Ladder") "replace")
  m_Ladder_remove : Meth K (He.ga K "Ladder") "remove" (He.ma K (He.ga K "Ladder") "remove")
  m_Ladder_undo : Meth K (He.ga K "Ladder") "undo" (He.ma K (He.ga K "Ladder") "undo")
  m_Session_init : Meth K (He.ga K "Session") "__init__" (He.ma K (He.ga K "Session") "__init__")
  m_Session_eq : Meth K (He.ga K "Session") "__eq__" (He.ma K (He.ga K "Session") "__eq__")
  m_Session_write : Meth K (He.ga K "Session") "write" (He.ma K (He.ga K "Session") "write")
  m_Session_written : Meth K (He.ga K "Session") "written" (He.ma K (He.ga K "Session") "written")
  m_Shell_init : Meth K (He.ga K "Shell") "__init__" (He.ma K (He.ga K "Shell") "__init__")
  m_Shell_len : Meth K (He.ga K "Shell") "__len__" (He.ma K (He.ga K "Shell") "__len__")
  m_Shell_log : Meth K (He.ga K "Shell") "log" (He.ma K (He.ga K "Shell") "log")
  m_Shell_command : Meth K (He.ga K "Shell") "command" (He.ma K (He.ga K "Shell") "command")
  m_Shell_query : Meth K (He.ga K "Shell") "query" (He.ma K (He.ga K "Shell") "query")
  m_Shell_answer : Meth K (He.ga K "Shell") "answer" (He.ma K (He.ga K "Shell") "answer")
  m_Shell_run : Meth K (He.ga K "Shell") "run" (He.ma K (He.ga K "Shell") "run")
  m_LimitExceeded_init : Meth K (He.ga K "LimitExceeded") "__init__" (He.ma K (He.ga K "LimitExceeded") "__init__")
  n_LimitExceeded_limit : PySem.W.findIn K (.ref (He.ga K "LimitExceeded")) "limit" = some none
  n_LimitExceeded_word : PySem.W.findIn K (.ref (He.ga K "LimitExceeded")) "word" = some none
  x_LimitExceeded_InvalidMachine : PySem.W.exmOne K (.ref (He.ga K "LimitExceeded")) (.ref (He.ga K "InvalidMachine")) = some false
  x_LimitExceeded_InvalidTranslator : PySem.W.exmOne K (.ref (He.ga K "LimitExceeded")) (.ref (He.ga K "InvalidTranslator")) = some false
  x_LimitExceeded_InvalidOpponent : PySem.W.exmOne K (.ref (He.ga K "LimitExceeded")) (.ref (He.ga K "InvalidOpponent")) = some false
  x_LimitExceeded_InvalidLetters : PySem.W.exmOne K (.ref (He.ga K "LimitExceeded")) (.ref (He.ga K "InvalidLetters")) = some false
  x_LimitExceeded_LimitExceeded : PySem.W.exmOne K (.ref (He.ga K "LimitExceeded")) (.ref (He.ga K "LimitExceeded")) = some true
  x_LimitExceeded_OutOfRange : PySem.W.exmOne K (.ref (He.ga K "LimitExceeded")) (.ref (He.ga K "OutOfRange")) = some false
  x_LimitExceeded_InvalidFile : PySem.W.exmOne K (.ref (He.ga K "LimitExceeded")) (.ref (He.ga K "InvalidFile")) = some false
  x_LimitExceeded_InvalidName : PySem.W.exmOne K (.ref (He.ga K "LimitExceeded")) (.ref (He.ga K "InvalidName")) = some false
  x_LimitExceeded_DuplicateName : PySem.W.exmOne K (.ref (He.ga K "LimitExceeded")) (.ref (He.ga K "DuplicateName")) = some false
  x_LimitExceeded_UnknownName : PySem.W.exmOne K (.ref (He.ga K "LimitExceeded")) (.ref (He.ga K "UnknownName")) = some false
  x_LimitExceeded_InvalidCommand : PySem.W.exmOne K (.ref (He.ga K "LimitExceeded")) (.ref (He.ga K "InvalidCommand")) = some false
  x_LimitExceeded_UnknownLetter : PySem.W.exmOne K (.ref (He.ga K "LimitExceeded")) (.ref (He.ga K "UnknownLetter")) = some false
  x_LimitExceeded_EchoError : PySem.W.exmOne K (.ref (He.ga K "LimitExceeded")) (.ref (He.ga K "EchoError")) = some true
  x_LimitExceeded_NotFound : PySem.W.exmOne K (.ref (He.ga K "LimitExceeded")) (.ref (He.ga K "NotFound")) = some false
  m_InvalidName_init : Meth K (He.ga K "InvalidName") "__init__" (He.ma K (He.ga K "InvalidName") "__init__")
  n_InvalidName_name : PySem.W.findIn K (.ref (He.ga K "InvalidName")) "name" = some none
  n_InvalidName_word : PySem.W.findIn K (.ref (He.ga K "InvalidName")) "word" = some none
  x_InvalidName_InvalidMachine : PySem.W.exmOne K (.ref (He.ga K "InvalidName")) (.ref (He.ga K "InvalidMachine")) = some false
  x_InvalidName_InvalidTranslator : PySem.W.exmOne K (.ref (He.ga K "InvalidName")) (.ref (He.ga K "InvalidTranslator")) = some false
  x_InvalidName_InvalidOpponent : PySem.W.exmOne K (.ref (He.ga K "InvalidName")) (.ref (He.ga K "InvalidOpponent")) = some false
  x_InvalidName_InvalidLetters : PySem.W.exmOne K (.ref (He.ga K "InvalidName")) (.ref (He.ga K "InvalidLetters")) = some false
  x_InvalidName_LimitExceeded : PySem.W.exmOne K (.ref (He.ga K "InvalidName")) (.ref (He.ga K "LimitExceeded")) = some false
  x_InvalidName_OutOfRange : PySem.W.exmOne K (.ref (He.ga K "InvalidName")) (.ref (He.ga K "OutOfRange")) = some false
  x_InvalidName_InvalidFile : PySem.W.exmOne K (.ref (He.ga K "InvalidName")) (.ref (He.ga K "InvalidFile")) = some false
  x_InvalidName_InvalidName : PySem.W.exmOne K (.ref (He.ga K "InvalidName")) (.ref (He.ga K "InvalidName")) = some true
  x_InvalidName_DuplicateName : PySem.W.exmOne K (.ref (He.ga K "InvalidName")) (.ref (He.ga K "DuplicateName")) = some false
  x_InvalidName_UnknownName : PySem.W.exmOne K (.ref (He.ga K "InvalidName")) (.ref (He.ga K "UnknownName")) = some false
  x_InvalidName_InvalidCommand : PySem.W.exmOne K (.ref (He.ga K "InvalidName")) (.ref (He.ga K "InvalidCommand")) = some false
  x_InvalidName_UnknownLetter : PySem.W.exmOne K (.ref (He.ga K "InvalidName")) (.ref (He.ga K "UnknownLetter")) = some false
  x_InvalidName_EchoError : PySem.W.exmOne K (.ref (He.ga K "InvalidName")) (.ref (He.ga K "EchoError")) = some true
  x_InvalidName_NotFound : PySem.W.exmOne K (.ref (He.ga K "InvalidName")) (.ref (He.ga K "NotFound")) = some false
  m_DuplicateName_init : Meth K (He.ga K "DuplicateName") "__init__" (He.ma K (He.ga K "DuplicateName") "__init__")
  n_DuplicateName_name : PySem.W.findIn K (.ref (He.ga K "DuplicateName")) "name" = some none
  n_DuplicateName_word : PySem.W.findIn K (.ref (He.ga K "DuplicateName")) "word" = some none
  x_DuplicateName_InvalidMachine : PySem.W.exmOne K (.ref (He.ga K "DuplicateName")) (.ref (He.ga K "InvalidMachine")) = some false
  x_DuplicateName_InvalidTranslator : PySem.W.exmOne K (.ref (He.ga K "DuplicateName")) (.ref (He.ga K "InvalidTranslator")) = some false
  x_DuplicateName_InvalidOpponent : PySem.W.exmOne K (.ref (He.ga K "DuplicateName")) (.ref (He.ga K "InvalidOpponent")) = some false
  x_DuplicateName_InvalidLetters : PySem.W.exmOne K (.ref (He.ga K "DuplicateName")) (.ref (He.ga K "InvalidLetters")) = some false
  x_DuplicateName_LimitExceeded : PySem.W.exmOne K (.ref (He.ga K "DuplicateName")) (.ref (He.ga K "LimitExceeded")) = some false
  x_DuplicateName_OutOfRange : PySem.W.exmOne K (.ref (He.ga K "DuplicateName")) (.ref (He.ga K "OutOfRange")) = some false
  x_DuplicateName_InvalidFile : PySem.W.exmOne K (.ref (He.ga K "DuplicateName")) (.ref (He.ga K "InvalidFile")) = some false
  x_DuplicateName_InvalidName : PySem.W.exmOne K (.ref (He.ga K "DuplicateName")) (.ref (He.ga K "InvalidName")) = some false
  x_DuplicateName_DuplicateName : PySem.W.exmOne K (.ref (He.ga K "DuplicateName")) (.ref (He.ga K "DuplicateName")) = some true
  x_DuplicateName_UnknownName : PySem.W.exmOne K (.ref (He.ga K "DuplicateName")) (.ref (He.ga K "UnknownName")) = some false
  x_DuplicateName_InvalidCommand : PySem.W.exmOne K (.ref (He.ga K "DuplicateName")) (.ref (He.ga K "InvalidCommand")) = some false
  x_DuplicateName_UnknownLetter : PySem.W.exmOne K (.ref (He.ga K "DuplicateName")) (.ref (He.ga K "UnknownLetter")) = some false
  x_DuplicateName_EchoError : PySem.W.exmOne K (.ref (He.ga K "DuplicateName")) (.ref (He.ga K "EchoError")) = some true
  x_DuplicateName_NotFound : PySem.W.exmOne K (.ref (He.ga K "DuplicateName")) (.ref (He.ga K "NotFound")) = some false
  m_NothingLeft_init : Meth K (He.ga K "NothingLeft") "__init__" (He.ma K (He.ga K "NothingLeft") "__init__")
  n_NothingLeft_word : PySem.W.findIn K (.ref (He.ga K "NothingLeft")) "word" = some none
  x_NothingLeft_InvalidMachine : PySem.W.exmOne K (.ref (He.ga K "NothingLeft")) (.ref (He.ga K "InvalidMachine")) = some false
  x_NothingLeft_InvalidTranslator : PySem.W.exmOne K (.ref (He.ga K "NothingLeft")) (.ref (He.ga K "InvalidTranslator")) = some false
  x_NothingLeft_InvalidOpponent : PySem.W.exmOne K (.ref (He.ga K "NothingLeft")) (.ref (He.ga K "InvalidOpponent")) = some false
  x_NothingLeft_InvalidLetters : PySem.W.exmOne K (.ref (He.ga K "NothingLeft")) (.ref (He.ga K "InvalidLetters")) = some false
  x_NothingLeft_LimitExceeded : PySem.W.exmOne K (.ref (He.ga K "NothingLeft")) (.ref (He.ga K "LimitExceeded")) = some false
  x_NothingLeft_OutOfRange : PySem.W.exmOne K (.ref (He.ga K "NothingLeft")) (.ref (He.ga K "OutOfRange")) = some false
  x_NothingLeft_InvalidFile : PySem.W.exmOne K (.ref (He.ga K "NothingLeft")) (.ref (He.ga K "InvalidFile")) = some false
  x_NothingLeft_InvalidName : PySem.W.exmOne K (.ref (He.ga K "NothingLeft")) (.ref (He.ga K "InvalidName")) = some false
  x_NothingLeft_DuplicateName : PySem.W.exmOne K (.ref (He.ga K "NothingLeft")) (.ref (He.ga K "DuplicateName")) = some false
  x_NothingLeft_UnknownName : PySem.W.exmOne K (.ref (He.ga K "NothingLeft")) (.ref (He.ga K "UnknownName")) = some false
  x_NothingLeft_InvalidCommand : PySem.W.exmOne K (.ref (He.ga K "NothingLeft")) (.ref (He.ga K "InvalidCommand")) = some false
  x_NothingLeft_UnknownLetter : PySem.W.exmOne K (.ref (He.ga K "NothingLeft")) (.ref (He.ga K "UnknownLetter")) = some false
  x_NothingLeft_EchoError : PySem.W.exmOne K (.ref (He.ga K "NothingLeft")) (.ref (He.ga K "EchoError")) = some true
  x_NothingLeft_NotFound : PySem.W.exmOne K (.ref (He.ga K "NothingLeft")) (.ref (He.ga K "NotFound")) = some false
  m_UnknownName_init : Meth K (He.ga K "UnknownName") "__init__" (He.ma K (He.ga K "UnknownName") "__init__")
  n_UnknownName_name : PySem.W.findIn K (.ref (He.ga K "UnknownName")) "name" = some none
  n_UnknownName_word : PySem.W.findIn K (.ref (He.ga K "UnknownName")) "word" = some none
  x_UnknownName_InvalidMachine : PySem.W.exmOne K (.ref (He.ga K "UnknownName")) (.ref (He.ga K "InvalidMachine")) = some false
  x_UnknownName_InvalidTranslator : PySem.W.exmOne K (.ref (He.ga K "UnknownName")) (.ref (He.ga K "InvalidTranslator")) = some false
  x_UnknownName_InvalidOpponent : PySem.W.exmOne K (.ref (He.ga K "UnknownName")) (.ref (He.ga K "InvalidOpponent")) = some false
  x_UnknownName_InvalidLetters : PySem.W.exmOne K (.ref (He.ga K "UnknownName")) (.ref (He.ga K "InvalidLetters")) = some false
  x_UnknownName_LimitExceeded : PySem.W.exmOne K (.ref (He.ga K "UnknownName")) (.ref (He.ga K "LimitExceeded")) = some false
  x_UnknownName_OutOfRange : PySem.W.exmOne K (.ref (He.ga K "UnknownName")) (.ref (He.ga K "OutOfRange")) = some false
  x_UnknownName_InvalidFile : PySem.W.exmOne K (.ref (He.ga K "UnknownName")) (.ref (He.ga K "InvalidFile")) = some false
  x_UnknownName_InvalidName : PySem.W.exmOne K (.ref (He.ga K "UnknownName")) (.ref (He.ga K "InvalidName")) = some false
  x_UnknownName_DuplicateName : PySem.W.exmOne K (.ref (He.ga K "UnknownName")) (.ref (He.ga K "DuplicateName")) = some false
  x_UnknownName_UnknownName : PySem.W.exmOne K (.ref (He.ga K "UnknownName")) (.ref (He.ga K "UnknownName")) = some true
  x_UnknownName_InvalidCommand : PySem.W.exmOne K (.ref (He.ga K "UnknownName")) (.ref (He.ga K "InvalidCommand")) = some false
  x_UnknownName_UnknownLetter : PySem.W.exmOne K (.ref (He.ga K "UnknownName")) (.ref (He.ga K "UnknownLetter")) = some false
  x_UnknownName_EchoError : PySem.W.exmOne K (.ref (He.ga K "UnknownName")) (.ref (He.ga K "EchoError")) = some false
  x_UnknownName_NotFound : PySem.W.exmOne K (.ref (He.ga K "UnknownName")) (.ref (He.ga K "NotFound")) = some true
  t_COUNTS_ladder : ∃ es n, KDict K w (He.ga K "COUNTS_ladder") es n
  v_COUNTS_ladder_add : ∃ u, PySem.W.nsIn K (He.ga K "COUNTS_ladder") "add" = some (some u) ∧ RelV (.int 3) u
  v_COUNTS_ladder_replace : ∃ u, PySem.W.nsIn K (He.ga K "COUNTS_ladder") "replace" = some (some u) ∧ RelV (.int 3) u
  v_COUNTS_ladder_remove : ∃ u, PySem.W.nsIn K (He.ga K "COUNTS_ladder") "remove" = some (some u) ∧ RelV (.int 2) u
  t_COUNTS_shell : ∃ es n, KDict K w (He.ga K "COUNTS_shell") es n
  v_COUNTS_shell_add : ∃ u, PySem.W.nsIn K (He.ga K "COUNTS_shell") "add" = some (some u) ∧ RelV (.int 3) u
  v_COUNTS_shell_remove : ∃ u, PySem.W.nsIn K (He.ga K "COUNTS_shell") "remove" = some (some u) ∧ RelV (.int 2) u
  v_COUNTS_shell_undo : ∃ u, PySem.W.nsIn K (He.ga K "COUNTS_shell") "undo" = some (some u) ∧ RelV (.int 1) u
  v_COUNTS_shell_names : ∃ u, PySem.W.nsIn K (He.ga K "COUNTS_shell") "names" = some (some u) ∧ RelV (.int 1) u
  s_Translator : C8.InsC K (He.ga K "Translator")
  s_Session : C8.InsC K (He.ga K "Session")
  e_LimitExceeded : ExC K (He.ga K "LimitExceeded") vTail "ValueError.__new__"
  q_LimitExceeded : XfC K (He.ga K "LimitExceeded")
  y_LimitExceeded : PySem.W.typeIn K (.ref (He.ma K (He.ga K "LimitExceeded") "__init__")) = some (.type "function")
  e_InvalidName : ExC K (He.ga K "InvalidName") vTail "ValueError.__new__"
  q_InvalidName : XfC K (He.ga K "InvalidName")
  y_InvalidName : PySem.W.typeIn K (.ref (He.ma K (He.ga K "InvalidName") "__init__")) = some (.type "function")
  e_DuplicateName : ExC K (He.ga K "DuplicateName") vTail "ValueError.__new__"
  q_DuplicateName : XfC K (He.ga K "DuplicateName")
  y_DuplicateName : PySem.W.typeIn K (.ref (He.ma K (He.ga K "DuplicateName") "__init__")) = some (.type "function")
  e_NothingLeft : ExC K (He.ga K "NothingLeft") vTail "ValueError.__new__"
  q_NothingLeft : XfC K (He.ga K "NothingLeft")
  y_NothingLeft : PySem.W.typeIn K (.ref (He.ma K (He.ga K "NothingLeft") "__init__")) = some (.type "function")
  e_UnknownName : ExC K (He.ga K "UnknownName") lTail "LookupError.__new__"
  q_UnknownName : XfC K (He.ga K "UnknownName")
  y_UnknownName : PySem.W.typeIn K (.ref (He.ma K (He.ga K "UnknownName") "__init__")) = some (.type "function")
end K70
/-! the head: where the facts stand, the run of the text's top -/
namespace K70
open PySem PySem.Spec PyProof.Rows L2
def fn : List He.DefD := [d_InvalidName_init, d_DuplicateName_init, d_LimitExceeded_init, d_NothingLeft_init, d_UnknownName_init, d_is_alphabet, d_need_alphabet, d_is_state, d_Machine_init, d_Machine_letters, d_Machine_states, d_Machine_start, d_is_answer, d_Translator_init, d_Translator_eq, d_Translator_start, d_Translator_step, d_transition_in, d_parse_machine, d_is_name, d_Ladder_init, d_Ladder_len, d_Ladder_names, d_Ladder_machine, d_Ladder_do_add, d_Ladder_do_replace, d_Ladder_do_remove, d_Ladder_batch, d_Ladder_add, d_Ladder_replace, d_Ladder_remove, d_Ladder_undo, d_behaviours, d_minimized, d_Session_init, d_Session_eq, d_Session_write, d_Session_written, d_Shell_init, d_Shell_len, d_Shell_log, d_Shell_command, d_Shell_query, d_Shell_answer, d_Shell_run, d_l_bag, d_l_pull, d_l_of, d_l_names, d_l_raw, d_l_read, d_l_made, d_l_pool, d_l_told, d_l_translator, d_l_command, d_l_is_name, d_l_result, d_l_same, d_l_try, d_l_run, d_l_matches, d_law]
def fa : List He.Fa := [.glo "is_alphabet",
  .glo "need_alphabet",
  .glo "is_state",
  .glo "is_answer",
  .glo "transition_in",
  .glo "parse_machine",
  .glo "is_name",
  .glo "behaviours",
  .glo "minimized",
  .glo "_law_bag",
  .glo "_law_pull",
  .glo "_law_of",
  .glo "_law_names",
  .glo "_law_raw",
  .glo "_law_read",
  .glo "_law_made",
  .glo "_law_pool",
  .glo "_law_told",
  .glo "_law_translator",
  .glo "_law_command",
  .glo "_law_is_name",
  .glo "_law_result",
  .glo "_law_same",
  .glo "_law_try",
  .glo "_law_run",
  .glo "_law_matches",
  .glo "law",
  .glo "Machine",
  .glo "Translator",
  .glo "Ladder",
  .glo "Session",
  .glo "Shell",
  .glo "InvalidMachine",
  .glo "InvalidTranslator",
  .glo "InvalidOpponent",
  .glo "InvalidLetters",
  .glo "OutOfRange",
  .glo "InvalidFile",
  .glo "InvalidCommand",
  .glo "UnknownLetter",
  .glo "EchoError",
  .glo "NotFound",
  .glo "LimitExceeded",
  .glo "InvalidName",
  .glo "DuplicateName",
  .glo "NothingLeft",
  .glo "UnknownName",
  .glo "COUNTS_ladder",
  .glo "COUNTS_shell",
  .free "len",
  .free "list",
  .free "tuple",
  .free "all",
  .free "range",
  .free "enumerate",
  .free "sorted",
  .free "dict",
  .free "isinstance",
  .free "int",
  .free "bool",
  .free "str",
  .int "MAX_LETTERS" 3,
  .int "MAX_STATES" 5,
  .int "MAX_PRIORITY" 3,
  .int "MAX_NAME" 8,
  .int "MAX_NAMES" 6,
  .str "LOWERCASE" "abcdefghijklmnopqrstuvwxyz",
  .str "DIGITS" "0123456789",
  .str "UNKNOWN" "unknown",
  .cls "Machine",
  .mkr "Machine",
  .noat "Machine" "alphabet",
  .noat "Machine" "table",
  .noat "Machine" "first",
  .cls "Translator",
  .mkr "Translator",
  .noat "Translator" "inputs",
  .noat "Translator" "outputs",
  .noat "Translator" "table",
  .noat "Translator" "first",
  .cls "Ladder",
  .mkr "Ladder",
  .noat "Ladder" "contents",
  .noat "Ladder" "past",
  .noat "Ladder" "future",
  .noat "Ladder" "known",
  .cls "Session",
  .mkr "Session",
  .noat "Session" "engine",
  .noat "Session" "done",
  .noat "Session" "later",
  .cls "Shell",
  .mkr "Shell",
  .noat "Shell" "place",
  .noat "Shell" "entries",
  .meth "Machine" "__init__",
  .meth "Machine" "letters",
  .meth "Machine" "states",
  .meth "Machine" "start",
  .meth "Translator" "__init__",
  .meth "Translator" "__eq__",
  .meth "Translator" "start",
  .meth "Translator" "step",
  .meth "Ladder" "__init__",
  .meth "Ladder" "__len__",
  .meth "Ladder" "names",
  .meth "Ladder" "machine",
  .meth "Ladder" "do_add",
  .meth "Ladder" "do_replace",
  .meth "Ladder" "do_remove",
  .meth "Ladder" "batch",
  .meth "Ladder" "add",
  .meth "Ladder" "replace",
  .meth "Ladder" "remove",
  .meth "Ladder" "undo",
  .meth "Session" "__init__",
  .meth "Session" "__eq__",
  .meth "Session" "write",
  .meth "Session" "written",
  .meth "Shell" "__init__",
  .meth "Shell" "__len__",
  .meth "Shell" "log",
  .meth "Shell" "command",
  .meth "Shell" "query",
  .meth "Shell" "answer",
  .meth "Shell" "run",
  .meth "LimitExceeded" "__init__",
  .noat "LimitExceeded" "limit",
  .noat "LimitExceeded" "word",
  .exm "LimitExceeded" "InvalidMachine" false,
  .exm "LimitExceeded" "InvalidTranslator" false,
  .exm "LimitExceeded" "InvalidOpponent" false,
  .exm "LimitExceeded" "InvalidLetters" false,
  .exm "LimitExceeded" "LimitExceeded" true,
  .exm "LimitExceeded" "OutOfRange" false,
  .exm "LimitExceeded" "InvalidFile" false,
  .exm "LimitExceeded" "InvalidName" false,
  .exm "LimitExceeded" "DuplicateName" false,
  .exm "LimitExceeded" "UnknownName" false,
  .exm "LimitExceeded" "InvalidCommand" false,
  .exm "LimitExceeded" "UnknownLetter" false,
  .exm "LimitExceeded" "EchoError" true,
  .exm "LimitExceeded" "NotFound" false,
  .meth "InvalidName" "__init__",
  .noat "InvalidName" "name",
  .noat "InvalidName" "word",
  .exm "InvalidName" "InvalidMachine" false,
  .exm "InvalidName" "InvalidTranslator" false,
  .exm "InvalidName" "InvalidOpponent" false,
  .exm "InvalidName" "InvalidLetters" false,
  .exm "InvalidName" "LimitExceeded" false,
  .exm "InvalidName" "OutOfRange" false,
  .exm "InvalidName" "InvalidFile" false,
  .exm "InvalidName" "InvalidName" true,
  .exm "InvalidName" "DuplicateName" false,
  .exm "InvalidName" "UnknownName" false,
  .exm "InvalidName" "InvalidCommand" false,
  .exm "InvalidName" "UnknownLetter" false,
  .exm "InvalidName" "EchoError" true,
  .exm "InvalidName" "NotFound" false,
  .meth "DuplicateName" "__init__",
  .noat "DuplicateName" "name",
  .noat "DuplicateName" "word",
  .exm "DuplicateName" "InvalidMachine" false,
  .exm "DuplicateName" "InvalidTranslator" false,
  .exm "DuplicateName" "InvalidOpponent" false,
  .exm "DuplicateName" "InvalidLetters" false,
  .exm "DuplicateName" "LimitExceeded" false,
  .exm "DuplicateName" "OutOfRange" false,
  .exm "DuplicateName" "InvalidFile" false,
  .exm "DuplicateName" "InvalidName" false,
  .exm "DuplicateName" "DuplicateName" true,
  .exm "DuplicateName" "UnknownName" false,
  .exm "DuplicateName" "InvalidCommand" false,
  .exm "DuplicateName" "UnknownLetter" false,
  .exm "DuplicateName" "EchoError" true,
  .exm "DuplicateName" "NotFound" false,
  .meth "NothingLeft" "__init__",
  .noat "NothingLeft" "word",
  .exm "NothingLeft" "InvalidMachine" false,
  .exm "NothingLeft" "InvalidTranslator" false,
  .exm "NothingLeft" "InvalidOpponent" false,
  .exm "NothingLeft" "InvalidLetters" false,
  .exm "NothingLeft" "LimitExceeded" false,
  .exm "NothingLeft" "OutOfRange" false,
  .exm "NothingLeft" "InvalidFile" false,
  .exm "NothingLeft" "InvalidName" false,
  .exm "NothingLeft" "DuplicateName" false,
  .exm "NothingLeft" "UnknownName" false,
  .exm "NothingLeft" "InvalidCommand" false,
  .exm "NothingLeft" "UnknownLetter" false,
  .exm "NothingLeft" "EchoError" true,
  .exm "NothingLeft" "NotFound" false,
  .meth "UnknownName" "__init__",
  .noat "UnknownName" "name",
  .noat "UnknownName" "word",
  .exm "UnknownName" "InvalidMachine" false,
  .exm "UnknownName" "InvalidTranslator" false,
  .exm "UnknownName" "InvalidOpponent" false,
  .exm "UnknownName" "InvalidLetters" false,
  .exm "UnknownName" "LimitExceeded" false,
  .exm "UnknownName" "OutOfRange" false,
  .exm "UnknownName" "InvalidFile" false,
  .exm "UnknownName" "InvalidName" false,
  .exm "UnknownName" "DuplicateName" false,
  .exm "UnknownName" "UnknownName" true,
  .exm "UnknownName" "InvalidCommand" false,
  .exm "UnknownName" "UnknownLetter" false,
  .exm "UnknownName" "EchoError" false,
  .exm "UnknownName" "NotFound" true]
def nLad : PySem.W.Frag → Addr := fun K => He.ga K "COUNTS_ladder"
def nShl : PySem.W.Frag → Addr := fun K => He.ga K "COUNTS_shell"
def ts : List He.Tab := [(nLad, ["add", "replace", "remove"]), (nShl, ["add", "replace", "remove", "undo", "redo", "names", "steps", "show", "relation", "accepts", "fewest"])]
def tf : List He.Defn := [("law", none)]
/-- an exception of its own -/
def exB (K : PySem.W.Frag) (x : Str) (bm : List Value) (nw : String) : Bool := PySem.W.excInitIn K (He.ga K x) bm nw && (PySem.W.excOver K (He.ga K x) bm && (PySem.W.hasDictIn K (He.ga K x) && (He.eqO (PySem.W.findIn K (.ref (He.ga K x)) "__setattr__") (some (some (.builtin "object.__setattr__"))) &&
  (decide (PySem.W.subIn K (.ref (He.ga K x)) (.type "BaseException") = some true) && (decide (PySem.W.typeIn K (.ref (He.ga K x)) = some (.type "type")) && (PySem.W.keepIn K (.ref (He.ga K x)) && (xfB K (He.ga K x) && decide (PySem.W.typeIn K (.ref (He.ma K (He.ga K x) "__init__")) = some (.type "function")))))))))
/-- instances of a class -/
def inB (K : PySem.W.Frag) (x : Str) : Bool := He.eqO (PySem.W.findIn K (.ref (He.ga K x)) "__class__") (some (some (.builtin "object.__class__"))) && (He.eqO (PySem.W.specialIn K (.builtin "object.__class__") "__get__") (some (some (.builtin "getset_descriptor.__get__"))) &&
  (decide (PySem.W.takesIn K (.builtin "object.__class__") = some true) && (decide (PySem.W.mroIn K (He.ga K x) (.type "object") = some true) && decide (PySem.W.kitOne K (.ref (He.ga K x)) (.ref (He.ga K x)) = some true))))
def vLad : List (Str × He.Dv) := [("add", .int 3), ("replace", .int 3), ("remove", .int 2)]
def vShl : List (Str × He.Dv) := [("add", .int 3), ("remove", .int 2), ("undo", .int 1), ("names", .int 1)]
def ex : PySem.W.Frag → Bool := fun K => exB K "LimitExceeded" vTail "ValueError.__new__" && (exB K "InvalidName" vTail "ValueError.__new__" && (exB K "DuplicateName" vTail "ValueError.__new__" && (exB K "NothingLeft" vTail "ValueError.__new__" && (exB K "UnknownName" lTail "LookupError.__new__" && (inB K "Translator" && (inB K "Session" && (He.valsB K (nLad K) vLad && (He.valsB K (nShl K) vShl))))))))
def ad0 : List Addr := [3, 114, 127, 147, 166, 204, 223, 242, 261, 299, 318, 337, 356, 375, 394, 413, 420, 427, 437, 514, 551, 654, 827, 832]
def ad1 : List Addr := [833, 843, 996, 1017, 1022, 1100, 1163, 1235, 1246, 1253, 1260, 1265, 1270, 1277, 1284, 1291, 1298, 1305, 1312, 1317, 1324, 1329, 1336, 1343]
def ad2 : List Addr := [1348, 1353, 113, 126, 241, 317, 336, 374, 393, 419, 426, 436, 513, 550, 653, 826, 831, 842, 995, 1016, 1021, 1099, 1234, 1245]
def ad3 : List Addr := [1252, 1259, 1264, 1269, 1276, 1283, 1290, 1297, 1304, 1311, 1316, 1323, 1328, 1335, 1342, 1347, 1352, 239, 315, 334, 372, 391, 450, 478]
def ad4 : List Addr := [485, 492, 569, 576, 618, 625, 857, 871, 878, 885, 892, 899, 906, 913, 920, 927, 934, 941, 1036, 1043, 1057, 1076, 1183, 1190]
def ad5 : List Addr := [1204, 1211, 1218, 1225, 1232, 238, 314, 333, 371, 390, 449, 445, 477, 484, 491, 568, 564, 575, 617, 624, 856, 870, 877, 884]
def ad6 : List Addr := [891, 898, 905, 912, 919, 926, 933, 940, 1035, 1042, 1056, 1075, 1182, 1176, 1189, 1203, 1210, 1217, 1224, 1231]
def ads : List Addr := ad0 ++ ad1 ++ ad2 ++ ad3 ++ ad4 ++ ad5 ++ ad6

section
variable (as : List Addr) (fa : List He.Fa) (fn : List He.DefD) (ts : List He.Tab) (tf : List He.Defn) (ex : PySem.W.Frag → Bool)
/-- what is looked at, at the addresses as -/
def obsL (g : Addr → Option Obj) : He.AlX :=
  let K := He.frT g as
  (He.obsT fa fn ts K, ex K && He.tabsB g tf K)
theorem saysL {w : World} {h : Heap} (e : obsL as fa fn ts tf ex h.get? = He.valX fn ts w) : He.SaysX fa fn ts tf ex w h (He.frT h.get? as) := by
  have l := congrArg Prod.fst e
  have r := Bool.and_eq_true_iff.mp (congrArg Prod.snd e)
  have t := List.all_eq_true.mp r.2
  have z : ∀ p ∈ tf, PySem.W.codeHdIn (He.frT h.get? as) (He.cT (He.frT h.get? as) p).1 (He.cT (He.frT h.get? as) p).2 = true ∧ ∃ o, h.get? (He.cT (He.frT h.get? as) p).2 = some o ∧ He.emptyTab o = true := by
    intro p hp
    have q := Bool.and_eq_true_iff.mp (t p hp)
    refine ⟨q.1, ?_⟩
    have q2 := q.2
    split at q2
    · next o ho => exact ⟨o, ho, q2⟩
    · cases q2
  refine ⟨l, r.1, fun p hp => (z p hp).1, fun p hp => ?_, fun p hp => ?_⟩
  · have ⟨o, ho, he⟩ := (z p hp).2
    exact He.frT_none ho he
  · have ⟨o, ho, he⟩ := (z p hp).2
    exact ho.trans (congrArg some (He.emptyTab_eq he))
def hookL : PySem.W.Hook where
  α := He.AlX
  obs s := obsL as fa fn ts tf ex s.heap.get?
  val w := He.valX fn ts w
  says w h := ∃ K : PySem.W.Frag, K.In h ∧ He.SaysX fa fn ts tf ex w h K
  of _ _ e := ⟨_, He.frT_in, saysL as fa fn ts tf ex e⟩
  keeps _ _ _ y k := by
    obtain ⟨K, i, c⟩ := y
    refine ⟨K, PySem.W.Frag.In.keeps i k, ?_⟩
    exact { t := c.t, more := c.more, hd := c.hd, out := c.out, empty := fun p hp => k _ _ (c.empty p hp) }
end
theorem obsL_eq {as : List Addr} {fa : List He.Fa} {fn : List He.DefD} {ts : List He.Tab} {tf : List He.Defn} {ex : PySem.W.Frag → Bool} {g : Addr → Option Obj} {s : Shared} (h : ∀ a, g a = s.heap.get? a) : obsL as fa fn ts tf ex g = (hookL as fa fn ts tf ex).obs s :=
  congrArg (obsL as fa fn ts tf ex) (funext h)
def loose0 : List PySem.Str := ["_wall", "NONE", "answerer_wins", "children", "leftmost", "contains", "advance", "parity_of", "merge", "Game", "EchoError", "NotFound", "InvalidLetters", "InvalidMachine", "InvalidRow", "InvalidTranslator", "InvalidOpponent", "LimitExceeded", "OutOfRange", "ParseError", "InvalidFile", "InvalidName", "DuplicateName", "InvalidCommand"]
def loose1 : List PySem.Str := ["NothingLeft", "UnknownName", "UnknownLetter", "LOWERCASE", "MAX_LETTERS", "MAX_STATES", "MAX_PRIORITY", "is_alphabet", "need_alphabet", "need_row", "is_state", "Machine", "shortest_cycle", "shortened", "normal_row", "parse_row", "WAIT", "is_answer", "is_challenge", "Translator", "Opponent", "WRITER", "ANSWERER", "greatest_priority"]
def loose2 : List PySem.Str := ["moves_from", "arena", "choice_word", "extract_translator", "extract_opponent", "compare", "translates", "DIGITS", "machine_text", "transition_in", "parse_machine", "MAX_NAME", "MAX_NAMES", "COUNTS_ladder", "RELATIONS", "is_name", "Ladder", "finish_order", "strong_parts", "behaviours", "minimized", "Session", "machine_edges", "greatest_in"]
def loose3 : List PySem.Str := ["parts_of", "below", "raised_length", "longest_in", "longest", "chain_length", "fewest_priorities", "UNKNOWN", "COUNTS_shell", "steps_text", "Shell", "_law_bag", "_law_pull", "_law_of", "_law_names", "_law_raw", "_law_read", "_law_made", "_law_pool", "_law_told", "_law_translator", "_law_command", "_law_is_name", "_law_result"]
def loose4 : List PySem.Str := ["_law_same", "_law_try", "_law_run", "_law_matches"]
def loose : List PySem.Str := loose0 ++ loose1 ++ loose2 ++ loose3 ++ loose4
abbrev R : PySem.W.OpenRow := PySem.W.OpenLaw.row PySem.Challenge.rw_echoladder_k70_whole_independent_objects
abbrev hk : PySem.W.Hook := hookL ads fa fn ts tf ex
def ob (s : PySem.W.SharedT) : He.AlX := obsL ads fa fn ts tf ex (HandSHeadRun.getT s)
theorem ob_eq (s : PySem.W.SharedT) : ob s = hk.obs s.abs := obsL_eq (HandSHeadRun.getT_eq s)
theorem map3 {α β γ δ : Type} {o : Option α} {f : α → β} {g : α → γ} {e : α → δ} {a : β} {b : γ} {c : δ} (h : o.map (fun s => (f s, g s)) = some (a, b)) (k : o.map e = some c) : o.map (fun s => (f s, g s, e s)) = some (a, b, c) := by
  cases o with
  | none => cases h
  | some x =>
    cases h
    cases k
    rfl
open HandSHeadRun PySem.W PySem.Calls in
/-- the state behind the top -/
noncomputable def endAtW (w : World) (os : OsState) : Option SharedT := endF (stepQ (denQ tabQ) R.prog w) 11000 R.prog w os
open HandSHeadRun PySem.W PySem.Calls in
def LooksEq (w : World) : Prop := ∀ os : OsState, (endAtW w os).map (fun s => (looksF R.prog (boot_heap w.params) s.abs, seenQ (PySem.W.view R.prog [115]) loose (importedModules R.prog.main.body) (fun s => xlAt (PySem.W.view R.prog [115]) [] s && recOk R.toRowW.records s) s.abs)) = some (true, openGood (PySem.W.view R.prog [115]) loose)
def FactsEq (w : World) : Prop := ∀ os : OsState, (endAtW w os).map ob = some (hk.val w)
set_option maxHeartbeats 0 in
theorem looks0 (w : World) : LooksEq (w.withFollow "special-get-raises" false) := by
  intro os
  kernel_rfl
set_option maxHeartbeats 0 in
theorem looks1 (w : World) : LooksEq (w.withFollow "special-get-raises" true) := by
  intro os
  kernel_rfl
set_option maxHeartbeats 0 in
theorem facts0 (w : World) : FactsEq (w.withFollow "special-get-raises" false) := by
  intro os
  kernel_rfl
set_option maxHeartbeats 0 in
theorem facts1 (w : World) : FactsEq (w.withFollow "special-get-raises" true) := by
  intro os
  kernel_rfl
theorem run (w : World) : HandSHeadRun.RunEq R (PySem.W.view R.prog [115]) hk ob 11000 loose w := by
  have a : LooksEq w := PySem.W.byRow2 "special-get-raises" (P := LooksEq) looks0 looks1 w
  have b : FactsEq w := PySem.W.byRow2 "special-get-raises" (P := FactsEq) facts0 facts1 w
  intro os
  exact map3 (a os) (b os)
end K70
section
open PySem PySem.W PySem.Calls PyProof.Rows
set_option maxHeartbeats 0 in
theorem K70.head_end (k1 : K70.R.wellSaid = true) (call : WalkO (view K70.R.prog [115]) K70.loose (XL (view K70.R.prog [115]) []) K70.hk.says K70.R.toRowW (HandSHeadRun.topDef K70.R.prog 115) [] fun f vs => PySem.call f vs) : K70.R.Holds := by
  refine HandSHeadRun.head_any (r := K70.R) (q := view K70.R.prog [115]) (H := K70.hk) (ob := K70.ob) (M := 11000) (loose := K70.loose) (d := HandSHeadRun.topDef K70.R.prog 115) (kwd := []) K70.ob_eq
    (by kernel_rfl) (fun s => by kernel_rfl) K70.run (by kernel_rfl) (by kernel_rfl) (by kernel_rfl) (by rfl) k1 (by decide +kernel) ⟨rfl, rfl, rfl, rfl, rfl, by decide +kernel⟩ ?hw call
  case hw => w_witness2
set_option maxHeartbeats 0 in
theorem K70.row_of (call : WalkO (view K70.R.prog [115]) K70.loose (XL (view K70.R.prog [115]) []) K70.hk.says K70.R.toRowW (HandSHeadRun.topDef K70.R.prog 115) [] fun f vs => PySem.call f vs) : PySem.Challenge.rw_echoladder_k70_whole_independent_objects.Holds := by
  w_on; o_law
  exact K70.head_end (by assumption) call
end
/-! a try of many statements with a finally: it runs through, or an error goes on behind the suite -/
namespace K70
open PySem PySem.Spec PyProof.Rows L2
/-- b W: the body, W its errors' wish; f: the suite behind the body's end; g: the suite ahead of Wo, an error in flight -/
def tryFin (b : WX → TS) (f g : TS) (Wo : WX) : TS := fun D σ H =>
  b (wFin g Wo) ⟨fun σ1 H1 => f D σ1 H1, fun _ _ => False, fun _ _ => False, fun _ _ => False⟩ σ H
section
variable {X : Cx} {ss fin : List Stmt} {st : Stmt} {pos : Pos} {b : WX → TS} {f g : TS} {Wo : WX}
theorem ps_tryFin (stk : X.stack = X.env :: X.outer) (frm : X.env.frame = some X.env.locals) (noEx : X.ex = []) (tk : Takes X Wo)
    (body : ∀ (W : WX) (pn : List (Addr × Obj)) (xe : Value → Shared → Prop), Takes (X.tr pn xe) W → PassesOwn (model X.prog X.w) X.A X.env xe → PSs (X.tr pn xe) ss (b W))
    (thru : PSs X.nox (st :: fin) f) (fly : ∀ (a : Addr) (pn : List (Addr × Obj)), PSs (X.suite a pn) (st :: fin) g) :
    PS X (.Try ss [] [] (st :: fin) pos) (tryFin b f g Wo) := by
  constructor
  intro pins s σ H D I q
  have ok := I.ok
  apply wpAny_Try_finally
  have B := body (wFin g Wo) (X.pn ++ pins)
    (fun x s1 => wpAny (model X.prog X.w) X.A (noteFrame x X.env)
      (fun _ s2 => FinallyRaised X.prog X.w X.A X.xe X.env (st :: fin) (SP X pins D) x s2)
      (FinallyRaised X.prog X.w X.A X.xe X.env (st :: fin) (SP X pins D)) s1)
    (fun u s1 xx => fin_exc stk frm noEx ok tk fly xx) PassesOwn.looking
  have R := B.run [] s σ H ⟨fun σ1 H1 => f D σ1 H1, fun _ _ => False, fun _ _ => False, fun _ _ => False⟩ (I.toTry _) q
  refine wpAny_mono R ?_ fun x s1 hx => hx
  intro fl s1 z
  cases fl with
  | next =>
    obtain ⟨σ1, H1, J, q1⟩ := z
    apply wpAny_execs_nil
    have T := thru.run pins s1 σ1 H1 D ((J.ofTry ok).wish _) q1
    refine wpAny_mono T ?_ fun _ _ e => e.elim
    intro fl2 s2 q2
    have q3 := SP.unwish q2
    cases fl2 <;> exact q3
  | ret u =>
    obtain ⟨_, _, _, _, _, no⟩ := z
    exact no.elim
  | brk =>
    obtain ⟨_, _, _, no⟩ := z
    exact no.elim
  | cont =>
    obtain ⟨_, _, _, no⟩ := z
    exact no.elim
end
end K70
/-! a caught error's attribute, whatever its class -/
namespace K70
open PySem PySem.Spec PyProof.Rows L2
/-- e.f of the caught error a of the class cls: the class is one of its own, the attribute stands in its dict -/
def tXfA (K : PySem.W.Frag) (a : Addr) (cls : Value) (d : Option Addr) (f : Str) (te : TE) : TE := fun σ H Q => te σ H fun x H1 => x = .ref a ∧
  ∃ (C dd : Addr) (fs : List (Str × V)) (v : V), cls = .ref C ∧ XfC K C ∧ PySem.W.findIn K (.ref C) f = some none ∧ d = some dd ∧ H1 dd = some (.xd fs) ∧ fs.lookup f = some v ∧ Q v H1
theorem pe_xfA {X : Cx} {K : PySem.W.Frag} {a : Addr} {oe : Obj} {cls : Value} {d : Option Addr} {pn : List (Addr × Obj)} {e : Expr} {te : TE} {pos : Pos} {n : Str} (hK : X.K = K)
    (hz : Zc cls d oe) (hf : ∃ vs, oe.data = .fields vs) (he : PE (X.suite a ((a, oe) :: pn)) e te) (hb : attributeBase e n X.env (eval e X.env) = eval e X.env := by rfl) :
    PE (X.suite a ((a, oe) :: pn)) (.Attribute e n pos) (tXfA K a cls d n te) := by
  subst hK
  constructor
  intro pins s σ H Q I h
  apply attr_of hb
  refine thn (he.run pins s σ H _ I h) ?_
  intro w s1 hh
  obtain ⟨x, H1, I1, rx, ex, C, dd, fs, v, rfl, xc, no, rfl, ed, el, q⟩ := hh
  subst ex
  cases rx
  have pa := I1.pin (a, oe) (List.mem_append_left _ List.mem_cons_self)
  obtain ⟨vs, hd⟩ := hf
  obtain ⟨m, ns, rr⟩ : ObjOk X.prog X.w H1 s1.heap dd (.xd fs) := I1.hok dd _ ed
  obtain ⟨od, ho, hl⟩ := lookIn_ns ns
  have rn := rr n
  rw [el] at rn
  obtain ⟨u, hu, ru⟩ := RelO.some_of rn
  have at_ : PySem.W.InstAt s1.heap a oe C (some od) := by
    refine ⟨pa.1, hz.1, ?_, ?_⟩
    · unfold PySem.W.notCls
      rw [hd] <;> rfl
    · rw [hz.2]
      exact ho
  have got := PySem.W.findObj_own xc.hdC no rfl (by rw [hl, hu])
  exact HandSPX.exc_get I1.kIn at_ xc.ga xc.gg xc.exC got (handed_of ru) ⟨v, H1, I1.tok _, ru, q⟩
end K70
/-! readings by steps: one lemma a reading, and the words that use them -/
namespace K70
open PySem PySem.Spec PyProof.Rows L2
/-! ### heaps -/
theorem hp_old {H : Hp} {p a : Addr} {o x : HO} (hp : H p = none) (h : H a = some x) : upd H p o a = some x := by
  rw [upd_ne (ne_of_none h hp)]
  exact h
theorem hp_kind {H : Hp} {p a : Addr} {o x y : HO} (hp : H p = some y) (h : H a = some x) (d : x ≠ y) : upd H p o a = some x := by
  rw [upd_ne (ne_of h hp d)]
  exact h
theorem hp_ne {H : Hp} {p a : Addr} {o x : HO} (n : a ≠ p) (h : H a = some x) : upd H p o a = some x := by
  rw [upd_ne n]
  exact h
theorem hp_same {H H' : Hp} {a : Addr} {x : HO} (s : Same H H') (h : H a = some x) : H' a = some x := s _ _ h
/-- all but what F holds stays -/
def Frm (F : Addr → Prop) (H H' : Hp) : Prop := ∀ b o, H b = some o → ¬ F b → H' b = some o
theorem hp_frm {F : Addr → Prop} {H H' : Hp} {a : Addr} {x : HO} (s : Frm F H H') (n : ¬ F a) (h : H a = some x) : H' a = some x := s _ _ h n
theorem Frm.of {F : Addr → Prop} {H H' : Hp} (s : Same H H') : Frm F H H' := fun b o h _ => s b o h
theorem Frm.trans {F : Addr → Prop} {H H1 H2 : Hp} (a : Frm F H H1) (b : Frm F H1 H2) : Frm F H H2 := fun c o h n => b c o (a c o h n) n
theorem Frm.mono {F G : Addr → Prop} {H H' : Hp} (s : Frm F H H') (h : ∀ a, F a → G a) : Frm G H H' := fun b o q n => s b o q fun z => n (h b z)
theorem Frm.same {H H' : Hp} (s : Frm (fun _ => False) H H') : Same H H' := fun b o h => s b o h fun z => z
theorem Frm.new {F : Addr → Prop} {H H' : Hp} {p : Addr} {o : HO} (s : Frm F H H') (hp : H' p = none) : Frm F H (upd H' p o) := fun b u h n => hp_old hp (s b u h n)
theorem Frm.put {F : Addr → Prop} {H H' : Hp} {p : Addr} {o : HO} (s : Frm F H H') (hp : F p) : Frm F H (upd H' p o) := fun b u h n => hp_ne (fun z => n (z ▸ hp)) (s b u h n)
/-- an object made since then may change -/
theorem Frm.mut {F : Addr → Prop} {H H' : Hp} {p : Addr} {o : HO} (s : Frm F H H') (hp : H p = none) : Frm F H (upd H' p o) := fun b u h n => hp_ne (ne_of_none h hp) (s b u h n)
theorem Same.new {H H' : Hp} {p : Addr} {o : HO} (s : Same H H') (hp : H' p = none) : Same H (upd H' p o) := fun b u h => hp_old hp (s b u h)
theorem Same.mut {H H' : Hp} {p : Addr} {o : HO} (s : Same H H') (hp : H p = none) : Same H (upd H' p o) := fun b u h => hp_ne (ne_of_none h hp) (s b u h)
theorem Same.new1 {H : Hp} {p : Addr} {o : HO} (hp : H p = none) : Same H (upd H p o) := fun b u h => hp_old hp h
theorem free_old {H : Hp} {p a : Addr} {o : HO} (h : upd H p o a = none) : H a = none := by
  unfold upd at h
  split at h
  · cases h
  · exact h
theorem free_same {H H' : Hp} {a : Addr} (s : Same H H') (h : H' a = none) : H a = none := s.free h
theorem free_frm {F : Addr → Prop} {H H' : Hp} {a : Addr} (s : Frm F H H') (n : ¬ F a) (h : H' a = none) : H a = none := by
  cases q : H a with
  | none => rfl
  | some o =>
    rw [s a o q n] at h
    cases h
theorem sqL_same {K : PySem.W.Frag} {H H' : Hp} {a : Addr} {xs : List V} (s : Same H H') (h : SqL K H a xs) : SqL K H' a xs := s.seq h
theorem sqT_same {K : PySem.W.Frag} {H H' : Hp} {a : Addr} {xs : List V} (e : Same H H') (h : SqT K H a xs) : SqT K H' a xs := by
  rcases h with (h | ⟨o, h⟩) | h
  · exact .inl (.inl (e _ _ h))
  · exact .inl (.inr ⟨o, e _ _ h⟩)
  · exact .inr h
mutual
theorem dp_same {K : PySem.W.Frag} {H H' : Hp} (e : Same H H') : ∀ {d : PyData} {v : V}, Dp K H v d → Dp K H' v d
  | .none, _, h => by
    cases h
    exact .non
  | .bool b, _, h => by
    cases h
    exact .bl b
  | .int i, _, h => by
    cases h
    exact .int i
  | .str x, _, h => by
    cases h
    exact .str x
  | .list ds, _, h => by
    cases h with
    | lst s a => exact .lst (sqL_same e s) (dps_same e a)
  | .tuple ds, _, h => by
    cases h with
    | tup s a => exact .tup (sqT_same e s) (dps_same e a)
  | .dict _, _, h => by cases h
theorem dps_same {K : PySem.W.Frag} {H H' : Hp} (e : Same H H') : ∀ {ds : List PyData} {vs : List V}, DpAll K H vs ds → DpAll K H' vs ds
  | [], _, h => by
    cases h
    exact .nil
  | d :: ds, _, h => by
    cases h with
    | cons a b => exact .cons (dp_same e a) (dps_same e b)
end
/-! ### one lemma a reading -/
section
variable {K : PySem.W.Frag} {σ : L2.St} {H : Hp} {D : Ends} {Q : VK} {QB : Bool → Hp → Prop} {QA : List V → Hp → Prop} {te ta tb tc tv : TE} {t u : TS} {g : TG} {gs : TGs} {tt tt2 : TT} {tA : TA} {i : Nat} {v x y z : V} {a p : Addr} {C dx : Addr} {fs : List (Str × V)} {f : Str} {r : R2} {QS : L2.St → Hp → Prop}
theorem r_seq (k : t { D with nx := u D } σ H) : tSeq t u D σ H := k
theorem r_next (k : D.nx σ H) : tNext D σ H := k
theorem r_asg (k : te σ H fun x H1 => g x σ H1 D.nx) : tAsg te g D σ H := k
theorem r_asg2 {g1 g2 : TG} (k : te σ H fun x H1 => g1 x σ H1 fun σ1 H2 => g2 x σ1 H2 D.nx) : tAsg2 te g1 g2 D σ H := k
theorem r_drop (k : te σ H fun _ H1 => D.nx σ H1) : tDrop te D σ H := k
theorem r_ret (k : te σ H D.rt) : tRet te D σ H := k
theorem r_retN (k : D.rt .non H) : tRetN D σ H := k
theorem r_ifS (k : tt σ H fun b H1 => if b = true then t D σ H1 else u D σ H1) : tIfS tt t u D σ H := k
theorem r_par {i j : Nat} {v w : V} (k : tA σ H fun vs H1 => ∃ v w, vs = [v, w] ∧ D.nx ((σ.set i (some v)).set j (some w)) H1) : tPar i j tA D σ H := k
theorem r_par3 {i j l : Nat} (k : tA σ H fun vs H1 => ∃ u v w, vs = [u, v, w] ∧ D.nx (((σ.set i (some u)).set j (some v)).set l (some w)) H1) : tPar3 i j l tA D σ H := k
theorem r_var (h : σ[i]? = some (some v)) (k : Q v H) : tVar i σ H Q := ⟨v, h, k⟩
theorem r_c (k : Q v H) : tC v σ H Q := k
theorem r_op (k : ta σ H fun x H1 => tb σ H1 fun y H2 => r x y H2 Q) : tOp r ta tb σ H Q := k
theorem r_I0 {g : Int → Int → V} {i j : Int} (k : Q (g i j) H) : rI0 g (.int i) (.int j) H Q := ⟨i, j, rfl, rfl, k⟩
theorem r_I {c : Int → Int → Prop} {g : Int → Int → V} {i j : Int} (h : c i j) (k : Q (g i j) H) : rI c g (.int i) (.int j) H Q := ⟨i, j, rfl, rfl, h, k⟩
theorem r_eq (h : scal x y = true) (k : Q (.bl (decide (x = y))) H) : rEq x y H Q := ⟨h, k⟩
theorem r_ne (h : scal x y = true) (k : Q (.bl (!decide (x = y))) H) : rNe x y H Q := ⟨h, k⟩
theorem r_ixL {xs : List V} {i : Int} (h : SqL K H p xs) (e : atI xs i = some v) (k : Q v H) : rIxL K (.ref p) (.int i) H Q := ⟨p, xs, i, v, rfl, rfl, h, e, k⟩
theorem r_ixT {xs : List V} {i : Int} (h : SqT K H p xs) (e : atI xs i = some v) (k : Q v H) : rIxT K (.ref p) (.int i) H Q := ⟨p, xs, i, v, rfl, rfl, h, e, k⟩
theorem r_test (k : te σ H fun x H' => ∃ b, x = .bl b ∧ QB b H') : tTest te σ H QB := k
theorem r_B (k : te σ H fun x H' => ∃ b, x = .bl b ∧ QB b H') : tB te σ H QB := k
theorem r_bl {b : Bool} (k : QB b H) : ∃ c, V.bl b = .bl c ∧ QB c H := ⟨b, rfl, k⟩
theorem r_not (k : tt σ H fun c H1 => QB (!c) H1) : tNot tt σ H QB := k
theorem r_and (k : tt σ H fun c H1 => if c = true then tt2 σ H1 QB else QB false H1) : tAnd tt tt2 σ H QB := k
theorem r_or (k : tt σ H fun c H1 => if c = true then QB true H1 else tt2 σ H1 QB) : tOr tt tt2 σ H QB := k
theorem r_andV (k : ta σ H fun x H1 => ∃ c, x = .bl c ∧ if c = true then tb σ H1 Q else Q (.bl false) H1) : tAndV ta tb σ H Q := k
theorem r_ifE (k : tt σ H fun c H1 => if c = true then ta σ H1 Q else tb σ H1 Q) : tIf tt ta tb σ H Q := k
theorem r_fld {v : V} (h : H a = some (.ins C dx fs)) (c : Cls K C) (n : NoAttr K C f) (l : fs.lookup f = some v) (k : Q v H) : (fun x H1 => ∃ a C dx fs v, x = V.ref a ∧ H1 a = some (.ins C dx fs) ∧ Cls K C ∧ NoAttr K C f ∧ fs.lookup f = some v ∧ Q v H1) (.ref a) H := ⟨a, C, dx, fs, v, rfl, h, c, n, l, k⟩
theorem r_fldT (k : ta σ H fun x H1 => ∃ a C dx fs v, x = .ref a ∧ H1 a = some (.ins C dx fs) ∧ Cls K C ∧ NoAttr K C f ∧ fs.lookup f = some v ∧ Q v H1) : tFld K ta f σ H Q := k
theorem r_sFld (k : tv σ H fun y H1 => ta σ H1 fun x H2 => ∃ a C dx fs, x = .ref a ∧ H2 a = some (.ins C dx fs) ∧ Cls K C ∧ NoAttr K C f ∧ fs.length < 1000 ∧ D.nx σ (upd H2 a (.ins C dx (putF f y fs)))) : sFld K ta tv f D σ H := k
theorem r_cb {rr : List V → Hp → VK → Prop} (k : tA σ H fun vs H1 => rr vs H1 Q) : tCB rr tA σ H Q := k
theorem r_cons (k : te σ H fun x H1 => tA σ H1 fun xs H2 => QA (x :: xs) H2) : tCons te tA σ H QA := k
theorem r_nil (k : QA [] H) : tNil σ H QA := k
theorem r_tup (k : tA σ H fun xs H1 => xs.length ≤ sizeLine ∧ ∀ p, H1 p = none → Q (.ref p) (upd H1 p (.tup xs))) : tTup tA σ H Q := k
theorem r_lst (k : tA σ H fun xs H1 => xs.length ≤ sizeLine ∧ ∀ p, H1 p = none → Q (.ref p) (upd H1 p (.lst xs))) : tLst tA σ H Q := k
theorem r_call {sp : Sp} {dvs : List V} {E : XK} (k : tA σ H fun vs H1 => sp (vs ++ dvs) H1 Q E) : tCall sp dvs E tA σ H Q := k
theorem r_meth {m : Str} {sp : Sp} {dvs : List V} {E : XK} (k : ta σ H fun x H1 => ∃ a dx fs, x = .ref a ∧ H1 a = some (.ins C dx fs) ∧ fs.lookup m = none ∧ tA σ H1 fun vs H2 => sp ((x :: vs) ++ dvs) H2 Q E) : tMeth C m sp dvs E ta tA σ H Q := k
theorem r_name (k : QS (σ.set i (some v)) H) : gName i v σ H QS := k
theorem r_gtup {n : Nat} {xs : List V} (h : SqT K H p xs) (e : xs.length = n) (k : gs xs σ H QS) : gTup K n gs (.ref p) σ H QS := ⟨p, xs, rfl, h, e, k⟩
theorem r_gcons {xs : List V} {g : TG} (k : g v σ H fun σ' H' => gs xs σ' H' QS) : gCons g gs (v :: xs) σ H QS := ⟨v, xs, rfl, k⟩
theorem r_gnil (k : QS σ H) : gNil [] σ H QS := ⟨rfl, k⟩
theorem r_bm {T : String} {rr : V → List V → Hp → VK → Prop} (k : te σ H fun x H1 => tyV K T x H1 ∧ tA σ H1 fun xs H2 => rr x xs H2 Q) : tBM K T rr te tA σ H Q := k
theorem r_bm0 {T : String} {rr : V → List V → Hp → VK → Prop} (k : te σ H fun x H1 => tyV K T x H1 ∧ rr x [] H1 Q) : tBM0 K T rr te σ H Q := k
theorem ty_lst {xs : List V} (h : H p = some (.lst xs)) : tyV K "list" (.ref p) H := Or.inl ⟨rfl, _, SqL.of h⟩
end
/-! ### comprehensions whose elements only make objects -/
/-- all but D as it was -/
def Off (D : Addr) (H H' : Hp) : Prop := ∀ b o, b ≠ D → H b = some o → H' b = some o
theorem Off.of {D : Addr} {H H' : Hp} (s : Same H H') : Off D H H' := fun b o _ h => s b o h
section
variable {J : It} {n : Nat} {G : Hp → Prop} {Y : Nat → Hp → V → Hp → Prop} {g : TG} {tt : TT} {te : TE} {vs : List Nat} {σ : L2.St} {H : Hp} {Q : VK}
theorem lc_new (W : Walk J n G Y) (R : Nat → V → Hp → Prop) (hn : n < sizeLine) (hG : ∀ H', Same H H' → G H')
    (turn : ∀ (i : Nat) (x : V) (D : Addr) (acc : List V) (H1 H2 : Hp) (N : VK) (NF : Hp → Prop), i < n → H D = none → H1 D = some (.lst acc) → Same H H1 → Y i H1 x H2 → (∀ y H5, Same H1 H5 → (∀ Hx, Off D H5 Hx → R i y Hx) → N y H5) →
      g x (wipe σ vs) H2 fun σ2 H3 => wipe σ2 vs = wipe σ vs ∧ tt σ2 H3 fun b H4 => if b = true then te σ2 H4 N else NF H4)
    (k : ∀ (D : Addr) (ys : List V) (H' : Hp), H D = none → Same H H' → H' D = some (.lst ys) → ys.length = n → (∀ (i : Nat) y, ys[i]? = some y → R i y H') → Q (.ref D) H') :
    ∀ D, H D = none → ∃ W : Nat → Nat → Hp → Prop, (∃ m, W 0 m (upd H D (.lst []))) ∧ ∀ i m H, W i m H →
      (J.stop i H ∧ Q (.ref D) H) ∨ (J.go i H ∧ ∃ Nx : Hp → Prop, (∀ H', Nx H' → ∃ m', m' < m ∧ W (i + 1) m' H') ∧ ∀ x H', J.yld i H x H' → g x (wipe σ vs) H' fun σ2 H2 => wipe σ2 vs = wipe σ vs ∧ tt σ2 H2 fun b H3 =>
        if b = true then te σ2 H3 fun y H4 => ∃ acc, H4 D = some (.lst acc) ∧ acc.length < sizeLine ∧ Nx (upd H4 D (.lst (acc ++ [y]))) else Nx H3) := by
  intro D hD
  refine lc_it W (Qd := fun H' => Q (.ref D) H') (fun i H' => ∃ ys : List V, Same H H' ∧ H' D = some (.lst ys) ∧ ys.length = i ∧ ∀ (j : Nat) y, ys[j]? = some y → ∀ Hx, Off D H' Hx → R j y Hx) ⟨[], Same.new1 hD, upd_same, rfl, fun j y e => by simp at e⟩
    (fun i H' _ ⟨ys, s, _⟩ => hG H' s) ?_ fun H' ⟨ys, s, e, l, r⟩ => k D ys H' hD s e l fun i y q => r i y q H' (Off.of (Same.refl H'))
  rintro i x H1 H2 hi ⟨ys, s, e, l, r⟩ yy
  refine turn i x D ys H1 H2 _ _ hi hD e s yy fun y H5 s5 ry => ⟨ys, s5 _ _ e, by omega, ys ++ [y], K70.Same.mut (s.trans s5) hD, upd_same, by rw [List.length_append, l]; rfl, fun j z ez Hx off => ?_⟩
  have off5 : Off D H5 Hx := fun b o hb q => off b o hb (hp_ne hb q)
  rcases Nat.lt_or_ge j ys.length with hj | hj
  · rw [List.getElem?_append_left hj] at ez
    exact r j z ez Hx fun b o hb q => off5 b o hb (s5 b o q)
  · rw [List.getElem?_append_right hj] at ez
    have e0 : j - ys.length = 0 := by
      rcases Nat.lt_or_ge (j - ys.length) 1 with q | q
      · omega
      · rw [List.getElem?_eq_none (by simpa using q)] at ez
        cases ez
    rw [e0] at ez
    have ez' : y = z := by simpa using ez
    rw [← ez', show j = i by omega]
    exact ry Hx off5
/-- all of them True -/
theorem lc_true (W : Walk J n G Y) (hn : n < sizeLine) (hG : ∀ H', Same H H' → G H')
    (turn : ∀ (i : Nat) (x : V) (H1 H2 : Hp) (N : VK) (NF : Hp → Prop), i < n → Same H H1 → Y i H1 x H2 → (∀ H5, Same H1 H5 → N (.bl true) H5) → g x (wipe σ vs) H2 fun σ2 H3 => wipe σ2 vs = wipe σ vs ∧ tt σ2 H3 fun b H4 => if b = true then te σ2 H4 N else NF H4)
    (k : ∀ (D : Addr) (H' : Hp), Same H H' → H' D = some (.lst ((List.replicate n true).map V.bl)) → Q (.ref D) H') :
    ∀ D, H D = none → ∃ W : Nat → Nat → Hp → Prop, (∃ m, W 0 m (upd H D (.lst []))) ∧ ∀ i m H, W i m H →
      (J.stop i H ∧ Q (.ref D) H) ∨ (J.go i H ∧ ∃ Nx : Hp → Prop, (∀ H', Nx H' → ∃ m', m' < m ∧ W (i + 1) m' H') ∧ ∀ x H', J.yld i H x H' → g x (wipe σ vs) H' fun σ2 H2 => wipe σ2 vs = wipe σ vs ∧ tt σ2 H2 fun b H3 =>
        if b = true then te σ2 H3 fun y H4 => ∃ acc, H4 D = some (.lst acc) ∧ acc.length < sizeLine ∧ Nx (upd H4 D (.lst (acc ++ [y]))) else Nx H3) := by
  refine lc_new W (fun _ y _ => y = .bl true) hn hG (fun i x D acc H1 H2 N NF hi _ _ s y q => turn i x H1 H2 N NF hi s y fun H5 s5 => q _ H5 s5 fun _ _ => rfl) fun D ys H' _ s e l r => k D H' s ?_
  have ey : ys = (List.replicate n true).map V.bl := by
    apply List.ext_getElem?
    intro j
    rw [List.getElem?_map, List.getElem?_replicate]
    cases q : ys[j]? with
    | none =>
      have z := List.getElem?_eq_none_iff.mp q
      rw [if_neg (by omega)]
      rfl
    | some y =>
      have z := (List.getElem?_eq_some_iff.mp q).1
      rw [if_pos (by omega), r j y q]
      rfl
  rw [← ey]
  exact e
end
theorem all_true (n : Nat) : (List.replicate n true).all id = true := by
  rw [List.all_eq_true]
  intro x h
  exact (List.mem_replicate.mp h).2
/-- all(..) of such a list -/
theorem r_all {K : PySem.W.Frag} {n : Nat} {D : Addr} {H : Hp} {Q : VK} (h : H D = some (.lst ((List.replicate n true).map V.bl))) (k : Q (.bl true) H) : rAll K [.ref D] H Q := ⟨D, List.replicate n true, rfl, SqL.of h, by rw [all_true]; exact k⟩
/-! ### more readings -/
theorem cxK {CX : CXT} {P : Program} {w : World} {K : PySem.W.Frag} {mg : Str → Option Value} {base : Heap} {N : List Str} {q : Str} {sc : Scope} {f : Addr} {cdv : Value} {A : Around} {outer : List Env} {s : Shared} {H : Hp} {E : XK} : (cxOf CX P w K mg base N q sc f cdv A outer s H E).K = K := rfl
theorem szl : sizeLine = 16777216 := rfl
section
variable {K : PySem.W.Frag} {σ : L2.St} {H : Hp} {D : Ends} {Q : VK} {QB : Bool → Hp → Prop} {te ta tb tc : TE} {tA : TA} {wi : TI} {g : TG} {tt : TT} {b : TS} {x v : V} {p : Addr} {r r' : R2} {RI : It → Hp → Prop}
theorem r_varE {i : Nat} (k : ∃ v, σ[i]? = some (some v) ∧ Q v H) : tVar i σ H Q := k
theorem r_eqE {x y : V} (k : scal x y = true ∧ Q (.bl (decide (x = y))) H) : rEq x y H Q := k
theorem r_neE {x y : V} (k : scal x y = true ∧ Q (.bl (!decide (x = y))) H) : rNe x y H Q := k
theorem r_chain (k : ta σ H fun x H1 => tb σ H1 fun y H2 => r x y H2 fun z H3 => ∃ c, z = .bl c ∧ if c = true then tc σ H3 fun u H4 => r' y u H4 Q else Q (.bl false) H3) : tChain r r' ta tb tc σ H Q := k
theorem r_ifT {c : Prop} [Decidable c] {a b : Prop} (h : c) (k : a) : if c then a else b := by
  rw [if_pos h]
  exact k
theorem r_ifF {c : Prop} [Decidable c] {a b : Prop} (h : ¬ c) (k : b) : if c then a else b := by
  rw [if_neg h]
  exact k
theorem r_wipe {σ1 σ2 : L2.St} {vs : List Nat} {p : Prop} (h : wipe σ1 vs = wipe σ2 vs) (k : p) : wipe σ1 vs = wipe σ2 vs ∧ p := ⟨h, k⟩
theorem r_makeK {C : Addr} {n m : Nat} {sp : Sp} {gV : List V → List V → List V} {E : XK} {ta tk : TA} (k : ta σ H fun vs H1 => tk σ H1 fun zs H2 => vs.length = n ∧ zs.length = m ∧ ∀ x dx, H2 x = none → H2 dx = none → dx ≠ x → sp (gV (.ref x :: vs) zs) (upd (upd H2 dx (.own x)) x (.ins C dx [])) (fun v H3 => v = .non ∧ Q (.ref x) H3) E) : tMakeK C n m sp gV E ta tk σ H Q := k
theorem r_make {C : Addr} {sp : Sp} {dvs : List V} {E : XK} {ta : TA} (k : ta σ H fun vs H1 => ∀ x dx, H1 x = none → H1 dx = none → dx ≠ x → sp (.ref x :: (vs ++ dvs)) (upd (upd H1 dx (.own x)) x (.ins C dx [])) (fun v H2 => v = .non ∧ Q (.ref x) H2) E) : tMake C sp dvs E ta σ H Q := k
theorem r_yes (k : QB true H) : tYes σ H QB := k
/-- a comprehension over J, from H on -/
def LcG (J : It) (g : TG) (tt : TT) (te : TE) (vs : List Nat) (σ : L2.St) (H : Hp) (Q : VK) : Prop := ∀ D, H D = none → ∃ W : Nat → Nat → Hp → Prop, (∃ m, W 0 m (upd H D (.lst []))) ∧ ∀ i m H, W i m H →
  (J.stop i H ∧ Q (.ref D) H) ∨ (J.go i H ∧ ∃ Nx : Hp → Prop, (∀ H', Nx H' → ∃ m', m' < m ∧ W (i + 1) m' H') ∧ ∀ x H', J.yld i H x H' → g x (wipe σ vs) H' fun σ2 H2 => wipe σ2 vs = wipe σ vs ∧ tt σ2 H2 fun b H3 =>
    if b = true then te σ2 H3 fun y H4 => ∃ acc, H4 D = some (.lst acc) ∧ acc.length < sizeLine ∧ Nx (upd H4 D (.lst (acc ++ [y]))) else Nx H3)
theorem r_lc {vs : List Nat} (k : wi σ H fun J H1 => LcG J g tt te vs σ H1 Q) : tLc wi g tt te vs σ H Q := k
/-- a for over J, from H on -/
def ForG (J : It) (g : TG) (b : TS) (D : Ends) (σ : L2.St) (H : Hp) : Prop := ∃ W : Nat → Nat → L2.St → Hp → Prop, (∃ m, W 0 m σ H) ∧ ∀ i m σ H, W i m σ H →
  (J.stop i H ∧ D.nx σ H) ∨ (J.go i H ∧ ∃ N : L2.St → Hp → Prop, (∀ σ' H', N σ' H' → ∃ m', m' < m ∧ W (i + 1) m' σ' H') ∧ ∀ x H', J.yld i H x H' → g x σ H' fun σ2 H2 => b { D with nx := N, ct := N, bk := D.nx } σ2 H2)
theorem r_for (k : wi σ H fun J H1 => ForG J g b D σ H1) : tFor wi g b D σ H := k
theorem r_iRng (k : tA σ H fun vs H1 => ∃ j : Int, vs = [.int j] ∧ -(2 ^ 62) ≤ j ∧ j < 2 ^ 62 ∧ RI (Itr 0 j.toNat) H1) : iRng1 tA σ H RI := k
theorem r_rng {j : Int} (h : -(2 ^ 62) ≤ j ∧ j < 2 ^ 62) (k : RI (Itr 0 j.toNat) H) : ∃ i : Int, [V.int j] = [.int i] ∧ -(2 ^ 62) ≤ i ∧ i < 2 ^ 62 ∧ RI (Itr 0 i.toNat) H := ⟨j, rfl, h.1, h.2, k⟩
theorem r_iStr (k : te σ H fun v H1 => ∃ x, v = .str x ∧ RI (Its x) H1) : iStr te σ H RI := k
theorem r_iList (k : te σ H fun x H1 => ∃ a, x = .ref a ∧ (∃ xs, SqL K H1 a xs) ∧ RI (Itl K a) H1) : iList K te σ H RI := k
theorem r_iTup (k : te σ H fun x H1 => ∃ a, x = .ref a ∧ (∃ xs, SqT K H1 a xs) ∧ RI (Itt K a) H1) : iTup K te σ H RI := k
theorem r_iEnum (k : tA σ H fun vs H1 => ∃ a xs, vs = [.ref a] ∧ SqL K H1 a xs ∧ RI (Ite K a) H1) : iEnum K tA σ H RI := k
/-- the signs of a text, index by index -/
theorem r_ixS {z : Str} {i : Int} {c : Nat} (l : z.length ≤ sizeLine) (e : atI z.cps.toList i = some c) (k : Q (.str ⟨#[c]⟩) H) : rIxS (.str z) (.int i) H Q := ⟨z, i, c, rfl, rfl, l, e, k⟩
end
section
variable {J : It} {n : Nat} {G : Hp → Prop} {Y : Nat → Hp → V → Hp → Prop} {g : TG} {tt : TT} {te : TE} {vs : List Nat} {σ : L2.St} {H : Hp} {Q : VK} {b : TS} {D : Ends}
/-- one element's turn -/
def LcT (g : TG) (tt : TT) (te : TE) (vs : List Nat) (σ : L2.St) (x : V) (H : Hp) (N : VK) (NF : Hp → Prop) : Prop := g x (wipe σ vs) H fun σ2 H3 => wipe σ2 vs = wipe σ vs ∧ tt σ2 H3 fun b H4 => if b = true then te σ2 H4 N else NF H4
theorem g_true (W : Walk J n G Y) (hn : n < sizeLine) (hG : ∀ H', Same H H' → G H')
    (turn : ∀ (i : Nat) (x : V) (H1 H2 : Hp) (N : VK) (NF : Hp → Prop), i < n → Same H H1 → Y i H1 x H2 → (∀ H5, Same H1 H5 → N (.bl true) H5) → LcT g tt te vs σ x H2 N NF)
    (k : ∀ (D : Addr) (H' : Hp), Same H H' → H' D = some (.lst ((List.replicate n true).map V.bl)) → Q (.ref D) H') : LcG J g tt te vs σ H Q :=
  lc_true W hn hG turn k
/-- the loop: Pv by the turn, the slots, the heap -/
theorem g_for (W : Walk J n G Y) (Pv : Nat → L2.St → Hp → Prop) (h0 : Pv 0 σ H) (hG : ∀ i σ H, i ≤ n → Pv i σ H → G H)
    (hs : ∀ i x σ H H', i < n → Pv i σ H → Y i H x H' → g x σ H' fun σ2 H2 => b { D with nx := Pv (i + 1), ct := Pv (i + 1), bk := D.nx } σ2 H2) (hd : ∀ σ H, Pv n σ H → D.nx σ H) : ForG J g b D σ H := for_it W Pv h0 hG hs hd
end
section
variable {J : It} {n : Nat} {G : Hp → Prop} {Y : Nat → Hp → V → Hp → Prop} {g : TG} {tt : TT} {te : TE} {vs : List Nat} {σ : L2.St} {H : Hp} {Q : VK}
theorem g_new (W : Walk J n G Y) (R : Nat → V → Hp → Prop) (hn : n < sizeLine) (hG : ∀ H', Same H H' → G H')
    (turn : ∀ (i : Nat) (x : V) (D : Addr) (acc : List V) (H1 H2 : Hp) (N : VK) (NF : Hp → Prop), i < n → H D = none → H1 D = some (.lst acc) → Same H H1 → Y i H1 x H2 → (∀ y H5, Same H1 H5 → (∀ Hx, Off D H5 Hx → R i y Hx) → N y H5) → LcT g tt te vs σ x H2 N NF)
    (k : ∀ (D : Addr) (ys : List V) (H' : Hp), H D = none → Same H H' → H' D = some (.lst ys) → ys.length = n → (∀ (i : Nat) y, ys[i]? = some y → R i y H') → Q (.ref D) H') : LcG J g tt te vs σ H Q := lc_new W R hn hG turn k
/-- the values are known -/
theorem g_list (zs : List V) (hz : zs.length = n) (W : Walk J n G Y) (hn : n < sizeLine) (hG : ∀ H', Same H H' → G H')
    (turn : ∀ (i : Nat) (x y : V) (H1 H2 : Hp) (N : VK) (NF : Hp → Prop), i < n → zs[i]? = some y → Same H H1 → Y i H1 x H2 → (∀ H5, Same H1 H5 → N y H5) → LcT g tt te vs σ x H2 N NF)
    (k : ∀ (D : Addr) (H' : Hp), H D = none → Same H H' → H' D = some (.lst zs) → Q (.ref D) H') : LcG J g tt te vs σ H Q := by
  refine g_new W (fun i y _ => zs[i]? = some y) hn hG (fun i x D acc H1 H2 N NF hi _ _ s y q => turn i x zs[i] H1 H2 N NF hi (List.getElem?_eq_getElem (by omega)) s y fun H5 s5 => q _ H5 s5 fun _ _ => List.getElem?_eq_getElem (by omega)) fun D ys H' hD s e l r => k D H' hD s ?_
  have ey : ys = zs := by
    apply List.ext_getElem?
    intro j
    cases q : ys[j]? with
    | none =>
      have z := List.getElem?_eq_none_iff.mp q
      exact (List.getElem?_eq_none_iff.mpr (by omega)).symm
    | some y => exact (r j y q).symm
  rw [← ey]
  exact e
end
/-- what is no instance stays -/
def Ls (H H' : Hp) : Prop := ∀ b o, H b = some o → (∀ C dx fs, o ≠ HO.ins C dx fs) → H' b = some o
theorem Ls.of {H H' : Hp} (s : Same H H') : Ls H H' := fun b o h _ => s b o h
theorem Ls.trans {H H1 H2 : Hp} (a : Ls H H1) (b : Ls H1 H2) : Ls H H2 := fun c o h n => b c o (a c o h n) n
theorem Ls.put {H : Hp} {a C dx : Addr} {fs : List (Str × V)} {o : HO} (e : H a = some (.ins C dx fs)) : Ls H (upd H a o) := fun b u h n => hp_ne (fun z => by
  rw [z, e] at h
  exact n C dx fs (Option.some.inj h).symm) h
theorem sqL_ls {K : PySem.W.Frag} {H H' : Hp} {a : Addr} {xs : List V} (s : Ls H H') (h : SqL K H a xs) : SqL K H' a xs := by
  rcases h with (h | ⟨o, h⟩) | h
  · exact .inl (.inl (s _ _ h (by intro _ _ _ z; cases z)))
  · exact .inl (.inr ⟨o, s _ _ h (by intro _ _ _ z; cases z)⟩)
  · exact .inr h
theorem sqT_ls {K : PySem.W.Frag} {H H' : Hp} {a : Addr} {xs : List V} (s : Ls H H') (h : SqT K H a xs) : SqT K H' a xs := by
  rcases h with (h | ⟨o, h⟩) | h
  · exact .inl (.inl (s _ _ h (by intro _ _ _ z; cases z)))
  · exact .inl (.inr ⟨o, s _ _ h (by intro _ _ _ z; cases z)⟩)
  · exact .inr h
mutual
theorem dp_ls {K : PySem.W.Frag} {H H' : Hp} (e : Ls H H') : ∀ {d : PyData} {v : V}, Dp K H v d → Dp K H' v d
  | .none, _, h => by
    cases h
    exact .non
  | .bool b, _, h => by
    cases h
    exact .bl b
  | .int i, _, h => by
    cases h
    exact .int i
  | .str x, _, h => by
    cases h
    exact .str x
  | .list ds, _, h => by
    cases h with
    | lst s a => exact .lst (sqL_ls e s) (dps_ls e a)
  | .tuple ds, _, h => by
    cases h with
    | tup s a => exact .tup (sqT_ls e s) (dps_ls e a)
  | .dict _, _, h => by cases h
theorem dps_ls {K : PySem.W.Frag} {H H' : Hp} (e : Ls H H') : ∀ {ds : List PyData} {vs : List V}, DpAll K H vs ds → DpAll K H' vs ds
  | [], _, h => by
    cases h
    exact .nil
  | d :: ds, _, h => by
    cases h with
    | cons a b => exact .cons (dp_ls e a) (dps_ls e b)
end
theorem sqL_up {K : PySem.W.Frag} {H : Hp} {a p : Addr} {o : HO} {xs : List V} (e : H p = none) (h : SqL K H a xs) : SqL K (upd H p o) a xs := sqL_same (K70.Same.new1 e) h
theorem sqT_up {K : PySem.W.Frag} {H : Hp} {a p : Addr} {o : HO} {xs : List V} (e : H p = none) (h : SqT K H a xs) : SqT K (upd H p o) a xs := sqT_same (K70.Same.new1 e) h
theorem mk_free {H : Hp} {x dx : Addr} {o : HO} (hx : H x = none) (hne : dx ≠ x) : upd H dx o x = none := by
  rw [upd_ne (Ne.symm hne)]
  exact hx
/-- a new instance and its dict -/
theorem mk_same {H : Hp} {x dx : Addr} {o u : HO} (hx : H x = none) (hd : H dx = none) (hne : dx ≠ x) : Same H (upd (upd H dx o) x u) := K70.Same.new (K70.Same.new1 hd) (mk_free hx hne)
theorem off_same {H H1 H' : Hp} {x : Addr} (s : Same H H1) (hx : H x = none) (f : Off x H1 H') : Same H H' := fun b o h => f b o (ne_of_none h hx) (s b o h)
section
variable {D : Ends} {σ : L2.St} {H : Hp} {t u : TS} {to ti : TE} {ts : TSet} {v : V} {QS : L2.St → Hp → Prop} {QH : Hp → Prop}
/-- ways that meet again: P where they meet -/
theorem r_join (P : L2.St → Hp → Prop) (h : ∀ σ H, P σ H → u D σ H) (k : ∀ N : L2.St → Hp → Prop, (∀ σ H, P σ H → N σ H) → t { D with nx := N } σ H) : tSeq t u D σ H := k _ h
theorem r_gsub (k : to σ H fun o H1 => ti σ H1 fun i H2 => ts o i v H2 fun H3 => QS σ H3) : gSub to ti ts v σ H QS := k
theorem r_setL {p : Addr} {xs : List V} {i : Int} {j : Nat} (hp : H p = some (.lst xs)) (e : ixN xs.length i = some j) (k : QH (upd H p (.lst (xs.set j v)))) : rSetL (.ref p) (.int i) v H QH := ⟨p, xs, i, j, rfl, rfl, hp, e, k⟩
theorem Off.put {b : Addr} {H H' : Hp} {o : HO} (s : Off b H H') : Off b H (upd H' b o) := fun a u ha h => hp_ne ha (s a u ha h)
theorem Off.put1 {b : Addr} {H : Hp} {o : HO} : Off b H (upd H b o) := fun a u ha h => hp_ne ha h
theorem Off.refl {b : Addr} {H : Hp} : Off b H H := fun a u ha h => h
theorem Off.trans {b : Addr} {H H1 H2 : Hp} (s : Off b H H1) (t : Off b H1 H2) : Off b H H2 := fun a u ha h => t a u ha (s a u ha h)
theorem Off.new {b p : Addr} {H H' : Hp} {o : HO} (s : Off b H H') (hp : H' p = none) : Off b H (upd H' p o) := fun a u ha h => hp_old hp (s a u ha h)
theorem Off.same {b : Addr} {H H1 H2 : Hp} (s : Off b H H1) (t : Same H1 H2) : Off b H H2 := fun a u ha h => t a u (s a u ha h)
end
section
variable {K : PySem.W.Frag} {σ : L2.St} {H : Hp} {Q : VK} {te : TE} {tl th : TO} {QO : Option Int → Hp → Prop}
theorem r_sl {r : V → Option Int → Option Int → Hp → VK → Prop} (k : te σ H fun x H1 => tl σ H1 fun l H2 => th σ H2 fun u H3 => r x l u H3 Q) : tSl r te tl th σ H Q := k
theorem r_noPart (k : QO none H) : tNoPart σ H QO := k
theorem r_part (k : te σ H fun x H1 => ∃ i, x = .int i ∧ QO (some i) H1) : tPart te σ H QO := k
theorem x_int1 {C : Int → Prop} {j : Int} (c : C j) : ∃ i : Int, V.int j = .int i ∧ C i := ⟨j, rfl, c⟩
theorem r_slL {a : Addr} {xs : List V} {lo hi : Option Int} (h : SqL K H a xs) (k : ∀ p, H p = none → Q (.ref p) (upd H p (.lst (cutV xs lo hi)))) : rSlL K (.ref a) lo hi H Q := ⟨a, xs, rfl, h, k⟩
theorem cut_all {xs : List V} {n : Nat} (h : xs.length ≤ n) : cutV xs none (some (n : Int)) = xs := by
  unfold cutV
  rw [HT.sIx_none, HT.sIx_nat]
  simp only [List.drop_zero]
  rw [List.take_of_length_le]
  omega
end
/-! ### readings whose written part is named: for elements of comprehensions -/
section
variable {K : PySem.W.Frag} {X : Cx} {tg e l : Expr} {te tl : TE} {f : Str} {pos : Pos}
theorem k_len (h : X.K = K) : CallR X (.builtin "len") (fun xs H Q => ∃ p ys, xs = [.ref p] ∧ (SqL K H p ys ∨ SqT K H p ys) ∧ Q (.int ys.length) H) := h ▸ call_len_seq
theorem k_all (h : X.K = K) (c : X.calm = true) : CallR X (.builtin "all") (rAll K) := h ▸ cr_all c
theorem k_listOf (h : X.K = K) : CallR X (.type "list") (fun xs H Q => ∃ p ys, xs = [.ref p] ∧ (SqL K H p ys ∨ SqT K H p ys) ∧ ∀ l, H l = none → Q (.ref l) (upd H l (.lst ys))) := h ▸ call_list_of
theorem k_tupOf (h : X.K = K) : CallR X (.type "tuple") (fun xs H Q => ∃ p ys, xs = [.ref p] ∧ ((SqL K H p ys ∧ ∀ l, H l = none → Q (.ref l) (upd H l (.tup ys))) ∨ (SqT K H p ys ∧ Q (.ref p) H))) := h ▸ call_tuple_of
theorem k_ixL (h : X.K = K) : IxR X (rIxL K) := h ▸ ix_list
theorem k_ixT (h : X.K = K) : IxR X (rIxT K) := h ▸ ix_tup
theorem k_inS (h : X.K = K) : OpR X (compareOp .In) (rIn K false) := h ▸ op_in_seq
theorem k_notInS (h : X.K = K) : OpR X (compareOp .NotIn) (rIn K true) := h ▸ op_notIn_seq
theorem k_indexD (h : X.K = K) (hu : X.A.units + 65 < cLine) : MtR X "list.index" (rIndexD K) := h ▸ mt_indexD hu
theorem k_eqD (h : X.K = K) (hu : X.A.units + 64 < cLine) : OpR X (compareOp .Eq) (rEqD K) := h ▸ op_eqD hu
theorem k_fld (h : X.K = K) (he : PE X e te) (hb : attributeBase e f X.env (eval e X.env) = eval e X.env) : PE X (.Attribute e f pos) (tFld K te f) := h ▸ pe_fld he hb
theorem k_piL (h : X.K = K) (hl : PE X l tl) : PI X tg l (iList K tl) := h ▸ pi_list hl
theorem k_piT (h : X.K = K) (hl : PE X l tl) : PI X tg l (iTup K tl) := h ▸ pi_tup hl
theorem hu65_of {A : Around} {k : Nat} (hr : Room k A) : A.units + 65 < cLine := by
  have := hr.un
  omega
end
/-! ### what is met, taken apart -/
section
variable {K : PySem.W.Frag} {H : Hp}
theorem x_int {C : Int → Prop} {j : Int} (c : C j) : ∃ i : Int, [V.int j] = [.int i] ∧ C i := ⟨j, rfl, c⟩
theorem x_rng {j : Int} {p : Prop} (h : -(2 ^ 62) ≤ j) (h2 : j < 2 ^ 62) (k : p) : -(2 ^ 62) ≤ j ∧ j < 2 ^ 62 ∧ p := ⟨h, h2, k⟩
theorem x_lenS {C : Str → Prop} {x : Str} (h : x.length ≤ sizeLine) (c : C x) : ∃ z : Str, [V.str x] = [.str z] ∧ z.length ≤ sizeLine ∧ C z := ⟨x, rfl, h, c⟩
theorem x_szS {C : Str → Prop} {x : Str} (h : x.cps.size ≤ sizeLine) (c : C x) : ∃ z : Str, [V.str x] = [.str z] ∧ z.cps.size ≤ sizeLine ∧ C z := ⟨x, rfl, h, c⟩
theorem r_m1 {σ : L2.St} {Q : VK} {r : V → List V → Hp → VK → Prop} {to te : TE} (k : to σ H fun x H1 => (∃ a, x = .str a) ∧ te σ H1 fun y H2 => r x [y] H2 Q) : tM1 r to te σ H Q := k
theorem r_m0 {σ : L2.St} {Q : VK} {r : V → List V → Hp → VK → Prop} {to : TE} (k : to σ H fun x H1 => (∃ a, x = .str a) ∧ r x [] H1 Q) : tM0 r to σ H Q := k
theorem x_isS {x : Str} {p : Prop} (k : p) : (∃ a, V.str x = .str a) ∧ p := ⟨⟨x, rfl⟩, k⟩
theorem x_str {C : Str → Prop} {x : Str} (c : C x) : ∃ z : Str, V.str x = .str z ∧ C z := ⟨x, rfl, c⟩
theorem x_bl {C : Bool → Prop} {x : Bool} (c : C x) : ∃ z : Bool, V.bl x = .bl z ∧ C z := ⟨x, rfl, c⟩
theorem x_sg {C : Nat → Str → Prop} {x : Nat} {y : Str} (c : C x y) : ∃ (a : Nat) (b : Str), V.str ⟨#[x]⟩ = .str ⟨#[a]⟩ ∧ V.str y = .str b ∧ C a b := ⟨x, y, rfl, rfl, c⟩
theorem x_s2 {C : Str → Str → Prop} {x y : Str} (c : C x y) : ∃ (a b : Str), V.str x = .str a ∧ V.str y = .str b ∧ C a b := ⟨x, y, rfl, rfl, c⟩
theorem x_lenL {C : Addr → List V → Prop} {a : Addr} {ys : List V} (h : SqL K H a ys) (c : C a ys) : ∃ (p : Addr) (xs : List V), [V.ref a] = [.ref p] ∧ (SqL K H p xs ∨ SqT K H p xs) ∧ C p xs := ⟨a, ys, rfl, .inl h, c⟩
theorem x_lenT {C : Addr → List V → Prop} {a : Addr} {ys : List V} (h : SqT K H a ys) (c : C a ys) : ∃ (p : Addr) (xs : List V), [V.ref a] = [.ref p] ∧ (SqL K H p xs ∨ SqT K H p xs) ∧ C p xs := ⟨a, ys, rfl, .inr h, c⟩
theorem x_tupL {C D : Addr → List V → Prop} {a : Addr} {ys : List V} (h : SqL K H a ys) (c : C a ys) : ∃ (p : Addr) (xs : List V), [V.ref a] = [.ref p] ∧ ((SqL K H p xs ∧ C p xs) ∨ (SqT K H p xs ∧ D p xs)) := ⟨a, ys, rfl, .inl ⟨h, c⟩⟩
theorem x_tupT {C D : Addr → List V → Prop} {a : Addr} {ys : List V} (h : SqT K H a ys) (c : D a ys) : ∃ (p : Addr) (xs : List V), [V.ref a] = [.ref p] ∧ ((SqL K H p xs ∧ C p xs) ∨ (SqT K H p xs ∧ D p xs)) := ⟨a, ys, rfl, .inr ⟨h, c⟩⟩
theorem x_lst {C : Addr → Prop} {a : Addr} {ys : List V} (h : SqL K H a ys) (c : C a) : ∃ p : Addr, V.ref a = .ref p ∧ (∃ xs, SqL K H p xs) ∧ C p := ⟨a, rfl, ⟨ys, h⟩, c⟩
theorem x_tpl {C : Addr → Prop} {a : Addr} {ys : List V} (h : SqT K H a ys) (c : C a) : ∃ p : Addr, V.ref a = .ref p ∧ (∃ xs, SqT K H p xs) ∧ C p := ⟨a, rfl, ⟨ys, h⟩, c⟩
theorem x_enum {C : Addr → Prop} {a : Addr} {ys : List V} (h : SqL K H a ys) (c : C a) : ∃ (p : Addr) (xs : List V), [V.ref a] = [.ref p] ∧ SqL K H p xs ∧ C p := ⟨a, ys, rfl, h, c⟩
theorem x_fld {C0 : Addr} {a dx : Addr} {fs : List (Str × V)} {f : Str} {v : V} {A B : Addr → Prop} {C : V → Prop} (h : H a = some (.ins C0 dx fs)) (hA : A C0) (hB : B C0) (e : fs.lookup f = some v) (c : C v) : ∃ (p : Addr) (C1 : Addr) (dx : Addr) (fs : List (Str × V)) (v : V), V.ref a = .ref p ∧ H p = some (.ins C1 dx fs) ∧ A C1 ∧ B C1 ∧ fs.lookup f = some v ∧ C v := ⟨a, C0, dx, fs, v, rfl, h, hA, hB, e, c⟩
theorem x_meth {C0 : Addr} {a dx : Addr} {fs : List (Str × V)} {m : Str} {C : Addr → Prop} (h : H a = some (.ins C0 dx fs)) (e : fs.lookup m = none) (c : C a) : ∃ (p : Addr) (dx : Addr) (fs : List (Str × V)), V.ref a = .ref p ∧ H p = some (.ins C0 dx fs) ∧ fs.lookup m = none ∧ C p := ⟨a, dx, fs, rfl, h, e, c⟩
theorem x_set {C0 : Addr} {a dx : Addr} {fs : List (Str × V)} {A B : Addr → Prop} {C : Addr → Addr → Addr → List (Str × V) → Prop} (h : H a = some (.ins C0 dx fs)) (hA : A C0) (hB : B C0) (l : fs.length < 1000) (c : C a C0 dx fs) : ∃ (p : Addr) (C1 : Addr) (dx : Addr) (fs : List (Str × V)), V.ref a = .ref p ∧ H p = some (.ins C1 dx fs) ∧ A C1 ∧ B C1 ∧ fs.length < 1000 ∧ C p C1 dx fs := ⟨a, C0, dx, fs, rfl, h, hA, hB, l, c⟩
theorem x_cat {C : Str → Str → Prop} {x y : Str} (h : x.length + y.length ≤ sizeLine) (c : C x y) : ∃ (a b : Str), V.str x = .str a ∧ V.str y = .str b ∧ a.length + b.length ≤ sizeLine ∧ C a b := ⟨x, y, rfl, rfl, h, c⟩
theorem x_join {p : Addr} {ss : List Str} {C : Str → List Str → Prop} (h : H p = some (.lst (ss.map V.str))) (l : (ss.map (fun x => x.length)).sum ≤ 16777216) (c : C "" ss) :
    ∃ (a : Str) (q : Addr) (ys : List Str), V.str "" = V.str a ∧ [V.ref p] = [V.ref q] ∧ (SqL K H q (ys.map V.str) ∨ SqT K H q (ys.map V.str)) ∧ (ys.map (fun x => x.length)).sum + ys.length * a.length ≤ 16777216 ∧ C a ys :=
  ⟨"", p, ss, rfl, rfl, .inl (SqL.of h), by rw [show ("" : Str).length = 0 from rfl, Nat.mul_zero]; exact l, c⟩
theorem x_le {n : Nat} {p : Prop} (h : n ≤ sizeLine) (k : p) : n ≤ sizeLine ∧ p := ⟨h, k⟩
theorem x_tyL {p : Addr} {xs : List V} {P : Prop} (h : H p = some (.lst xs)) (k : P) : tyV K "list" (.ref p) H ∧ P := ⟨ty_lst h, k⟩
theorem r_append {Q : VK} {l : Addr} {xs : List V} {y : V} (h : H l = some (.lst xs)) (n : xs.length < sizeLine) (k : Q .non (upd H l (.lst (xs ++ [y])))) : rAppend (.ref l) [y] H Q := ⟨l, xs, y, rfl, rfl, h, n, k⟩
theorem r_cat {Q : VK} {l b : Addr} {xs ys : List V} (h : H l = some (.lst xs)) (h2 : H b = some (.lst ys)) (n : xs.length + ys.length ≤ sizeLine) (k : ∀ p, H p = none → Q (.ref p) (upd H p (.lst (xs ++ ys)))) : rCat (.ref l) (.ref b) H Q := ⟨l, b, xs, ys, rfl, rfl, h, h2, n, k⟩
theorem r_rep {Q : VK} {l : Addr} {xs : List V} {i : Int} (h : H l = some (.lst xs)) (i0 : -(2 ^ 63) ≤ i) (i1 : i < 2 ^ 63) (n : xs.length * i.toNat ≤ sizeLine) (k : ∀ p, H p = none → Q (.ref p) (upd H p (.lst (List.replicate i.toNat xs).flatten))) : rRep (.ref l) (.int i) H Q := ⟨l, i, xs, rfl, rfl, h, i0, i1, n, k⟩
theorem r_clear {Q : VK} {l : Addr} {xs : List V} (h : H l = some (.lst xs)) (k : Q .non (upd H l (.lst []))) : rClear (.ref l) [] H Q := ⟨l, xs, rfl, rfl, h, k⟩
theorem x_ixL {C : V → Prop} {Q : VK} {p : Addr} {i : Int} {v : V} {xs : List V} (h : SqL K H p xs) (e : atI xs i = some v) (k : Q v H) : rIxL K (.ref p) (.int i) H Q := ⟨p, xs, i, v, rfl, rfl, h, e, k⟩
end
end K70
/-! more readings by steps -/
namespace K70
open PySem PySem.Spec PyProof.Rows L2
section
variable {K : PySem.W.Frag} {H : Hp}
theorem r_popAt {Q : VK} {l : Addr} {x : V} {xs : List V} (h : H l = some (.lst (x :: xs))) (k : Q x (upd H l (.lst xs))) : rPopAt (.ref l) [.int 0] H Q := ⟨l, x :: xs, 0, 0, x, rfl, rfl, h, by decide, by decide, by simp [seqIndex?], rfl, k⟩
theorem r_parE {σ : L2.St} {D : Ends} {tA : TA} {i j : Nat} (k : tA σ H fun vs H1 => ∃ v w, vs = [v, w] ∧ D.nx ((σ.set i (some v)).set j (some w)) H1) : tPar i j tA D σ H := k
theorem r_par3E {σ : L2.St} {D : Ends} {tA : TA} {i j l : Nat} (k : tA σ H fun vs H1 => ∃ u v w, vs = [u, v, w] ∧ D.nx (((σ.set i (some u)).set j (some v)).set l (some w)) H1) : tPar3 i j l tA D σ H := k
theorem r_pairs1 {σ : L2.St} {tk tv : TE} {Q : List (V × V) → Hp → Prop} (k : tk σ H fun x H1 => tv σ H1 fun y H2 => Q [(x, y)] H2) : tPairs [(tk, tv)] σ H Q := k
theorem r_dnotin {σ : L2.St} {Q : VK} {ty td : TE} (k : ty σ H fun y H1 => td σ H1 fun x H2 => ∃ a o, x = .ref a ∧ DGet H2 a y o ∧ Q (.bl (!o.isSome)) H2) : tDNotIn ty td σ H Q := k
theorem r_din {σ : L2.St} {Q : VK} {ty td : TE} (k : ty σ H fun y H1 => td σ H1 fun x H2 => ∃ a o, x = .ref a ∧ DGet H2 a y o ∧ Q (.bl o.isSome) H2) : tDIn ty td σ H Q := k
theorem r_dget {σ : L2.St} {Q : VK} {ty td : TE} (k : td σ H fun x H1 => ty σ H1 fun y H2 => ∃ a v, x = .ref a ∧ DGet H2 a y (some v) ∧ Q v H2) : tDGet td ty σ H Q := k
theorem r_dput {σ : L2.St} {D : Ends} {tv ty td : TE} (k : tv σ H fun v H1 => td σ H1 fun x H2 => ty σ H2 fun y H3 => ∃ a H4, x = .ref a ∧ DPut H3 a y v H4 ∧ D.nx σ H4) : sDPut td ty tv D σ H := k
theorem x_dI {a : Addr} {kvs : List (Key × V)} {i : Int} {C : Option V → Prop} (h : H a = some (.dK kvs)) (k : C (valV kvs (.inl i))) : ∃ (b : Addr) (o : Option V), V.ref a = .ref b ∧ DGet H b (.int i) o ∧ C o := ⟨a, _, rfl, DGet.k (k := .inl i) h, k⟩
theorem x_dS {a : Addr} {kvs : List (Key × V)} {i : Str} {C : Option V → Prop} (h : H a = some (.dK kvs)) (k : C (valV kvs (.inr i))) : ∃ (b : Addr) (o : Option V), V.ref a = .ref b ∧ DGet H b (.str i) o ∧ C o := ⟨a, _, rfl, DGet.k (k := .inr i) h, k⟩
theorem x_gI {a : Addr} {kvs : List (Key × V)} {i : Int} {v : V} {C : V → Prop} (h : Rd H a (.dK kvs)) (e : valV kvs (.inl i) = some v) (k : C v) : ∃ (b : Addr) (o : V), V.ref a = .ref b ∧ DGet H b (.int i) (some o) ∧ C o := ⟨a, v, rfl, .inl ⟨kvs, .inl i, h, rfl, e.symm⟩, k⟩
theorem x_gS {a : Addr} {kvs : List (Key × V)} {i : Str} {v : V} {C : V → Prop} (h : Rd H a (.dK kvs)) (e : valV kvs (.inr i) = some v) (k : C v) : ∃ (b : Addr) (o : V), V.ref a = .ref b ∧ DGet H b (.str i) (some o) ∧ C o := ⟨a, v, rfl, .inl ⟨kvs, .inr i, h, rfl, e.symm⟩, k⟩
theorem x_pI {a : Addr} {kvs : List (Key × V)} {i : Int} {v : V} {C : Hp → Prop} (h : H a = some (.dK kvs)) (l : kvs.length < sizeLine) (k : C (upd H a (.dK (putK kvs (.inl i) v)))) : ∃ (b : Addr) (H4 : Hp), V.ref a = .ref b ∧ DPut H b (.int i) v H4 ∧ C H4 := ⟨a, _, rfl, DPut.k (k := .inl i) h l, k⟩
theorem x_pS {a : Addr} {kvs : List (Key × V)} {i : Str} {v : V} {C : Hp → Prop} (h : H a = some (.dK kvs)) (l : kvs.length < sizeLine) (k : C (upd H a (.dK (putK kvs (.inr i) v)))) : ∃ (b : Addr) (H4 : Hp), V.ref a = .ref b ∧ DPut H b (.str i) v H4 ∧ C H4 := ⟨a, _, rfl, DPut.k (k := .inr i) h l, k⟩
theorem x_lenD {a : Addr} {kvs : List (Key × V)} {C : Addr → List (Key × V) → Prop} (h : H a = some (.dK kvs)) (c : C a kvs) : ∃ (b : Addr) (ks : List (Key × V)), [V.ref a] = [.ref b] ∧ H b = some (.dK ks) ∧ C b ks := ⟨a, kvs, rfl, h, c⟩
theorem r_keys {σ : L2.St} {td : TE} {RI : It → Hp → Prop} (k : td σ H fun x H1 => ∃ d o, x = .ref d ∧ ((∃ kvs, H1 d = some (.frz o (.dK kvs)) ∧ RI (Itk d o kvs) H1) ∨ ∃ kvs, H1 d = some (.frz o (.dT kvs)) ∧ RI (Itkt d o kvs) H1)) : iKeys td σ H RI := k
theorem r_gfld {σ : L2.St} {to : TE} {f : Str} {v : V} {QS : L2.St → Hp → Prop} (k : to σ H fun x H1 => ∃ a C dx fs, x = .ref a ∧ H1 a = some (.ins C dx fs) ∧ Cls K C ∧ NoAttr K C f ∧ fs.length < 1000 ∧ QS σ (upd H1 a (.ins C dx (putF f v fs)))) : gFld K to f v σ H QS := k
theorem r_un {σ : L2.St} {Q : VK} {r : V → Hp → VK → Prop} {ta : TE} (k : ta σ H fun x H1 => r x H1 Q) : tUn r ta σ H Q := k
theorem r_U {Q : VK} {g : Int → V} {i : Int} (k : Q (g i) H) : rU g (.int i) H Q := ⟨i, rfl, k⟩
theorem x_dictD {a : Addr} {kvs : List (Key × V)} {C : Addr → List (Key × V) → Prop} (h : H a = some (.dK kvs)) (k : C a kvs) : ∃ (b : Addr) (ks : List (Key × V)), [V.ref a] = [.ref b] ∧ Rd H b (.dK ks) ∧ C b ks := ⟨a, kvs, rfl, .inl h, k⟩
theorem r_dpop {σ : L2.St} {Q : VK} {td ty : TE} (k : td σ H fun x H1 => ∃ a, x = .ref a ∧ IsD H1 a ∧ ty σ H1 fun y H2 => ∃ kvs k v, H2 a = some (.dK kvs) ∧ y = kV k ∧ valV kvs k = some v ∧ Q v (upd H2 a (.dK (dropK kvs k)))) : tDPop1 td ty σ H Q := k
theorem r_kget2 {σ : L2.St} {Q : VK} {d : Addr} {td ty tx : TE} (k : td σ H fun x H1 => x = .ref d ∧ ty σ H1 fun y H2 => tx σ H2 fun z H3 => ∃ (k : Str) (r : Option Value) (v : V), y = .str k ∧ PySem.W.nsIn K d k = some r ∧ (∀ u0, r = some u0 → RelV v u0) ∧ (r = none → v = z) ∧ Q v H3) : tKGet2 K d td ty tx σ H Q := k
theorem x_refl {d : Addr} {p : Prop} (k : p) : V.ref d = .ref d ∧ p := ⟨rfl, k⟩
theorem r_asg2E {σ : L2.St} {D : Ends} {te : TE} {g1 g2 : TG} (k : te σ H fun x H1 => g1 x σ H1 fun σ1 H2 => g2 x σ1 H2 D.nx) : tAsg2 te g1 g2 D σ H := k
theorem r_methT {σ : L2.St} {Q : VK} {C : Addr} {m : Str} {sp : Sp} {E : L2.St → XK} {ta : TE} {t : TA} (k : ta σ H fun x H1 => ∃ a dx fs, x = .ref a ∧ H1 a = some (.ins C dx fs) ∧ fs.lookup m = none ∧ t σ H1 fun vs H2 => sp (x :: vs) H2 Q (E σ)) : tMethT C m sp E ta t σ H Q := k
theorem x_nonR {p : Prop} (k : p) : V.non = V.non ∧ p := ⟨rfl, k⟩
theorem r_pop {Q : VK} {l : Addr} {x : V} {xs : List V} (h : H l = some (.lst (xs ++ [x]))) (k : Q x (upd H l (.lst xs))) : rPop (.ref l) [] H Q := ⟨l, xs ++ [x], x, rfl, rfl, h, by simp, by rw [List.dropLast_concat]; exact k⟩
theorem x_intS {x : Str} {n : Int} {C : Int → Prop} (h : PySem.intText? x = some n) (l : x.length ≤ 640) (k : C n) : ∃ (a : Str) (m : Int), [V.str x] = [V.str a] ∧ PySem.intText? a = some m ∧ a.length ≤ 640 ∧ C m := ⟨x, n, rfl, h, l, k⟩
theorem x_split {x y : Str} {C : Str → Str → Prop} (h : (y.length == 0) = false) (l : x.length + 2 ≤ sizeLine) (k : C x y) : ∃ a b : Str, V.str x = V.str a ∧ [V.str y] = [V.str b] ∧ (b.length == 0) = false ∧ a.length + 2 ≤ sizeLine ∧ C a b := ⟨x, y, rfl, rfl, h, l, k⟩
theorem x_two {a b : V} {C : V → V → Prop} (c : C a b) : ∃ v w, [a, b] = [v, w] ∧ C v w := ⟨a, b, rfl, c⟩
theorem x_three {a b d : V} {C : V → V → V → Prop} (c : C a b d) : ∃ u v w, [a, b, d] = [u, v, w] ∧ C u v w := ⟨a, b, d, rfl, c⟩
end
section
variable {K : PySem.W.Frag} {X : Cx} {o e : Expr} {es : List Expr} {to : TE} {t : TA} {name : Str} {apos cpos : Pos} {T id : String} {r : V → List V → Hp → VK → Prop}
theorem k_bm0 (h0 : X.K = K) (pa : PlainAttrs T) (slot : Slot T name id) (hty : typeOf (.builtin id) = pure (.type "method_descriptor")) (hm : MtR X id r) (ho : PE X o to)
    (h1 : attributeBase o name X.env (eval o X.env) = eval o X.env := by rfl) (h2 : (apos.endLine == cpos.line) = true := by rfl) : PE X (.Call (.Attribute o name apos) [] [] cpos) (tBM0 K T r to) := h0 ▸ pe_bm0 pa slot hty hm ho h1 h2
theorem k_bm (h0 : X.K = K) (pa : PlainAttrs T) (slot : Slot T name id) (hty : typeOf (.builtin id) = pure (.type "method_descriptor")) (hm : MtR X id r) (ho : PE X o to) (ha : PA X (e :: es) t)
    (h1 : attributeBase o name X.env (eval o X.env) = eval o X.env := by rfl)
    (h2 : ((backTo cpos (starEach (e :: es) X.env)).all (fun x => !x.1) && (backToKw cpos (keywordEach [] X.env)).all (fun x => x.1.isSome) && decide ((e :: es).length + ([] : List Keyword).length + (if ([] : List Keyword).isEmpty then 0 else 1) < 30)) = true := by rfl)
    (h3 : (apos.endLine == cpos.line) = true := by rfl) (h4 : starEach (e :: es) X.env = (false, eval e X.env) :: starEach es X.env := by rfl) (h5 : (backTo cpos (starEach es X.env)).any (·.1) = false := by rfl) :
    PE X (.Call (.Attribute o name apos) (e :: es) [] cpos) (tBM K T r to t) := h0 ▸ pe_bm pa slot hty hm ho ha h1 h2 h3 h4 h5
theorem k_sfld {o value : Expr} {ta tv : TE} {f : Str} {pos pos' : Pos} (h0 : X.K = K) (ha : PE X o ta) (hv : PE X value tv) (hs : swapsWith value (some (.Attribute o f pos')) pos.line X.env = pure false) : PS X (.Assign [.Attribute o f pos'] value pos) (sFld K ta tv f) := h0 ▸ ps_fld ha hv hs
theorem k_gstar {pos : Pos} {es : List Expr} {k : Nat} {t : TGs} {n : Nat} (h0 : X.K = K) (hc : X.calm = true) (h : PGs X es t) (hn : (assignEach es X.env).length = n + 1 := by rfl) (hst : (assignEach es X.env).findIdx? (·.1) = some n := by rfl) : PG X (.Tuple es k pos) (gStar K n t) := h0 ▸ pg_star hc h hn hst
end
end K70
/-! a def's promise, told of a part of the heap -/
namespace K70
open PySem PySem.Spec PyProof.Rows L2
def Plain : HO → Prop
  | .lst _ => True
  | .tup _ => True
  | .dK _ => True
  | .frz _ u => Plain u
  | _ => False
section
variable {P : Program} {w : World} {H H' h h' : Hp} {g : Heap} {a : Addr} {o : HO}
theorem objOk_plain (p : Plain o) (x : ObjOk P w H g a o) : ObjOk P w H' g a o := by
  induction o with
  | lst xs => exact x
  | tup xs => exact x
  | dK kvs => exact x
  | frz ob u ih =>
    obtain ⟨e, q⟩ := x
    exact ⟨e, ih p q⟩
  | _ => exact p.elim
theorem objOk_there (x : ObjOk P w H g a o) : ∃ ob, g.get? a = some ob := by
  cases o with
  | lst xs => obtain ⟨_, _, _, _, e⟩ := x; exact ⟨_, e⟩
  | tup xs => obtain ⟨_, _, _, _, e, _⟩ := x; exact ⟨_, e⟩
  | dK kvs => obtain ⟨_, _, _, _, o, _, _, e, _⟩ := x; exact ⟨_, e⟩
  | dT kvs => obtain ⟨_, _, _, _, o, _, _, e, _⟩ := x; exact ⟨_, e⟩
  | set S n => obtain ⟨o, _, _, _, e, _⟩ := x; exact ⟨_, e⟩
  | ins C dx fs => obtain ⟨_, _, _, e, _⟩ := x; exact ⟨_, e⟩
  | own y => obtain ⟨_, e⟩ := x; exact ⟨_, e⟩
  | xd fs => obtain ⟨_, ⟨_, _, _, e, _⟩, _⟩ := x; exact ⟨_, e⟩
  | rng lo hi => obtain ⟨_, _, _, e⟩ := x; exact ⟨_, e⟩
  | frz ob u => obtain ⟨e, _⟩ := x; exact ⟨_, e⟩
  | tbl ps => exact ⟨_, (show g.get? a = some _ from x)⟩
  | met f y => exact ⟨_, (show g.get? a = some _ from x)⟩
  | ext φ => obtain ⟨_, ⟨_, e⟩, _⟩ := x; exact ⟨_, e⟩
/-- behind a way from h to h' the rest of H -/
def join (h H h' : Hp) : Hp := fun a => if (H a).isSome = true ∧ h a = none then H a else h' a
theorem join_old {u : HO} (e : H a = some u) (n : h a = none) : join h H h' a = some u := by
  unfold join
  rw [if_pos ⟨by rw [e]; rfl, n⟩]
  exact e
theorem join_in {u : HO} (e : h a = some u) : join h H h' a = h' a := by
  unfold join
  rw [if_neg fun z => by rw [z.2] at e; cases e]
theorem join_new (e : H a = none) : join h H h' a = h' a := by
  unfold join
  rw [if_neg fun z => by rw [e] at z; cases z.1]
def Framed (sp : Sp) : Sp := fun vs H Q E => ∃ h : Hp, Same h H ∧ (∀ a o, h a = some o → Plain o) ∧ sp vs h (fun v h' => (∀ a o, H a = some o → h a = none → h' a = none) → Same h' (join h H h') → Q v (join h H h')) E
variable {K : PySem.W.Frag} {mg : Str → Option Value} {base : Heap} {k : Nat} {f : Addr} {fd : FuncData} {ps : List Str} {sp : Sp}
theorem framed (F : FnOk P w K mg base CX0 k f fd ps sp) : FnOk P w K mg base CX0 k f fd ps (Framed sp) := by
  refine ⟨fun vs H Q E ⟨h, _, _, q⟩ => F.len vs h _ _ q, fun A outer s H args us vs Q E hr e0 hb hv ⟨h, sh, pl, q⟩ => ?_⟩
  have no : ∀ {b}, H b = none → h b = none := fun {b} z => sh.free z
  have e1 : Env0 P w K mg base A outer s h := ⟨e0.frames, e0.mod, fun b o e => ⟨(e0.bs b o e).1, no (e0.bs b o e).2⟩, e0.bsz, e0.funs, fun b hb => no (e0.frf b hb),
    fun a o e => objOk_plain (pl a o e) (e0.hok a o (sh a o e)), e0.bare⟩
  refine codeAny_mono (F.run A outer s h args us vs _ E hr e1 hb hv q) fun r s' hq => ?_
  cases r with
  | error e => exact hq
  | ok fl =>
    cases fl with
    | next => exact hq
    | brk => exact hq
    | cont => exact hq
    | ret u =>
      obtain ⟨v, h', os, bare, un, hok, rv, q⟩ := hq
      have there : ∀ {b o}, H b = some o → ∃ ob, s.heap.get? b = some ob := fun {b o} e => objOk_there (e0.hok b o e)
      have gone : ∀ a o, H a = some o → h a = none → h' a = none := fun a o e n => by
        obtain ⟨ob, z⟩ := there e
        exact un.free a ob z n (by simp)
      have S : Same h' (join h H h') := fun a o e => by
        unfold join
        split
        · rename_i z
          obtain ⟨u, hu⟩ := Option.isSome_iff_exists.mp z.1
          rw [gone a u hu z.2] at e
          cases e
        · exact e
      have stay : ∀ {b ob o}, H b = some o → h b = none → s.heap.get? b = some ob → s'.heap.get? b = some ob := fun {b ob o} e n z =>
        un.keep b ob z n (fun hb => by rw [e0.frf b hb] at e; cases e) (by simp)
      have notOwn : ∀ {b x}, H b = some (.own x) → h b = none := fun {b x} e => by
        cases z : h b with
        | none => rfl
        | some u =>
          have z2 := sh b u z
          rw [e] at z2
          cases z2
          exact (pl b _ z).elim
      refine ⟨v, join h H h', os, bare, ⟨fun b o e n => ?_, fun b o e n => ?_, fun b o e n hx => ?_, un.there, fun b xs e => ?_, fun b o u e => ?_, fun b qs e => ?_⟩, fun a o e => ?_, rv, q gone S⟩
      · exact un.keep b o e (no n)
      · exact un.slot b o e (no n)
      · rw [join_new n]
        exact un.free b o e (no n) hx
      · cases z : h b with
        | none => exact join_old e z
        | some u =>
          have z2 := sh b u z
          rw [e] at z2
          cases z2
          rw [join_in z]
          exact un.tups b xs z
      · cases z : h b with
        | none => exact join_old e z
        | some u2 =>
          have z2 := sh b u2 z
          rw [e] at z2
          cases z2
          rw [join_in z]
          exact un.frzs b o u z
      · cases z : h b with
        | none => exact ⟨#[], by rw [join_old e z]; simp⟩
        | some u2 =>
          have z2 := sh b u2 z
          rw [e] at z2
          cases z2
          exact (pl b _ z).elim
      · unfold join at e
        split at e
        · rename_i z
          refine (e0.hok a o e).stay (fun b u hb q => ?_) (fun b hb => join_old hb (notOwn hb)) fun b xs hb => ?_
          · rcases hb with hb | hb
            · rw [hb] at q ⊢
              exact stay e z.2 q
            · exact stay hb (notOwn hb) q
          · cases zz : h b with
            | none => exact join_old hb zz
            | some u =>
              have z2 := sh b u zz
              rw [hb] at z2
              cases z2
              rw [join_in zz]
              exact un.tups b xs zz
        · exact (hok a o e).stay (fun _ _ _ q => q) (fun b hb => S b _ hb) fun b xs hb => S b _ hb
theorem join_sub (sh : Same h H) (s : Same h h') : Same H (join h H h') := fun a o e => by
  cases z : h a with
  | none => exact join_old e z
  | some u =>
    rw [join_in z]
    have q := sh a u z
    rw [e] at q
    cases q
    exact s a _ z
end
/-- the plain part of a heap -/
def plB : HO → Bool
  | .lst _ => true
  | .tup _ => true
  | .dK _ => true
  | .frz _ u => plB u
  | _ => false
theorem plB_plain : ∀ {o : HO}, plB o = true → Plain o
  | .lst _, _ => trivial
  | .tup _, _ => trivial
  | .dK _, _ => trivial
  | .frz _ u, h => plB_plain (o := u) h
def pln (h : Hp) : Hp := fun a => match h a with
  | some o => if plB o = true then some o else none
  | none => none
section
variable {K : PySem.W.Frag} {h : Hp} {a : Addr}
theorem pln_sub : Same (pln h) h := fun a o e => by
  unfold pln at e
  split at e
  · rename_i u z
    split at e
    · rw [z]
      exact e
    · cases e
  · cases e
theorem pln_plain {o : HO} (e : pln h a = some o) : Plain o := by
  unfold pln at e
  split at e
  · split at e
    · rename_i z
      cases e
      exact plB_plain z
    · cases e
  · cases e
theorem pln_in {o : HO} (e : h a = some o) (p : plB o = true) : pln h a = some o := by
  unfold pln
  rw [e]
  exact if_pos p
theorem pln_sqL {xs : List V} (s : SqL K h a xs) : SqL K (pln h) a xs := by
  rcases s with (s | ⟨o, s⟩) | s
  · exact .inl (.inl (pln_in s rfl))
  · exact .inl (.inr ⟨o, pln_in s rfl⟩)
  · exact .inr s
theorem pln_sqT {xs : List V} (s : SqT K h a xs) : SqT K (pln h) a xs := by
  rcases s with (s | ⟨o, s⟩) | s
  · exact .inl (.inl (pln_in s rfl))
  · exact .inl (.inr ⟨o, pln_in s rfl⟩)
  · exact .inr s
mutual
theorem pln_dp : ∀ {d : PyData} {v : V}, Dp K h v d → Dp K (pln h) v d
  | .none, _, h => by
    cases h
    exact .non
  | .bool b, _, h => by
    cases h
    exact .bl b
  | .int i, _, h => by
    cases h
    exact .int i
  | .str x, _, h => by
    cases h
    exact .str x
  | .list ds, _, h => by
    cases h with
    | lst s a => exact .lst (pln_sqL s) (pln_dps a)
  | .tuple ds, _, h => by
    cases h with
    | tup s a => exact .tup (pln_sqT s) (pln_dps a)
  | .dict _, _, h => by cases h
theorem pln_dps : ∀ {ds : List PyData} {vs : List V}, DpAll K h vs ds → DpAll K (pln h) vs ds
  | [], _, h => by
    cases h
    exact .nil
  | d :: ds, _, h => by
    cases h with
    | cons a b => exact .cons (pln_dp a) (pln_dps b)
end
end
end K70
namespace K70
open PySem PySem.Spec PyProof.Rows L2
local macro_rules | `(tactic| walk_at "ar") => `(tactic| first
  | omega
  | exact ⟨by omega, by omega⟩
  | exact Or.inr ⟨by omega, by omega⟩
  | exact Or.inl ⟨by omega, by omega⟩
  | exact ⟨by omega, by omega, by decide⟩)
local macro_rules | `(tactic| walk_at "yes") => `(tactic| first
  | assumption
  | rfl
  | (simp only [Bool.not_eq_true', Bool.not_eq_true, Bool.not_true, Bool.not_false, decide_eq_true_eq, decide_eq_false_iff_not, Bool.not_eq_false', Bool.not_eq_false, V.int.injEq, V.str.injEq, V.bl.injEq, Classical.not_not, not_true_eq_false, not_false_eq_true, reduceCtorEq, decide_true, decide_false, List.length_map, List.length_append, List.length_cons, List.length_nil, List.length_replicate]; done)
  | (simp only [Bool.not_eq_true', Bool.not_eq_true, Bool.not_true, Bool.not_false, decide_eq_true_eq, decide_eq_false_iff_not, Bool.not_eq_false', Bool.not_eq_false, V.int.injEq, V.str.injEq, V.bl.injEq, Classical.not_not, not_true_eq_false, not_false_eq_true, reduceCtorEq, decide_true, decide_false, List.length_map, List.length_append, List.length_cons, List.length_nil, List.length_replicate]; omega)
  | decide
  | decide +kernel)
local macro_rules | `(tactic| walk_at "no") => `(tactic| first
  | assumption
  | (intro h; exact Bool.noConfusion h)
  | (simp only [Bool.not_eq_true', Bool.not_eq_true, Bool.not_true, Bool.not_false, decide_eq_true_eq, decide_eq_false_iff_not, Bool.not_eq_false', Bool.not_eq_false, V.int.injEq, V.str.injEq, V.bl.injEq, Classical.not_not, not_true_eq_false, not_false_eq_true, reduceCtorEq, decide_true, decide_false, List.length_map, List.length_append, List.length_cons, List.length_nil, List.length_replicate]; done)
  | (simp only [Bool.not_eq_true', Bool.not_eq_true, Bool.not_true, Bool.not_false, decide_eq_true_eq, decide_eq_false_iff_not, Bool.not_eq_false', Bool.not_eq_false, V.int.injEq, V.str.injEq, V.bl.injEq, Classical.not_not, not_true_eq_false, not_false_eq_true, reduceCtorEq, decide_true, decide_false, List.length_map, List.length_append, List.length_cons, List.length_nil, List.length_replicate]; omega)
  | decide
  | decide +kernel)
local macro_rules | `(tactic| walk_at "free") => `(tactic| first
  | assumption
  | exact free_old (by assumption)
  | exact free_same (by assumption) (by assumption)
  | exact free_same (by assumption) (free_old (by assumption))
  | exact free_old (free_old (by assumption)))
local macro_rules | `(tactic| walk_at "hp") => `(tactic| first
  | assumption
  | with_reducible exact upd_same
  | ((with_reducible refine hp_old ?h1 ?h2); (case h1 => walk_at "free"); (case h2 => walk_at "hp"))
  | ((with_reducible refine hp_ne ?h1 ?h2); (case h1 => first | assumption | exact Ne.symm (by assumption)); (case h2 => walk_at "hp"))
  | ((with_reducible refine' hp_kind ?h1 ?h2 ?h3); (case h1 => walk_at "hp"); (case h2 => walk_at "hp"); (case h3 => first | assumption | (intro h; cases h)))
  | ((with_reducible refine' hp_same ?h1 ?h2); (case h1 => assumption); (case h2 => walk_at "hp")))
local macro_rules | `(tactic| walk_at "sql") => `(tactic| first
  | assumption
  | ((with_reducible refine' SqL.of ?h1); (case h1 => walk_at "hp"))
  | ((with_reducible refine' sqL_same ?h1 ?h2); (case h1 => assumption); (case h2 => walk_at "sql"))
  | ((with_reducible refine' sqL_up ?h1 ?h2); (case h1 => walk_at "free"); (case h2 => walk_at "sql"))
  | ((with_reducible refine' sqL_ls (Ls.put ?h1) ?h2); (case h1 => walk_at "hp"); (case h2 => walk_at "sql")))
local macro_rules | `(tactic| walk_at "sqt") => `(tactic| first
  | assumption
  | ((with_reducible refine' SqT.of ?h1); (case h1 => walk_at "hp"))
  | ((with_reducible refine' sqT_same ?h1 ?h2); (case h1 => assumption); (case h2 => walk_at "sqt"))
  | ((with_reducible refine' sqT_up ?h1 ?h2); (case h1 => walk_at "free"); (case h2 => walk_at "sqt"))
  | ((with_reducible refine' sqT_ls (Ls.put ?h1) ?h2); (case h1 => walk_at "hp"); (case h2 => walk_at "sqt")))
local macro_rules | `(tactic| walk_at "go1") => `(tactic| first
  | with_reducible refine r_seq ?_
  | with_reducible refine r_asg ?_
  | with_reducible refine r_ifS ?_
  | with_reducible refine r_ret ?_
  | with_reducible refine r_drop ?_
  | with_reducible refine r_op ?_
  | with_reducible refine r_cb ?_
  | with_reducible refine r_cons ?_
  | with_reducible refine r_nil ?_
  | with_reducible refine r_c ?_
  | ((with_reducible refine r_varE ?_); refine ⟨_, rfl, ?_⟩)
  | with_reducible refine r_name ?_
  | with_reducible refine r_fldT ?_
  | with_reducible refine r_sFld ?_
  | with_reducible refine r_test ?_
  | with_reducible refine r_bl ?_
  | with_reducible refine r_B ?_
  | with_reducible refine r_not ?_
  | with_reducible refine r_and ?_
  | with_reducible refine r_or ?_
  | with_reducible refine r_andV ?_
  | with_reducible refine r_ifE ?_
  | with_reducible refine r_I0 ?_
  | ((with_reducible refine r_eqE ?_); refine ⟨rfl, ?_⟩)
  | ((with_reducible refine r_neE ?_); refine ⟨rfl, ?_⟩)
  | with_reducible refine r_call ?_
  | with_reducible refine r_meth ?_
  | with_reducible refine r_tup ?_
  | with_reducible refine r_lst ?_
  | with_reducible refine r_bm ?_
  | with_reducible refine r_bm0 ?_
  | with_reducible refine r_gcons ?_
  | with_reducible refine r_gnil ?_
  | with_reducible refine r_parE ?_
  | with_reducible refine r_par3E ?_
  | with_reducible refine r_next ?_
  | with_reducible refine r_retN ?_
  | with_reducible refine r_chain ?_
  | with_reducible refine r_yes ?_
  | with_reducible refine r_makeK ?_
  | with_reducible refine r_make ?_
  | with_reducible refine r_lc ?_
  | with_reducible refine r_sl ?_
  | with_reducible refine r_noPart ?_
  | with_reducible refine r_part ?_
  | with_reducible refine x_int1 ?_
  | ((with_reducible refine' r_slL ?h1 ?_); (case h1 => walk_at "sql"))
  | with_reducible refine r_gsub ?_
  | ((with_reducible refine' r_setL ?h1 ?h2 ?_); (case h1 => walk_at "hp"); (case h2 => rfl))
  | ((with_reducible refine r_I ?h1 ?_); (case h1 => walk_at "ar"))
  | ((with_reducible refine' r_ixT ?h1 ?h2 ?_); (case h1 => walk_at "sqt"); (case h2 => rfl))
  | ((with_reducible refine' r_ixL ?h1 ?h2 ?_); (case h1 => walk_at "sql"); (case h2 => rfl))
  | with_reducible refine r_for ?_
  | with_reducible refine r_iRng ?_
  | with_reducible refine r_iStr ?_
  | with_reducible refine r_iList ?_
  | with_reducible refine r_iTup ?_
  | with_reducible refine r_iEnum ?_
  | ((with_reducible refine r_ifT ?h1 ?_); (case h1 => walk_at "yes"))
  | ((with_reducible refine r_ifF ?h1 ?_); (case h1 => walk_at "no"))
  | ((with_reducible refine r_wipe ?h1 ?_); (case h1 => rfl))
  | ((with_reducible refine x_cat ?h1 ?_); (case h1 => (rw [szl]; omega)))
  | with_reducible refine x_bl ?_
  | with_reducible refine x_str ?_
  | with_reducible refine x_s2 ?_
  | with_reducible refine x_sg ?_
  | with_reducible refine x_int ?_
  | ((with_reducible refine x_rng ?h1 ?h2 ?_); (case h1 => omega); (case h2 => omega))
  | ((with_reducible refine x_lenS ?h1 ?_); (case h1 => first | assumption | decide +kernel))
  | ((with_reducible refine x_szS ?h1 ?_); (case h1 => first | assumption | decide +kernel))
  | with_reducible refine r_m1 ?_
  | ((with_reducible refine' r_ixS ?h1 ?h2 ?_); (case h1 => first | assumption | decide +kernel); (case h2 => rfl))
  | ((with_reducible refine x_split ?h1 ?h2 ?_); (case h1 => decide +kernel); (case h2 => first | assumption | decide +kernel))
  | with_reducible refine x_nonR ?_
  | with_reducible refine r_kget2 ?_
  | with_reducible refine x_refl ?_
  | with_reducible refine r_asg2E ?_
  | with_reducible refine r_methT ?_
  | ((with_reducible refine' x_dictD ?h1 ?_); (case h1 => walk_at "hp"))
  | with_reducible refine r_dpop ?_
  | with_reducible refine r_un ?_
  | with_reducible refine r_U ?_
  | with_reducible refine r_gfld ?_
  | with_reducible refine r_dnotin ?_
  | with_reducible refine r_din ?_
  | with_reducible refine r_dget ?_
  | with_reducible refine r_dput ?_
  | with_reducible refine r_keys ?_
  | ((with_reducible refine' x_dI ?h1 ?_); (case h1 => walk_at "hp"))
  | ((with_reducible refine' x_dS ?h1 ?_); (case h1 => walk_at "hp"))
  | ((with_reducible refine' x_lenD ?h1 ?_); (case h1 => walk_at "hp"))
  | with_reducible refine r_pairs1 ?_
  | with_reducible refine x_two ?_
  | with_reducible refine x_three ?_
  | ((with_reducible refine' r_popAt ?h1 ?_); (case h1 => walk_at "hp"))
  | ((with_reducible refine x_le ?h1 ?_); (case h1 => exact Nat.le_of_ble_eq_true rfl))
  | ((with_reducible refine' x_tyL ?h1 ?_); (case h1 => walk_at "hp"))
  | ((with_reducible refine' r_append ?h1 ?h2 ?_); (case h1 => walk_at "hp"); (case h2 => (rw [szl]; (try simp only [List.length_map, List.length_append, List.length_cons, List.length_nil]); omega)))
  | ((with_reducible refine' r_gtup ?h1 ?h2 ?_); (case h1 => walk_at "sqt"); (case h2 => rfl))
  | with_reducible refine r_m0 ?_
  | with_reducible refine x_isS ?_
  | ((with_reducible refine' x_lenL ?h1 ?_); (case h1 => walk_at "sql"))
  | ((with_reducible refine' x_lenT ?h1 ?_); (case h1 => walk_at "sqt"))
  | ((with_reducible refine' x_tupL ?h1 ?_); (case h1 => walk_at "sql"))
  | ((with_reducible refine' x_tupT ?h1 ?_); (case h1 => walk_at "sqt"))
  | ((with_reducible refine' x_lst ?h1 ?_); (case h1 => walk_at "sql"))
  | ((with_reducible refine' x_tpl ?h1 ?_); (case h1 => walk_at "sqt"))
  | ((with_reducible refine' x_enum ?h1 ?_); (case h1 => walk_at "sql"))
  | ((with_reducible refine' x_fld ?h1 ?h2 ?h3 ?h4 ?_); (case h1 => walk_at "hp"); (case h2 => assumption); (case h3 => assumption); (case h4 => rfl))
  | ((with_reducible refine' x_meth ?h1 ?h2 ?_); (case h1 => walk_at "hp"); (case h2 => rfl))
  | ((with_reducible refine' x_set ?h1 ?h2 ?h3 ?h4 ?_); (case h1 => walk_at "hp"); (case h2 => assumption); (case h3 => assumption); (case h4 => exact Nat.le_of_ble_eq_true rfl)))
local macro_rules | `(tactic| walk_at "go") => `(tactic| ((try dsimp only [cxK]); repeat (first | walk_at "go1" | dsimp only)))
section
variable {P : Program} {w : World} {K : PySem.W.Frag} {mg : Str → Option Value} {base : Heap}
/-! ### the errors that are raised -/
/-- self.f = y; self.word = wd -/
def sp_exc1 (C : Addr) (f wd : Str) : Sp := fun vs H Q _ => ∃ (a : Addr) (y : V), vs = [.ref a, y] ∧ H a = some (exo a C none) ∧ ∀ d, H d = none → d ≠ a → Q .non (upd (upd (upd H d (exd d [(f, y)])) a (exo a C (some d))) d (exd d [("word", .str wd), (f, y)]))
def sp_exc0 (C : Addr) (wd : Str) : Sp := fun vs H Q _ => ∃ (a : Addr), vs = [.ref a] ∧ H a = some (exo a C none) ∧ ∀ d, H d = none → d ≠ a → Q .non (upd (upd H d (exd d [("word", .str wd)])) a (exo a C (some d)))
theorem exo_exd {a C d : Addr} {o : Option Addr} {H : Hp} (h1 : H a = some (exo a C o)) (h2 : H d = none) : d ≠ a := fun e => by
  rw [e, h1] at h2
  cases h2
abbrev NS_InvalidName_init : List Str := ["self", "name"]
theorem sc_InvalidName_init : FnScope NS_InvalidName_init ["self", "name"] (defScope s_InvalidName_init) := ⟨rfl, rfl, rfl, by decide +kernel, rfl, by decide +kernel, by decide +kernel⟩
theorem bb_InvalidName_init {w : World} {mg : Str → Option Value} {K : PySem.W.Frag} (T : Tx w mg K) : Binds K (fdOf K (He.fAd K d_InvalidName_init.at_)) ["self", "name"] [] := FunD.bindsN T.F_InvalidName_init fun _ _ _ _ _ _ us hl => match us, hl with | [_, _], _ => rfl
theorem ok_InvalidName_init (T : Tx w mg K) : FnOk P w K mg base CX0 1 (He.ma K (He.ga K "InvalidName") "__init__") (fdOf K (He.fAd K d_InvalidName_init.at_)) ["self", "name"] (sp_exc1 (He.ga K "InvalidName") "name" "invalidname") := by
  refine FunD.ok (CX := CX0) (k := 0) T.F_InvalidName_init sc_InvalidName_init (fun vs H Q E h => ?_) (fun cdv A outer s H vs Q E hr h => ?_)
  · obtain ⟨a, y, rfl, _⟩ := h
    rfl
  · obtain ⟨a, y, rfl, ha, k⟩ := h
    refine ⟨_, PSs.nox (pss_cons (ps_est (newId := "ValueError.__new__") PySem.F.store_ValueError (pv 0) (pv 1))
    (pss_one (ps_est (newId := "ValueError.__new__") PySem.F.store_ValueError (pv 0) pe_str))), ?_⟩
    refine ⟨_, rfl, _, rfl, a, _, rfl, T.e_InvalidName, T.n_InvalidName_name, .inl ⟨ha, fun d hd da => ?_⟩⟩
    exact ⟨_, rfl, a, _, rfl, T.e_InvalidName, T.n_InvalidName_word, .inr ⟨d, _, upd_same, hp_ne da upd_same, (by show 1 ≤ 900; decide), k d hd da⟩⟩
abbrev NS_DuplicateName_init : List Str := ["self", "name"]
theorem sc_DuplicateName_init : FnScope NS_DuplicateName_init ["self", "name"] (defScope s_DuplicateName_init) := ⟨rfl, rfl, rfl, by decide +kernel, rfl, by decide +kernel, by decide +kernel⟩
theorem bb_DuplicateName_init {w : World} {mg : Str → Option Value} {K : PySem.W.Frag} (T : Tx w mg K) : Binds K (fdOf K (He.fAd K d_DuplicateName_init.at_)) ["self", "name"] [] := FunD.bindsN T.F_DuplicateName_init fun _ _ _ _ _ _ us hl => match us, hl with | [_, _], _ => rfl
theorem ok_DuplicateName_init (T : Tx w mg K) : FnOk P w K mg base CX0 1 (He.ma K (He.ga K "DuplicateName") "__init__") (fdOf K (He.fAd K d_DuplicateName_init.at_)) ["self", "name"] (sp_exc1 (He.ga K "DuplicateName") "name" "duplicatename") := by
  refine FunD.ok (CX := CX0) (k := 0) T.F_DuplicateName_init sc_DuplicateName_init (fun vs H Q E h => ?_) (fun cdv A outer s H vs Q E hr h => ?_)
  · obtain ⟨a, y, rfl, _⟩ := h
    rfl
  · obtain ⟨a, y, rfl, ha, k⟩ := h
    refine ⟨_, PSs.nox (pss_cons (ps_est (newId := "ValueError.__new__") PySem.F.store_ValueError (pv 0) (pv 1))
    (pss_one (ps_est (newId := "ValueError.__new__") PySem.F.store_ValueError (pv 0) pe_str))), ?_⟩
    refine ⟨_, rfl, _, rfl, a, _, rfl, T.e_DuplicateName, T.n_DuplicateName_name, .inl ⟨ha, fun d hd da => ?_⟩⟩
    exact ⟨_, rfl, a, _, rfl, T.e_DuplicateName, T.n_DuplicateName_word, .inr ⟨d, _, upd_same, hp_ne da upd_same, (by show 1 ≤ 900; decide), k d hd da⟩⟩
abbrev NS_UnknownName_init : List Str := ["self", "name"]
theorem sc_UnknownName_init : FnScope NS_UnknownName_init ["self", "name"] (defScope s_UnknownName_init) := ⟨rfl, rfl, rfl, by decide +kernel, rfl, by decide +kernel, by decide +kernel⟩
theorem bb_UnknownName_init {w : World} {mg : Str → Option Value} {K : PySem.W.Frag} (T : Tx w mg K) : Binds K (fdOf K (He.fAd K d_UnknownName_init.at_)) ["self", "name"] [] := FunD.bindsN T.F_UnknownName_init fun _ _ _ _ _ _ us hl => match us, hl with | [_, _], _ => rfl
theorem ok_UnknownName_init (T : Tx w mg K) : FnOk P w K mg base CX0 1 (He.ma K (He.ga K "UnknownName") "__init__") (fdOf K (He.fAd K d_UnknownName_init.at_)) ["self", "name"] (sp_exc1 (He.ga K "UnknownName") "name" "unknownname") := by
  refine FunD.ok (CX := CX0) (k := 0) T.F_UnknownName_init sc_UnknownName_init (fun vs H Q E h => ?_) (fun cdv A outer s H vs Q E hr h => ?_)
  · obtain ⟨a, y, rfl, _⟩ := h
    rfl
  · obtain ⟨a, y, rfl, ha, k⟩ := h
    refine ⟨_, PSs.nox (pss_cons (ps_est (newId := "LookupError.__new__") PySem.F.store_LookupError (pv 0) (pv 1))
    (pss_one (ps_est (newId := "LookupError.__new__") PySem.F.store_LookupError (pv 0) pe_str))), ?_⟩
    refine ⟨_, rfl, _, rfl, a, _, rfl, T.e_UnknownName, T.n_UnknownName_name, .inl ⟨ha, fun d hd da => ?_⟩⟩
    exact ⟨_, rfl, a, _, rfl, T.e_UnknownName, T.n_UnknownName_word, .inr ⟨d, _, upd_same, hp_ne da upd_same, (by show 1 ≤ 900; decide), k d hd da⟩⟩
abbrev NS_LimitExceeded_init : List Str := ["self", "limit"]
theorem sc_LimitExceeded_init : FnScope NS_LimitExceeded_init ["self", "limit"] (defScope s_LimitExceeded_init) := ⟨rfl, rfl, rfl, by decide +kernel, rfl, by decide +kernel, by decide +kernel⟩
theorem bb_LimitExceeded_init {w : World} {mg : Str → Option Value} {K : PySem.W.Frag} (T : Tx w mg K) : Binds K (fdOf K (He.fAd K d_LimitExceeded_init.at_)) ["self", "limit"] [] := FunD.bindsN T.F_LimitExceeded_init fun _ _ _ _ _ _ us hl => match us, hl with | [_, _], _ => rfl
theorem ok_LimitExceeded_init (T : Tx w mg K) : FnOk P w K mg base CX0 1 (He.ma K (He.ga K "LimitExceeded") "__init__") (fdOf K (He.fAd K d_LimitExceeded_init.at_)) ["self", "limit"] (sp_exc1 (He.ga K "LimitExceeded") "limit" "limitexceeded") := by
  refine FunD.ok (CX := CX0) (k := 0) T.F_LimitExceeded_init sc_LimitExceeded_init (fun vs H Q E h => ?_) (fun cdv A outer s H vs Q E hr h => ?_)
  · obtain ⟨a, y, rfl, _⟩ := h
    rfl
  · obtain ⟨a, y, rfl, ha, k⟩ := h
    refine ⟨_, PSs.nox (pss_cons (ps_est (newId := "ValueError.__new__") PySem.F.store_ValueError (pv 0) (pv 1))
    (pss_one (ps_est (newId := "ValueError.__new__") PySem.F.store_ValueError (pv 0) pe_str))), ?_⟩
    refine ⟨_, rfl, _, rfl, a, _, rfl, T.e_LimitExceeded, T.n_LimitExceeded_limit, .inl ⟨ha, fun d hd da => ?_⟩⟩
    exact ⟨_, rfl, a, _, rfl, T.e_LimitExceeded, T.n_LimitExceeded_word, .inr ⟨d, _, upd_same, hp_ne da upd_same, (by show 1 ≤ 900; decide), k d hd da⟩⟩
abbrev NS_NothingLeft_init : List Str := ["self"]
theorem sc_NothingLeft_init : FnScope NS_NothingLeft_init ["self"] (defScope s_NothingLeft_init) := ⟨rfl, rfl, rfl, by decide +kernel, rfl, by decide +kernel, by decide +kernel⟩
theorem bb_NothingLeft_init {w : World} {mg : Str → Option Value} {K : PySem.W.Frag} (T : Tx w mg K) : Binds K (fdOf K (He.fAd K d_NothingLeft_init.at_)) ["self"] [] := FunD.bindsN T.F_NothingLeft_init fun _ _ _ _ _ _ us hl => match us, hl with | [_], _ => rfl
theorem ok_NothingLeft_init (T : Tx w mg K) : FnOk P w K mg base CX0 1 (He.ma K (He.ga K "NothingLeft") "__init__") (fdOf K (He.fAd K d_NothingLeft_init.at_)) ["self"] (sp_exc0 (He.ga K "NothingLeft") "nothingleft") := by
  refine FunD.ok (CX := CX0) (k := 0) T.F_NothingLeft_init sc_NothingLeft_init (fun vs H Q E h => ?_) (fun cdv A outer s H vs Q E hr h => ?_)
  · obtain ⟨a, rfl, _⟩ := h
    rfl
  · obtain ⟨a, rfl, ha, k⟩ := h
    refine ⟨_, PSs.nox (pss_one (ps_est (newId := "ValueError.__new__") PySem.F.store_ValueError (pv 0) pe_str)), ?_⟩
    exact ⟨_, rfl, a, _, rfl, T.e_NothingLeft, T.n_NothingLeft_word, .inl ⟨ha, k⟩⟩
/-! ### raised -/
theorem mkE_end {H H2 : Hp} {a d : Addr} {fs : List (Str × V)} {C : Addr} {Q : XK} (na : H a = none) (nd : H d = none) (s : ∀ b o, b ≠ a → H b = some o → H2 b = some o) (k : ∀ H', Same H H' → H' d = some (.xd fs) → Q (.ref C) (some d) H') :
    Q (.ref C) (some d) (upd (del H2 a) d (.xd fs)) := by
  refine k _ (fun b o h => ?_) upd_same
  have hb : b ≠ a := ne_of_none h na
  rw [upd_ne (ne_of_none h nd), del_ne hb]
  exact s b o hb h
theorem r_exc1 {C : Addr} {f wd : Str} {ta : TA} {σ : L2.St} {H : Hp} {y : V} {Q : XK} (h : ∀ R : List V → Hp → Prop, R [y] H → ta σ H R) (k : ∀ d H', H d = none → Same H H' → H' d = some (.xd [("word", .str wd), (f, y)]) → Q (.ref C) (some d) H') : tMkE C (sp_exc1 C f wd) ta σ H Q := by
  refine h _ ⟨by show 1 ≤ 1000; decide, fun a na => ⟨a, y, rfl, upd_same, fun d hd da => ⟨rfl, d, _, ?_, upd_same, free_old hd, ?_⟩⟩⟩
  · exact hp_ne (Ne.symm da) upd_same
  · refine mkE_end na (free_old hd) (fun b o hb q => ?_) (fun H' s q => k d H' (free_old hd) s q)
    have hbd : b ≠ d := ne_of_none q (free_old hd)
    rw [upd_ne hbd, upd_ne hb, upd_ne hbd, upd_ne hb]
    exact q
theorem r_exc0 {C : Addr} {wd : Str} {σ : L2.St} {H : Hp} {Q : XK} (k : ∀ d H', H d = none → Same H H' → H' d = some (.xd [("word", .str wd)]) → Q (.ref C) (some d) H') : tMkE C (sp_exc0 C wd) tNil σ H Q := by
  refine ⟨by decide, fun a na => ⟨a, rfl, upd_same, fun d hd da => ⟨rfl, d, _, upd_same, hp_ne da upd_same, free_old hd, ?_⟩⟩⟩
  refine mkE_end na (free_old hd) (fun b o hb q => ?_) (fun H' s q => k d H' (free_old hd) s q)
  have hbd : b ≠ d := ne_of_none q (free_old hd)
  rw [upd_ne hb, upd_ne hbd, upd_ne hb]
  exact q
end
section
variable {P : Program} {w : World} {K : PySem.W.Frag} {mg : Str → Option Value} {base : Heap}
/-! ### the words of letters that the law uses -/
def okL (x : Str) : Prop := x = "ab" ∨ x = "bx" ∨ x = "a"
def sp_is_alphabet : Sp := fun vs H Q _ => ∃ x : Str, vs = [.str x] ∧ okL x ∧ ∀ H', Same H H' → Q (.bl true) H'
/-- a word in order, of small letters -/
structure OkA (x : Str) : Prop where
  l1 : 1 ≤ x.length
  l2 : x.length ≤ 3
  sz : x.cps.size = x.length
  low : ∀ (i : Nat) (c : Nat), x.cps[i]? = some c → c ∈ ("abcdefghijklmnopqrstuvwxyz" : Str).cps.toList
  up : ∀ i : Nat, i + 1 < x.length → ∃ c d : Nat, x.cps.toList[i]? = some c ∧ x.cps.toList[i + 1]? = some d ∧ c < d
theorem okA_of {x : Str} (h : okL x) : OkA x := by
  have low : ∀ {x : Str}, x.cps.toList.all (fun c => decide (c ∈ ("abcdefghijklmnopqrstuvwxyz" : Str).cps.toList)) = true → ∀ (i : Nat) (c : Nat), x.cps[i]? = some c → c ∈ ("abcdefghijklmnopqrstuvwxyz" : Str).cps.toList := fun h i c e => by
    have q := List.all_eq_true.mp h c (List.mem_of_getElem? (by rw [Array.getElem?_toList]; exact e))
    exact of_decide_eq_true q
  rcases h with rfl | rfl | rfl
  · refine ⟨by decide +kernel, by decide +kernel, by decide +kernel, low (by decide +kernel), fun i hi => ?_⟩
    have h2 : i + 1 < 2 := hi
    obtain rfl : i = 0 := by omega
    exact ⟨97, 98, rfl, rfl, by decide⟩
  · refine ⟨by decide +kernel, by decide +kernel, by decide +kernel, low (by decide +kernel), fun i hi => ?_⟩
    have h2 : i + 1 < 2 := hi
    obtain rfl : i = 0 := by omega
    exact ⟨98, 120, rfl, rfl, by decide⟩
  · refine ⟨by decide +kernel, by decide +kernel, by decide +kernel, low (by decide +kernel), fun i hi => ?_⟩
    have h2 : i + 1 < 1 := hi
    omega
abbrev NS_is_alphabet : List Str := ["letters", "sign", "place"]
theorem sc_is_alphabet : FnScope NS_is_alphabet ["letters"] (defScope s_is_alphabet) := ⟨rfl, rfl, rfl, by decide +kernel, rfl, by decide +kernel, by decide +kernel⟩
theorem bb_is_alphabet {w : World} {mg : Str → Option Value} {K : PySem.W.Frag} (T : Tx w mg K) : Binds K (fdOf K (He.fAd K d_is_alphabet.at_)) ["letters"] [] := FunD.bindsN T.F_is_alphabet fun _ _ _ _ _ _ us hl => match us, hl with | [_], _ => rfl
theorem ok_is_alphabet (T : Tx w mg K) : FnOk P w K mg base CX0 1 (He.ga K "is_alphabet") (fdOf K (He.fAd K d_is_alphabet.at_)) ["letters"] sp_is_alphabet := by
  refine FunD.ok (CX := CX0) (k := 0) T.F_is_alphabet sc_is_alphabet (fun vs H Q E h => ?_) (fun cdv A outer s H vs Q E hr h => ?_)
  · obtain ⟨a, rfl, _⟩ := h
    rfl
  · obtain ⟨x, rfl, hx, k⟩ := h
    have ⟨l1, l2, sz, low, up⟩ := okA_of hx
    have l3 : x.length ≤ sizeLine := Nat.le_trans l2 (by decide)
    refine ⟨_, PSs.nox (pss_cons (ps_if (PW.pt (pw_or (pt_not (pt_chain op_le op_le pe_int (pe_callB call_len_str (by rfl) T.f_len (by decide +kernel) (pa_cons (pv 0) pa_nil)) (pe_glob (v := .int 3) (by rfl) T.i_MAX_LETTERS.choose_spec ⟨_, rfl⟩))) (pw_or1 (pt_not (pt_val (pe_callB (k_all (K := K) rfl rfl) (by rfl) T.f_all (by decide +kernel) (pa_cons (pe_lc (own := [("sign", 1)]) (g := gName 1) (tt := tYes) rfl sc_is_alphabet.nd (pi_str (pv 0)) (blkOk_by (N := NS_is_alphabet) (sc := defScope s_is_alphabet) (by decide +kernel)) (fun _ _ _ _ _ => pg_name (i := 1) sc_is_alphabet.nd rfl (Or.inl rfl)) (fun _ _ _ _ _ => pts_nil) (fun _ _ _ _ _ => (pe_cmpR op_in_sign (pv 1) (pe_glob (v := .str "abcdefghijklmnopqrstuvwxyz") (by rfl) T.z_LOWERCASE.choose_spec ⟨_, rfl⟩) (by rfl)))) pa_nil))))))) (pss_one (ps_ret pe_bl)) pss_nil)
    (pss_one (ps_ret (pe_callB (k_all (K := K) rfl rfl) (by rfl) T.f_all (by decide +kernel) (pa_cons (pe_lc (own := [("place", 2)]) (g := gName 2) (tt := tYes) rfl sc_is_alphabet.nd (pi_range1 (by rfl) T.f_range (pa_cons (pe_op op_sub (pe_callB call_len_str (by rfl) T.f_len (by decide +kernel) (pa_cons (pv 0) pa_nil)) pe_int) pa_nil)) (blkOk_by (N := NS_is_alphabet) (sc := defScope s_is_alphabet) (by decide +kernel)) (fun _ _ _ _ _ => pg_name (i := 2) sc_is_alphabet.nd rfl (Or.inl rfl)) (fun _ _ _ _ _ => pts_nil) (fun _ _ _ _ _ => (pe_cmpR op_lt_str (pe_ix ix_str (pv 0) (pv 2) (fun _ _ => rfl)) (pe_ix ix_str (pv 0) (pe_op op_add (pv 2) pe_int) (fun _ _ => rfl)) (nomark _)))) pa_nil))))), ?_⟩
    walk_at "go"
    refine g_true walk_str (by rw [sz]; exact Nat.lt_of_le_of_lt l2 (by decide)) (fun _ _ => trivial) ?_ ?_
    · rintro i y H1 H2 N NF hi s ⟨rfl, c, e, rfl⟩ q
      unfold LcT
      walk_at "go"
      rw [decide_eq_true (low i c e)]
      exact q _ (Same.refl _)
    · intro D H1 s1 hD
      walk_at "go"
      refine r_all hD ?_
      walk_at "go"
      refine g_true walk_range (by rw [szl]; omega) (fun _ _ => trivial) ?_ ?_
      · rintro i y H2 H3 N NF hi s ⟨rfl, rfl⟩ q
        obtain ⟨c, d, ec, ed, hcd⟩ := up i (by omega)
        unfold LcT
        walk_at "go"
        refine r_ixS l3 (c := c) (by rw [Int.zero_add]; exact atI_nat ec) ?_
        walk_at "go"
        refine r_ixS l3 (c := d) (by rw [show (0 : Int) + i + 1 = ((i + 1 : Nat) : Int) by omega]; exact atI_nat ed) ?_
        walk_at "go"
        have lt : (⟨#[c]⟩ : Str).cps.toList < (⟨#[d]⟩ : Str).cps.toList := List.Lex.rel hcd
        rw [decide_eq_true lt]
        exact q _ (Same.refl _)
      · intro D2 H2 s2 hD2
        walk_at "go"
        exact r_all hD2 (k _ (s1.trans s2))
/-! ### need_alphabet -/
def sp_need_alphabet : Sp := fun vs H Q _ => ∃ x : Str, vs = [.str x] ∧ okL x ∧ ∀ H', Same H H' → Q .non H'
abbrev NS_need_alphabet : List Str := ["letters"]
theorem sc_need_alphabet : FnScope NS_need_alphabet ["letters"] (defScope s_need_alphabet) := ⟨rfl, rfl, rfl, by decide +kernel, rfl, by decide +kernel, by decide +kernel⟩
theorem bb_need_alphabet {w : World} {mg : Str → Option Value} {K : PySem.W.Frag} (T : Tx w mg K) : Binds K (fdOf K (He.fAd K d_need_alphabet.at_)) ["letters"] [] := FunD.bindsN T.F_need_alphabet fun _ _ _ _ _ _ us hl => match us, hl with | [_], _ => rfl
theorem ok_need_alphabet (T : Tx w mg K) : FnOk P w K mg base CX0 2 (He.ga K "need_alphabet") (fdOf K (He.fAd K d_need_alphabet.at_)) ["letters"] sp_need_alphabet := by
  refine FunD.ok (CX := CX0) (k := 1) T.F_need_alphabet sc_need_alphabet (fun vs H Q E h => ?_) (fun cdv A outer s H vs Q E hr h => ?_)
  · obtain ⟨a, rfl, _⟩ := h
    rfl
  · obtain ⟨x, rfl, hx, k⟩ := h
    have G_is_alphabet := ok_is_alphabet (P := P) (base := base) T
    have b_is_alphabet := bb_is_alphabet T
    refine ⟨_, PSs.nox (pss_one (ps_if (pt_not (pt_val (pe_call G_is_alphabet (hr.mono (by decide)) (by rfl) T.g_is_alphabet T.F_is_alphabet.kp b_is_alphabet .nil pass0 (pa_cons (pv 0) pa_nil)))) (pss_one ps_never) pss_nil)), ?_⟩
    walk_at "go"
    refine ⟨x, rfl, hx, fun H' s => ?_⟩
    walk_at "go"
    exact k H' s
/-! ### is_name -/
theorem one_of {c : Nat} {z : Str} {Q : VK} {H : Hp} (k : Q (.bl (decide (c ∈ z.cps.toList))) H) : ∃ (c1 : Nat) (z1 : Str), V.str ⟨#[c]⟩ = .str ⟨#[c1]⟩ ∧ V.str z = .str z1 ∧ Q (.bl (decide (c1 ∈ z1.cps.toList))) H := ⟨c, z, rfl, rfl, k⟩
end
section
variable {P : Program} {w : World} {K : PySem.W.Frag} {mg : Str → Option Value} {base : Heap}
/-! ### data: a machine's states, a machine, what it is told of -/
section
variable {H H' : Hp} {v : V} {a : Addr}
theorem dp_tup {ds : List PyData} (h : Dp K H v (.tuple ds)) : ∃ a vs, v = .ref a ∧ SqT K H a vs ∧ DpAll K H vs ds := by
  cases h with
  | tup s a => exact ⟨_, _, rfl, s, a⟩
theorem dp_lst {ds : List PyData} (h : Dp K H v (.list ds)) : ∃ a vs, v = .ref a ∧ SqL K H a vs ∧ DpAll K H vs ds := by
  cases h with
  | lst s a => exact ⟨_, _, rfl, s, a⟩
theorem dpAll_len : ∀ {vs : List V} {ds : List PyData}, DpAll K H vs ds → vs.length = ds.length
  | [], _, h => by
    cases h
    rfl
  | v :: vs, _, h => by
    cases h with
    | cons a b => rw [List.length_cons, List.length_cons, dpAll_len b]
theorem dpAll_get : ∀ {vs : List V} {ds : List PyData} {i : Nat} {v : V}, DpAll K H vs ds → vs[i]? = some v → ∃ d, ds[i]? = some d ∧ Dp K H v d
  | [], _, i, v, _, e => by simp at e
  | u :: vs, _, 0, v, h, e => by
    cases h with
    | cons a b =>
      obtain rfl : u = v := by simpa using e
      exact ⟨_, rfl, a⟩
  | u :: vs, _, i + 1, v, h, e => by
    cases h with
    | cons a b =>
      obtain ⟨d, q, z⟩ := dpAll_get b (show vs[i]? = some v from e)
      exact ⟨d, q, z⟩
theorem dpAll_at {vs : List V} {ds : List PyData} {i : Nat} {d : PyData} (h : DpAll K H vs ds) (e : ds[i]? = some d) : ∃ v, vs[i]? = some v ∧ Dp K H v d := by
  have l := dpAll_len h
  have hi : i < vs.length := by
    rw [l]
    exact (List.getElem?_eq_some_iff.mp e).1
  obtain ⟨d2, e2, q⟩ := dpAll_get h (List.getElem?_eq_getElem hi)
  rw [e] at e2
  cases e2
  exact ⟨_, List.getElem?_eq_getElem hi, q⟩
theorem dpAll_app : ∀ {vs us : List V} {ds es : List PyData}, DpAll K H vs ds → DpAll K H us es → DpAll K H (vs ++ us) (ds ++ es)
  | [], _, _, _, h, k => by
    cases h
    exact k
  | v :: vs, _, _, _, h, k => by
    cases h with
    | cons a b => exact .cons a (dpAll_app b k)
theorem dpAll_of {vs : List V} : ∀ {ds : List PyData}, vs.length = ds.length → (∀ (i : Nat) v d, vs[i]? = some v → ds[i]? = some d → Dp K H v d) → DpAll K H vs ds := by
  induction vs with
  | nil =>
    intro ds l _
    cases ds with
    | nil => exact .nil
    | cons d ds => simp at l
  | cons v vs ih =>
    intro ds l h
    cases ds with
    | nil => simp at l
    | cons d ds => exact .cons (h 0 v d rfl rfl) (ih (by simpa using l) fun i v d e1 e2 => h (i + 1) v d e1 e2)
end
def pairD (p : Int × Int) : PyData := .tuple [.int p.1, .int p.2]
def rowD (r : List (Int × Int)) : PyData := .tuple (r.map pairD)
def stsD (s : List (List (Int × Int))) : PyData := .list (s.map rowD)
structure Raw where
  l : Str
  st : List (List (Int × Int))
  s : Int
def rawD (r : Raw) : PyData := .tuple [.str r.l, stsD r.st, .int r.s]
structure OkRow (w n : Nat) (r : List (Int × Int)) : Prop where
  len : r.length = w
  ok : ∀ q ∈ r, 0 ≤ q.1 ∧ q.1 < n ∧ 0 ≤ q.2 ∧ q.2 ≤ 3
structure OkRaw (r : Raw) : Prop where
  l : okL r.l
  n1 : 1 ≤ r.st.length
  n5 : r.st.length ≤ 5
  row : ∀ q ∈ r.st, OkRow r.l.length r.st.length q
  s0 : 0 ≤ r.s
  s1 : r.s < r.st.length
theorem dp_pair {H : Hp} {v : V} {p : Int × Int} (h : Dp K H v (pairD p)) : ∃ a, v = .ref a ∧ SqT K H a [.int p.1, .int p.2] := by
  obtain ⟨a, vs, rfl, s, q⟩ := dp_tup h
  cases q with
  | cons a b =>
    cases a
    cases b with
    | cons a b =>
      cases a
      cases b
      exact ⟨_, rfl, s⟩
/-- a row's pair -/
theorem row_at {H : Hp} {vs : List V} {r : List (Int × Int)} {i : Nat} {v : V} (h : DpAll K H vs (r.map pairD)) (e : vs[i]? = some v) : ∃ p a, r[i]? = some p ∧ v = .ref a ∧ SqT K H a [.int p.1, .int p.2] := by
  obtain ⟨d, e2, q⟩ := dpAll_get h e
  rw [List.getElem?_map] at e2
  obtain ⟨p, e3, rfl⟩ := Option.map_eq_some_iff.mp e2
  obtain ⟨a, rfl, s⟩ := dp_pair q
  exact ⟨p, a, e3, rfl, s⟩
theorem sts_at {H : Hp} {vs : List V} {r : List (List (Int × Int))} {i : Nat} {v : V} (h : DpAll K H vs (r.map rowD)) (e : vs[i]? = some v) : ∃ p, r[i]? = some p ∧ Dp K H v (rowD p) := by
  obtain ⟨d, e2, q⟩ := dpAll_get h e
  rw [List.getElem?_map] at e2
  obtain ⟨p, e3, rfl⟩ := Option.map_eq_some_iff.mp e2
  exact ⟨p, e3, q⟩
def macF (l : Str) (t : Addr) (s : Int) : List (Str × V) := [("alphabet", .str l), ("table", .ref t), ("first", .int s)]
/-- a machine's object -/
def MacAt (K : PySem.W.Frag) (H : Hp) (p : Addr) (r : Raw) : Prop := ∃ dx t, H p = some (.ins (He.ga K "Machine") dx (macF r.l t r.s)) ∧ Dp K H (.ref t) (stsD r.st)
theorem mac_same {H H' : Hp} {p : Addr} {r : Raw} (s : Same H H') (h : MacAt K H p r) : MacAt K H' p r := by
  obtain ⟨dx, t, e, d⟩ := h
  exact ⟨dx, t, s _ _ e, dp_same s d⟩
theorem dp_raw {H : Hp} {v : V} {r : Raw} (h : Dp K H v (rawD r)) : ∃ a t, v = .ref a ∧ SqT K H a [.str r.l, .ref t, .int r.s] ∧ Dp K H (.ref t) (stsD r.st) := by
  obtain ⟨a, vs, rfl, s, q⟩ := dp_tup h
  cases q with
  | cons q1 q =>
    cases q1
    cases q with
    | cons q2 q =>
      obtain ⟨t, ws, rfl, s2, k2⟩ := dp_lst q2
      cases q with
      | cons q3 q =>
        cases q3
        cases q
        exact ⟨a, t, rfl, s, q2⟩
/-! ### rows of pairs; what no list holds -/
/-- a tuple -/
def TupO (o : HO) : Prop := (∃ xs, o = .tup xs) ∨ ∃ u xs, o = .frz u (.tup xs)
theorem TupO.lst {xs : List V} (h : TupO (.lst xs)) : False := by
  rcases h with ⟨_, h⟩ | ⟨_, _, h⟩ <;> cases h
/-- tuples stay -/
def Tp (H H' : Hp) : Prop := ∀ a o, H a = some o → TupO o → H' a = some o
theorem Tp.of {H H' : Hp} (s : Same H H') : Tp H H' := fun a o h _ => s a o h
theorem Tp.trans {H H1 H2 : Hp} (s : Tp H H1) (t : Tp H1 H2) : Tp H H2 := fun a o h n => t a o (s a o h n) n
theorem Tp.put {H : Hp} {a : Addr} {u o : HO} (e : H a = some u) (n : ¬ TupO u) : Tp H (upd H a o) := fun b v h q => hp_ne (fun z => by
  rw [z, e] at h
  exact n (Option.some.inj h ▸ q)) h
theorem Tp.lst {H : Hp} {a : Addr} {xs : List V} {o : HO} (e : H a = some (.lst xs)) : Tp H (upd H a o) := Tp.put e fun z => z.lst
theorem Tp.dic {H : Hp} {a : Addr} {xs : List (Key × V)} {o : HO} (e : H a = some (.dK xs)) : Tp H (upd H a o) := Tp.put e fun z => by
  rcases z with ⟨_, h⟩ | ⟨_, _, h⟩ <;> cases h
theorem Tp.frz {H : Hp} {a : Addr} {xs : List (Key × V)} {o : HO} {u : Obj} (e : H a = some (.frz u (.dK xs))) : Tp H (upd H a o) := Tp.put e fun z => by
  rcases z with ⟨_, h⟩ | ⟨_, _, h⟩ <;> cases h
theorem Tp.off {H H' : Hp} {b : Addr} {xs : List V} (e : H b = some (.lst xs)) (s : Off b H H') : Tp H H' := fun a u h n => s a u (fun z => by
  rw [z, e] at h
  exact (Option.some.inj h ▸ n : TupO (.lst xs)).lst) h
theorem sqT_tp {H H' : Hp} {a : Addr} {xs : List V} (s : Tp H H') (h : SqT K H a xs) : SqT K H' a xs := by
  rcases h with (h | ⟨o, h⟩) | h
  · exact .inl (.inl (s _ _ h (.inl ⟨_, rfl⟩)))
  · exact .inl (.inr ⟨o, s _ _ h (.inr ⟨_, _, rfl⟩)⟩)
  · exact .inr h
/-- a pair (t, x) -/
def PairV (K : PySem.W.Frag) (H : Hp) (v : V) (p : Int × Key) : Prop := ∃ c, v = .ref c ∧ SqT K H c [.int p.1, kV p.2]
def kD : Key → PyData
  | .inl i => .int i
  | .inr x => .str x
theorem dp_kV {H : Hp} : ∀ k : Key, Dp K H (kV k) (kD k)
  | .inl i => .int i
  | .inr x => .str x
def RowV (K : PySem.W.Frag) (H : Hp) (vs : List V) (r : List (Int × Key)) : Prop := vs.length = r.length ∧ ∀ (i : Nat) v p, vs[i]? = some v → r[i]? = some p → PairV K H v p
theorem pairV_tp {H H' : Hp} {v : V} {p : Int × Key} (s : Tp H H') (h : PairV K H v p) : PairV K H' v p := by
  obtain ⟨c, e, q⟩ := h
  exact ⟨c, e, sqT_tp s q⟩
theorem rowV_tp {H H' : Hp} {vs : List V} {r : List (Int × Key)} (s : Tp H H') (h : RowV K H vs r) : RowV K H' vs r := ⟨h.1, fun i v p e1 e2 => pairV_tp s (h.2 i v p e1 e2)⟩
def pairK (p : Int × Key) : PyData := .tuple [.int p.1, kD p.2]
def rowK (r : List (Int × Key)) : PyData := .tuple (r.map pairK)
theorem rowV_dps {H : Hp} {vs : List V} {r : List (Int × Key)} (h : RowV K H vs r) : DpAll K H vs (r.map pairK) := by
  refine dpAll_of (by rw [List.length_map]; exact h.1) fun i v d e1 e2 => ?_
  rw [List.getElem?_map] at e2
  obtain ⟨p, e3, rfl⟩ := Option.map_eq_some_iff.mp e2
  obtain ⟨c, rfl, q⟩ := h.2 i v p e1 e3
  exact .tup q (.cons (.int _) (.cons (dp_kV _) .nil))
def rowI (r : List (Int × Int)) : List (Int × Key) := r.map fun p => (p.1, .inl p.2)
theorem rowI_D (r : List (Int × Int)) : rowK (rowI r) = rowD r := by
  unfold rowK rowI rowD
  rw [List.map_map]
  rfl
theorem dps_rowV {H : Hp} {us : List V} {row : List (Int × Int)} (h : DpAll K H us (row.map pairD)) : RowV K H us (rowI row) := by
  refine ⟨by rw [dpAll_len h, List.length_map]; unfold rowI; rw [List.length_map], fun i v p e1 e2 => ?_⟩
  obtain ⟨z, a, e3, rfl, q⟩ := row_at h e1
  unfold rowI at e2
  rw [List.getElem?_map, e3] at e2
  cases e2
  exact ⟨a, rfl, q⟩
theorem rowV_I {H : Hp} {us : List V} {row : List (Int × Int)} {i : Nat} {v : V} (h : RowV K H us (rowI row)) (e : us[i]? = some v) : ∃ p a, row[i]? = some p ∧ v = .ref a ∧ SqT K H a [.int p.1, .int p.2] := by
  have hi : i < row.length := by
    have l := h.1
    unfold rowI at l
    rw [List.length_map] at l
    have := (List.getElem?_eq_some_iff.mp e).1
    omega
  obtain ⟨c, rfl, q⟩ := h.2 i v (row[i].1, .inl row[i].2) e (by unfold rowI; rw [List.getElem?_map, List.getElem?_eq_getElem hi]; rfl)
  exact ⟨row[i], c, List.getElem?_eq_getElem hi, rfl, q⟩
/-- h holds H' tuples and what lists are new since H -/
def NewL (H H' h : Hp) : Prop := Tp H' h ∧ ∀ a xs, H a = none → H' a = some (.lst xs) → h a = some (.lst xs)
theorem NewL.self {H H' : Hp} : NewL H H' H' := ⟨Tp.of (Same.refl _), fun _ _ _ h => h⟩
theorem NewL.same {H H' h : Hp} (s : Same H' h) : NewL H H' h := ⟨Tp.of s, fun a xs _ e => s _ _ e⟩
theorem rows_tp {H h : Hp} (s : Tp H h) {xs : List V} {r : List (List (Int × Int))} (d : DpAll K H xs (r.map rowD)) : DpAll K h xs (r.map rowD) := by
  refine dpAll_of (dpAll_len d) fun i v e e1 e2 => ?_
  obtain ⟨row, er, q⟩ := sts_at d e1
  rw [List.getElem?_map, er] at e2
  cases e2
  obtain ⟨a, us, rfl, q1, q2⟩ := dp_tup q
  have z := rowV_dps (rowV_tp s (dps_rowV q2))
  have w := rowI_D row
  unfold rowK at w
  rw [← w]
  exact .tup (sqT_tp s q1) z
end
section
variable {P : Program} {w : World} {K : PySem.W.Frag} {mg : Str → Option Value} {base : Heap}
/-! ### is_state -/
def sp_is_state (K : PySem.W.Frag) : Sp := fun vs H Q _ => ∃ (v : V) (w n : Nat) (row : List (Int × Int)), vs = [v, .int w, .int n] ∧ Dp K H v (rowD row) ∧ OkRow w n row ∧ w ≤ 3 ∧ ∀ H', Same H H' → Q (.bl true) H'
abbrev NS_is_state : List Str := ["state", "width", "count", "pair", "target", "priority"]
theorem sc_is_state : FnScope NS_is_state ["state", "width", "count"] (defScope s_is_state) := ⟨rfl, rfl, rfl, by decide +kernel, rfl, by decide +kernel, by decide +kernel⟩
theorem bb_is_state {w : World} {mg : Str → Option Value} {K : PySem.W.Frag} (T : Tx w mg K) : Binds K (fdOf K (He.fAd K d_is_state.at_)) ["state", "width", "count"] [] := FunD.bindsN T.F_is_state fun _ _ _ _ _ _ us hl => match us, hl with | [_, _, _], _ => rfl
theorem ok_is_state (T : Tx w mg K) : FnOk P w K mg base CX0 1 (He.ga K "is_state") (fdOf K (He.fAd K d_is_state.at_)) ["state", "width", "count"] (sp_is_state K) := by
  refine FunD.ok (CX := CX0) (k := 0) T.F_is_state sc_is_state (fun vs H Q E h => ?_) (fun cdv A outer s H vs Q E hr h => ?_)
  · obtain ⟨v, w, n, row, rfl, _⟩ := h
    rfl
  · obtain ⟨v, w, n, row, rfl, hd, ok, w3, k⟩ := h
    obtain ⟨a, xs, rfl, hs, hds⟩ := dp_tup hd
    have hl : xs.length = row.length := by rw [dpAll_len hds, List.length_map]
    obtain rfl : w = xs.length := by rw [hl, ok.len]
    refine ⟨_, PSs.nox (pss_cons (ps_if (PW.pt (pw_or (pt_cmpR op_ne (pe_callB (k_len (K := K) rfl) (by rfl) T.f_len (by decide +kernel) (pa_cons (pv 0) pa_nil)) (pv 1) (nomark _)) (pw_or1 (pt_not (pt_val (pe_callB (k_all (K := K) rfl rfl) (by rfl) T.f_all (by decide +kernel) (pa_cons (pe_lc (own := [("pair", 3)]) (g := gName 3) (tt := tYes) rfl sc_is_state.nd (k_piT (K := K) rfl (pv 0)) (blkOk_by (N := NS_is_state) (sc := defScope s_is_state) (by decide +kernel)) (fun _ _ _ _ _ => pg_name (i := 3) sc_is_state.nd rfl (Or.inl rfl)) (fun _ _ _ _ _ => pts_nil) (fun _ _ _ _ _ => (pe_cmpR op_eq (pe_callB (k_len (K := K) rfl) (by rfl) T.f_len (by decide +kernel) (pa_cons (pv 3) pa_nil)) pe_int (nomark _)))) pa_nil))))))) (pss_one (ps_ret pe_bl)) pss_nil)
    (pss_one (ps_ret (pe_callB (k_all (K := K) rfl rfl) (by rfl) T.f_all (by decide +kernel) (pa_cons (pe_lc (own := [("target", 4), ("priority", 5)]) (g := gTup K 2 (gCons (gName 4) ( gCons (gName 5) ( gNil)))) (tt := tYes) rfl sc_is_state.nd (k_piT (K := K) rfl (pv 0)) (blkOk_by (N := NS_is_state) (sc := defScope s_is_state) (by decide +kernel)) (fun _ _ _ _ _ => pg_tup rfl (pgs_cons (pg_name (i := 4) sc_is_state.nd rfl (Or.inl rfl)) (pgs_cons (pg_name (i := 5) sc_is_state.nd rfl (Or.inl rfl)) pgs_nil))) (fun _ _ _ _ _ => pts_nil) (fun _ _ _ _ _ => (pe_and (pe_chain op_le op_lt pe_int (pv 4) (pv 2)) (pe_one (pe_chain op_le op_le pe_int (pv 5) (pe_glob (v := .int 3) (by rfl) T.i_MAX_PRIORITY.choose_spec ⟨_, rfl⟩)))))) pa_nil))))), ?_⟩
    walk_at "go"
    refine g_true walk_tup (by rw [szl]; omega) (fun H' s => sqT_same s hs) ?_ ?_
    · rintro i y H1 H2 N NF hi s ⟨rfl, e⟩ q
      obtain ⟨p, b, ep, rfl, hb⟩ := row_at hds e
      have hb1 := sqT_same s hb
      unfold LcT
      walk_at "go"
      exact q _ (Same.refl _)
    · intro D H1 s1 hD
      walk_at "go"
      refine r_all hD ?_
      walk_at "go"
      refine g_true walk_tup (by rw [szl]; omega) (fun H' s => sqT_same (s1.trans s) hs) ?_ ?_
      · rintro i y H2 H3 N NF hi s ⟨rfl, e⟩ q
        obtain ⟨p, b, ep, rfl, hb⟩ := row_at hds e
        obtain ⟨o1, o2, o3, o4⟩ := ok.ok p (List.mem_of_getElem? ep)
        have hb1 := sqT_same (s1.trans s) hb
        unfold LcT
        refine r_gtup hb1 rfl ?_
        walk_at "go"
        rw [decide_eq_true o4]
        exact q _ (Same.refl _)
      · intro D2 H2 s2 hD2
        walk_at "go"
        exact r_all hD2 (k _ (s1.trans s2))
/-! ### Machine -/
/-- start: left out, written -/
theorem bz_Machine (T : Tx w mg K) : ∃ ds, Vals [V.int 0] ds ∧ Binds K (fdOf K (He.fAd K d_Machine_init.at_)) ["self", "letters", "states", "start"] ds :=
  FunD.binds0 T.F_Machine_init 3 (by intro h; cases h) rfl fun D doc pm an cdv ct us ks l1 l2 => match us, l1, ks, l2 with | [_, _, _], _, [_], _ => ⟨_, _, _, _, _, _, rfl, rfl, rfl⟩
theorem kz_Machine (T : Tx w mg K) : ∃ mv : List Value, KBn K (fdOf K (He.fAd K d_Machine_init.at_)) ["self", "letters", "states", "start"] 3 ["start"] (fun us ws => us ++ ws) (fun vs zs => vs ++ zs) := by
  obtain ⟨mv, h⟩ := FunD.kbinds0 (ps := ["self", "letters", "states", "start"]) T.F_Machine_init 3 ["start"] [] (fun us _ ws => us ++ ws) (by intro h; cases h) (by intro q h; cases h) (fun a _ b => a.append b) (fun D doc pm an cdv ct us mv ws l1 l2 l3 => match us, l1, mv, l2, ws, l3 with | [_, _, _], _, [], _, [_], _ => rfl)
  exact ⟨mv, h⟩
def sp_Machine_init (K : PySem.W.Frag) : Sp := fun vs H Q _ => ∃ (a dx : Addr) (v : V) (r : Raw), vs = [.ref a, .str r.l, v, .int r.s] ∧ H a = some (.ins (He.ga K "Machine") dx []) ∧ Dp K H v (stsD r.st) ∧ OkRaw r ∧ ∀ H', Off a H H' → MacAt K H' a r → Q .non H'
abbrev NS_Machine_init : List Str := ["self", "letters", "states", "start", "number", "state"]
theorem sc_Machine_init : FnScope NS_Machine_init ["self", "letters", "states", "start"] (defScope s_Machine_init) := ⟨rfl, rfl, rfl, by decide +kernel, rfl, by decide +kernel, by decide +kernel⟩
theorem ok_Machine_init (T : Tx w mg K) : FnOk P w K mg base CX0 3 (He.ma K (He.ga K "Machine") "__init__") (fdOf K (He.fAd K d_Machine_init.at_)) ["self", "letters", "states", "start"] (sp_Machine_init K) := by
  refine FunD.ok (CX := CX0) (k := 2) T.F_Machine_init sc_Machine_init (fun vs H Q E h => ?_) (fun cdv A outer s H vs Q E hr h => ?_)
  · obtain ⟨a, dx, v, r, rfl, _⟩ := h
    rfl
  · obtain ⟨a, dx, v, r, rfl, ha, hd, ok, k⟩ := h
    obtain ⟨t, xs, rfl, hs, hds⟩ := dp_lst hd
    have hl : xs.length = r.st.length := by rw [dpAll_len hds, List.length_map]
    have ll := okA_of ok.l
    have n1 := ok.n1
    have n5 := ok.n5
    have s0 := ok.s0
    have s1 := ok.s1
    have l3 : r.l.length ≤ sizeLine := Nat.le_trans ll.l2 (by decide)
    have cM := T.c_Machine
    have nA := T.n_Machine_alphabet
    have nT := T.n_Machine_table
    have nF := T.n_Machine_first
    have G_is_state := ok_is_state (P := P) (base := base) T
    have b_is_state := bb_is_state T
    have G_need_alphabet := ok_need_alphabet (P := P) (base := base) T
    have b_need_alphabet := bb_need_alphabet T
    refine ⟨_, PSs.nox (pss_cons (ps_expr (pe_call G_need_alphabet (hr.mono (by decide)) (by rfl) T.g_need_alphabet T.F_need_alphabet.kp b_need_alphabet .nil pass0 (pa_cons (pv 1) pa_nil)))
    (pss_cons (ps_if (pt_cmpR op_gt (pe_callB (k_len (K := K) rfl) (by rfl) T.f_len (by decide +kernel) (pa_cons (pv 2) pa_nil)) (pe_glob (v := .int 5) (by rfl) T.i_MAX_STATES.choose_spec ⟨_, rfl⟩) (nomark _)) (pss_one ps_never) pss_nil)
    (pss_cons (ps_if (pt_cmpR op_eq (pe_callB (k_len (K := K) rfl) (by rfl) T.f_len (by decide +kernel) (pa_cons (pv 2) pa_nil)) pe_int (nomark _)) (pss_one ps_never) pss_nil)
    (pss_cons (ps_for PassesOwn.never rfl (pi_enum (by rfl) T.f_enumerate (pa_cons (pv 2) pa_nil)) (pg_tup rfl (pgs_cons (pg_name (i := 4) sc_Machine_init.nd rfl (.inl rfl)) (pgs_cons (pg_name (i := 5) sc_Machine_init.nd rfl (.inl rfl)) pgs_nil))) (pss_one (ps_if (pt_not (pt_val (pe_call G_is_state (hr.mono (by decide)) (by rfl) T.g_is_state T.F_is_state.kp b_is_state .nil pass0 (pa_cons (pv 5) (pa_cons (pe_callB call_len_str (by rfl) T.f_len (by decide +kernel) (pa_cons (pv 1) pa_nil)) (pa_cons (pe_callB (k_len (K := K) rfl) (by rfl) T.f_len (by decide +kernel) (pa_cons (pv 2) pa_nil)) pa_nil)))))) (pss_one ps_never) pss_nil)))
    (pss_cons (ps_if (pt_not (pt_chain op_le op_lt pe_int (pv 3) (pe_callB (k_len (K := K) rfl) (by rfl) T.f_len (by decide +kernel) (pa_cons (pv 2) pa_nil)))) (pss_one ps_never) pss_nil)
    (pss_cons (ps_fld (pv 0) (pv 1) rfl)
    (pss_cons (ps_fld (pv 0) (pe_lc (own := [("state", 5)]) (g := gName 5) (tt := tYes) rfl sc_Machine_init.nd (k_piL (K := K) rfl (pv 2)) (blkOk_by (N := NS_Machine_init) (sc := defScope s_Machine_init) (by decide +kernel)) (fun _ _ _ _ _ => pg_name (i := 5) sc_Machine_init.nd rfl (Or.inl rfl)) (fun _ _ _ _ _ => pts_nil) (fun _ _ _ _ _ => (pe_callTy (k_tupOf (K := K) rfl) (by rfl) T.f_tuple (by decide +kernel) (pa_cons (pv 5) pa_nil)))) rfl)
    (pss_one (ps_fld (pv 0) (pv 3) rfl))))))))), ?_⟩
    walk_at "go"
    refine ⟨r.l, rfl, ok.l, fun H1 t1 => ?_⟩
    walk_at "go"
    have hs1 := sqL_same t1 hs
    have hd1 := dp_same t1 hd
    refine g_for walk_enum (fun _ σ' H' => Same H1 H' ∧ ∃ x y, σ' = [some (.ref a), some (.str r.l), some (.ref t), some (.int r.s), x, y]) ⟨Same.refl _, _, _, rfl⟩ (fun _ _ H' _ h => sqL_same h.1 hs1) ?_ ?_
    · rintro i x σ' H2 H3 hi ⟨t2, x0, y0, rfl⟩ ⟨p, u, v, rfl, hp, rfl, eu, ev⟩
      cases eu
      obtain ⟨row, er, hrow⟩ := sts_at hds ev
      have t3 : Same H1 (upd H2 p (.tup [.int (i : Nat), v])) := K70.Same.new t2 hp
      refine r_gtup (SqT.of upd_same) rfl ?_
      walk_at "go"
      have el : xs.length = r.st.length := hl
      refine ⟨v, r.l.length, xs.length, row, rfl, dp_same (t1.trans t3) hrow, by rw [el]; exact ok.row row (List.mem_of_getElem? er), ll.l2, fun H4 t4 => ?_⟩
      walk_at "go"
      exact ⟨t3.trans t4, _, _, rfl⟩
    · rintro σ' H2 ⟨t2, x0, y0, rfl⟩
      walk_at "go"
      have ha2 := (t1.trans t2) _ _ ha
      have ea : (upd H2 a (HO.ins (He.ga K "Machine") dx (putF "alphabet" (V.str r.l) []))) a = some (HO.ins (He.ga K "Machine") dx (putF "alphabet" (V.str r.l) [])) := upd_same
      have hda : DpAll K (upd H2 a (HO.ins (He.ga K "Machine") dx (putF "alphabet" (V.str r.l) []))) xs (r.st.map rowD) := dps_ls (Ls.put ha2) (dps_same (t1.trans t2) hds)
      refine g_list xs rfl walk_list (by rw [szl]; omega) (fun H' s => sqL_same s (sqL_ls (Ls.put ha2) (sqL_same (t1.trans t2) hs))) ?_ ?_
      · rintro i x y H3 H4 N NF hi ey s ⟨rfl, e⟩ q
        obtain rfl : y = x := by
          rw [ey] at e
          exact Option.some.inj e
        obtain ⟨row, er, hrow⟩ := sts_at hda ey
        obtain ⟨b, ys, rfl, hb, _⟩ := dp_tup hrow
        have hb4 := sqT_same s hb
        unfold LcT
        walk_at "go"
        exact q _ (Same.refl _)
      · intro D H3 hD s hD3
        have ha3 := hp_same s ea
        walk_at "go"
        have hDa : D ≠ a := ne_of hD3 ha3 (by intro h; cases h)
        refine k _ (fun b o hb h => hp_ne hb (hp_ne hb (s _ _ (hp_ne hb ((t1.trans t2) _ _ h))))) ⟨dx, D, by rw [upd_same]; rfl, .lst (SqL.of (hp_ne hDa (hp_ne hDa hD3))) ?_⟩
        exact dps_ls (Ls.put (C := He.ga K "Machine") (dx := dx) (fs := putF "table" (V.ref D) (putF "alphabet" (V.str r.l) [])) upd_same) (dps_ls (Ls.put ha3) (dps_same s hda))
def sp_Machine_letters (K : PySem.W.Frag) : Sp := fun vs H Q _ => ∃ (p : Addr) (r : Raw), vs = [.ref p] ∧ MacAt K H p r ∧ Q (.str r.l) H
abbrev NS_Machine_letters : List Str := ["self"]
theorem sc_Machine_letters : FnScope NS_Machine_letters ["self"] (defScope s_Machine_letters) := ⟨rfl, rfl, rfl, by decide +kernel, rfl, by decide +kernel, by decide +kernel⟩
theorem bb_Machine_letters {w : World} {mg : Str → Option Value} {K : PySem.W.Frag} (T : Tx w mg K) : Binds K (fdOf K (He.fAd K d_Machine_letters.at_)) ["self"] [] := FunD.bindsN T.F_Machine_letters fun _ _ _ _ _ _ us hl => match us, hl with | [_], _ => rfl
theorem ok_Machine_letters (T : Tx w mg K) : FnOk P w K mg base CX0 1 (He.ma K (He.ga K "Machine") "letters") (fdOf K (He.fAd K d_Machine_letters.at_)) ["self"] (sp_Machine_letters K) := by
  refine FunD.ok (CX := CX0) (k := 0) T.F_Machine_letters sc_Machine_letters (fun vs H Q E h => ?_) (fun cdv A outer s H vs Q E hr h => ?_)
  · obtain ⟨p, r, rfl, _⟩ := h
    rfl
  · obtain ⟨p, r, rfl, ⟨dx, t, hp, hd⟩, k⟩ := h
    have cM := T.c_Machine
    have nA := T.n_Machine_alphabet
    refine ⟨_, PSs.nox (pss_one (ps_ret (k_fld (K := K) rfl (pv 0) rfl))), ?_⟩
    walk_at "go"
    exact k
def sp_Machine_start (K : PySem.W.Frag) : Sp := fun vs H Q _ => ∃ (p : Addr) (r : Raw), vs = [.ref p] ∧ MacAt K H p r ∧ Q (.int r.s) H
abbrev NS_Machine_start : List Str := ["self"]
theorem sc_Machine_start : FnScope NS_Machine_start ["self"] (defScope s_Machine_start) := ⟨rfl, rfl, rfl, by decide +kernel, rfl, by decide +kernel, by decide +kernel⟩
theorem bb_Machine_start {w : World} {mg : Str → Option Value} {K : PySem.W.Frag} (T : Tx w mg K) : Binds K (fdOf K (He.fAd K d_Machine_start.at_)) ["self"] [] := FunD.bindsN T.F_Machine_start fun _ _ _ _ _ _ us hl => match us, hl with | [_], _ => rfl
theorem ok_Machine_start (T : Tx w mg K) : FnOk P w K mg base CX0 1 (He.ma K (He.ga K "Machine") "start") (fdOf K (He.fAd K d_Machine_start.at_)) ["self"] (sp_Machine_start K) := by
  refine FunD.ok (CX := CX0) (k := 0) T.F_Machine_start sc_Machine_start (fun vs H Q E h => ?_) (fun cdv A outer s H vs Q E hr h => ?_)
  · obtain ⟨p, r, rfl, _⟩ := h
    rfl
  · obtain ⟨p, r, rfl, ⟨dx, t, hp, hd⟩, k⟩ := h
    have cM := T.c_Machine
    have nA := T.n_Machine_first
    refine ⟨_, PSs.nox (pss_one (ps_ret (k_fld (K := K) rfl (pv 0) rfl))), ?_⟩
    walk_at "go"
    exact k
def sp_Machine_states (K : PySem.W.Frag) : Sp := fun vs H Q _ => ∃ (p : Addr) (r : Raw), vs = [.ref p] ∧ MacAt K H p r ∧ ∀ l xs H', Same H H' → H' l = some (.lst xs) → H l = none → DpAll K H' xs (r.st.map rowD) → Q (.ref l) H'
abbrev NS_Machine_states : List Str := ["self"]
theorem sc_Machine_states : FnScope NS_Machine_states ["self"] (defScope s_Machine_states) := ⟨rfl, rfl, rfl, by decide +kernel, rfl, by decide +kernel, by decide +kernel⟩
theorem bb_Machine_states {w : World} {mg : Str → Option Value} {K : PySem.W.Frag} (T : Tx w mg K) : Binds K (fdOf K (He.fAd K d_Machine_states.at_)) ["self"] [] := FunD.bindsN T.F_Machine_states fun _ _ _ _ _ _ us hl => match us, hl with | [_], _ => rfl
theorem ok_Machine_states (T : Tx w mg K) : FnOk P w K mg base CX0 1 (He.ma K (He.ga K "Machine") "states") (fdOf K (He.fAd K d_Machine_states.at_)) ["self"] (sp_Machine_states K) := by
  refine FunD.ok (CX := CX0) (k := 0) T.F_Machine_states sc_Machine_states (fun vs H Q E h => ?_) (fun cdv A outer s H vs Q E hr h => ?_)
  · obtain ⟨p, r, rfl, _⟩ := h
    rfl
  · obtain ⟨p, r, rfl, ⟨dx, t, hp, hd⟩, k⟩ := h
    obtain ⟨t, xs, e, hs, hds⟩ := dp_lst hd
    cases e
    have cM := T.c_Machine
    have nA := T.n_Machine_table
    refine ⟨_, PSs.nox (pss_one (ps_ret (pe_callTy (k_listOf (K := K) rfl) (by rfl) T.f_list (by decide +kernel) (pa_cons (k_fld (K := K) rfl (pv 0) rfl) pa_nil)))), ?_⟩
    walk_at "go"
    intro l hl
    exact k l xs _ (Same.new1 hl) upd_same hl (dps_same (Same.new1 hl) hds)
/-! ### what the law asks of a machine -/
def sp_l_read (K : PySem.W.Frag) : Sp := fun vs H Q _ => ∃ (p : Addr) (r : Raw), vs = [.ref p] ∧ MacAt K H p r ∧ ∀ v H', Same H H' → (∀ h, NewL H H' h → Dp K h v (rawD r)) → Q v H'
abbrev NS_l_read : List Str := ["_law_machine"]
theorem sc_l_read : FnScope NS_l_read ["_law_machine"] (defScope s_l_read) := ⟨rfl, rfl, rfl, by decide +kernel, rfl, by decide +kernel, by decide +kernel⟩
theorem bb_l_read {w : World} {mg : Str → Option Value} {K : PySem.W.Frag} (T : Tx w mg K) : Binds K (fdOf K (He.fAd K d_l_read.at_)) ["_law_machine"] [] := FunD.bindsN T.F_l_read fun _ _ _ _ _ _ us hl => match us, hl with | [_], _ => rfl
theorem ok_l_read (T : Tx w mg K) : FnOk P w K mg base CX0 2 (He.ga K "_law_read") (fdOf K (He.fAd K d_l_read.at_)) ["_law_machine"] (sp_l_read K) := by
  refine FunD.ok (CX := CX0) (k := 1) T.F_l_read sc_l_read (fun vs H Q E h => ?_) (fun cdv A outer s H vs Q E hr h => ?_)
  · obtain ⟨p, r, rfl, _⟩ := h
    rfl
  · obtain ⟨p, r, rfl, hm, k⟩ := h
    have ⟨dx, t, hp, hd⟩ := hm
    have G_Machine_letters := ok_Machine_letters (P := P) (base := base) T
    have b_Machine_letters := bb_Machine_letters T
    have G_Machine_start := ok_Machine_start (P := P) (base := base) T
    have b_Machine_start := bb_Machine_start T
    have G_Machine_states := ok_Machine_states (P := P) (base := base) T
    have b_Machine_states := bb_Machine_states T
    refine ⟨_, PSs.nox (pss_one (ps_ret (pe_tup (pa_cons (pe_meth0 (pv 0) T.c_Machine T.m_Machine_letters G_Machine_letters (hr.mono (by decide)) b_Machine_letters .nil pass0) (pa_cons (pe_meth0 (pv 0) T.c_Machine T.m_Machine_states G_Machine_states (hr.mono (by decide)) b_Machine_states .nil pass0) (pa_cons (pe_meth0 (pv 0) T.c_Machine T.m_Machine_start G_Machine_start (hr.mono (by decide)) b_Machine_start .nil pass0) pa_nil)))))), ?_⟩
    walk_at "go"
    refine ⟨p, r, rfl, hm, ?_⟩
    walk_at "go"
    refine ⟨p, r, rfl, hm, fun l xs H1 s1 hl hl0 hx => ?_⟩
    walk_at "go"
    refine ⟨p, r, rfl, mac_same s1 hm, ?_⟩
    walk_at "go"
    intro q hq
    exact k _ _ (K70.Same.new s1 hq) fun h nl => .tup (sqT_tp nl.1 (SqT.of upd_same)) (.cons (.str _) (.cons (.lst (SqL.of (nl.2 _ _ hl0 (hp_old hq hl))) (rows_tp nl.1 (dps_same (Same.new1 hq) hx))) (.cons (.int _) .nil)))
def sp_l_made (K : PySem.W.Frag) : Sp := fun vs H Q _ => ∃ (v : V) (r : Raw), vs = [v] ∧ Dp K H v (rawD r) ∧ OkRaw r ∧ ∀ p H', Same H H' → H p = none → MacAt K H' p r → Q (.ref p) H'
abbrev NS_l_made : List Str := ["_law_raw_here"]
theorem sc_l_made : FnScope NS_l_made ["_law_raw_here"] (defScope s_l_made) := ⟨rfl, rfl, rfl, by decide +kernel, rfl, by decide +kernel, by decide +kernel⟩
theorem bb_l_made {w : World} {mg : Str → Option Value} {K : PySem.W.Frag} (T : Tx w mg K) : Binds K (fdOf K (He.fAd K d_l_made.at_)) ["_law_raw_here"] [] := FunD.bindsN T.F_l_made fun _ _ _ _ _ _ us hl => match us, hl with | [_], _ => rfl
theorem ok_l_made (T : Tx w mg K) : FnOk P w K mg base CX0 5 (He.ga K "_law_made") (fdOf K (He.fAd K d_l_made.at_)) ["_law_raw_here"] (sp_l_made K) := by
  refine FunD.ok (CX := CX0) (k := 4) T.F_l_made sc_l_made (fun vs H Q E h => ?_) (fun cdv A outer s H vs Q E hr h => ?_)
  · obtain ⟨v, r, rfl, _⟩ := h
    rfl
  · obtain ⟨v, r, rfl, hd, ok, k⟩ := h
    obtain ⟨a, t, rfl, hs, ht⟩ := dp_raw hd
    have G_Machine_init := ok_Machine_init (P := P) (base := base) T
    obtain ⟨mv_Machine, kb_Machine_init⟩ := kz_Machine T
    refine ⟨_, PSs.nox (pss_one (ps_ret (pe_makeK T.k_Machine G_Machine_init (hr.mono (by decide)) (by rfl) T.g_Machine kb_Machine_init pass0 (pa_cons (pe_ix (k_ixT (K := K) rfl) (pv 0) pe_int (fun _ _ => rfl)) (pa_cons (pe_callTy (k_listOf (K := K) rfl) (by rfl) T.f_list (by decide +kernel) (pa_cons (pe_ix (k_ixT (K := K) rfl) (pv 0) pe_int (fun _ _ => rfl)) pa_nil)) pa_nil)) (pk_cons (pe_ix (k_ixT (K := K) rfl) (pv 0) pe_int (fun _ _ => rfl)) pk_nil)))), ?_⟩
    obtain ⟨t, xs, e, hx, hxs⟩ := dp_lst ht
    cases e
    walk_at "go"
    intro l hl
    walk_at "go"
    refine ⟨rfl, rfl, fun x dx hx0 hd0 hne => ?_⟩
    have S := (K70.Same.new1 (o := .lst xs) hl).trans (mk_same (o := .own x) (u := .ins (He.ga K "Machine") dx []) hx0 hd0 hne)
    refine ⟨x, dx, .ref l, r, rfl, upd_same, .lst (SqL.of (mk_same hx0 hd0 hne _ _ upd_same)) (dps_same S hxs), ok, fun H' off hm => ⟨rfl, k x H' (off_same S (free_old hx0) off) (free_old hx0) hm⟩⟩
end
section
variable {P : Program} {w : World} {K : PySem.W.Frag} {mg : Str → Option Value} {base : Heap}
/-! ### the bag that the law draws from -/
def BagS (H : Hp) (b l0 : Addr) (ns : List Int) (c : Nat) (x s : Int) : Prop := H b = some (.lst [.ref l0, .int c, .int x, .int s]) ∧ H l0 = some (.lst (ns.map V.int)) ∧ 0 ≤ s ∧ s < 2147483648
def BagAt (H : Hp) (b l0 : Addr) : Prop := ∃ (ns : List Int) (c : Nat) (x s : Int), l0 ≠ b ∧ ns.length < 100 ∧ BagS H b l0 ns c x s
def sp_l_pull : Sp := fun vs H Q _ => ∃ (b l0 : Addr) (n : Int), vs = [.ref b, .int n] ∧ 1 ≤ n ∧ n < 1000 ∧ BagAt H b l0 ∧ ∀ (d : Int) H', 0 ≤ d → d < n → BagAt H' b l0 → Off b H H' → Q (.int d) H'
abbrev NS_l_pull : List Str := ["_law_bag_here", "_law_count", "_law_cell", "_law_digit", "_law_mixed"]
theorem sc_l_pull : FnScope NS_l_pull ["_law_bag_here", "_law_count"] (defScope s_l_pull) := ⟨rfl, rfl, rfl, by decide +kernel, rfl, by decide +kernel, by decide +kernel⟩
theorem bb_l_pull {w : World} {mg : Str → Option Value} {K : PySem.W.Frag} (T : Tx w mg K) : Binds K (fdOf K (He.fAd K d_l_pull.at_)) ["_law_bag_here", "_law_count"] [] := FunD.bindsN T.F_l_pull fun _ _ _ _ _ _ us hl => match us, hl with | [_, _], _ => rfl
theorem ok_l_pull (T : Tx w mg K) : FnOk P w K mg base CX0 1 (He.ga K "_law_pull") (fdOf K (He.fAd K d_l_pull.at_)) ["_law_bag_here", "_law_count"] sp_l_pull := by
  refine FunD.ok (CX := CX0) (k := 0) T.F_l_pull sc_l_pull (fun vs H Q E h => ?_) (fun cdv A outer s H vs Q E hr h => ?_)
  · obtain ⟨b, l0, n, rfl, _⟩ := h
    rfl
  · obtain ⟨b, l0, n, rfl, hn, hn2, ⟨ns, c, x, z, hlb, h100, hb, hl, z0, z1⟩, k⟩ := h
    refine ⟨_, PSs.nox (pss_cons (ps_if (PW.pt (pw_and (pt_cmpR op_lt (pe_ix (k_ixL (K := K) rfl) (pv 0) pe_int (fun _ _ => rfl)) (pv 1) (nomark _)) (pw_and1 (pt_cmpR op_lt (pe_ix (k_ixL (K := K) rfl) (pv 0) pe_int (fun _ _ => rfl)) (pe_callB (k_len (K := K) rfl) (by rfl) T.f_len (by decide +kernel) (pa_cons (pe_ix (k_ixL (K := K) rfl) (pv 0) pe_int (fun _ _ => rfl)) pa_nil)) (nomark _))))) (pss_cons (ps_set (i := 2) sc_l_pull.nd rfl (.inl rfl) (pe_ix (k_ixL (K := K) rfl) (pe_ix (k_ixL (K := K) rfl) (pv 0) pe_int (fun _ _ => rfl)) (pe_ix (k_ixL (K := K) rfl) (pv 0) pe_int (fun _ _ => rfl)) (fun _ _ => rfl)))
    (pss_cons (ps_asg (pe_op op_add (pe_ix (k_ixL (K := K) rfl) (pv 0) pe_int (fun _ _ => rfl)) pe_int) (pg_sub (pv 0) pe_int set_list))
    (pss_cons (ps_asg pe_int (pg_sub (pv 0) pe_int set_list))
    (pss_one (ps_if (pt_cmpR op_ge (pv 2) (pe_op op_pow pe_int pe_int) (nomark _)) (pss_one (ps_asg (pv 2) (pg_sub (pv 0) pe_int set_list))) (pss_one (ps_asg (pe_op op_mod (pe_op op_add (pe_op op_add (pe_op op_mul (pe_ix (k_ixL (K := K) rfl) (pv 0) pe_int (fun _ _ => rfl)) pe_int) (pe_op op_mul (pe_op op_mod (pv 2) pe_int) pe_int)) pe_int) pe_int) (pg_sub (pv 0) pe_int set_list)))))))) pss_nil)
    (pss_cons (ps_if (pt_cmpR op_ge (pe_ix (k_ixL (K := K) rfl) (pv 0) pe_int (fun _ _ => rfl)) (pv 1) (nomark _)) (pss_cons (ps_set (i := 3) sc_l_pull.nd rfl (.inl rfl) (pe_op op_mod (pe_ix (k_ixL (K := K) rfl) (pv 0) pe_int (fun _ _ => rfl)) (pv 1)))
    (pss_cons (ps_asg (pe_op op_fdiv (pe_ix (k_ixL (K := K) rfl) (pv 0) pe_int (fun _ _ => rfl)) (pv 1)) (pg_sub (pv 0) pe_int set_list))
    (pss_one (ps_ret (pv 3))))) pss_nil)
    (pss_cons (ps_set (i := 4) sc_l_pull.nd rfl (.inl rfl) (pe_op op_add (pe_op op_add (pe_op op_mul (pe_op op_mod (pe_op op_mul (pe_ix (k_ixL (K := K) rfl) (pv 0) pe_int (fun _ _ => rfl)) (pe_ix (k_ixL (K := K) rfl) (pv 0) pe_int (fun _ _ => rfl))) pe_int) pe_int) (pe_op op_mul (pe_ix (k_ixL (K := K) rfl) (pv 0) pe_int (fun _ _ => rfl)) pe_int)) pe_int))
    (pss_cons (ps_asg (pe_op op_mod (pv 4) pe_int) (pg_sub (pv 0) pe_int set_list))
    (pss_one (ps_ret (pe_op op_mod (pe_op op_add (pe_op op_fdiv (pe_ix (k_ixL (K := K) rfl) (pv 0) pe_int (fun _ _ => rfl)) pe_int) (pe_op op_mul (pe_op op_mod (pe_ix (k_ixL (K := K) rfl) (pv 0) pe_int (fun _ _ => rfl)) pe_int) pe_int)) (pv 1)))))))), ?_⟩
    refine r_join (fun σ' H' => ∃ (c : Nat) (x z : Int) (y : Option V), σ' = [some (.ref b), some (.int n), y, none, none] ∧ BagS H' b l0 ns c x z ∧ Off b H H') ?_ ?_
    · rintro σ1 H1 ⟨c1, x1, s1, y, rfl, ⟨hb1, hl1, p0, p1⟩, off⟩
      refine r_join (fun σ' H' => σ' = [some (.ref b), some (.int n), y, none, none] ∧ H' = H1) ?_ ?_
      · rintro σ2 H2 ⟨rfl, rfl⟩
        walk_at "go"
        exact k _ _ (Int.emod_nonneg _ (by omega)) (Int.emod_lt_of_pos _ (by omega)) ⟨ns, c1, x1, _, hlb, h100, upd_same, hp_ne hlb hl1, Int.emod_nonneg _ (by decide), by have := Int.emod_lt_of_pos (s1 * s1 % 2147483629 * 16807 + s1 * 31 + 12345) (show (0 : Int) < 2147483647 by decide); omega⟩ (off.trans Off.put1)
      · intro N hN
        walk_at "go"
        by_cases hx : n ≤ x1
        · walk_at "go"
          exact k _ _ (Int.emod_nonneg _ (by omega)) (Int.emod_lt_of_pos _ (by omega)) ⟨ns, c1, x1 / n, s1, hlb, h100, upd_same, hp_ne hlb hl1, p0, p1⟩ (off.trans Off.put1)
        · walk_at "go"
          exact hN _ _ ⟨rfl, rfl⟩
    · intro N hN
      walk_at "go"
      by_cases hx : x < n
      · walk_at "go"
        by_cases hc : c < ns.length
        · walk_at "go"
          refine r_ixL (SqL.of hl) (atI_nat (v := .int ns[c]) (by rw [List.getElem?_map, List.getElem?_eq_getElem hc]; rfl)) ?_
          generalize ns[c] = cell
          walk_at "go"
          have e10 : (10 : Int) ^ Int.toNat 18 = 1000000000000000000 := by decide
          by_cases hbig : (1000000000000000000 : Int) ≤ cell
          · rw [e10]
            walk_at "go"
            exact hN _ _ ⟨c + 1, cell, z, _, rfl, ⟨upd_same, hp_ne hlb (hp_ne hlb (hp_ne hlb hl)), z0, z1⟩, ((Off.put1).trans Off.put1).trans Off.put1⟩
          · rw [e10]
            walk_at "go"
            exact hN _ _ ⟨c + 1, 0, _, _, rfl, ⟨upd_same, hp_ne hlb (hp_ne hlb (hp_ne hlb hl)), Int.emod_nonneg _ (by decide), by have := Int.emod_lt_of_pos (z * 69621 + cell % 1000000007 * 40692 + 7) (show (0 : Int) < 2147483647 by decide); omega⟩, ((Off.put1).trans Off.put1).trans Off.put1⟩
        · walk_at "go"
          exact hN _ _ ⟨c, x, z, none, rfl, ⟨hb, hl, z0, z1⟩, Off.refl⟩
      · walk_at "go"
        exact hN _ _ ⟨c, x, z, none, rfl, ⟨hb, hl, z0, z1⟩, Off.refl⟩
/-! ### one of a list -/
def sp_l_of (K : PySem.W.Frag) : Sp := fun vs H Q _ => ∃ (b l0 a : Addr) (xs : List V), vs = [.ref b, .ref a] ∧ SqL K H a xs ∧ 1 ≤ xs.length ∧ xs.length < 1000 ∧ BagAt H b l0 ∧ (∀ H', Off b H H' → SqL K H' a xs) ∧ ∀ (i : Nat) v H', xs[i]? = some v → BagAt H' b l0 → Off b H H' → Q v H'
abbrev NS_l_of : List Str := ["_law_bag_here", "_law_items"]
theorem sc_l_of : FnScope NS_l_of ["_law_bag_here", "_law_items"] (defScope s_l_of) := ⟨rfl, rfl, rfl, by decide +kernel, rfl, by decide +kernel, by decide +kernel⟩
theorem bb_l_of {w : World} {mg : Str → Option Value} {K : PySem.W.Frag} (T : Tx w mg K) : Binds K (fdOf K (He.fAd K d_l_of.at_)) ["_law_bag_here", "_law_items"] [] := FunD.bindsN T.F_l_of fun _ _ _ _ _ _ us hl => match us, hl with | [_, _], _ => rfl
theorem ok_l_of (T : Tx w mg K) : FnOk P w K mg base CX0 2 (He.ga K "_law_of") (fdOf K (He.fAd K d_l_of.at_)) ["_law_bag_here", "_law_items"] (sp_l_of K) := by
  refine FunD.ok (CX := CX0) (k := 1) T.F_l_of sc_l_of (fun vs H Q E h => ?_) (fun cdv A outer s H vs Q E hr h => ?_)
  · obtain ⟨b, l0, a, xs, rfl, _⟩ := h
    rfl
  · obtain ⟨b, l0, a, xs, rfl, hs, l1, l2, hb, hk, k⟩ := h
    have G_l_pull := ok_l_pull (P := P) (base := base) T
    have b_l_pull := bb_l_pull T
    refine ⟨_, PSs.nox (pss_one (ps_ret (pe_ix (k_ixL (K := K) rfl) (pv 1) (pe_call G_l_pull (hr.mono (by decide)) (by rfl) T.g_l_pull T.F_l_pull.kp b_l_pull .nil pass0 (pa_cons (pv 0) (pa_cons (pe_callB (k_len (K := K) rfl) (by rfl) T.f_len (by decide +kernel) (pa_cons (pv 1) pa_nil)) pa_nil))) (fun _ _ => rfl)))), ?_⟩
    walk_at "go"
    refine ⟨b, l0, _, rfl, by omega, by omega, hb, fun d H' d0 d1 hb' off => ?_⟩
    have hd : d.toNat < xs.length := by omega
    have e : ((d.toNat : Nat) : Int) = d := by omega
    refine r_ixL (hk H' off) (v := xs[d.toNat]) (by
      have q := atI_nat (List.getElem?_eq_getElem hd)
      rw [e] at q
      exact q) ?_
    exact k d.toNat _ H' (List.getElem?_eq_getElem hd) hb' off
/-! ### the bag is made -/
def sp_l_bag (K : PySem.W.Frag) : Sp := fun vs H Q _ => ∃ (a : Addr) (ns : List Int), vs = [.ref a] ∧ SqL K H a (ns.map V.int) ∧ ns.length ≤ 63 ∧ ∀ b l0 H', Same H H' → H b = none → H l0 = none → BagAt H' b l0 → Q (.ref b) H'
abbrev NS_l_bag : List Str := ["_law_script", "_law_salt", "_law_cell"]
theorem sc_l_bag : FnScope NS_l_bag ["_law_script"] (defScope s_l_bag) := ⟨rfl, rfl, rfl, by decide +kernel, rfl, by decide +kernel, by decide +kernel⟩
theorem bb_l_bag {w : World} {mg : Str → Option Value} {K : PySem.W.Frag} (T : Tx w mg K) : Binds K (fdOf K (He.fAd K d_l_bag.at_)) ["_law_script"] [] := FunD.bindsN T.F_l_bag fun _ _ _ _ _ _ us hl => match us, hl with | [_], _ => rfl
theorem ok_l_bag (T : Tx w mg K) : FnOk P w K mg base CX0 1 (He.ga K "_law_bag") (fdOf K (He.fAd K d_l_bag.at_)) ["_law_script"] (sp_l_bag K) := by
  refine FunD.ok (CX := CX0) (k := 0) T.F_l_bag sc_l_bag (fun vs H Q E h => ?_) (fun cdv A outer s H vs Q E hr h => ?_)
  · obtain ⟨a, ns, rfl, _⟩ := h
    rfl
  · obtain ⟨a, ns, rfl, hs, hl, k⟩ := h
    refine ⟨_, PSs.nox (pss_cons (ps_set (i := 1) sc_l_bag.nd rfl (.inl rfl) pe_int)
    (pss_cons (ps_for PassesOwn.never rfl (k_piL (K := K) rfl (pe_slice sl_list (pv 0) po_none (po_some pe_int))) (pg_name (i := 2) sc_l_bag.nd rfl (.inl rfl)) (pss_one (ps_set (i := 1) sc_l_bag.nd rfl (.inl rfl) (pe_op op_mod (pe_op op_add (pe_op op_add (pe_op op_mul (pv 1) pe_int) (pe_op op_mod (pv 2) pe_int)) pe_int) pe_int))))
    (pss_one (ps_ret (pe_lst (pa_cons (pe_callTy (k_listOf (K := K) rfl) (by rfl) T.f_list (by decide +kernel) (pa_cons (pe_slice sl_list (pv 0) po_none (po_some pe_int)) pa_nil)) (pa_cons pe_int (pa_cons pe_int (pa_cons (pv 1) pa_nil))))))))), ?_⟩
    have hlm : (ns.map V.int).length ≤ 63 := by
      rw [List.length_map]
      exact hl
    have ecut : cutV (ns.map V.int) none (some 63) = ns.map V.int := cut_all (n := 63) hlm
    walk_at "go"
    intro p hp
    rw [ecut]
    walk_at "go"
    refine g_for walk_list (fun _ σ' H' => Same (upd H p (.lst (ns.map V.int))) H' ∧ ∃ (z : Int) (y : Option V), σ' = [some (.ref a), some (.int z), y] ∧ 0 ≤ z ∧ z < 2147483648) ⟨Same.refl _, 9490, none, rfl, by decide, by decide⟩ (fun _ _ H' _ h => sqL_same h.1 (SqL.of upd_same)) ?_ ?_
    · rintro i x σ' H1 H2 hi ⟨s1, z, y, rfl, z0, z1⟩ ⟨rfl, e⟩
      rw [List.getElem?_map] at e
      obtain ⟨n, en, rfl⟩ := Option.map_eq_some_iff.mp e
      walk_at "go"
      refine ⟨s1, _, _, rfl, Int.emod_nonneg _ (by decide), by have := Int.emod_lt_of_pos (z * 48271 + n % 2147483629 + 5) (show (0 : Int) < 2147483647 by decide); omega⟩
    · rintro σ' H1 ⟨s1, z, y, rfl, z0, z1⟩
      have s2 := (K70.Same.new1 hp).trans s1
      walk_at "go"
      intro q hq
      rw [ecut]
      walk_at "go"
      intro l hlq
      walk_at "go"
      intro b hb
      have hlb : l ≠ b := fun e => by
        rw [← e, upd_same] at hb
        cases hb
      refine k b l _ (K70.Same.new ((s2.trans (K70.Same.new1 hq)).trans (K70.Same.new1 hlq)) hb) (free_same ((s2.trans (K70.Same.new1 hq)).trans (K70.Same.new1 hlq)) hb) ?_ ⟨ns, 0, 0, z, hlb, by omega, upd_same, hp_old hb upd_same, z0, z1⟩
      exact free_same (s2.trans (K70.Same.new1 hq)) hlq
end
section
variable {P : Program} {w : World} {K : PySem.W.Frag} {mg : Str → Option Value} {base : Heap}
/-! ### elements that draw -/
section
variable {H H' : Hp} {b l0 D : Addr}
theorem bag_lst (h : BagAt H b l0) : ∃ xs, H b = some (.lst xs) := by
  obtain ⟨ns, c, x, s, _, _, e, _⟩ := h
  exact ⟨_, e⟩
theorem bag_l0 (h : BagAt H b l0) : ∃ xs, H l0 = some (.lst xs) := by
  obtain ⟨ns, c, x, s, _, _, _, e, _⟩ := h
  exact ⟨_, e⟩
theorem bag_off (h : BagAt H b l0) (s : Off D H H') (hb : b ≠ D) (hl : l0 ≠ D) : BagAt H' b l0 := by
  obtain ⟨ns, c, x, z, q, l, e, e0, p⟩ := h
  exact ⟨ns, c, x, z, q, l, s _ _ hb e, s _ _ hl e0, p⟩
theorem bag_same (h : BagAt H b l0) (s : Same H H') : BagAt H' b l0 := by
  obtain ⟨ns, c, x, z, q, l, e, e0, p⟩ := h
  exact ⟨ns, c, x, z, q, l, s _ _ e, s _ _ e0, p⟩
theorem bag_free (s : Off b H H') (h : BagAt H' b l0) (e : H' D = none) : H D = none := by
  cases q : H D with
  | none => rfl
  | some o =>
    obtain ⟨ns, c, x, z, _, _, hb, _⟩ := h
    have nb : D ≠ b := fun u => by
      rw [← u, e] at hb
      cases hb
    rw [s D o nb q] at e
    cases e
theorem bag_ne (h : BagAt H b l0) (hD : H D = none) : b ≠ D ∧ l0 ≠ D := by
  obtain ⟨ns, c, x, z, q, l, e, e0, p⟩ := h
  exact ⟨ne_of_none e hD, ne_of_none e0 hD⟩
end
section
variable {J : It} {n : Nat} {G : Hp → Prop} {Y : Nat → Hp → V → Hp → Prop} {g : TG} {tt : TT} {te : TE} {vs : List Nat} {σ : L2.St} {H : Hp} {Q : VK} {b l0 : Addr}
/-- a comprehension whose elements draw -/
theorem g_bag (R : Nat → V → Hp → Prop) (hR : ∀ i y H H', Tp H H' → R i y H → R i y H') (W : Walk J n G Y) (hn : n < sizeLine) (hb : BagAt H b l0) (hG : ∀ H', Off b H H' → G H')
    (turn : ∀ (i : Nat) (x : V) (H1 H2 : Hp) (N : VK) (NF : Hp → Prop), i < n → BagAt H1 b l0 → Off b H H1 → Y i H1 x H2 → (∀ y H5, BagAt H5 b l0 → Off b H1 H5 → R i y H5 → N y H5) → LcT g tt te vs σ x H2 N NF)
    (k : ∀ (D : Addr) (ys : List V) (H' : Hp), H D = none → BagAt H' b l0 → Off b H H' → H' D = some (.lst ys) → ys.length = n → (∀ (i : Nat) y, ys[i]? = some y → R i y H') → Q (.ref D) H') : LcG J g tt te vs σ H Q := by
  intro D hD
  have ⟨nb, nl⟩ := bag_ne hb hD
  refine lc_it W (fun i H' => ∃ ys : List V, BagAt H' b l0 ∧ Off b H H' ∧ H' D = some (.lst ys) ∧ ys.length = i ∧ ∀ (j : Nat) y, ys[j]? = some y → R j y H') ⟨[], bag_same hb (K70.Same.new1 hD), Off.of (K70.Same.new1 hD), upd_same, rfl, fun j y e => by simp at e⟩
    (fun i H' _ ⟨ys, _, s, _⟩ => hG H' s) ?_ fun H' ⟨ys, q, s, e, l, r⟩ => k D ys H' hD q s e l r
  rintro i x H1 H2 hi ⟨ys, hb1, s, e, l, r⟩ yy
  refine turn i x H1 H2 _ _ hi hb1 s yy fun y H5 hb5 s5 ry => ?_
  have e5 : H5 D = some (.lst ys) := s5 _ _ (Ne.symm nb) e
  obtain ⟨zs, eb⟩ := bag_lst hb1
  have t5 : Tp H1 H5 := Tp.off eb s5
  refine ⟨ys, e5, by omega, ys ++ [y], bag_off hb5 Off.put1 nb nl, fun a o ha h => hp_ne (ne_of_none h hD) (s5 a o ha (s a o ha h)), upd_same, by rw [List.length_append, l]; rfl, fun j z ez => ?_⟩
  refine hR j z H5 _ (Tp.lst e5) ?_
  rcases Nat.lt_or_ge j ys.length with hj | hj
  · rw [List.getElem?_append_left hj] at ez
    exact hR j z H1 _ t5 (r j z ez)
  · rw [List.getElem?_append_right hj] at ez
    rcases Nat.lt_or_ge (j - ys.length) 1 with q | q
    · have e0 : j - ys.length = 0 := by omega
      rw [e0] at ez
      cases ez
      rw [show j = i by omega]
      exact ry
    · rw [List.getElem?_eq_none (by simpa using q)] at ez
      cases ez
end
/-! ### the law's names -/
theorem strs_of {P : Str → Prop} : ∀ {ys : List V}, (∀ (i : Nat) y, ys[i]? = some y → ∃ x : Str, y = .str x ∧ P x) → ∃ ss : List Str, ys = ss.map V.str ∧ ∀ x ∈ ss, P x
  | [], _ => ⟨[], rfl, fun x h => by cases h⟩
  | y :: ys, h => by
    obtain ⟨x, rfl, hx⟩ := h 0 y rfl
    obtain ⟨ss, rfl, hs⟩ := strs_of (P := P) (ys := ys) fun i y e => h (i + 1) y e
    refine ⟨x :: ss, rfl, fun z hz => ?_⟩
    rcases List.mem_cons.mp hz with rfl | hz
    · exact hx
    · exact hs z hz
theorem sum_ones : ∀ {ss : List Str}, (∀ x ∈ ss, x.length = 1) → (ss.map (fun x => x.length)).sum = ss.length
  | [], _ => rfl
  | x :: ss, h => by
    rw [List.map_cons, List.sum_cons, h x List.mem_cons_self, sum_ones fun z hz => h z (List.mem_cons_of_mem _ hz), List.length_cons]
    omega
def abc : List V := signsV "abcdefghijklmnopqrstuvwxyz"
theorem abc_len : abc.length = 26 := by decide +kernel
theorem abc_at {i : Nat} {v : V} (h : abc[i]? = some v) : ∃ c : Nat, v = .str ⟨#[c]⟩ := by
  unfold abc signsV at h
  rw [List.getElem?_map] at h
  obtain ⟨c, _, rfl⟩ := Option.map_eq_some_iff.mp h
  exact ⟨c, rfl⟩
/-- eight texts of at most eight signs -/
structure OkNames (xs : List V) (ns : List Str) : Prop where
  v : xs = ns.map V.str
  n : ns.length = 8
  l : ∀ x ∈ ns, x.length ≤ 8
def sp_l_names : Sp := fun vs H Q _ => ∃ (b l0 : Addr), vs = [.ref b] ∧ BagAt H b l0 ∧ ∀ (p : Addr) (ns : List Str) (H' : Hp), H p = none → Off b H H' → BagAt H' b l0 → H' p = some (.lst (ns.map V.str)) → ns.length = 8 → (∀ x ∈ ns, x.length ≤ 8) → Q (.ref p) H'
abbrev NS_l_names : List Str := ["_law_bag_here", "_law_letters", "_law_head", "_law_ahead", "_law_k"]
theorem sc_l_names : FnScope NS_l_names ["_law_bag_here"] (defScope s_l_names) := ⟨rfl, rfl, rfl, by decide +kernel, rfl, by decide +kernel, by decide +kernel⟩
theorem bb_l_names {w : World} {mg : Str → Option Value} {K : PySem.W.Frag} (T : Tx w mg K) : Binds K (fdOf K (He.fAd K d_l_names.at_)) ["_law_bag_here"] [] := FunD.bindsN T.F_l_names fun _ _ _ _ _ _ us hl => match us, hl with | [_], _ => rfl
theorem ok_l_names (T : Tx w mg K) : FnOk P w K mg base CX0 3 (He.ga K "_law_names") (fdOf K (He.fAd K d_l_names.at_)) ["_law_bag_here"] sp_l_names := by
  refine FunD.ok (CX := CX0) (k := 2) T.F_l_names sc_l_names (fun vs H Q E h => ?_) (fun cdv A outer s H vs Q E hr h => ?_)
  · obtain ⟨b, l0, rfl, _⟩ := h
    rfl
  · obtain ⟨b, l0, rfl, hb, k⟩ := h
    have G_l_of := ok_l_of (P := P) (base := base) T
    have b_l_of := bb_l_of T
    have G_l_pull := ok_l_pull (P := P) (base := base) T
    have b_l_pull := bb_l_pull T
    refine ⟨_, PSs.nox (pss_cons (ps_set (i := 1) sc_l_names.nd rfl (.inr rfl) (pe_callTy (call_listS rfl) (by rfl) T.f_list (by decide +kernel) (pa_cons pe_str pa_nil)))
    (pss_cons (ps_set (i := 2) sc_l_names.nd rfl (.inr rfl) (pe_join pe_str (pe_lc (own := [("_law_k", 4)]) (g := gName 4) (tt := tYes) rfl sc_l_names.nd (pi_range1 (by rfl) T.f_range (pa_cons (pe_call G_l_pull (hr.mono (by decide)) (by rfl) T.g_l_pull T.F_l_pull.kp b_l_pull .nil pass0 (pa_cons (pv 0) (pa_cons pe_int pa_nil))) pa_nil)) (blkOk_by (N := NS_l_names) (sc := defScope s_l_names) (by decide +kernel)) (fun _ _ _ _ _ => pg_name (i := 4) sc_l_names.nd rfl (Or.inl rfl)) (fun _ _ _ _ _ => pts_nil) (fun _ _ _ _ _ => (pe_call G_l_of (hr.mono (by decide)) (by rfl) T.g_l_of T.F_l_of.kp b_l_of .nil pass0 (pa_cons (pv 0) (pa_cons (pv 1) pa_nil)))))))
    (pss_cons (ps_set (i := 3) sc_l_names.nd rfl (.inr rfl) (pe_cmpR op_eq (pe_call G_l_pull (hr.mono (by decide)) (by rfl) T.g_l_pull T.F_l_pull.kp b_l_pull .nil pass0 (pa_cons (pv 0) (pa_cons pe_int pa_nil))) pe_int (nomark _)))
    (pss_one (ps_ret (pe_lc (own := [("_law_k", 4)]) (g := gName 4) (tt := tYes) rfl sc_l_names.nd (pi_range1 (by rfl) T.f_range (pa_cons pe_int pa_nil)) (blkOk_by (N := NS_l_names) (sc := defScope s_l_names) (by decide +kernel)) (fun _ _ _ _ _ => pg_name (i := 4) sc_l_names.nd rfl (Or.inl rfl)) (fun _ _ _ _ _ => pts_nil) (fun _ _ _ _ _ => (pe_ifExp (pt_val (pv 3)) (pe_op op_add_str (pv 2) (pe_ix (k_ixL (K := K) rfl) (pv 1) (pv 4) (fun _ _ => rfl))) (pe_op op_add_str (pe_ix (k_ixL (K := K) rfl) (pv 1) (pv 4) (fun _ _ => rfl)) (pv 2)))))))))), ?_⟩
    walk_at "go"
    intro l hl
    walk_at "go"
    have hb1 := bag_same hb (K70.Same.new1 (o := .lst abc) hl)
    refine ⟨b, l0, 8, rfl, by omega, by omega, hb1, fun d H1 d0 d1 hb2 off1 => ?_⟩
    walk_at "go"
    have lb : l ≠ b := fun e => (bag_ne hb hl).1 e.symm
    have hl1 : H1 l = some (.lst abc) := off1 _ _ lb upd_same
    refine g_bag (fun _ y _ => ∃ c : Nat, y = .str ⟨#[c]⟩) (fun _ _ _ _ _ h => h) walk_range (by rw [szl]; omega) hb2 (fun _ _ => trivial) ?_ ?_
    · rintro i x H2 H3 N NF hi hb3 off2 ⟨rfl, rfl⟩ q
      unfold LcT
      walk_at "go"
      refine ⟨b, l0, l, abc, rfl, SqL.of (off2 _ _ lb hl1), by rw [abc_len]; omega, by rw [abc_len]; omega, hb3, fun H4 off3 => SqL.of (off3 _ _ lb (off2 _ _ lb hl1)), fun j v H4 ev hb4 off3 => ?_⟩
      exact q v H4 hb4 off3 (abc_at ev)
    · intro D ys H2 hD hb3 off2 hD2 ly hy
      walk_at "go"
      obtain ⟨ss, rfl, h1⟩ := strs_of (P := fun x => x.length = 1) (ys := ys) fun i y e => by
        obtain ⟨c, rfl⟩ := hy i y e
        exact ⟨_, rfl, rfl⟩
      have hsum := sum_ones h1
      rw [List.length_map] at ly
      refine x_join hD2 (by omega) ?_
      have hj : (Txt.join "" ss).length = ss.length := PySem.W.KT.join_ones ss h1
      generalize Txt.join "" ss = hd at hj ⊢
      walk_at "go"
      refine ⟨b, l0, 2, rfl, by omega, by omega, hb3, fun d2 H3 d20 d21 hb4 off3 => ?_⟩
      walk_at "go"
      have hl3 : H3 l = some (.lst abc) := off3 _ _ lb (off2 _ _ lb hl1)
      refine g_new walk_range (fun _ y _ => ∃ x : Str, y = .str x ∧ x.length ≤ 8) (by rw [szl]; decide) (fun _ _ => trivial) ?_ ?_
      · rintro i x D2 acc H4 H5 N NF hi hD2 hacc s4 ⟨rfl, rfl⟩ q
        have hi2 : i < abc.length := by
          rw [abc_len]
          have : (8 : Int).toNat = 8 := rfl
          omega
        have ea : atI abc (0 + (i : Int)) = some abc[i] := by
          rw [Int.zero_add]
          exact atI_nat (List.getElem?_eq_getElem hi2)
        obtain ⟨c, ec⟩ := abc_at (List.getElem?_eq_getElem hi2)
        rw [ec] at ea
        have l1 : (⟨#[c]⟩ : Str).length = 1 := rfl
        unfold LcT
        walk_at "go"
        by_cases hz : d2 = 0
        · subst hz
          walk_at "go"
          refine r_ixL (SqL.of (s4 _ _ hl3)) ea ?_
          walk_at "go"
          refine q _ _ (Same.refl _) ?_
          exact fun _ _ => ⟨_, rfl, by rw [Str.length_append]; omega⟩
        · walk_at "go"
          refine r_ixL (SqL.of (s4 _ _ hl3)) ea ?_
          walk_at "go"
          refine q _ _ (Same.refl _) ?_
          exact fun _ _ => ⟨_, rfl, by rw [Str.length_append]; omega⟩
      · intro D2 ys2 H4 hD2' s4 hD4 ly2 hy2
        obtain ⟨ns, rfl, hn⟩ := strs_of (P := fun x => x.length ≤ 8) (ys := ys2) hy2
        have off : Off b H H4 := (((Off.of (K70.Same.new1 hl)).trans off1).trans off2).trans (off3.same s4)
        exact k D2 ns H4 (free_old (bag_free (off1.trans (off2.trans off3)) hb4 hD2')) off (bag_same hb4 s4) hD4 (by rw [List.length_map] at ly2; exact ly2) hn
end
section
variable {P : Program} {w : World} {K : PySem.W.Frag} {mg : Str → Option Value} {base : Heap}
/-! ### what is drawn: a machine's data, a translator's -/
section
variable {H H' : Hp} {b D p : Addr} {o : HO}
theorem Off.mut (s : Off b H H') (hp : H p = none) : Off b H (upd H' p o) := fun a u ha h => hp_ne (ne_of_none h hp) (s a u ha h)
theorem off_del (s : Off b H H') : Same (del H b) (del H' b) := fun a u h => by
  have ha : a ≠ b := fun e => by
    rw [e, del_same] at h
    cases h
  rw [del_ne ha] at h ⊢
  exact s a u ha h
theorem del_sub : Same (del H b) H := fun a u h => by
  have ha : a ≠ b := fun e => by
    rw [e, del_same] at h
    cases h
  rw [del_ne ha] at h
  exact h
end
/-- rows of a machine at the values vs -/
def RowsV (K : PySem.W.Frag) (H : Hp) (vs : List V) (rows : List (List (Int × Key))) : Prop := vs.length = rows.length ∧ ∀ (i : Nat) v r, vs[i]? = some v → rows[i]? = some r → ∃ a us, v = .ref a ∧ SqT K H a us ∧ RowV K H us r
theorem rowsV_tp {H H' : Hp} {vs : List V} {r : List (List (Int × Key))} (s : Tp H H') (h : RowsV K H vs r) : RowsV K H' vs r := ⟨h.1, fun i v p e1 e2 => by
  obtain ⟨a, us, e, q, z⟩ := h.2 i v p e1 e2
  exact ⟨a, us, e, sqT_tp s q, rowV_tp s z⟩⟩
theorem rowsV_snoc {H : Hp} {vs us : List V} {r : List (List (Int × Key))} {a : Addr} {q : List (Int × Key)} (h : RowsV K H vs r) (ha : SqT K H a us) (hu : RowV K H us q) : RowsV K H (vs ++ [.ref a]) (r ++ [q]) := by
  refine ⟨by rw [List.length_append, List.length_append, h.1]; rfl, fun i v p e1 e2 => ?_⟩
  rcases Nat.lt_or_ge i vs.length with hj | hj
  · rw [List.getElem?_append_left hj] at e1
    rw [List.getElem?_append_left (by rw [← h.1]; exact hj)] at e2
    exact h.2 i v p e1 e2
  · rw [List.getElem?_append_right hj] at e1
    rw [List.getElem?_append_right (by rw [← h.1]; exact hj)] at e2
    rw [← h.1] at e2
    rcases Nat.lt_or_ge (i - vs.length) 1 with z | z
    · have e0 : i - vs.length = 0 := by omega
      rw [e0] at e1 e2
      cases e1
      cases e2
      exact ⟨a, us, rfl, ha, hu⟩
    · rw [List.getElem?_eq_none (by simpa using z)] at e1
      cases e1
theorem rowsV_dps {H : Hp} {vs : List V} {r : List (List (Int × Key))} (h : RowsV K H vs r) : DpAll K H vs (r.map rowK) := by
  refine dpAll_of (by rw [List.length_map]; exact h.1) fun i v d e1 e2 => ?_
  rw [List.getElem?_map] at e2
  obtain ⟨p, e3, rfl⟩ := Option.map_eq_some_iff.mp e2
  obtain ⟨a, us, rfl, q, z⟩ := h.2 i v p e1 e3
  exact .tup q (rowV_dps z)
/-- pairs, one by one -/
theorem rowV_of {H : Hp} {P : Int × Key → Prop} : ∀ {ys : List V}, (∀ (i : Nat) y, ys[i]? = some y → ∃ p, PairV K H y p ∧ P p) → ∃ r : List (Int × Key), RowV K H ys r ∧ ∀ p ∈ r, P p
  | [], _ => ⟨[], ⟨rfl, fun i v p e => by simp at e⟩, fun p h => by cases h⟩
  | y :: ys, h => by
    obtain ⟨p, hp, pp⟩ := h 0 y rfl
    obtain ⟨r, hr, pr⟩ := rowV_of (P := P) (ys := ys) fun i y e => h (i + 1) y e
    refine ⟨p :: r, ⟨by rw [List.length_cons, List.length_cons, hr.1], fun i v q e1 e2 => ?_⟩, fun z hz => ?_⟩
    · cases i with
      | zero =>
        cases e1
        cases e2
        exact hp
      | succ i => exact hr.2 i v q e1 e2
    · rcases List.mem_cons.mp hz with rfl | hz
      · exact pp
      · exact pr z hz
def sp_l_raw (K : PySem.W.Frag) : Sp := fun vs H Q _ => ∃ (b l0 : Addr) (l : Str) (m t : Int), vs = [.ref b, .str l, .int m, .int t] ∧ okL l ∧ 1 ≤ m ∧ m ≤ 5 ∧ 0 ≤ t ∧ t ≤ 3 ∧ BagAt H b l0 ∧
  ∀ (v : V) (r : Raw) (H' : Hp), Off b H H' → BagAt H' b l0 → OkRaw r → r.l = l → (∀ h, NewL H H' h → Dp K h v (rawD r)) → Q v H'
abbrev NS_l_raw : List Str := ["_law_bag_here", "_law_letters", "_law_most", "_law_top", "_law_count", "_law_states", "_law_k", "_law_letter"]
theorem sc_l_raw : FnScope NS_l_raw ["_law_bag_here", "_law_letters", "_law_most", "_law_top"] (defScope s_l_raw) := ⟨rfl, rfl, rfl, by decide +kernel, rfl, by decide +kernel, by decide +kernel⟩
theorem bb_l_raw {w : World} {mg : Str → Option Value} {K : PySem.W.Frag} (T : Tx w mg K) : Binds K (fdOf K (He.fAd K d_l_raw.at_)) ["_law_bag_here", "_law_letters", "_law_most", "_law_top"] [] := FunD.bindsN T.F_l_raw fun _ _ _ _ _ _ us hl => match us, hl with | [_, _, _, _], _ => rfl
theorem ok_l_raw (T : Tx w mg K) : FnOk P w K mg base CX0 2 (He.ga K "_law_raw") (fdOf K (He.fAd K d_l_raw.at_)) ["_law_bag_here", "_law_letters", "_law_most", "_law_top"] (sp_l_raw K) := by
  refine FunD.ok (CX := CX0) (k := 1) T.F_l_raw sc_l_raw (fun vs H Q E h => ?_) (fun cdv A outer s H vs Q E hr h => ?_)
  · obtain ⟨b, l0, l, m, t, rfl, _⟩ := h
    rfl
  · obtain ⟨b, l0, l, m, t, rfl, ol, m1, m5, t0, t3, hb, k⟩ := h
    have ll := okA_of ol
    have l3 : l.length ≤ sizeLine := Nat.le_trans ll.l2 (by decide)
    have G_l_pull := ok_l_pull (P := P) (base := base) T
    have b_l_pull := bb_l_pull T
    refine ⟨_, PSs.nox (pss_cons (ps_asg (pe_tup (pa_cons (pe_op op_add pe_int (pe_call G_l_pull (hr.mono (by decide)) (by rfl) T.g_l_pull T.F_l_pull.kp b_l_pull .nil pass0 (pa_cons (pv 0) (pa_cons (pv 2) pa_nil)))) (pa_cons (pe_lst pa_nil) pa_nil))) (pg_tup rfl (pgs_cons (pg_name (i := 4) sc_l_raw.nd rfl (.inr rfl)) (pgs_cons (pg_name (i := 5) sc_l_raw.nd rfl (.inl rfl)) pgs_nil))))
    (pss_cons (ps_for PassesOwn.never rfl (pi_range1 (by rfl) T.f_range (pa_cons (pv 4) pa_nil)) (pg_name (i := 6) sc_l_raw.nd rfl (.inl rfl)) (pss_one (ps_expr (k_bm (K := K) rfl PySem.F.plainAttrs_list PySem.F.slot_list_append PySem.F.type_list_append mt_append (pv 5) (pa_cons (pe_callTy (k_tupOf (K := K) rfl) (by rfl) T.f_tuple (by decide +kernel) (pa_cons (pe_lc (own := [("_law_letter", 7)]) (g := gName 7) (tt := tYes) rfl sc_l_raw.nd (pi_str (pv 1)) (blkOk_by (N := NS_l_raw) (sc := defScope s_l_raw) (by decide +kernel)) (fun _ _ _ _ _ => pg_name (i := 7) sc_l_raw.nd rfl (Or.inl rfl)) (fun _ _ _ _ _ => pts_nil) (fun _ _ _ _ _ => (pe_tup (pa_cons (pe_call G_l_pull (hr.mono (by decide)) (by rfl) T.g_l_pull T.F_l_pull.kp b_l_pull .nil pass0 (pa_cons (pv 0) (pa_cons (pv 4) pa_nil))) (pa_cons (pe_call G_l_pull (hr.mono (by decide)) (by rfl) T.g_l_pull T.F_l_pull.kp b_l_pull .nil pass0 (pa_cons (pv 0) (pa_cons (pe_op op_add (pv 3) pe_int) pa_nil))) pa_nil))))) pa_nil)) pa_nil)))))
    (pss_one (ps_ret (pe_tup (pa_cons (pv 1) (pa_cons (pv 5) (pa_cons (pe_call G_l_pull (hr.mono (by decide)) (by rfl) T.g_l_pull T.F_l_pull.kp b_l_pull .nil pass0 (pa_cons (pv 0) (pa_cons (pv 4) pa_nil))) pa_nil)))))))), ?_⟩
    walk_at "go"
    refine ⟨b, l0, m, rfl, by omega, by omega, hb, fun d H1 d0 d1 hb1 off1 => ?_⟩
    walk_at "go"
    intro st hst
    walk_at "go"
    intro p hp
    walk_at "go"
    have hb2 : BagAt (upd (upd H1 st (HO.lst [])) p (HO.tup [V.int (1 + d), V.ref st])) b l0 := bag_same hb1 (K70.Same.new (K70.Same.new1 hst) hp)
    have nst := bag_ne hb1 hst
    have off2 : Off b H (upd (upd H1 st (HO.lst [])) p (HO.tup [V.int (1 + d), V.ref st])) := (off1.new hst).new hp
    have hst0 : H st = none := bag_free off1 hb1 hst
    have est : (upd (upd H1 st (HO.lst [])) p (HO.tup [V.int (1 + d), V.ref st])) st = some (.lst []) := hp_old hp upd_same
    refine g_for walk_range (fun i σ' H' => ∃ (vs : List V) (rows : List (List (Int × Int))) (x y : Option V), σ' = [some (.ref b), some (.str l), some (.int m), some (.int t), some (.int (1 + d)), some (.ref st), x, y] ∧ BagAt H' b l0 ∧ Off b H H' ∧
        H' st = some (.lst vs) ∧ rows.length = i ∧ RowsV K H' vs (rows.map rowI) ∧ ∀ r ∈ rows, OkRow l.length (1 + d).toNat r)
      ⟨[], [], none, none, rfl, hb2, off2, est, rfl, ⟨rfl, fun i v r e => by simp at e⟩, fun r h => by cases h⟩ (fun _ _ _ _ _ => trivial) ?_ ?_
    · rintro i x σ' H2 H3 hi ⟨vs, rows, x0, y0, rfl, hb3, off3, e3, lr, rv, ok⟩ ⟨rfl, rfl⟩
      walk_at "go"
      have h5 : (1 + d).toNat ≤ 5 := by omega
      refine g_bag (b := b) (l0 := l0) (fun _ y Hx => ∃ p : Int × Key, PairV K Hx y p ∧ ∃ a c : Int, p = (a, .inl c) ∧ 0 ≤ a ∧ a < 1 + d ∧ 0 ≤ c ∧ c ≤ 3) (fun _ y _ _ tp ⟨p, q, z⟩ => ⟨p, pairV_tp tp q, z⟩) walk_str (by rw [ll.sz, szl]; have := ll.l2; omega) hb3 (fun _ _ => trivial) ?_ ?_
      · rintro j y H4 H5 N NF hj hb4 off4 ⟨rfl, c, ec, rfl⟩ q
        unfold LcT
        walk_at "go"
        refine ⟨b, l0, 1 + d, rfl, by omega, by omega, hb4, fun d2 H6 d20 d21 hb6 off6 => ?_⟩
        walk_at "go"
        refine ⟨b, l0, t + 1, rfl, by omega, by omega, hb6, fun d3 H7 d30 d31 hb7 off7 => ?_⟩
        walk_at "go"
        intro p hp
        exact q _ _ (bag_same hb7 (K70.Same.new1 hp)) ((off6.trans off7).new hp) ⟨(d2, .inl d3), ⟨p, rfl, SqT.of upd_same⟩, d2, d3, rfl, d20, d21, d30, by omega⟩
      · intro D ys H4 hD hb4 off4 hD4 ly hy
        walk_at "go"
        intro q hq
        have e4 : H4 st = some (.lst vs) := off4 _ _ (Ne.symm nst.1) e3
        have nD : D ≠ st := fun e => by
          rw [e, e3] at hD
          cases hD
        obtain ⟨zs, eb⟩ := bag_lst hb3
        have tp4 : Tp H3 H4 := Tp.off eb off4
        have tp5 : Tp H3 (upd H4 q (.tup ys)) := tp4.trans (Tp.of (K70.Same.new1 hq))
        obtain ⟨row, hrow, prow⟩ := rowV_of (P := fun p => ∃ a c : Int, p = (a, .inl c) ∧ 0 ≤ a ∧ a < 1 + d ∧ 0 ≤ c ∧ c ≤ 3) hy
        obtain ⟨rr, rfl⟩ : ∃ rr : List (Int × Int), row = rowI rr := ⟨row.map fun p => (p.1, match p.2 with | .inl i => i | .inr _ => 0), by
          unfold rowI
          rw [List.map_map]
          refine (List.map_id _).symm.trans (List.map_congr_left fun p hp => ?_)
          obtain ⟨a, c, rfl, _⟩ := prow p hp
          rfl⟩
        have lv : vs.length = rows.length := by rw [rv.1, List.length_map]
        walk_at "go"
        have okr : OkRow l.length (1 + d).toNat rr := by
          refine ⟨?_, fun z hz => ?_⟩
          · have e1 := hrow.1
            rw [ly] at e1
            unfold rowI at e1
            rw [List.length_map, ll.sz] at e1
            exact e1.symm
          · obtain ⟨a, c, ez, a0, a1, c0, c3⟩ := prow (z.1, .inl z.2) (List.mem_map.mpr ⟨z, hz, rfl⟩)
            cases ez
            exact ⟨a0, by omega, c0, c3⟩
        have eq5 : (upd H4 q (.tup ys)) st = some (.lst vs) := hp_old hq e4
        refine ⟨vs ++ [.ref q], rows ++ [rr], _, _, rfl, bag_off (bag_same hb4 (K70.Same.new1 hq)) Off.put1 nst.1 nst.2, ((off3.trans off4).new hq).mut hst0, upd_same, by rw [List.length_append, lr]; rfl, ?_, fun r hr => ?_⟩
        · rw [List.map_append]
          exact rowsV_snoc (rowsV_tp (tp5.trans (Tp.lst eq5)) rv) (sqT_tp (Tp.lst eq5) (SqT.of upd_same)) (rowV_tp ((Tp.of (K70.Same.new1 hq)).trans (Tp.lst eq5)) hrow)
        · rcases List.mem_append.mp hr with z | z
          · exact ok r z
          · rw [List.mem_singleton.mp z]
            exact okr
    · rintro σ' H2 ⟨vs, rows, x0, y0, rfl, hb3, off3, e3, lr, rv, ok⟩
      walk_at "go"
      refine ⟨b, l0, 1 + d, rfl, by omega, by omega, hb3, fun d2 H3 d20 d21 hb4 off4 => ?_⟩
      walk_at "go"
      intro p hp
      obtain ⟨zs, eb⟩ := bag_lst hb3
      have e4 : H3 st = some (.lst vs) := off4 _ _ (Ne.symm nst.1) e3
      have tp : Tp H2 (upd H3 p (.tup [.str l, .ref st, .int d2])) := (Tp.off eb off4).trans (Tp.of (K70.Same.new1 hp))
      have lr2 : (rows.length : Int) = 1 + d := by omega
      refine k (.ref p) ⟨l, rows, d2⟩ _ ((off3.trans off4).new hp) (bag_same hb4 (K70.Same.new1 hp)) ⟨ol, by show 1 ≤ rows.length; omega, by show rows.length ≤ 5; omega, fun r hr => by
        have q := ok r hr
        have e : (1 + d).toNat = rows.length := by omega
        rw [e] at q
        exact q, d20, by show d2 < (rows.length : Int); omega⟩ rfl ?_
      intro h nl
      refine .tup (sqT_tp nl.1 (SqT.of upd_same)) (.cons (.str _) (.cons (.lst (xs := vs) (SqL.of (nl.2 _ _ hst0 (hp_old hp e4))) ?_) (.cons (.int _) .nil)))
      have q := rowsV_dps (rowsV_tp (tp.trans nl.1) rv)
      rw [List.map_map] at q
      have e : rowK ∘ rowI = rowD := funext rowI_D
      rw [e] at q
      exact q
end
section
variable {P : Program} {w : World} {K : PySem.W.Frag} {mg : Str → Option Value} {base : Heap}
/-! ### a translator's data -/
structure Told where
  st : List (List (Int × Key))
  s : Int
def toldD (r : Told) : PyData := .tuple [.str "ab", .str "ab", .list (r.st.map rowK), .int r.s]
def okOut (k : Key) : Prop := k = .inr "" ∨ k = .inr "a" ∨ k = .inr "b"
structure OkTRow (n : Nat) (r : List (Int × Key)) : Prop where
  len : r.length = 2
  ok : ∀ q ∈ r, 0 ≤ q.1 ∧ q.1 < n ∧ okOut q.2
structure OkTold (r : Told) : Prop where
  n1 : 1 ≤ r.st.length
  n5 : r.st.length ≤ 3
  row : ∀ q ∈ r.st, OkTRow r.st.length q
  s0 : 0 ≤ r.s
  s1 : r.s < r.st.length
theorem rowV_snoc {H : Hp} {vs : List V} {r : List (Int × Key)} {v : V} {q : Int × Key} (h : RowV K H vs r) (hu : PairV K H v q) : RowV K H (vs ++ [v]) (r ++ [q]) := by
  refine ⟨by rw [List.length_append, List.length_append, h.1]; rfl, fun i v p e1 e2 => ?_⟩
  rcases Nat.lt_or_ge i vs.length with hj | hj
  · rw [List.getElem?_append_left hj] at e1
    rw [List.getElem?_append_left (by rw [← h.1]; exact hj)] at e2
    exact h.2 i v p e1 e2
  · rw [List.getElem?_append_right hj] at e1
    rw [List.getElem?_append_right (by rw [← h.1]; exact hj)] at e2
    rw [← h.1] at e2
    rcases Nat.lt_or_ge (i - vs.length) 1 with z | z
    · have e0 : i - vs.length = 0 := by omega
      rw [e0] at e1 e2
      cases e1
      cases e2
      exact hu
    · rw [List.getElem?_eq_none (by simpa using z)] at e1
      cases e1
def sp_l_told (K : PySem.W.Frag) : Sp := fun vs H Q _ => ∃ (b l0 : Addr), vs = [.ref b, .str "ab", .str "ab", .int 3, .int 4] ∧ BagAt H b l0 ∧
  ∀ (v : V) (r : Told) (H' : Hp), Off b H H' → BagAt H' b l0 → OkTold r → Dp K (del H' b) v (toldD r) → Q v H'
abbrev NS_l_told : List Str := ["_law_bag_here", "_law_source", "_law_target", "_law_most", "_law_share", "_law_count", "_law_states", "_law_k", "_law_row", "_law_letter", "_law_output"]
theorem sc_l_told : FnScope NS_l_told ["_law_bag_here", "_law_source", "_law_target", "_law_most", "_law_share"] (defScope s_l_told) := ⟨rfl, rfl, rfl, by decide +kernel, rfl, by decide +kernel, by decide +kernel⟩
theorem bb_l_told {w : World} {mg : Str → Option Value} {K : PySem.W.Frag} (T : Tx w mg K) : Binds K (fdOf K (He.fAd K d_l_told.at_)) ["_law_bag_here", "_law_source", "_law_target", "_law_most", "_law_share"] [] := FunD.bindsN T.F_l_told fun _ _ _ _ _ _ us hl => match us, hl with | [_, _, _, _, _], _ => rfl
theorem ok_l_told (T : Tx w mg K) : FnOk P w K mg base CX0 3 (He.ga K "_law_told") (fdOf K (He.fAd K d_l_told.at_)) ["_law_bag_here", "_law_source", "_law_target", "_law_most", "_law_share"] (sp_l_told K) := by
  refine FunD.ok (CX := CX0) (k := 2) T.F_l_told sc_l_told (fun vs H Q E h => ?_) (fun cdv A outer s H vs Q E hr h => ?_)
  · obtain ⟨b, l0, rfl, _⟩ := h
    rfl
  · obtain ⟨b, l0, rfl, hb, k⟩ := h
    have G_l_of := ok_l_of (P := P) (base := base) T
    have b_l_of := bb_l_of T
    have G_l_pull := ok_l_pull (P := P) (base := base) T
    have b_l_pull := bb_l_pull T
    refine ⟨_, PSs.nox (pss_cons (ps_par (i := 5) (j := 6) rfl sc_l_told.nd rfl rfl (by decide) rfl rfl (pa_cons (pe_op op_add pe_int (pe_call G_l_pull (hr.mono (by decide)) (by rfl) T.g_l_pull T.F_l_pull.kp b_l_pull .nil pass0 (pa_cons (pv 0) (pa_cons (pv 3) pa_nil)))) (pa_cons (pe_lst pa_nil) pa_nil)) (by rfl))
    (pss_cons (ps_for PassesOwn.never rfl (pi_range1 (by rfl) T.f_range (pa_cons (pv 5) pa_nil)) (pg_name (i := 7) sc_l_told.nd rfl (.inl rfl)) (pss_cons (ps_set (i := 8) sc_l_told.nd rfl (.inl rfl) (pe_lst pa_nil))
    (pss_cons (ps_for PassesOwn.never rfl (pi_str (pv 1)) (pg_name (i := 9) sc_l_told.nd rfl (.inl rfl)) (pss_cons (ps_set (i := 10) sc_l_told.nd rfl (.inl rfl) (pe_ifExp (pt_cmpR op_eq (pe_call G_l_pull (hr.mono (by decide)) (by rfl) T.g_l_pull T.F_l_pull.kp b_l_pull .nil pass0 (pa_cons (pv 0) (pa_cons (pv 4) pa_nil))) pe_int (nomark _)) pe_str (pe_call G_l_of (hr.mono (by decide)) (by rfl) T.g_l_of T.F_l_of.kp b_l_of .nil pass0 (pa_cons (pv 0) (pa_cons (pe_callTy (call_listS rfl) (by rfl) T.f_list (by decide +kernel) (pa_cons (pv 2) pa_nil)) pa_nil)))))
    (pss_one (ps_expr (k_bm (K := K) rfl PySem.F.plainAttrs_list PySem.F.slot_list_append PySem.F.type_list_append mt_append (pv 8) (pa_cons (pe_tup (pa_cons (pe_call G_l_pull (hr.mono (by decide)) (by rfl) T.g_l_pull T.F_l_pull.kp b_l_pull .nil pass0 (pa_cons (pv 0) (pa_cons (pv 5) pa_nil))) (pa_cons (pv 10) pa_nil))) pa_nil))))))
    (pss_one (ps_expr (k_bm (K := K) rfl PySem.F.plainAttrs_list PySem.F.slot_list_append PySem.F.type_list_append mt_append (pv 6) (pa_cons (pe_callTy (k_tupOf (K := K) rfl) (by rfl) T.f_tuple (by decide +kernel) (pa_cons (pv 8) pa_nil)) pa_nil)))))))
    (pss_one (ps_ret (pe_tup (pa_cons (pv 1) (pa_cons (pv 2) (pa_cons (pv 6) (pa_cons (pe_call G_l_pull (hr.mono (by decide)) (by rfl) T.g_l_pull T.F_l_pull.kp b_l_pull .nil pass0 (pa_cons (pv 0) (pa_cons (pv 5) pa_nil))) pa_nil))))))))), ?_⟩
    walk_at "go"
    refine ⟨b, l0, 3, rfl, by omega, by omega, hb, fun d H1 d0 d1 hb1 off1 => ?_⟩
    walk_at "go"
    intro st hst
    walk_at "go"
    have nst := bag_ne hb1 hst
    have hst0 : H st = none := bag_free off1 hb1 hst
    refine g_for walk_range (fun i σ' H' => ∃ (vs : List V) (rows : List (List (Int × Key))) (x y z u : Option V), σ' = [some (.ref b), some (.str "ab"), some (.str "ab"), some (.int 3), some (.int 4), some (.int (1 + d)), some (.ref st), x, y, z, u] ∧ BagAt H' b l0 ∧ Off b H H' ∧
        H' st = some (.lst vs) ∧ rows.length = i ∧ RowsV K H' vs rows ∧ ∀ r ∈ rows, OkTRow (1 + d).toNat r)
      ⟨[], [], none, none, none, none, rfl, bag_same hb1 (K70.Same.new1 hst), off1.new hst, upd_same, rfl, ⟨rfl, fun i v r e => by simp at e⟩, fun r h => by cases h⟩ (fun _ _ _ _ _ => trivial) ?_ ?_
    · rintro i x σ' H2 H3 hi ⟨vs, rows, x0, y0, z0, u0, rfl, hb3, off3, e3, lr, rv, ok⟩ ⟨rfl, rfl⟩
      have lv : vs.length = rows.length := rv.1
      walk_at "go"
      intro rw_ hrw
      walk_at "go"
      have nrw := bag_ne hb3 hrw
      have nrs : st ≠ rw_ := ne_of_none e3 hrw
      refine g_for walk_str (fun j σ' H' => ∃ (us : List V) (row : List (Int × Key)) (z u : Option V), σ' = [some (.ref b), some (.str "ab"), some (.str "ab"), some (.int 3), some (.int 4), some (.int (1 + d)), some (.ref st), some (.int (0 + (i : Int))), some (.ref rw_), z, u] ∧ BagAt H' b l0 ∧ Off b H3 H' ∧
          H' rw_ = some (.lst us) ∧ row.length = j ∧ RowV K H' us row ∧ ∀ q ∈ row, 0 ≤ q.1 ∧ q.1 < (1 + d).toNat ∧ okOut q.2)
        ⟨[], [], z0, u0, rfl, bag_same hb3 (K70.Same.new1 hrw), Off.of (K70.Same.new1 hrw), upd_same, rfl, ⟨rfl, fun i v r e => by simp at e⟩, fun r h => by cases h⟩ (fun _ _ _ _ _ => trivial) ?_ ?_
      · rintro j y σ2 H4 H5 hj ⟨us, row, z1, u1, rfl, hb5, off5, e5, lrow, rowv, okr⟩ ⟨rfl, c, ec, rfl⟩
        have lu : us.length = row.length := rowv.1
        have hj2 : j < 2 := hj
        refine r_name ?_
        refine r_join (fun σ' H' => ∃ o : Key, σ' = [some (.ref b), some (.str "ab"), some (.str "ab"), some (.int 3), some (.int 4), some (.int (1 + d)), some (.ref st), some (.int (0 + (i : Int))), some (.ref rw_), some (.str ⟨#[c]⟩), some (kV o)] ∧ okOut o ∧ BagAt H' b l0 ∧ Off b H5 H') ?_ ?_
        · rintro σ3 H6 ⟨o, rfl, oo, hb6, off6⟩
          have e6 : H6 rw_ = some (.lst us) := off6 _ _ (Ne.symm nrw.1) e5
          obtain ⟨zs5, eb5⟩ := bag_lst hb5
          have tp6 : Tp H5 H6 := Tp.off eb5 off6
          walk_at "go"
          refine ⟨b, l0, 1 + d, rfl, by omega, by omega, hb6, fun d3 H7 d30 d31 hb7 off7 => ?_⟩
          have e7 : H7 rw_ = some (.lst us) := off7 _ _ (Ne.symm nrw.1) e6
          obtain ⟨zs6, eb6⟩ := bag_lst hb6
          have tp7 : Tp H6 H7 := Tp.off eb6 off7
          walk_at "go"
          intro p hp
          walk_at "go"
          have e8 : (upd H7 p (.tup [.int d3, kV o])) rw_ = some (.lst us) := hp_old hp e7
          have tp8 : Tp H7 (upd H7 p (.tup [.int d3, kV o])) := Tp.of (K70.Same.new1 hp)
          have tp9 := Tp.lst (o := .lst (us ++ [.ref p])) e8
          refine ⟨us ++ [.ref p], row ++ [(d3, o)], _, _, rfl, bag_off (bag_same hb7 (K70.Same.new1 hp)) Off.put1 nrw.1 nrw.2, (((off5.trans off6).trans off7).new hp).mut hrw, upd_same, by rw [List.length_append, lrow]; rfl, ?_, fun q hq => ?_⟩
          · exact rowV_snoc (rowV_tp (((tp6.trans tp7).trans tp8).trans tp9) rowv) ⟨p, rfl, sqT_tp tp9 (SqT.of upd_same)⟩
          · rcases List.mem_append.mp hq with z | z
            · exact okr q z
            · rw [List.mem_singleton.mp z]
              exact ⟨d30, by omega, oo⟩
        · intro N hN
          walk_at "go"
          refine ⟨b, l0, 4, rfl, by omega, by omega, hb5, fun d2 H6 d20 d21 hb6 off6 => ?_⟩
          walk_at "go"
          by_cases hz : d2 = 0
          · subst hz
            walk_at "go"
            exact hN _ _ ⟨.inr "", rfl, .inl rfl, hb6, off6⟩
          · walk_at "go"
            intro l hl
            have nl := bag_ne hb6 hl
            have hb7 := bag_same hb6 (K70.Same.new1 (o := .lst (signsV "ab")) hl)
            walk_at "go"
            refine ⟨b, l0, l, signsV "ab", rfl, SqL.of upd_same, by decide, by decide, hb7, fun H8 off8 => SqL.of (off8 _ _ (Ne.symm nl.1) upd_same), fun j2 v H8 ev hb8 off8 => ?_⟩
            have off : Off b H5 H8 := (off6.new hl).trans off8
            have ev2 : v = kV (.inr "a") ∨ v = kV (.inr "b") := by
              match j2, ev with
              | 0, ev =>
                cases ev
                exact .inl rfl
              | 1, ev =>
                cases ev
                exact .inr rfl
              | j2 + 2, ev => cases ev
            walk_at "go"
            rcases ev2 with rfl | rfl
            · exact hN _ _ ⟨.inr "a", rfl, .inr (.inl rfl), hb8, off⟩
            · exact hN _ _ ⟨.inr "b", rfl, .inr (.inr rfl), hb8, off⟩
      · rintro σ2 H4 ⟨us, row, z1, u1, rfl, hb5, off5, e5, lrow, rowv, okr⟩
        have e4 : H4 st = some (.lst vs) := off5 _ _ (Ne.symm nst.1) e3
        walk_at "go"
        intro q hq
        have eq5 : (upd H4 q (.tup us)) st = some (.lst vs) := hp_old hq e4
        walk_at "go"
        obtain ⟨zs, eb⟩ := bag_lst hb3
        have tp4 : Tp H3 H4 := Tp.off eb off5
        have tp5 : Tp H4 (upd H4 q (.tup us)) := Tp.of (K70.Same.new1 hq)
        have tp6 := Tp.lst (o := .lst (vs ++ [.ref q])) eq5
        refine ⟨vs ++ [.ref q], rows ++ [row], _, _, _, _, rfl, bag_off (bag_same hb5 (K70.Same.new1 hq)) Off.put1 nst.1 nst.2, ((off3.trans off5).new hq).mut hst0, upd_same, by rw [List.length_append, lr]; rfl, ?_, fun r hr => ?_⟩
        · exact rowsV_snoc (rowsV_tp ((tp4.trans tp5).trans tp6) rv) (sqT_tp tp6 (SqT.of upd_same)) (rowV_tp (tp5.trans tp6) rowv)
        · rcases List.mem_append.mp hr with z | z
          · exact ok r z
          · rw [List.mem_singleton.mp z]
            exact ⟨lrow.trans rfl, okr⟩
    · rintro σ' H2 ⟨vs, rows, x0, y0, z0, u0, rfl, hb3, off3, e3, lr, rv, ok⟩
      walk_at "go"
      refine ⟨b, l0, 1 + d, rfl, by omega, by omega, hb3, fun d2 H3 d20 d21 hb4 off4 => ?_⟩
      walk_at "go"
      intro p hp
      have npb : p ≠ b := fun e => by
        obtain ⟨zs, eb⟩ := bag_lst hb4
        rw [← e, hp] at eb
        cases eb
      obtain ⟨zs, eb⟩ := bag_lst hb3
      have e4 : H3 st = some (.lst vs) := off4 _ _ (Ne.symm nst.1) e3
      have tp : Tp H2 (del (upd H3 p (.tup [.str "ab", .str "ab", .ref st, .int d2])) b) := fun a o h n1 => by
        have na : a ≠ b := fun e => by
          rw [e, eb] at h
          exact (Option.some.inj h ▸ n1 : TupO (.lst zs)).lst
        rw [del_ne na]
        exact hp_old hp (off4 _ _ na h)
      refine k (.ref p) ⟨rows, d2⟩ _ ((off3.trans off4).new hp) (bag_same hb4 (K70.Same.new1 hp)) ⟨by show 1 ≤ rows.length; omega, by show rows.length ≤ 3; omega, fun r hr => by
        have q := ok r hr
        have e : (1 + d).toNat = rows.length := by omega
        rw [e] at q
        exact q, d20, by show d2 < (rows.length : Int); omega⟩ ?_
      exact .tup (SqT.of (by rw [del_ne npb]; exact upd_same)) (.cons (.str _) (.cons (.str _) (.cons (.lst (xs := vs) (SqL.of (by rw [del_ne (Ne.symm nst.1)]; exact hp_old hp e4)) (rowsV_dps (rowsV_tp tp rv))) (.cons (.int _) .nil))))
end
section
variable {P : Program} {w : World} {K : PySem.W.Frag} {mg : Str → Option Value} {base : Heap}
/-! ### data that is compared: flat and not deep -/
def Sh (n : Nat) (d : PyData) : Prop := d.canLay0 = true ∧ d.depth ≤ n
theorem sh_all {n : Nat} : ∀ {ds : List PyData}, (∀ d ∈ ds, Sh n d) → PyData.canLayAll0 ds = true ∧ PyData.depthAll ds ≤ n
  | [], _ => ⟨by simp only [PyData.canLayAll0], by simp only [PyData.depthAll]; omega⟩
  | d :: ds, h => by
    have ⟨a, b⟩ := h d List.mem_cons_self
    have ⟨c, e⟩ := sh_all (n := n) (ds := ds) fun d hd => h d (List.mem_cons_of_mem _ hd)
    exact ⟨by simp only [PyData.canLayAll0, a, c, Bool.and_self], by simp only [PyData.depthAll]; omega⟩
theorem sh_list {n : Nat} {ds : List PyData} (h : ∀ d ∈ ds, Sh n d) : Sh (n + 1) (.list ds) := by
  have ⟨a, b⟩ := sh_all h
  exact ⟨by simp only [PyData.canLay0, a], by simp only [PyData.depth]; omega⟩
theorem sh_tup {n : Nat} {ds : List PyData} (h : ∀ d ∈ ds, Sh n d) : Sh (n + 1) (.tuple ds) := by
  have ⟨a, b⟩ := sh_all h
  exact ⟨by simp only [PyData.canLay0, a], by simp only [PyData.depth]; omega⟩
theorem sh_int (n : Nat) (i : Int) : Sh n (.int i) := ⟨by simp only [PyData.canLay0], by simp only [PyData.depth]; omega⟩
theorem sh_str {n : Nat} {x : Str} (h : PyData.strOk x = true) : Sh n (.str x) := ⟨by simp only [PyData.canLay0, h], by simp only [PyData.depth]; omega⟩
theorem sh_ok {n : Nat} {d : PyData} (h : Sh n d) (l : n ≤ 64) : SeqAt.shaped d = true := by
  unfold SeqAt.shaped
  rw [h.1, Bool.true_and]
  exact decide_eq_true (Nat.le_trans h.2 l)
theorem sh_row (r : List (Int × Int)) : Sh 2 (rowD r) := sh_tup fun d hd => by
  obtain ⟨p, _, rfl⟩ := List.mem_map.mp hd
  exact sh_tup fun d hd => by
    simp only [List.mem_cons, List.not_mem_nil, or_false] at hd
    rcases hd with rfl | rfl
    · exact sh_int _ _
    · exact sh_int _ _
theorem sh_sts (r : List (List (Int × Int))) : Sh 3 (stsD r) := sh_list fun d hd => by
  obtain ⟨p, _, rfl⟩ := List.mem_map.mp hd
  exact sh_row p
/-- the first of ds like d -/
theorem first_like {ds : List PyData} {d : PyData} {i : Nat} (h : ds[i]? = some d) (s : SeqAt.shaped d = true) : ∃ (j : Nat) (z : PyData), j ≤ i ∧ ds[j]? = some z ∧ PyData.eqv z d = true ∧ ∀ (m : Nat) (z' : PyData), m < j → ds[m]? = some z' → PyData.eqv z' d = false := by
  have refl : PyData.eqv d d = true := SeqAt.eqv_refl d (SeqAt.canLay_of_shaped s)
  induction ds generalizing i with
  | nil => simp at h
  | cons x xs ih =>
    cases q : PyData.eqv x d with
    | true => exact ⟨0, x, Nat.zero_le _, rfl, q, fun m z' hm => absurd hm (Nat.not_lt_zero _)⟩
    | false =>
      cases i with
      | zero =>
        cases h
        rw [refl] at q
        cases q
      | succ i =>
        obtain ⟨j, z, hj, e, q2, f⟩ := ih (show xs[i]? = some d from h)
        refine ⟨j + 1, z, by omega, e, q2, fun m z' hm e2 => ?_⟩
        cases m with
        | zero =>
          cases e2
          exact q
        | succ m => exact f m z' (by omega) e2
theorem list_of {α : Type} {R : V → α → Prop} : ∀ {ys : List V}, (∀ (i : Nat) y, ys[i]? = some y → ∃ x, R y x) → ∃ xs : List α, xs.length = ys.length ∧ ∀ (i : Nat) y x, ys[i]? = some y → xs[i]? = some x → R y x
  | [], _ => ⟨[], rfl, fun i y x e => by simp at e⟩
  | y :: ys, h => by
    obtain ⟨x, hx⟩ := h 0 y rfl
    obtain ⟨xs, l, hs⟩ := list_of (R := R) (ys := ys) fun i y e => h (i + 1) y e
    refine ⟨x :: xs, by rw [List.length_cons, List.length_cons, l], fun i v z e1 e2 => ?_⟩
    cases i with
    | zero =>
      cases e1
      cases e2
      exact hx
    | succ i => exact hs i v z e1 e2
theorem ints_of {P : Int → Prop} : ∀ {ys : List V}, (∀ (i : Nat) y, ys[i]? = some y → ∃ x : Int, y = .int x ∧ P x) → ∃ ss : List Int, ys = ss.map V.int ∧ ∀ x ∈ ss, P x
  | [], _ => ⟨[], rfl, fun x h => by cases h⟩
  | y :: ys, h => by
    obtain ⟨x, rfl, hx⟩ := h 0 y rfl
    obtain ⟨ss, rfl, hs⟩ := ints_of (P := P) (ys := ys) fun i y e => h (i + 1) y e
    refine ⟨x :: ss, rfl, fun z hz => ?_⟩
    rcases List.mem_cons.mp hz with rfl | hz
    · exact hx
    · exact hs z hz
end
section
variable {P : Program} {w : World} {K : PySem.W.Frag} {mg : Str → Option Value} {base : Heap}
/-! ### the law's commands -/
inductive Cmd where
  | add (n : Str) (r : Raw)
  | rep (n : Str) (r : Raw)
  | rem (n : Str)
def CmdV (K : PySem.W.Frag) (H : Hp) (v : V) : Cmd → Prop
  | .add n r => n.length ≤ 9 ∧ OkRaw r ∧ ∃ p u, v = .ref p ∧ SqT K H p [.str "add", .str n, u] ∧ Dp K H u (rawD r)
  | .rep n r => n.length ≤ 9 ∧ OkRaw r ∧ ∃ p u, v = .ref p ∧ SqT K H p [.str "replace", .str n, u] ∧ Dp K H u (rawD r)
  | .rem n => n.length ≤ 9 ∧ ∃ p, v = .ref p ∧ SqT K H p [.str "remove", .str n]
/-- the pool's data -/
def PoolV (K : PySem.W.Frag) (H : Hp) (us : List V) : Prop := us.length = 4 ∧ ∀ (i : Nat) u, us[i]? = some u → ∃ r, Dp K H u (rawD r) ∧ OkRaw r
theorem rep_len {xs : List V} : ∀ n : Nat, (List.replicate n xs).flatten.length = n * xs.length
  | 0 => by simp
  | n + 1 => by
    rw [List.replicate_succ, List.flatten_cons, List.length_append, rep_len n, Nat.succ_mul]
    omega
def sp_l_command (K : PySem.W.Frag) : Sp := fun vs H Q _ => ∃ (b l0 nl pl : Addr) (ns : List Str) (us : List V), vs = [.ref b, .ref nl, .ref pl] ∧ BagAt H b l0 ∧ H nl = some (.lst (ns.map V.str)) ∧ ns.length = 8 ∧ (∀ x ∈ ns, x.length ≤ 8) ∧ nl ≠ b ∧ H pl = some (.lst us) ∧ pl ≠ b ∧ PoolV K (del H b) us ∧
  ∀ (v : V) (c : Cmd) (H' : Hp), Off b H H' → BagAt H' b l0 → CmdV K (del H' b) v c → Q v H'
abbrev NS_l_command : List Str := ["_law_bag_here", "_law_names_here", "_law_pool_here", "_law_name", "_law_raw_here", "_law_way"]
theorem sc_l_command : FnScope NS_l_command ["_law_bag_here", "_law_names_here", "_law_pool_here"] (defScope s_l_command) := ⟨rfl, rfl, rfl, by decide +kernel, rfl, by decide +kernel, by decide +kernel⟩
theorem bb_l_command {w : World} {mg : Str → Option Value} {K : PySem.W.Frag} (T : Tx w mg K) : Binds K (fdOf K (He.fAd K d_l_command.at_)) ["_law_bag_here", "_law_names_here", "_law_pool_here"] [] := FunD.bindsN T.F_l_command fun _ _ _ _ _ _ us hl => match us, hl with | [_, _, _], _ => rfl
theorem ok_l_command (T : Tx w mg K) : FnOk P w K mg base CX0 3 (He.ga K "_law_command") (fdOf K (He.fAd K d_l_command.at_)) ["_law_bag_here", "_law_names_here", "_law_pool_here"] (sp_l_command K) := by
  refine FunD.ok (CX := CX0) (k := 2) T.F_l_command sc_l_command (fun vs H Q E h => ?_) (fun cdv A outer s H vs Q E hr h => ?_)
  · obtain ⟨b, l0, nl, pl, ns, us, rfl, _⟩ := h
    rfl
  · obtain ⟨b, l0, nl, pl, ns, us, rfl, hb, hn, n8, nle, nb, hp, pb, pool, k⟩ := h
    have G_l_of := ok_l_of (P := P) (base := base) T
    have b_l_of := bb_l_of T
    have G_l_pull := ok_l_pull (P := P) (base := base) T
    have b_l_pull := bb_l_pull T
    refine ⟨_, PSs.nox (pss_cons (ps_par (i := 3) (j := 4) rfl sc_l_command.nd rfl rfl (by decide) rfl rfl (pa_cons (pe_call G_l_of (hr.mono (by decide)) (by rfl) T.g_l_of T.F_l_of.kp b_l_of .nil pass0 (pa_cons (pv 0) (pa_cons (pe_op op_cat (pv 1) (pe_op op_rep (pe_lst (pa_cons pe_str (pa_cons pe_str (pa_cons pe_str pa_nil)))) (pe_callTy call_int1 (by rfl) T.f_int (by decide +kernel) (pa_cons (pe_cmpR op_eq (pe_call G_l_pull (hr.mono (by decide)) (by rfl) T.g_l_pull T.F_l_pull.kp b_l_pull .nil pass0 (pa_cons (pv 0) (pa_cons pe_int pa_nil))) pe_int (nomark _)) pa_nil)))) pa_nil))) (pa_cons (pe_call G_l_of (hr.mono (by decide)) (by rfl) T.g_l_of T.F_l_of.kp b_l_of .nil pass0 (pa_cons (pv 0) (pa_cons (pv 2) pa_nil))) pa_nil)) (by rfl))
    (pss_cons (ps_set (i := 5) sc_l_command.nd rfl (.inl rfl) (pe_call G_l_pull (hr.mono (by decide)) (by rfl) T.g_l_pull T.F_l_pull.kp b_l_pull .nil pass0 (pa_cons (pv 0) (pa_cons pe_int pa_nil))))
    (pss_cons (ps_if (pt_cmpR op_lt (pv 5) pe_int (nomark _)) (pss_one (ps_ret (pe_tup (pa_cons pe_str (pa_cons (pv 3) (pa_cons (pv 4) pa_nil)))))) pss_nil)
    (pss_one (ps_ret (pe_ifExp (pt_cmpR op_lt (pv 5) pe_int (nomark _)) (pe_tup (pa_cons pe_str (pa_cons (pv 3) (pa_cons (pv 4) pa_nil)))) (pe_tup (pa_cons pe_str (pa_cons (pv 3) pa_nil))))))))), ?_⟩
    walk_at "go"
    intro p0 hp0
    have np := bag_ne hb hp0
    have hb1 := bag_same hb (K70.Same.new1 (o := .lst [V.str "A", V.str "", V.str "abcdefghi"]) hp0)
    walk_at "go"
    refine ⟨b, l0, 6, rfl, by omega, by omega, hb1, fun d H1 d0 d1 hb2 off1 => ?_⟩
    have e1 : H1 p0 = some (.lst [V.str "A", V.str "", V.str "abcdefghi"]) := off1 _ _ (Ne.symm np.1) upd_same
    have en1 : H1 nl = some (.lst (ns.map V.str)) := off1 _ _ nb (hp_old hp0 hn)
    walk_at "go"
    refine .inr ⟨_, rfl, ?_⟩
    have hi : (0 : Int) ≤ (if decide (V.int d = V.int 0) = true then 1 else 0) ∧ (if decide (V.int d = V.int 0) = true then 1 else 0) ≤ (1 : Int) := by split <;> decide
    generalize (if decide (V.int d = V.int 0) = true then (1 : Int) else 0) = cnt at hi ⊢
    refine r_rep e1 (by omega) (by omega) (by show 3 * cnt.toNat ≤ _; rw [szl]; omega) ?_
    intro p2 hp2
    have hlen : (List.replicate cnt.toNat [V.str "A", V.str "", V.str "abcdefghi"]).flatten.length ≤ 3 := by
      rw [rep_len]
      show cnt.toNat * 3 ≤ 3
      omega
    have hel : ∀ v ∈ (List.replicate cnt.toNat [V.str "A", V.str "", V.str "abcdefghi"]).flatten, ∃ x : Str, v = .str x ∧ x.length ≤ 9 := fun v hv => by
      obtain ⟨l, hl, hv⟩ := List.mem_flatten.mp hv
      rw [(List.mem_replicate.mp hl).2] at hv
      simp only [List.mem_cons, List.not_mem_nil, or_false] at hv
      rcases hv with rfl | rfl | rfl
      · exact ⟨_, rfl, by decide +kernel⟩
      · exact ⟨_, rfl, by decide +kernel⟩
      · exact ⟨_, rfl, by decide +kernel⟩
    generalize (List.replicate cnt.toNat [V.str "A", V.str "", V.str "abcdefghi"]).flatten = ex at hlen hel ⊢
    refine r_cat (hp_old hp2 en1) upd_same (by rw [szl, List.length_map]; omega) ?_
    intro p3 hp3
    have hb3 : BagAt (upd (upd H1 p2 (.lst ex)) p3 (.lst (ns.map V.str ++ ex))) b l0 := bag_same hb2 (K70.Same.new (K70.Same.new1 hp2) hp3)
    have off3 : Off b H (upd (upd H1 p2 (.lst ex)) p3 (.lst (ns.map V.str ++ ex))) := (((Off.of (K70.Same.new1 hp0)).trans off1).new hp2).new hp3
    have np3 : p3 ≠ b := by
      obtain ⟨zs, eb⟩ := bag_lst hb2
      exact Ne.symm (ne_of_none (hp_old hp2 eb) hp3)
    walk_at "go"
    refine ⟨b, l0, p3, ns.map V.str ++ ex, rfl, SqL.of upd_same, by rw [List.length_append, List.length_map]; omega, by rw [List.length_append, List.length_map]; omega, hb3, fun H4 off4 => SqL.of (off4 _ _ np3 upd_same), fun i v H4 ev hb4 off4 => ?_⟩
    obtain ⟨name, rfl, hname⟩ : ∃ x : Str, v = .str x ∧ x.length ≤ 9 := by
      rcases List.mem_append.mp (List.mem_of_getElem? ev) with z | z
      · obtain ⟨x, hx, rfl⟩ := List.mem_map.mp z
        exact ⟨x, rfl, Nat.le_trans (nle x hx) (by decide)⟩
      · exact hel _ z
    walk_at "go"
    have ep4 : H4 pl = some (.lst us) := (off3.trans off4) _ _ pb hp
    refine ⟨b, l0, pl, us, rfl, SqL.of ep4, by rw [pool.1]; decide, by rw [pool.1]; decide, hb4, fun H5 off5 => SqL.of (off5 _ _ pb ep4), fun j u H5 eu hb5 off5 => ?_⟩
    obtain ⟨r, hr2, okr⟩ := pool.2 j u eu
    have off : Off b H H5 := (off3.trans off4).trans off5
    walk_at "go"
    refine ⟨b, l0, 6, rfl, by omega, by omega, hb5, fun way H6 w0 w1 hb6 off6 => ?_⟩
    walk_at "go"
    have tupOk : ∀ (q : Addr) (xs : List V), H6 q = none → SqT K (del (upd H6 q (.tup xs)) b) q xs ∧ Dp K (del (upd H6 q (.tup xs)) b) u (rawD r) := fun q xs hq => by
      have nq : q ≠ b := by
        obtain ⟨zs, eb⟩ := bag_lst hb6
        exact Ne.symm (ne_of_none eb hq)
      exact ⟨SqT.of (by rw [del_ne nq]; exact upd_same), dp_same (off_del ((off.trans off6).new hq)) hr2⟩
    by_cases h3 : way < 3
    · walk_at "go"
      intro q hq
      have ⟨t1, t2⟩ := tupOk q [.str "add", .str name, u] hq
      exact k _ (.add name r) _ ((off.trans off6).new hq) (bag_same hb6 (K70.Same.new1 hq)) ⟨hname, okr, q, u, rfl, t1, t2⟩
    · walk_at "go"
      by_cases h5 : way < 5
      · walk_at "go"
        intro q hq
        have ⟨t1, t2⟩ := tupOk q [.str "replace", .str name, u] hq
        exact k _ (.rep name r) _ ((off.trans off6).new hq) (bag_same hb6 (K70.Same.new1 hq)) ⟨hname, okr, q, u, rfl, t1, t2⟩
      · walk_at "go"
        intro q hq
        have ⟨t1, t2⟩ := tupOk q [.str "remove", .str name] hq
        exact k _ (.rem name) _ ((off.trans off6).new hq) (bag_same hb6 (K70.Same.new1 hq)) ⟨hname, q, rfl, t1⟩
end
section
variable {P : Program} {w : World} {K : PySem.W.Frag} {mg : Str → Option Value} {base : Heap}
/-! ### behaviours -/
theorem rep_zero : ∀ n : Nat, (List.replicate n [V.int 0]).flatten = (List.replicate n (0 : Int)).map V.int
  | 0 => rfl
  | n + 1 => by
    rw [List.replicate_succ, List.flatten_cons, rep_zero n, List.replicate_succ, List.map_cons]
    rfl
theorem rowV_ofP {H : Hp} {P : Int × Key → Prop} {ys : List V} (h : ∀ (i : Nat) y, ys[i]? = some y → ∃ p, PairV K H y p ∧ P p) : ∃ r : List (Int × Key), RowV K H ys r ∧ ∀ p ∈ r, P p := by
  obtain ⟨xs, l, hx⟩ := list_of (R := fun y p => PairV K H y p ∧ P p) h
  refine ⟨xs, ⟨l.symm, fun i v p e1 e2 => (hx i v p e1 e2).1⟩, fun p hp => ?_⟩
  obtain ⟨i, hi, e⟩ := List.mem_iff_getElem.mp hp
  exact (hx i _ p (List.getElem?_eq_getElem (by omega)) (by rw [List.getElem?_eq_getElem hi, e])).2
theorem rowI_of {row : List (Int × Key)} (h : ∀ p ∈ row, ∃ a c : Int, p = (a, .inl c)) : ∃ rr : List (Int × Int), row = rowI rr := ⟨row.map fun p => (p.1, match p.2 with | .inl i => i | .inr _ => 0), by
  unfold rowI
  rw [List.map_map]
  refine (List.map_id _).symm.trans (List.map_congr_left fun p hp => ?_)
  obtain ⟨a, c, rfl⟩ := h p hp
  rfl⟩
def sp_behaviours (K : PySem.W.Frag) : Sp := fun vs H Q _ => ∃ (p : Addr) (r : Raw), vs = [.ref p] ∧ MacAt K H p r ∧ OkRaw r ∧ ∀ (q : Addr) (ks : List Int) (H' : Hp), Same H H' → H' q = some (.lst (ks.map V.int)) → ks.length = r.st.length → (∀ k ∈ ks, 0 ≤ k ∧ k < r.st.length) → Q (.ref q) H'
abbrev NS_behaviours : List Str := ["machine", "states", "same", "turn", "kinds", "state", "target", "priority", "kind"]
theorem sc_behaviours : FnScope NS_behaviours ["machine"] (defScope s_behaviours) := ⟨rfl, rfl, rfl, by decide +kernel, rfl, by decide +kernel, by decide +kernel⟩
theorem bb_behaviours {w : World} {mg : Str → Option Value} {K : PySem.W.Frag} (T : Tx w mg K) : Binds K (fdOf K (He.fAd K d_behaviours.at_)) ["machine"] [] := FunD.bindsN T.F_behaviours fun _ _ _ _ _ _ us hl => match us, hl with | [_], _ => rfl
theorem ok_behaviours (T : Tx w mg K) : FnOk P w K mg base CX0 2 (He.ga K "behaviours") (fdOf K (He.fAd K d_behaviours.at_)) ["machine"] (sp_behaviours K) := by
  refine FunD.ok (CX := CX0) (k := 1) T.F_behaviours sc_behaviours (fun vs H Q E h => ?_) (fun cdv A outer s H vs Q E hr h => ?_)
  · obtain ⟨p, r, rfl, _⟩ := h
    rfl
  · obtain ⟨p, r, rfl, hm, ok, k⟩ := h
    have n1 := ok.n1
    have n5 := ok.n5
    have G_Machine_states := ok_Machine_states (P := P) (base := base) T
    have b_Machine_states := bb_Machine_states T
    refine ⟨_, PSs.nox (pss_cons (ps_set (i := 1) sc_behaviours.nd rfl (.inl rfl) (pe_meth0 (pv 0) T.c_Machine T.m_Machine_states G_Machine_states (hr.mono (by decide)) b_Machine_states .nil pass0))
    (pss_cons (ps_set (i := 2) sc_behaviours.nd rfl (.inr rfl) (pe_op op_rep (pe_lst (pa_cons pe_int pa_nil)) (pe_callB (k_len (K := K) rfl) (by rfl) T.f_len (by decide +kernel) (pa_cons (pv 1) pa_nil))))
    (pss_cons (ps_for PassesOwn.never rfl (pi_range1 (by rfl) T.f_range (pa_cons (pe_op op_add (pe_callB (k_len (K := K) rfl) (by rfl) T.f_len (by decide +kernel) (pa_cons (pv 1) pa_nil)) pe_int) pa_nil)) (pg_name (i := 3) sc_behaviours.nd rfl (.inl rfl)) (pss_cons (ps_set (i := 4) sc_behaviours.nd rfl (.inr rfl) (pe_lc (own := [("state", 5)]) (g := gName 5) (tt := tYes) rfl sc_behaviours.nd (k_piL (K := K) rfl (pv 1)) (blkOk_by (N := NS_behaviours) (sc := defScope s_behaviours) (by decide +kernel)) (fun _ _ _ _ _ => pg_name (i := 5) sc_behaviours.nd rfl (Or.inl rfl)) (fun _ _ _ _ _ => pts_nil) (fun _ _ _ _ _ => (pe_callTy (k_tupOf (K := K) rfl) (by rfl) T.f_tuple (by decide +kernel) (pa_cons (pe_lc (own := [("target", 6), ("priority", 7)]) (g := gTup K 2 (gCons (gName 6) ( gCons (gName 7) ( gNil)))) (tt := tYes) rfl sc_behaviours.nd (k_piT (K := K) rfl (pv 5)) (blkOk_by (N := NS_behaviours) (by kernel_rfl)) (fun _ _ _ _ _ => pg_tup rfl (pgs_cons (pg_name (i := 6) sc_behaviours.nd rfl (Or.inl rfl)) (pgs_cons (pg_name (i := 7) sc_behaviours.nd rfl (Or.inl rfl)) pgs_nil))) (fun _ _ _ _ _ => pts_nil) (fun _ _ _ _ _ => (pe_tup (pa_cons (pe_ix (k_ixL (K := K) rfl) (pv 2) (pv 6) (fun _ _ => rfl)) (pa_cons (pv 7) pa_nil))))) pa_nil)))))
    (pss_one (ps_set (i := 2) sc_behaviours.nd rfl (.inr rfl) (pe_lc (own := [("kind", 8)]) (g := gName 8) (tt := tYes) rfl sc_behaviours.nd (k_piL (K := K) rfl (pv 4)) (blkOk_by (N := NS_behaviours) (sc := defScope s_behaviours) (by decide +kernel)) (fun _ _ _ _ _ => pg_name (i := 8) sc_behaviours.nd rfl (Or.inl rfl)) (fun _ _ _ _ _ => pts_nil) (fun _ _ _ _ _ => (k_bm (K := K) rfl PySem.F.plainAttrs_list PySem.F.slot_list_index PySem.F.type_list_index (k_indexD (K := K) rfl (hu65_of hr)) (pv 4) (pa_cons (pv 8) pa_nil))))))))
    (pss_one (ps_ret (pv 2)))))), ?_⟩
    have hm' := hm
    obtain ⟨dx, t, hp, hd⟩ := hm'
    walk_at "go"
    refine ⟨p, r, rfl, hm, fun l xs H1 s1 hl _ hxs => ?_⟩
    have lx : xs.length = r.st.length := by rw [dpAll_len hxs, List.length_map]
    walk_at "go"
    intro z hz
    walk_at "go"
    refine r_rep upd_same (by omega) (by omega) (by rw [szl, Int.toNat_natCast]; show 1 * xs.length ≤ _; omega) ?_
    intro q hq
    rw [Int.toNat_natCast, rep_zero]
    walk_at "go"
    have s2 : Same H1 (upd (upd H1 z (.lst [V.int 0])) q (.lst ((List.replicate xs.length (0 : Int)).map V.int))) := K70.Same.new (K70.Same.new1 hz) hq
    refine g_for walk_range (fun i σ' H' => Same H1 H' ∧ ∃ (q : Addr) (ks : List Int) (a b c d e f : Option V), σ' = [some (.ref p), some (.ref l), some (.ref q), a, b, c, d, e, f] ∧ H' q = some (.lst (ks.map V.int)) ∧ ks.length = r.st.length ∧ ∀ k ∈ ks, 0 ≤ k ∧ k < r.st.length)
      ⟨s2, q, _, none, none, none, none, none, none, rfl, upd_same, by rw [List.length_replicate, lx], fun k hk => by
        rw [(List.mem_replicate.mp hk).2]
        omega⟩ (fun _ _ _ _ _ => trivial) ?_ ?_
    · rintro i x σ' H2 H3 hi ⟨s3, q, ks, a, b, c, d, e, f, rfl, hq2, lk, kb⟩ ⟨rfl, rfl⟩
      have hl3 := s3 _ _ hl
      have hxs3 := dps_same s3 hxs
      walk_at "go"
      refine g_new walk_list (fun _ y Hx => ∃ (a : Addr) (us : List V) (row : List (Int × Int)), y = .ref a ∧ SqT K Hx a us ∧ RowV K Hx us (rowI row)) (by rw [szl]; omega) (fun H' s => sqL_same s (SqL.of hl3)) ?_ ?_
      · rintro j y D acc H4 H5 N NF hj hD hacc s4 ⟨rfl, ey⟩ qk
        obtain ⟨row, er, hrow⟩ := sts_at (dps_same s4 hxs3) ey
        obtain ⟨b2, us, rfl, hb2, hus⟩ := dp_tup hrow
        have lus : us.length = row.length := by rw [dpAll_len hus, List.length_map]
        have okr := ok.row row (List.mem_of_getElem? er)
        have hrl : row.length ≤ 3 := by
          rw [okr.len]
          exact (okA_of ok.l).l2
        have hq4 := s4 _ _ hq2
        unfold LcT
        walk_at "go"
        refine g_new walk_tup (fun _ y Hx => ∃ pr : Int × Key, PairV K Hx y pr ∧ ∃ a c : Int, pr = (a, .inl c)) (by rw [szl]; omega) (fun H' s => sqT_same s hb2) ?_ ?_
        · rintro j2 y2 D2 acc2 H6 H7 N2 NF2 hj2 hD2 hacc2 s6 ⟨rfl, ey2⟩ qk2
          obtain ⟨pr, c2, epr, rfl, hc2⟩ := row_at (dps_same s6 hus) ey2
          obtain ⟨o1, o2, o3, o4⟩ := okr.ok pr (List.mem_of_getElem? epr)
          unfold LcT
          refine r_gtup hc2 rfl ?_
          walk_at "go"
          have hi2 : pr.1.toNat < ks.length := by omega
          have ea : atI (ks.map V.int) pr.1 = some (.int ks[pr.1.toNat]) := by
            have q := atI_nat (xs := ks.map V.int) (j := pr.1.toNat) (v := .int ks[pr.1.toNat]) (by rw [List.getElem?_map, List.getElem?_eq_getElem hi2]; rfl)
            rw [show ((pr.1.toNat : Nat) : Int) = pr.1 by omega] at q
            exact q
          refine r_ixL (SqL.of (s6 _ _ hq4)) ea ?_
          walk_at "go"
          intro q2 hq2
          have e7 : (upd H7 q2 (.tup [.int ks[pr.1.toNat], .int pr.2])) D2 = some (.lst acc2) := hp_old hq2 hacc2
          exact qk2 _ _ (K70.Same.new1 hq2) fun Hx off => ⟨(ks[pr.1.toNat], .inl pr.2), pairV_tp (Tp.off e7 off) ⟨q2, rfl, SqT.of upd_same⟩, _, _, rfl⟩
        · intro D2 ys2 H6 hD2 s6 hD2' ly2 hy2
          walk_at "go"
          intro q2 hq2
          obtain ⟨row2, hrow2, prow2⟩ := rowV_ofP hy2
          obtain ⟨rr, rfl⟩ := rowI_of prow2
          have e7 : (upd H6 q2 (.tup ys2)) D = some (.lst acc) := hp_old hq2 (s6 _ _ hacc)
          refine qk _ _ (s6.trans (K70.Same.new1 hq2)) fun Hx off => ⟨q2, ys2, rr, rfl, sqT_tp (Tp.off e7 off) (SqT.of upd_same), rowV_tp ((Tp.of (K70.Same.new1 hq2)).trans (Tp.off e7 off)) hrow2⟩
      · intro D ys H4 hD s4 hD4 ly hy
        walk_at "go"
        obtain ⟨rows, lrows, hrows⟩ := list_of (R := fun y (row : List (Int × Int)) => ∃ (a : Addr) (us : List V), y = .ref a ∧ SqT K H4 a us ∧ RowV K H4 us (rowI row)) (ys := ys) fun i y e => by
          obtain ⟨a, us, row, z1, z2, z3⟩ := hy i y e
          exact ⟨row, a, us, z1, z2, z3⟩
        have hdat : DpAll K H4 ys (rows.map rowD) := dpAll_of (by rw [List.length_map, lrows]) fun i v d e1 e2 => by
          rw [List.getElem?_map] at e2
          obtain ⟨row, e3, rfl⟩ := Option.map_eq_some_iff.mp e2
          obtain ⟨a, us, rfl, z2, z3⟩ := hrows i v row e1 e3
          rw [← rowI_D]
          exact .tup z2 (rowV_dps z3)
        have hD2 : Dp K H4 (.ref D) (stsD rows) := .lst (SqL.of hD4) hdat
        refine g_new walk_list (fun _ y _ => ∃ j : Int, y = .int j ∧ 0 ≤ j ∧ j < r.st.length) (by rw [szl]; omega) (fun H' s => sqL_same s (SqL.of hD4)) ?_ ?_
        · rintro j2 y2 D2 acc2 H6 H7 N2 NF2 hj2 hDD2 hacc2 s6 ⟨rfl, ey2⟩ qk2
          obtain ⟨d, ed, hd2⟩ := dpAll_get (dps_same s6 hdat) ey2
          have shd : SeqAt.shaped d = true := by
            rw [List.getElem?_map] at ed
            obtain ⟨row, _, rfl⟩ := Option.map_eq_some_iff.mp ed
            exact sh_ok (sh_row row) (by decide)
          obtain ⟨j, z, hjle, ez, eqz, fst⟩ := first_like ed shd
          have hD6 := s6 _ _ hD4
          unfold LcT
          walk_at "go"
          refine ⟨D, _, d, rows.map rowD, j, z, rfl, rfl, dp_same s6 hD2, hd2, sh_ok (sh_sts rows) (by decide), shd, ez, eqz, fst, ?_⟩
          exact qk2 _ _ (Same.refl _) fun _ _ => ⟨j, rfl, by omega, by omega⟩
        · intro D2 ys2 H6 hDD2 s6 hD2' ly2 hy2
          obtain ⟨ks2, rfl, hks2⟩ := ints_of hy2
          walk_at "go"
          exact ⟨(s3.trans s4).trans s6, D2, ks2, _, _, _, _, _, _, rfl, hD2', by rw [List.length_map] at ly2; omega, hks2⟩
    · rintro σ' H2 ⟨s3, q, ks, a, b, c, d, e, f, rfl, hq2, lk, kb⟩
      walk_at "go"
      exact k q ks H2 (s1.trans s3) hq2 lk kb
end
section
variable {P : Program} {w : World} {K : PySem.W.Frag} {mg : Str → Option Value} {base : Heap}
/-! ### numbers -/
def numF : Nat → List Int → List (Key × V)
  | _, [] => []
  | i, c :: cs => (.inl c, .int i) :: numF (i + 1) cs
theorem numF_app (c : Int) : ∀ (i : Nat) (cs : List Int), numF i (cs ++ [c]) = numF i cs ++ [(.inl c, .int ((i + cs.length : Nat) : Int))]
  | i, [] => rfl
  | i, x :: cs => by
    show _ :: numF (i + 1) (cs ++ [c]) = _
    rw [numF_app c (i + 1) cs, List.length_cons, show i + 1 + cs.length = i + (cs.length + 1) by omega]
    rfl
theorem numF_len : ∀ (i : Nat) (cs : List Int), (numF i cs).length = cs.length
  | _, [] => rfl
  | i, x :: cs => by
    show (numF (i + 1) cs).length + 1 = _
    rw [numF_len (i + 1) cs]
    rfl
theorem numF_get : ∀ (i : Nat) (cs : List Int) (j : Nat), (numF i cs)[j]? = cs[j]?.map fun c => (.inl c, .int ((i + j : Nat) : Int))
  | i, [], j => by simp [numF]
  | i, x :: cs, 0 => rfl
  | i, x :: cs, j + 1 => by
    show (numF (i + 1) cs)[j]? = cs[j]?.map _
    rw [numF_get (i + 1) cs j, show i + 1 + j = i + (j + 1) by omega]
theorem numF_val {c : Int} : ∀ (i : Nat) (cs : List Int), c ∈ cs → ∃ j : Nat, j < cs.length ∧ valV (numF i cs) (.inl c) = some (.int ((i + j : Nat) : Int))
  | i, x :: cs, h => by
    by_cases e : x = c
    · exact ⟨0, Nat.succ_pos _, valV_pos (by show (Sum.inl x : Key) = _; rw [e])⟩
    · have h2 : c ∈ cs := by
        rcases List.mem_cons.mp h with z | z
        · exact absurd z.symm e
        · exact z
      obtain ⟨j, hj, q⟩ := numF_val (i + 1) cs h2
      refine ⟨j + 1, by rw [List.length_cons]; omega, ?_⟩
      show valV ((.inl x, .int i) :: numF (i + 1) cs) _ = _
      rw [valV_neg (fun z => e (Sum.inl.inj z)), q, show i + 1 + j = i + (j + 1) by omega]
theorem numF_none {c : Int} : ∀ (i : Nat) (cs : List Int), c ∉ cs → valV (numF i cs) (.inl c) = none
  | i, [], _ => rfl
  | i, x :: cs, h => by
    show valV ((.inl x, .int i) :: numF (i + 1) cs) _ = _
    rw [valV_neg (fun z => h (by rw [Sum.inl.inj z]; exact List.mem_cons_self))]
    exact numF_none (i + 1) cs fun z => h (List.mem_cons_of_mem _ z)
theorem putK_none {kvs : List (Key × V)} {k : Key} {v : V} (h : valV kvs k = none) : putK kvs k v = kvs ++ [(k, v)] := by
  unfold putK
  rw [valV_any, h]
  rfl
theorem pigeon : ∀ (n : Nat) (l : List Nat), l.Nodup → (∀ x ∈ l, x < n) → l.length ≤ n
  | 0, l, _, h => by
    cases l with
    | nil => exact Nat.le_refl _
    | cons x l => exact absurd (h x List.mem_cons_self) (Nat.not_lt_zero _)
  | n + 1, l, d, h => by
    by_cases e : n ∈ l
    · have q := pigeon n (l.erase n) (d.erase n) fun x hx => by
        have h1 := h x (List.mem_of_mem_erase hx)
        have h2 : x ≠ n := fun z => by
          rw [z] at hx
          exact (List.Nodup.not_mem_erase d) hx
        omega
      rw [List.length_erase_of_mem e] at q
      omega
    · have q := pigeon n l d fun x hx => by
        have h1 := h x hx
        have h2 : x ≠ n := fun z => e (z ▸ hx)
        omega
      omega
theorem pigeonI {n : Nat} {l : List Int} (d : l.Nodup) (h : ∀ x ∈ l, 0 ≤ x ∧ x < n) : l.length ≤ n := by
  have q := pigeon n (l.map Int.toNat) ?_ fun x hx => by
    obtain ⟨y, hy, rfl⟩ := List.mem_map.mp hx
    have := h y hy
    omega
  · rw [List.length_map] at q
    exact q
  · unfold List.Nodup at d ⊢
    rw [List.pairwise_map]
    refine List.Pairwise.imp_of_mem (fun {a b} ha hb z e => ?_) d
    have h1 := h a ha
    have h2 := h b hb
    exact z (by omega)
theorem at_int {ks : List Int} {i : Int} (h0 : 0 ≤ i) (h1 : i < ks.length) : atI (ks.map V.int) i = some (.int (ks.getD i.toNat 0)) := by
  have hi : i.toNat < ks.length := by omega
  have q := atI_nat (xs := ks.map V.int) (j := i.toNat) (v := .int ks[i.toNat]) (by rw [List.getElem?_map, List.getElem?_eq_getElem hi]; rfl)
  rw [show ((i.toNat : Nat) : Int) = i by omega] at q
  rw [q, List.getD_eq_getElem?_getD, List.getElem?_eq_getElem hi]
  rfl
theorem getD_mem {ks : List Int} {i : Int} (h0 : 0 ≤ i) (h1 : i < ks.length) : ks.getD i.toNat 0 ∈ ks := by
  have hi : i.toNat < ks.length := by omega
  rw [List.getD_eq_getElem?_getD, List.getElem?_eq_getElem hi]
  exact List.getElem_mem hi
/-- ahead of a turn: the numbers in their order, the line of those not looked at -/
def MinP (r : Raw) (ks : List Int) (p q dn ln : Addr) (H1 : Hp) (m : Nat) (σ' : L2.St) (H' : Hp) : Prop := ∃ (done line : List Int) (x y : Option V), m = 2 * (r.st.length - (done ++ line).length) + line.length ∧
  σ' = [some (.ref p), some (.ref q), some (.ref dn), some (.ref ln), x, y, none, none] ∧ Same H1 H' ∧ H' dn = some (.dK (numF 0 (done ++ line))) ∧ H' ln = some (.lst (line.map V.int)) ∧ (done ++ line).Nodup ∧
  (∀ c ∈ done ++ line, 0 ≤ c ∧ c < r.st.length) ∧ done ++ line ≠ [] ∧ ∀ c ∈ done, ∀ row, r.st[c.toNat]? = some row → ∀ z ∈ row, ks.getD z.1.toNat 0 ∈ done ++ line
def sp_minimized (K : PySem.W.Frag) : Sp := fun vs H Q _ => ∃ (p : Addr) (r : Raw), vs = [.ref p] ∧ MacAt K H p r ∧ OkRaw r ∧ ∀ (q : Addr) (r' : Raw) (H' : Hp), Same H H' → MacAt K H' q r' → OkRaw r' → Q (.ref q) H'
abbrev NS_minimized : List Str := ["machine", "same", "numbers", "line", "target", "priority", "states", "state"]
theorem sc_minimized : FnScope NS_minimized ["machine"] (defScope s_minimized) := ⟨rfl, rfl, rfl, by decide +kernel, rfl, by decide +kernel, by decide +kernel⟩
theorem bb_minimized {w : World} {mg : Str → Option Value} {K : PySem.W.Frag} (T : Tx w mg K) : Binds K (fdOf K (He.fAd K d_minimized.at_)) ["machine"] [] := FunD.bindsN T.F_minimized fun _ _ _ _ _ _ us hl => match us, hl with | [_], _ => rfl
theorem ok_minimized (T : Tx w mg K) : FnOk P w K mg base CX0 5 (He.ga K "minimized") (fdOf K (He.fAd K d_minimized.at_)) ["machine"] (sp_minimized K) := by
  refine FunD.ok (CX := CX0) (k := 4) T.F_minimized sc_minimized (fun vs H Q E h => ?_) (fun cdv A outer s H vs Q E hr h => ?_)
  · obtain ⟨p, r, rfl, _⟩ := h
    rfl
  · obtain ⟨p, r, rfl, hm, ok, k⟩ := h
    have n1 := ok.n1
    have n5 := ok.n5
    have G_Machine_init := ok_Machine_init (P := P) (base := base) T
    have G_Machine_letters := ok_Machine_letters (P := P) (base := base) T
    have b_Machine_letters := bb_Machine_letters T
    have G_Machine_start := ok_Machine_start (P := P) (base := base) T
    have b_Machine_start := bb_Machine_start T
    have G_Machine_states := ok_Machine_states (P := P) (base := base) T
    have b_Machine_states := bb_Machine_states T
    have G_behaviours := ok_behaviours (P := P) (base := base) T
    have b_behaviours := bb_behaviours T
    obtain ⟨ds_Machine, dv_Machine_init, b_Machine_init⟩ := bz_Machine T
    refine ⟨_, PSs.nox (pss_cons (ps_set (i := 1) sc_minimized.nd rfl (.inr rfl) (pe_call G_behaviours (hr.mono (by decide)) (by rfl) T.g_behaviours T.F_behaviours.kp b_behaviours .nil pass0 (pa_cons (pv 0) pa_nil)))
    (pss_cons (ps_asg (pe_tup (pa_cons (pe_disp (pps_cons (pe_ix (k_ixL (K := K) rfl) (pv 1) (pe_meth0 (pv 0) T.c_Machine T.m_Machine_start G_Machine_start (hr.mono (by decide)) b_Machine_start .nil pass0) (fun _ _ => rfl)) pe_int pps_nil) (by rfl) (by rfl) (fun z => by cases z) (by decide)) (pa_cons (pe_lst (pa_cons (pe_ix (k_ixL (K := K) rfl) (pv 1) (pe_meth0 (pv 0) T.c_Machine T.m_Machine_start G_Machine_start (hr.mono (by decide)) b_Machine_start .nil pass0) (fun _ _ => rfl)) pa_nil)) pa_nil))) (pg_tup rfl (pgs_cons (pg_name (i := 2) sc_minimized.nd rfl (.inr rfl)) (pgs_cons (pg_name (i := 3) sc_minimized.nd rfl (.inl rfl)) pgs_nil))))
    (pss_cons (ps_while PassesOwn.never (pt_cmpR op_gt (pe_callB (k_len (K := K) rfl) (by rfl) T.f_len (by decide +kernel) (pa_cons (pv 3) pa_nil)) pe_int (nomark _)) (pss_one (ps_for PassesOwn.never rfl (k_piT (K := K) rfl (pe_ix (k_ixL (K := K) rfl) (pe_meth0 (pv 0) T.c_Machine T.m_Machine_states G_Machine_states (hr.mono (by decide)) b_Machine_states .nil pass0) (k_bm (K := K) rfl PySem.F.plainAttrs_list PySem.F.slot_list_pop PySem.F.type_list_pop mt_popAt (pv 3) (pa_cons pe_int pa_nil)) (fun _ _ => rfl))) (pg_tup rfl (pgs_cons (pg_name (i := 4) sc_minimized.nd rfl (.inl rfl)) (pgs_cons (pg_name (i := 5) sc_minimized.nd rfl (.inl rfl)) pgs_nil))) (pss_one (ps_if (pt_cmp (pc_dnotin (hu_of hr) (pe_ix (k_ixL (K := K) rfl) (pv 1) (pv 4) (fun _ _ => rfl)) (pv 2)) rfl) (pss_cons (ps_dput (hu_of hr) (pv 2) (pe_ix (k_ixL (K := K) rfl) (pv 1) (pv 4) (fun _ _ => rfl)) (pe_callB call_lenD (by rfl) T.f_len (by decide +kernel) (pa_cons (pv 2) pa_nil)) rfl)
    (pss_one (ps_expr (k_bm (K := K) rfl PySem.F.plainAttrs_list PySem.F.slot_list_append PySem.F.type_list_append mt_append (pv 3) (pa_cons (pe_ix (k_ixL (K := K) rfl) (pv 1) (pv 4) (fun _ _ => rfl)) pa_nil))))) pss_nil)))))
    (pss_cons (ps_set (i := 6) sc_minimized.nd rfl (.inl rfl) (pe_lst pa_nil))
    (pss_cons (ps_lock (ps_for PassesOwn.never rfl (pi_keys (pv 2)) (pg_name (i := 7) sc_minimized.nd rfl (.inl rfl)) (pss_one (ps_expr (k_bm (K := K) rfl PySem.F.plainAttrs_list PySem.F.slot_list_append PySem.F.type_list_append mt_append (pv 6) (pa_cons (pe_callTy (k_tupOf (K := K) rfl) (by rfl) T.f_tuple (by decide +kernel) (pa_cons (pe_lc (own := [("target", 4), ("priority", 5)]) (g := gTup K 2 (gCons (gName 4) ( gCons (gName 5) ( gNil)))) (tt := tYes) rfl sc_minimized.nd (k_piT (K := K) rfl (pe_ix (k_ixL (K := K) rfl) (pe_meth0 (pv 0) T.c_Machine T.m_Machine_states G_Machine_states (hr.mono (by decide)) b_Machine_states .nil pass0) (pv 7) (fun _ _ => rfl))) (blkOk_by (N := NS_minimized) (sc := defScope s_minimized) (by decide +kernel)) (fun _ _ _ _ _ => pg_tup rfl (pgs_cons (pg_name (i := 4) sc_minimized.nd rfl (Or.inl rfl)) (pgs_cons (pg_name (i := 5) sc_minimized.nd rfl (Or.inl rfl)) pgs_nil))) (fun _ _ _ _ _ => pts_nil) (fun _ _ _ _ _ => (pe_tup (pa_cons (pe_dget (hu_of hr) (pv 2) (pe_ix (k_ixL (K := K) rfl) (pv 1) (pv 4) (fun _ _ => rfl)) (fun _ _ => rfl)) (pa_cons (pv 5) pa_nil))))) pa_nil)) pa_nil))))))
    (pss_one (ps_ret (pe_make T.k_Machine G_Machine_init (hr.mono (by decide)) (by rfl) T.g_Machine b_Machine_init dv_Machine_init pass0 (pa_cons (pe_meth0 (pv 0) T.c_Machine T.m_Machine_letters G_Machine_letters (hr.mono (by decide)) b_Machine_letters .nil pass0) (pa_cons (pv 6) pa_nil)))))))))), ?_⟩
    walk_at "go"
    refine ⟨p, r, rfl, hm, ok, fun q ks H1 s1 hq lk kb => ?_⟩
    have hm1 := mac_same s1 hm
    have s0 := ok.s0
    have s2 := ok.s1
    have ⟨dx, t, hp, hd⟩ := hm1
    have ea := at_int (ks := ks) s0 (by omega)
    have kc0 := kb _ (getD_mem (ks := ks) s0 (by omega))
    walk_at "go"
    intro dn hdn
    walk_at "go"
    have sd1 : Same H1 (upd H1 dn (.dK [])) := K70.Same.new1 hdn
    refine ⟨p, r, rfl, mac_same sd1 hm1, ?_⟩
    refine r_ixL (SqL.of (hp_old hdn hq)) ea ?_
    generalize ks.getD r.s.toNat 0 = c0 at ea kc0 ⊢
    walk_at "go"
    refine ⟨upd_same, [(.inl c0, .int 0)], rfl, Nat.le_of_ble_eq_true rfl, ?_⟩
    have sd2 : Same H1 (upd (upd H1 dn (.dK [])) dn (.dK (mergeK [] [(.inl c0, .int 0)]))) := K70.Same.mut sd1 hdn
    have ed2 : (upd (upd H1 dn (.dK [])) dn (.dK (mergeK [] [(.inl c0, .int 0)]))) dn = some (.dK (numF 0 [c0])) := upd_same
    generalize upd (upd H1 dn (.dK [])) dn (.dK (mergeK [] [(.inl c0, .int 0)])) = H2 at sd2 ed2 ⊢
    have hp2 := hp_same sd2 hp
    walk_at "go"
    refine ⟨p, r, rfl, mac_same sd2 hm1, ?_⟩
    refine r_ixL (SqL.of (sd2 _ _ hq)) ea ?_
    walk_at "go"
    intro ln hln
    walk_at "go"
    intro pp hpp
    walk_at "go"
    have hln1 : H1 ln = none := free_same sd2 hln
    have ndl : dn ≠ ln := ne_of_none ed2 hln
    refine ⟨MinP r ks p q dn ln H1, ⟨_, [], [c0], none, none, rfl, rfl, (sd2.trans (K70.Same.new1 hln)).trans (K70.Same.new1 hpp), hp_old hpp (hp_old hln ed2), hp_old hpp upd_same, by simp, fun c hc => by
        rw [List.mem_singleton.mp hc]
        exact kc0, by simp, fun c hc => by cases hc⟩, ?_⟩
    rintro m σ' H3 ⟨done, line, x, y, hmm, rfl, s3, ed3, el3, nd, bd, ne, cl⟩
    have hm3 := mac_same s3 hm1
    have hp3 := s3 _ _ hp
    have hq3 := s3 _ _ hq
    have tot := pigeonI nd bd
    rw [List.length_append] at tot hmm
    cases line with
    | cons c line =>
      walk_at "go"
      refine ⟨fun σ' H' => ∃ m', m' < m ∧ MinP r ks p q dn ln H1 m' σ' H', fun _ _ h => h, ?_⟩
      walk_at "go"
      refine ⟨p, r, rfl, hm3, fun l xs H4 s4 hl hl0 hxs => ?_⟩
      have el4 : H4 ln = some (.lst (V.int c :: line.map V.int)) := s4 _ _ el3
      have nll : l ≠ ln := Ne.symm (ne_of_none el3 hl0)
      have bc := bd c (by simp)
      have lx : xs.length = r.st.length := by rw [dpAll_len hxs, List.length_map]
      walk_at "go"
      have hi : c.toNat < xs.length := by omega
      have ec : atI xs c = some xs[c.toNat] := by
        have z := atI_nat (xs := xs) (j := c.toNat) (List.getElem?_eq_getElem hi)
        rw [show ((c.toNat : Nat) : Int) = c by omega] at z
        exact z
      refine r_ixL (SqL.of (hp_ne nll hl)) ec ?_
      obtain ⟨row, er, hrow⟩ := sts_at hxs (List.getElem?_eq_getElem hi)
      obtain ⟨a, us, ea2, hus, hdus⟩ := dp_tup hrow
      rw [ea2]
      have rv4 := dps_rowV hdus
      have tp5 := Tp.lst (o := .lst (line.map V.int)) el4
      have rv5 := rowV_tp tp5 rv4
      have hus5 := sqT_tp tp5 hus
      have okr := ok.row row (List.mem_of_getElem? er)
      have lus : us.length = row.length := by
        have z := rv4.1
        unfold rowI at z
        rw [List.length_map] at z
        exact z
      have hrl : row.length ≤ 3 := by
        rw [okr.len]
        exact (okA_of ok.l).l2
      walk_at "go"
      refine g_for walk_tup (fun i σ' H' => ∃ (new : List Int) (x y : Option V), σ' = [some (.ref p), some (.ref q), some (.ref dn), some (.ref ln), x, y, none, none] ∧ Same H1 H' ∧ Tp (upd H4 ln (.lst (line.map V.int))) H' ∧ H' dn = some (.dK (numF 0 (done ++ (c :: line) ++ new))) ∧
          H' ln = some (.lst ((line ++ new).map V.int)) ∧ (done ++ (c :: line) ++ new).Nodup ∧ (∀ c2 ∈ done ++ (c :: line) ++ new, 0 ≤ c2 ∧ c2 < r.st.length) ∧ ∀ (j : Nat) z, j < i → row[j]? = some z → ks.getD z.1.toNat 0 ∈ done ++ (c :: line) ++ new)
        ⟨[], x, y, rfl, K70.Same.mut (s3.trans s4) hln1, Tp.of (Same.refl _), by rw [List.append_nil]; exact hp_ne ndl (s4 _ _ ed3), by rw [List.append_nil]; exact upd_same, by rw [List.append_nil]; exact nd, by rw [List.append_nil]; exact bd, fun j z hj => absurd hj (Nat.not_lt_zero _)⟩
        (fun i σ' H' _ ⟨_, _, _, _, _, tp, _⟩ => sqT_tp tp hus5) ?_ ?_
      · rintro i v σ' H6 H7 hi6 ⟨new, x, y, rfl, s6, tp6, ed6, el6, nd6, bd6, cl6⟩ ⟨rfl, ev⟩
        obtain ⟨z, b, ez, rfl, hb⟩ := rowV_I (rowV_tp tp6 rv5) ev
        obtain ⟨o1, o2, o3, o4⟩ := okr.ok z (List.mem_of_getElem? ez)
        have hq6 := s6 _ _ hq
        have ek := at_int (ks := ks) o1 (by omega)
        have bk := kb _ (getD_mem (ks := ks) o1 (by omega))
        refine r_gtup hb rfl ?_
        walk_at "go"
        refine r_ixL (SqL.of hq6) ek ?_
        walk_at "go"
        have done1 : ∀ (new2 : List Int), (∀ c2 ∈ new, c2 ∈ new2) → ks.getD z.1.toNat 0 ∈ done ++ (c :: line) ++ new2 → ∀ (j : Nat) z2, j < i + 1 → row[j]? = some z2 → ks.getD z2.1.toNat 0 ∈ done ++ (c :: line) ++ new2 := fun new2 sub hz j z2 hj ez2 => by
          by_cases hji : j = i
          · rw [hji, ez] at ez2
            cases ez2
            exact hz
          · have w := cl6 j z2 (by omega) ez2
            rcases List.mem_append.mp w with w | w
            · exact List.mem_append.mpr (.inl w)
            · exact List.mem_append.mpr (.inr (sub _ w))
        by_cases hmem : ks.getD z.1.toNat 0 ∈ done ++ (c :: line) ++ new
        · obtain ⟨j, hj, e⟩ := numF_val 0 _ hmem
          rw [e]
          walk_at "go"
          exact ⟨new, _, _, rfl, s6, tp6, ed6, el6, nd6, bd6, done1 new (fun _ h => h) hmem⟩
        · rw [numF_none 0 _ hmem]
          walk_at "go"
          refine r_ixL (SqL.of hq6) ek ?_
          have tot6 := pigeonI nd6 bd6
          refine x_pI ed6 (by rw [numF_len, szl]; omega) ?_
          rw [putK_none (numF_none 0 _ hmem), numF_len]
          have e2 := numF_app (ks.getD z.1.toNat 0) 0 (done ++ (c :: line) ++ new)
          rw [Nat.zero_add] at e2
          rw [← e2, List.append_assoc (done ++ c :: line)]
          have hq7 := hp_ne (p := dn) (o := HO.dK (numF 0 (done ++ c :: line ++ (new ++ [ks.getD z.1.toNat 0])))) (fun e => by rw [e, ed6] at hq6; cases hq6) hq6
          have el7 := hp_ne (p := dn) (o := HO.dK (numF 0 (done ++ c :: line ++ (new ++ [ks.getD z.1.toNat 0])))) (Ne.symm ndl) el6
          walk_at "go"
          refine r_ixL (SqL.of hq7) ek ?_
          walk_at "go"
          have tot7 : (done ++ c :: line ++ new).length ≤ 5 := Nat.le_trans tot6 n5
          simp only [List.length_append, List.length_cons] at tot7
          refine r_append el7 (by rw [szl, List.length_map, List.length_append]; omega) ?_
          have hd1 : H1 dn = none := hdn
          refine ⟨new ++ [ks.getD z.1.toNat 0], _, _, rfl, K70.Same.mut (K70.Same.mut s6 hd1) hln1, (tp6.trans (Tp.dic ed6)).trans (Tp.lst el7), hp_ne ndl upd_same, ?_, ?_, fun c2 hc2 => ?_, done1 _ (fun _ h => List.mem_append.mpr (.inl h)) (by simp)⟩
          · rw [upd_same]
            simp only [List.map_append, List.append_assoc, List.map_cons, List.map_nil]
          · rw [← List.append_assoc]
            rw [List.nodup_append]
            refine ⟨nd6, by simp, fun a ha b hb e => ?_⟩
            rw [List.mem_singleton.mp hb] at e
            exact hmem (e ▸ ha)
          · rw [← List.append_assoc] at hc2
            rcases List.mem_append.mp hc2 with w | w
            · exact bd6 c2 w
            · rw [List.mem_singleton.mp w]
              exact ⟨bk.1, bk.2⟩
      · rintro σ' H6 ⟨new, x, y, rfl, s6, tp6, ed6, el6, nd6, bd6, cl6⟩
        have eqc : done ++ (c :: line) ++ new = (done ++ [c]) ++ (line ++ new) := by simp
        rw [eqc] at ed6 nd6 bd6 cl6
        have tot6 := pigeonI nd6 bd6
        refine ⟨_, ?_, done ++ [c], line ++ new, x, y, rfl, rfl, s6, ed6, el6, nd6, bd6, by simp, fun c2 hc2 row2 er2 z hz => ?_⟩
        · rw [← eqc] at tot6 ⊢
          simp only [List.length_append, List.length_cons] at tot6 hmm ⊢
          omega
        · rcases List.mem_append.mp hc2 with w | w
          · have u := cl c2 w row2 er2 z hz
            rw [← eqc]
            exact List.mem_append.mpr (.inl u)
          · rw [List.mem_singleton.mp w, er] at er2
            cases er2
            obtain ⟨j, hj, e⟩ := List.mem_iff_getElem.mp hz
            exact cl6 j z (by omega) (by rw [List.getElem?_eq_getElem hj, e])
    | nil =>
      walk_at "go"
      intro sl hsl
      rw [List.append_nil] at ed3 nd bd ne cl
      have tot3 := pigeonI nd bd
      have hdn1 : H1 dn = none := hdn
      have nds : dn ≠ sl := ne_of_none ed3 hsl
      walk_at "go"
      refine ⟨dn, .dK (numF 0 done), hp_old hsl ed3, trivial, fun od => ?_⟩
      walk_at "go"
      have sF : Same H1 (upd (upd H3 sl (.lst [])) dn (.frz od (.dK (numF 0 done)))) := K70.Same.mut (s3.trans (K70.Same.new1 hsl)) hdn1
      have hsl1 : H1 sl = none := free_same s3 hsl
      refine ⟨dn, od, rfl, .inl ⟨_, upd_same, ?_⟩⟩
      refine g_for walk_keys (fun i σ' H' => ∃ (vs : List V) (rows : List (List (Int × Int))) (x y z : Option V), σ' = [some (.ref p), some (.ref q), some (.ref dn), some (.ref ln), x, y, some (.ref sl), z] ∧ H' dn = some (.frz od (.dK (numF 0 done))) ∧ Same H1 H' ∧ H' sl = some (.lst vs) ∧
          rows.length = i ∧ RowsV K H' vs (rows.map rowI) ∧ ∀ r2 ∈ rows, OkRow r.l.length done.length r2)
        ⟨[], [], x, y, none, rfl, upd_same, sF, hp_ne (Ne.symm nds) upd_same, rfl, ⟨rfl, fun i v p e => by simp at e⟩, fun r2 h => by cases h⟩ (fun i σ' H' _ ⟨_, _, _, _, _, _, e, _⟩ => e) ?_ ?_
      · rintro i v σ' H4 H5 hi ⟨vs, rows, x, y, z, rfl, ed4, s4, es4, lr, rv, okr⟩ ⟨rfl, kk, v0, ekv, rfl⟩
        rw [numF_get] at ekv
        obtain ⟨c, edone, ec⟩ := Option.map_eq_some_iff.mp ekv
        cases ec
        have hcd := List.mem_of_getElem? edone
        have bc := bd c hcd
        have hm4 := mac_same s4 hm1
        have hp4 := s4 _ _ hp
        have lv : vs.length = rows.length := by rw [rv.1, List.length_map]
        rw [numF_len] at hi
        walk_at "go"
        refine ⟨p, r, rfl, hm4, fun l xs H6 s6 hl hl0 hxs => ?_⟩
        have lx : xs.length = r.st.length := by rw [dpAll_len hxs, List.length_map]
        have hic : c.toNat < xs.length := by omega
        have ec2 : atI xs c = some xs[c.toNat] := by
          have z := atI_nat (xs := xs) (j := c.toNat) (List.getElem?_eq_getElem hic)
          rw [show ((c.toNat : Nat) : Int) = c by omega] at z
          exact z
        walk_at "go"
        refine r_ixL (SqL.of hl) ec2 ?_
        obtain ⟨row, er, hrow⟩ := sts_at hxs (List.getElem?_eq_getElem hic)
        obtain ⟨a, us, ea2, hus, hdus⟩ := dp_tup hrow
        rw [ea2]
        have rv6 := dps_rowV hdus
        have okrow := ok.row row (List.mem_of_getElem? er)
        have lus : us.length = row.length := by
          have z := rv6.1
          unfold rowI at z
          rw [List.length_map] at z
          exact z
        have hrl : row.length ≤ 3 := by
          rw [okrow.len]
          exact (okA_of ok.l).l2
        have ed6 := s6 _ _ ed4
        have es6 := s6 _ _ es4
        walk_at "go"
        refine g_new walk_tup (fun _ y Hx => ∃ pr : Int × Key, PairV K Hx y pr ∧ ∃ a c : Int, pr = (a, .inl c) ∧ 0 ≤ a ∧ a < done.length ∧ 0 ≤ c ∧ c ≤ 3) (by rw [szl]; omega) (fun H' s => sqT_same s hus) ?_ ?_
        · rintro j2 y2 D2 acc2 H7 H8 N2 NF2 hj2 hD2 hacc2 s7 ⟨rfl, ey2⟩ qk2
          obtain ⟨z, b, ez, rfl, hb⟩ := rowV_I (rowV_tp (Tp.of s7) rv6) ey2
          have hzr := List.mem_of_getElem? ez
          obtain ⟨o1, o2, o3, o4⟩ := okrow.ok z hzr
          have hq7 := (s4.trans (s6.trans s7)) _ _ hq
          have ed7 := s7 _ _ ed6
          have ek := at_int (ks := ks) o1 (by omega)
          obtain ⟨j, hj, ev⟩ := numF_val 0 done (cl c hcd row er z hzr)
          unfold LcT
          refine r_gtup hb rfl ?_
          walk_at "go"
          refine r_ixL (SqL.of hq7) ek ?_
          refine x_gI (.inr ⟨od, ed7⟩) ev ?_
          walk_at "go"
          intro q2 hq2
          have e8 : (upd H8 q2 (.tup [.int ((0 + j : Nat) : Int), .int z.2])) D2 = some (.lst acc2) := hp_old hq2 hacc2
          exact qk2 _ _ (K70.Same.new1 hq2) fun Hx off => ⟨(((0 + j : Nat) : Int), .inl z.2), pairV_tp (Tp.off e8 off) ⟨q2, rfl, SqT.of upd_same⟩, _, _, rfl, by omega, by omega, o3, o4⟩
        · intro D2 ys2 H7 hD2 s7 hD2' ly2 hy2
          walk_at "go"
          intro q2 hq2
          obtain ⟨row2, hrow2, prow2⟩ := rowV_ofP hy2
          obtain ⟨rr, rfl⟩ := rowI_of (row := row2) fun p hp => by
            obtain ⟨a, c, e, _⟩ := prow2 p hp
            exact ⟨a, c, e⟩
          have es8 : (upd H7 q2 (.tup ys2)) sl = some (.lst vs) := hp_old hq2 (s7 _ _ es6)
          have ed8 : (upd H7 q2 (.tup ys2)) dn = some (.frz od (.dK (numF 0 done))) := hp_old hq2 (s7 _ _ ed6)
          walk_at "go"
          have t8 := (s6.trans s7).trans (K70.Same.new1 (o := .tup ys2) hq2)
          refine ⟨vs ++ [.ref q2], rows ++ [rr], _, _, _, rfl, hp_ne nds ed8, K70.Same.mut (s4.trans t8) hsl1, upd_same, by rw [List.length_append, lr]; rfl, ?_, fun r2 hr2 => ?_⟩
          · rw [List.map_append]
            exact rowsV_snoc (rowsV_tp ((Tp.of t8).trans (Tp.lst es8)) rv) (sqT_tp (Tp.lst es8) (SqT.of upd_same)) (rowV_tp ((Tp.of (K70.Same.new1 hq2)).trans (Tp.lst es8)) hrow2)
          · rcases List.mem_append.mp hr2 with w | w
            · exact okr r2 w
            · rw [List.mem_singleton.mp w]
              refine ⟨?_, fun z hz => ?_⟩
              · have e1 := hrow2.1
                unfold rowI at e1
                rw [ly2, lus, List.length_map] at e1
                rw [← e1]
                exact okrow.len
              · obtain ⟨a, c, ez, a0, a1, c0, c3⟩ := prow2 (z.1, .inl z.2) (List.mem_map.mpr ⟨z, hz, rfl⟩)
                cases ez
                exact ⟨a0, a1, c0, c3⟩
      · rintro σ' H4 ⟨vs, rows, x, y, z, rfl, ed4, s4, es4, lr, rv, okr⟩
        rw [numF_len] at lr
        refine ⟨ed4, ?_⟩
        have s5 : Same H1 (upd H4 dn (.dK (numF 0 done))) := K70.Same.mut s4 hdn1
        have hm5 := mac_same s5 hm1
        have hp5 := s5 _ _ hp
        have es5 : (upd H4 dn (.dK (numF 0 done))) sl = some (.lst vs) := hp_ne (Ne.symm nds) es4
        have rv5 := rowsV_tp (Tp.frz (o := .dK (numF 0 done)) ed4) rv
        walk_at "go"
        refine ⟨p, r, rfl, hm5, ?_⟩
        walk_at "go"
        intro x dx hx0 hd0 hne
        have S := mk_same (o := .own x) (u := .ins (He.ga K "Machine") dx []) hx0 hd0 hne
        have n0 : done.length ≠ 0 := fun e => ne (List.length_eq_zero_iff.mp e)
        have okq : OkRaw ⟨r.l, rows, 0⟩ := ⟨ok.l, by show 1 ≤ rows.length; omega, by show rows.length ≤ 5; omega, fun r2 hr2 => by
          have z := okr r2 hr2
          rw [← lr] at z
          exact z, Int.le_refl _, by show (0 : Int) < rows.length; omega⟩
        refine ⟨x, dx, .ref sl, ⟨r.l, rows, 0⟩, rfl, upd_same, ?_, okq, fun H' off hmm => ⟨rfl, k x _ H' (off_same (s1.trans (s5.trans S)) (free_same (s1.trans s5) hx0) off) hmm okq⟩⟩
        have w := rowsV_dps (rowsV_tp (Tp.of S) rv5)
        rw [List.map_map] at w
        have e : rowK ∘ rowI = rowD := funext rowI_D
        rw [e] at w
        exact .lst (SqL.of (S _ _ es5)) w
end
section
variable {P : Program} {w : World} {K : PySem.W.Frag} {mg : Str → Option Value} {base : Heap}
/-! ### the pool -/
/-- the words of letters -/
def wordsL : List V := [.str "ab", .str "ab", .str "bx", .str "a"]
theorem words_at {j : Nat} {v : V} (h : wordsL[j]? = some v) : ∃ x : Str, v = .str x ∧ okL x := by
  match j, h with
  | 0, h =>
    cases h
    exact ⟨_, rfl, .inl rfl⟩
  | 1, h =>
    cases h
    exact ⟨_, rfl, .inl rfl⟩
  | 2, h =>
    cases h
    exact ⟨_, rfl, .inr (.inl rfl)⟩
  | 3, h =>
    cases h
    exact ⟨_, rfl, .inr (.inr rfl)⟩
  | j + 4, h => cases h
/-- two lists taken out -/
theorem newl_del {H H1 : Hp} {b f : Addr} {xs ys zs : List V} {o : HO} (hb : H b = some (.lst xs)) (hb1 : H1 b = some (.lst zs)) (hf : H f = some (.lst ys)) (hf1 : H1 f = some (.lst ys)) : NewL H H1 (del (del (upd H1 f o) b) f) := by
  refine ⟨fun a u h n => ?_, fun a us h h1 => ?_⟩
  · have na : a ≠ b := fun e => by
      rw [e, hb1] at h
      exact (Option.some.inj h ▸ n : TupO (.lst zs)).lst
    have nf : a ≠ f := fun e => by
      rw [e, hf1] at h
      exact (Option.some.inj h ▸ n : TupO (.lst ys)).lst
    rw [del_ne nf, del_ne na, upd_ne nf]
    exact h
  · have na : a ≠ b := fun e => by
      rw [e, hb] at h
      cases h
    have nf : a ≠ f := fun e => by
      rw [e, hf] at h
      cases h
    rw [del_ne nf, del_ne na, upd_ne nf]
    exact h1
theorem del2_same {H H1 : Hp} {b f : Addr} {o : HO} (s : Off b H H1) : Same (del (del H b) f) (del (del (upd H1 f o) b) f) := fun a u h => by
  have nf : a ≠ f := fun e => by
    rw [e, del_same] at h
    cases h
  rw [del_ne nf] at h ⊢
  have na : a ≠ b := fun e => by
    rw [e, del_same] at h
    cases h
  rw [del_ne na] at h ⊢
  rw [upd_ne nf]
  exact s a u na h
theorem del2_sub {H : Hp} {b f : Addr} : Same (del (del H b) f) (del H b) := del_sub
def sp_l_pool (K : PySem.W.Frag) : Sp := fun vs H Q _ => ∃ (b l0 : Addr), vs = [.ref b] ∧ BagAt H b l0 ∧ ∀ (p : Addr) (us : List V) (H' : Hp), Off b H H' → BagAt H' b l0 → H p = none → H' p = some (.lst us) → PoolV K (del H' b) us → Q (.ref p) H'
abbrev NS_l_pool : List Str := ["_law_bag_here", "_law_found", "_law_k"]
theorem sc_l_pool : FnScope NS_l_pool ["_law_bag_here"] (defScope s_l_pool) := ⟨rfl, rfl, rfl, by decide +kernel, rfl, by decide +kernel, by decide +kernel⟩
theorem bb_l_pool {w : World} {mg : Str → Option Value} {K : PySem.W.Frag} (T : Tx w mg K) : Binds K (fdOf K (He.fAd K d_l_pool.at_)) ["_law_bag_here"] [] := FunD.bindsN T.F_l_pool fun _ _ _ _ _ _ us hl => match us, hl with | [_], _ => rfl
theorem ok_l_pool (T : Tx w mg K) : FnOk P w K mg base CX0 6 (He.ga K "_law_pool") (fdOf K (He.fAd K d_l_pool.at_)) ["_law_bag_here"] (sp_l_pool K) := by
  refine FunD.ok (CX := CX0) (k := 5) T.F_l_pool sc_l_pool (fun vs H Q E h => ?_) (fun cdv A outer s H vs Q E hr h => ?_)
  · obtain ⟨b, l0, rfl, _⟩ := h
    rfl
  · obtain ⟨b, l0, rfl, hb, k⟩ := h
    have G_l_made := ok_l_made (P := P) (base := base) T
    have b_l_made := bb_l_made T
    have G_l_of := ok_l_of (P := P) (base := base) T
    have b_l_of := bb_l_of T
    have G_l_pull := ok_l_pull (P := P) (base := base) T
    have b_l_pull := bb_l_pull T
    have G_l_raw := ok_l_raw (P := P) (base := base) T
    have b_l_raw := bb_l_raw T
    have G_l_read := ok_l_read (P := P) (base := base) T
    have b_l_read := bb_l_read T
    have G_minimized := ok_minimized (P := P) (base := base) T
    have b_minimized := bb_minimized T
    refine ⟨_, PSs.nox (pss_cons (ps_set (i := 1) sc_l_pool.nd rfl (.inl rfl) (pe_lst pa_nil))
    (pss_cons (ps_for PassesOwn.never rfl (pi_range1 (by rfl) T.f_range (pa_cons pe_int pa_nil)) (pg_name (i := 2) sc_l_pool.nd rfl (.inl rfl)) (pss_one (ps_expr (k_bm (K := K) rfl PySem.F.plainAttrs_list PySem.F.slot_list_append PySem.F.type_list_append mt_append (pv 1) (pa_cons (pe_call G_l_raw (hr.mono (by decide)) (by rfl) T.g_l_raw T.F_l_raw.kp b_l_raw .nil pass0 (pa_cons (pv 0) (pa_cons (pe_call G_l_of (hr.mono (by decide)) (by rfl) T.g_l_of T.F_l_of.kp b_l_of .nil pass0 (pa_cons (pv 0) (pa_cons (pe_lst (pa_cons pe_str (pa_cons pe_str (pa_cons pe_str (pa_cons pe_str pa_nil))))) pa_nil))) (pa_cons pe_int (pa_cons (pe_op op_add pe_int (pe_call G_l_pull (hr.mono (by decide)) (by rfl) T.g_l_pull T.F_l_pull.kp b_l_pull .nil pass0 (pa_cons (pv 0) (pa_cons pe_int pa_nil)))) pa_nil))))) pa_nil)))))
    (pss_one (ps_ret (pe_op op_cat (pv 1) (pe_lst (pa_cons (pe_call G_l_read (hr.mono (by decide)) (by rfl) T.g_l_read T.F_l_read.kp b_l_read .nil pass0 (pa_cons (pe_call G_minimized (hr.mono (by decide)) (by rfl) T.g_minimized T.F_minimized.kp b_minimized .nil pass0 (pa_cons (pe_call G_l_made (hr.mono (by decide)) (by rfl) T.g_l_made T.F_l_made.kp b_l_made .nil pass0 (pa_cons (pe_ix (k_ixL (K := K) rfl) (pv 1) pe_int (fun _ _ => rfl)) pa_nil)) pa_nil)) pa_nil)) pa_nil))))))), ?_⟩
    walk_at "go"
    intro f hf
    have nf := bag_ne hb hf
    walk_at "go"
    refine g_for walk_range (fun i σ' H' => ∃ (us : List V) (x : Option V), σ' = [some (.ref b), some (.ref f), x] ∧ BagAt H' b l0 ∧ Off b H H' ∧ H' f = some (.lst us) ∧ us.length = i ∧ ∀ (j : Nat) u, us[j]? = some u → ∃ r, Dp K (del (del H' b) f) u (rawD r) ∧ OkRaw r)
      ⟨[], none, rfl, bag_same hb (K70.Same.new1 hf), Off.of (K70.Same.new1 hf), upd_same, rfl, fun j u e => by simp at e⟩ (fun _ _ _ _ _ => trivial) ?_ ?_
    · rintro i x σ' H1 H2 hi ⟨us, x0, rfl, hb1, off1, ef, lu, hu⟩ ⟨rfl, rfl⟩
      walk_at "go"
      intro p hp
      walk_at "go"
      have npb := bag_ne hb1 hp
      refine ⟨b, l0, p, wordsL, rfl, SqL.of upd_same, by decide, by decide, bag_same hb1 (K70.Same.new1 hp), fun H4 off4 => SqL.of (off4 _ _ (Ne.symm npb.1) upd_same), fun j v H3 ev hb3 off3 => ?_⟩
      obtain ⟨wd, rfl, hwd⟩ := words_at ev
      walk_at "go"
      refine ⟨b, l0, 2, rfl, by omega, by omega, hb3, fun d H4 d0 d1 hb4 off4 => ?_⟩
      walk_at "go"
      refine ⟨b, l0, wd, 2, 1 + d, rfl, hwd, by omega, by omega, by omega, by omega, hb4, fun u r H5 off5 hb5 okr _ hr => ?_⟩
      have off : Off b H2 H5 := (((Off.of (K70.Same.new1 hp)).trans off3).trans off4).trans off5
      have ef4 : H4 f = some (.lst us) := off4 _ _ (Ne.symm nf.1) (off3 _ _ (Ne.symm nf.1) (hp_old hp ef))
      have ef5 : H5 f = some (.lst us) := off5 _ _ (Ne.symm nf.1) ef4
      walk_at "go"
      refine ⟨us ++ [u], _, rfl, bag_off hb5 Off.put1 nf.1 nf.2, (off1.trans off).mut hf, upd_same, by rw [List.length_append, lu]; rfl, fun j2 u2 e2 => ?_⟩
      rcases Nat.lt_or_ge j2 us.length with hj | hj
      · rw [List.getElem?_append_left hj] at e2
        obtain ⟨r2, q1, q2⟩ := hu j2 u2 e2
        exact ⟨r2, dp_same (del2_same off) q1, q2⟩
      · rw [List.getElem?_append_right hj] at e2
        rcases Nat.lt_or_ge (j2 - us.length) 1 with z | z
        · rw [show j2 - us.length = 0 by omega] at e2
          cases e2
          obtain ⟨xs, eb4⟩ := bag_lst hb4
          obtain ⟨zs, eb5⟩ := bag_lst hb5
          exact ⟨r, hr _ (newl_del eb4 eb5 ef4 ef5), okr⟩
        · rw [List.getElem?_eq_none (by simpa using z)] at e2
          cases e2
    · rintro σ' H1 ⟨us, x0, rfl, hb1, off1, ef, lu, hu⟩
      have l3 : us.length = 3 := lu
      walk_at "go"
      have e0 : us[0]? = some us[0] := List.getElem?_eq_getElem (by omega)
      obtain ⟨r, hr, okr⟩ := hu 0 _ e0
      refine r_ixL (SqL.of ef) (atI_nat (j := 0) e0) ?_
      walk_at "go"
      refine ⟨_, r, rfl, dp_same (del2_sub.trans del_sub) hr, okr, fun p H2 s2 _ hm => ?_⟩
      walk_at "go"
      refine ⟨p, r, rfl, hm, okr, fun q r' H3 s3 hm3 okr' => ?_⟩
      walk_at "go"
      refine ⟨q, r', rfl, hm3, fun v H4 s4 hv => ?_⟩
      have s14 := (s2.trans s3).trans s4
      walk_at "go"
      intro p5 hp5
      have ef5 := hp_old (o := .lst [v]) hp5 (s14 _ _ ef)
      refine r_cat ef5 upd_same (by rw [szl]; show us.length + 1 ≤ _; omega) ?_
      intro p6 hp6
      have s16 := (s14.trans (K70.Same.new1 (o := .lst [v]) hp5)).trans (K70.Same.new1 (o := .lst (us ++ [v])) hp6)
      have off16 : Off b H1 _ := Off.of s16
      have hb6 := bag_same hb1 s16
      obtain ⟨xs, eb6⟩ := bag_lst hb6
      obtain ⟨xs3, eb3⟩ := bag_lst (bag_same hb1 (s2.trans s3))
      refine k p6 (us ++ [v]) _ (off1.trans off16) hb6 (bag_free (off1.trans (Off.of (s14.trans (K70.Same.new1 hp5)))) (bag_same hb1 (s14.trans (K70.Same.new1 hp5))) hp6) upd_same ⟨by rw [List.length_append, l3]; rfl, fun j u e => ?_⟩
      rcases Nat.lt_or_ge j us.length with hj | hj
      · rw [List.getElem?_append_left hj] at e
        obtain ⟨r2, q1, q2⟩ := hu j u e
        exact ⟨r2, dp_same (del2_sub.trans (off_del off16)) q1, q2⟩
      · rw [List.getElem?_append_right hj] at e
        rcases Nat.lt_or_ge (j - us.length) 1 with z | z
        · rw [show j - us.length = 0 by omega] at e
          cases e
          refine ⟨r', hv _ ⟨fun a o h n => ?_, fun a ys h h1 => ?_⟩, okr'⟩
          · have na : a ≠ b := fun e => by
              rw [e, s4 _ _ eb3] at h
              exact (Option.some.inj h ▸ n : TupO (.lst xs3)).lst
            rw [del_ne na]
            exact hp_old hp6 (hp_old hp5 h)
          · have na : a ≠ b := fun e => by
              rw [e, eb3] at h
              cases h
            rw [del_ne na]
            exact hp_old hp6 (hp_old hp5 h1)
        · rw [List.getElem?_eq_none (by simpa using z)] at e
          cases e
end
section
variable {P : Program} {w : World} {K : PySem.W.Frag} {mg : Str → Option Value} {base : Heap}
/-! ### a part of the heap that one object holds -/
/-- h behind a way from H to H': what it held, and what is new -/
def grow (h H H' : Hp) : Hp := fun a => if (h a).isSome ∨ H a = none then H' a else none
section
variable {h H H' : Hp} {a : Addr} {o : HO} {F : Addr → Prop}
theorem grow_old (e : h a = some o) : grow h H H' a = H' a := if_pos (.inl (by rw [e]; rfl))
theorem grow_new (e : H a = none) : grow h H H' a = H' a := if_pos (.inr e)
theorem grow_sub : Same (grow h H H') H' := fun b u e => by
  unfold grow at e
  split at e
  · exact e
  · cases e
theorem grow_frm (s : Same h H) (f : Frm F H H') : Frm F h (grow h H H') := fun b u e n => by
  rw [grow_old e]
  exact f b u (s b u e) n
/-- apart -/
def Apart (h g : Hp) : Prop := ∀ a o, h a = some o → g a = none
theorem apart_grow {g : Hp} (p : Apart g h) (sg : Same g H) : Apart g (grow h H H') := fun b u e => by
  unfold grow
  rw [if_neg]
  intro z
  rcases z with z | z
  · rw [p b u e] at z
    cases z
  · rw [sg b u e] at z
    cases z
theorem Apart.symm {g : Hp} (p : Apart g h) : Apart h g := fun b u e => by
  cases q : g b with
  | none => rfl
  | some v =>
    rw [p b v q] at e
    cases e
/-- what is apart stays -/
theorem apart_same {g : Hp} (p : Apart g h) (sg : Same g H) (f : Frm (fun b => (h b).isSome = true) H H') : Same g H' := fun b u e => f b u (sg b u e) fun z => by
  have z2 : (h b).isSome = true := z
  rw [p b u e] at z2
  cases z2
theorem same_in (s : Same h H) (e : h a = some o) : H a = some o := s a o e
end
end
section
variable {P : Program} {w : World} {K : PySem.W.Frag} {mg : Str → Option Value} {base : Heap}
/-! ### is_answer -/
def sp_is_answer (K : PySem.W.Frag) : Sp := fun vs H Q _ => ∃ (v : V) (n : Nat) (row : List (Int × Key)), vs = [v, .int 2, .str "ab", .int n] ∧ Dp K H v (rowK row) ∧ OkTRow n row ∧ ∀ H', Same H H' → Q (.bl true) H'
theorem dp_pairK {H : Hp} {v : V} {p : Int × Key} (h : Dp K H v (pairK p)) : PairV K H v p := by
  obtain ⟨a, vs, rfl, s, q⟩ := dp_tup h
  cases q with
  | cons a b =>
    cases a
    cases b with
    | cons a b =>
      cases b
      obtain ⟨t, o⟩ := p
      cases o with
      | inl i =>
        cases a
        exact ⟨_, rfl, s⟩
      | inr x =>
        cases a
        exact ⟨_, rfl, s⟩
theorem dps_rowK {H : Hp} {us : List V} {row : List (Int × Key)} (h : DpAll K H us (row.map pairK)) : RowV K H us row := by
  refine ⟨by rw [dpAll_len h, List.length_map], fun i v p e1 e2 => ?_⟩
  obtain ⟨d, ed, q⟩ := dpAll_get h e1
  rw [List.getElem?_map, e2] at ed
  cases ed
  exact dp_pairK q
theorem inOut {k : Key} (h : okOut k) : flatV (kV k) = true ∧ inV (kV k) [.str "", .str "a", .str "b"] = true := by
  rcases h with rfl | rfl | rfl
  · exact ⟨rfl, by decide +kernel⟩
  · exact ⟨rfl, by decide +kernel⟩
  · exact ⟨rfl, by decide +kernel⟩
abbrev NS_is_answer : List Str := ["state", "width", "letters", "count", "pair", "target", "output"]
theorem sc_is_answer : FnScope NS_is_answer ["state", "width", "letters", "count"] (defScope s_is_answer) := ⟨rfl, rfl, rfl, by decide +kernel, rfl, by decide +kernel, by decide +kernel⟩
theorem bb_is_answer {w : World} {mg : Str → Option Value} {K : PySem.W.Frag} (T : Tx w mg K) : Binds K (fdOf K (He.fAd K d_is_answer.at_)) ["state", "width", "letters", "count"] [] := FunD.bindsN T.F_is_answer fun _ _ _ _ _ _ us hl => match us, hl with | [_, _, _, _], _ => rfl
theorem ok_is_answer (T : Tx w mg K) : FnOk P w K mg base CX0 1 (He.ga K "is_answer") (fdOf K (He.fAd K d_is_answer.at_)) ["state", "width", "letters", "count"] (sp_is_answer K) := by
  refine FunD.ok (CX := CX0) (k := 0) T.F_is_answer sc_is_answer (fun vs H Q E h => ?_) (fun cdv A outer s H vs Q E hr h => ?_)
  · obtain ⟨v, n, row, rfl, _⟩ := h
    rfl
  · obtain ⟨v, n, row, rfl, hd, ok, k⟩ := h
    obtain ⟨a, xs, rfl, hs, hds⟩ := dp_tup hd
    have rv := dps_rowK hds
    have hl : xs.length = 2 := by rw [rv.1, ok.len]
    refine ⟨_, PSs.nox (pss_cons (ps_if (PW.pt (pw_or (pt_cmpR op_ne (pe_callB (k_len (K := K) rfl) (by rfl) T.f_len (by decide +kernel) (pa_cons (pv 0) pa_nil)) (pv 1) (nomark _)) (pw_or1 (pt_not (pt_val (pe_callB (k_all (K := K) rfl rfl) (by rfl) T.f_all (by decide +kernel) (pa_cons (pe_lc (own := [("pair", 4)]) (g := gName 4) (tt := tYes) rfl sc_is_answer.nd (k_piT (K := K) rfl (pv 0)) (blkOk_by (N := NS_is_answer) (sc := defScope s_is_answer) (by decide +kernel)) (fun _ _ _ _ _ => pg_name (i := 4) sc_is_answer.nd rfl (Or.inl rfl)) (fun _ _ _ _ _ => pts_nil) (fun _ _ _ _ _ => (pe_cmpR op_eq (pe_callB (k_len (K := K) rfl) (by rfl) T.f_len (by decide +kernel) (pa_cons (pv 4) pa_nil)) pe_int (nomark _)))) pa_nil))))))) (pss_one (ps_ret pe_bl)) pss_nil)
    (pss_one (ps_ret (pe_callB (k_all (K := K) rfl rfl) (by rfl) T.f_all (by decide +kernel) (pa_cons (pe_lc (own := [("target", 5), ("output", 6)]) (g := gTup K 2 (gCons (gName 5) ( gCons (gName 6) ( gNil)))) (tt := tYes) rfl sc_is_answer.nd (k_piT (K := K) rfl (pv 0)) (blkOk_by (N := NS_is_answer) (sc := defScope s_is_answer) (by decide +kernel)) (fun _ _ _ _ _ => pg_tup rfl (pgs_cons (pg_name (i := 5) sc_is_answer.nd rfl (Or.inl rfl)) (pgs_cons (pg_name (i := 6) sc_is_answer.nd rfl (Or.inl rfl)) pgs_nil))) (fun _ _ _ _ _ => pts_nil) (fun _ _ _ _ _ => (pe_and (pe_chain op_le op_lt pe_int (pv 5) (pv 3)) (pe_one (pe_cmpR (k_inS (K := K) rfl) (pv 6) (pe_op op_cat (pe_lst (pa_cons pe_str pa_nil)) (pe_callTy (call_listS rfl) (by rfl) T.f_list (by decide +kernel) (pa_cons (pv 2) pa_nil))) (by rfl)))))) pa_nil))))), ?_⟩
    walk_at "go"
    refine g_true walk_tup (by rw [szl]; omega) (fun H' s => sqT_same s hs) ?_ ?_
    · rintro i y H1 H2 N NF hi s ⟨rfl, e⟩ q
      obtain ⟨p, ep⟩ : ∃ p, row[i]? = some p := ⟨_, List.getElem?_eq_getElem (by rw [ok.len]; omega)⟩
      obtain ⟨b, rfl, hb⟩ := rv.2 i y p e ep
      have hb1 := sqT_same s hb
      unfold LcT
      walk_at "go"
      exact q _ (Same.refl _)
    · intro D H1 s1 hD
      walk_at "go"
      refine r_all hD ?_
      walk_at "go"
      refine g_true walk_tup (by rw [szl]; omega) (fun H' s => sqT_same (s1.trans s) hs) ?_ ?_
      · rintro i y H2 H3 N NF hi s ⟨rfl, e⟩ q
        obtain ⟨p, ep⟩ : ∃ p, row[i]? = some p := ⟨_, List.getElem?_eq_getElem (by rw [ok.len]; omega)⟩
        obtain ⟨b, rfl, hb⟩ := rv.2 i y p e ep
        obtain ⟨o1, o2, o3⟩ := ok.ok p (List.mem_of_getElem? ep)
        have hb1 := sqT_same (s1.trans s) hb
        unfold LcT
        refine r_gtup hb1 rfl ?_
        walk_at "go"
        intro p1 hp1
        walk_at "go"
        intro l hl
        refine r_cat (hp_old hl upd_same) upd_same (by decide +kernel) ?_
        intro q2 hq2
        refine ⟨q2, [.str "", .str "a", .str "b"], rfl, .inl (SqL.of upd_same), (inOut o3).1, rfl, ?_⟩
        rw [if_neg (by decide), (inOut o3).2]
        exact q _ (K70.Same.new (K70.Same.new (K70.Same.new1 hp1) hl) hq2)
      · intro D2 H2 s2 hD2
        walk_at "go"
        exact r_all hD2 (k _ (s1.trans s2))
/-! ### Translator -/
theorem kz_Translator (T : Tx w mg K) : ∃ mv : List Value, KBn K (fdOf K (He.fAd K d_Translator_init.at_)) ["self", "source", "target", "states", "start"] 4 ["start"] (fun us ws => us ++ ws) (fun vs zs => vs ++ zs) := by
  obtain ⟨mv, h⟩ := FunD.kbinds0 (ps := ["self", "source", "target", "states", "start"]) T.F_Translator_init 4 ["start"] [] (fun us _ ws => us ++ ws) (by intro h; cases h) (by intro q h; cases h) (fun a _ b => a.append b) (fun D doc pm an cdv ct us mv ws l1 l2 l3 => match us, l1, mv, l2, ws, l3 with | [_, _, _, _], _, [], _, [_], _ => rfl)
  exact ⟨mv, h⟩
def trF (t : Addr) (s : Int) : List (Str × V) := [("inputs", .str "ab"), ("outputs", .str "ab"), ("table", .ref t), ("first", .int s)]
def TrAt (K : PySem.W.Frag) (H : Hp) (p : Addr) (r : Told) : Prop := ∃ dx t, H p = some (.ins (He.ga K "Translator") dx (trF t r.s)) ∧ Dp K H (.ref t) (.list (r.st.map rowK))
theorem tr_same {H H' : Hp} {p : Addr} {r : Told} (s : Same H H') (h : TrAt K H p r) : TrAt K H' p r := by
  obtain ⟨dx, t, e, d⟩ := h
  exact ⟨dx, t, s _ _ e, dp_same s d⟩
def sp_Translator_init (K : PySem.W.Frag) : Sp := fun vs H Q _ => ∃ (a dx : Addr) (v : V) (r : Told), vs = [.ref a, .str "ab", .str "ab", v, .int r.s] ∧ H a = some (.ins (He.ga K "Translator") dx []) ∧ Dp K H v (.list (r.st.map rowK)) ∧ OkTold r ∧ ∀ H', Off a H H' → TrAt K H' a r → Q .non H'
abbrev NS_Translator_init : List Str := ["self", "source", "target", "states", "start", "number", "state"]
theorem sc_Translator_init : FnScope NS_Translator_init ["self", "source", "target", "states", "start"] (defScope s_Translator_init) := ⟨rfl, rfl, rfl, by decide +kernel, rfl, by decide +kernel, by decide +kernel⟩
theorem ok_Translator_init (T : Tx w mg K) : FnOk P w K mg base CX0 3 (He.ma K (He.ga K "Translator") "__init__") (fdOf K (He.fAd K d_Translator_init.at_)) ["self", "source", "target", "states", "start"] (sp_Translator_init K) := by
  refine FunD.ok (CX := CX0) (k := 2) T.F_Translator_init sc_Translator_init (fun vs H Q E h => ?_) (fun cdv A outer s H vs Q E hr h => ?_)
  · obtain ⟨a, dx, v, r, rfl, _⟩ := h
    rfl
  · obtain ⟨a, dx, v, r, rfl, ha, hd, ok, k⟩ := h
    obtain ⟨t, xs, rfl, hs, hds⟩ := dp_lst hd
    have hl : xs.length = r.st.length := by rw [dpAll_len hds, List.length_map]
    have n1 := ok.n1
    have n5 := ok.n5
    have s0 := ok.s0
    have s1 := ok.s1
    have cM := T.c_Translator
    have nI := T.n_Translator_inputs
    have nO := T.n_Translator_outputs
    have nT := T.n_Translator_table
    have nF := T.n_Translator_first
    have G_is_answer := ok_is_answer (P := P) (base := base) T
    have b_is_answer := bb_is_answer T
    have G_need_alphabet := ok_need_alphabet (P := P) (base := base) T
    have b_need_alphabet := bb_need_alphabet T
    refine ⟨_, PSs.nox (pss_cons (ps_expr (pe_call G_need_alphabet (hr.mono (by decide)) (by rfl) T.g_need_alphabet T.F_need_alphabet.kp b_need_alphabet .nil pass0 (pa_cons (pv 1) pa_nil)))
    (pss_cons (ps_expr (pe_call G_need_alphabet (hr.mono (by decide)) (by rfl) T.g_need_alphabet T.F_need_alphabet.kp b_need_alphabet .nil pass0 (pa_cons (pv 2) pa_nil)))
    (pss_cons (ps_if (pt_cmpR op_eq (pe_callB (k_len (K := K) rfl) (by rfl) T.f_len (by decide +kernel) (pa_cons (pv 3) pa_nil)) pe_int (nomark _)) (pss_one ps_never) pss_nil)
    (pss_cons (ps_for PassesOwn.never rfl (pi_enum (by rfl) T.f_enumerate (pa_cons (pv 3) pa_nil)) (pg_tup rfl (pgs_cons (pg_name (i := 5) sc_Translator_init.nd rfl (.inl rfl)) (pgs_cons (pg_name (i := 6) sc_Translator_init.nd rfl (.inl rfl)) pgs_nil))) (pss_one (ps_if (pt_not (pt_val (pe_call G_is_answer (hr.mono (by decide)) (by rfl) T.g_is_answer T.F_is_answer.kp b_is_answer .nil pass0 (pa_cons (pv 6) (pa_cons (pe_callB call_len_str (by rfl) T.f_len (by decide +kernel) (pa_cons (pv 1) pa_nil)) (pa_cons (pv 2) (pa_cons (pe_callB (k_len (K := K) rfl) (by rfl) T.f_len (by decide +kernel) (pa_cons (pv 3) pa_nil)) pa_nil))))))) (pss_one ps_never) pss_nil)))
    (pss_cons (ps_if (pt_not (pt_chain op_le op_lt pe_int (pv 4) (pe_callB (k_len (K := K) rfl) (by rfl) T.f_len (by decide +kernel) (pa_cons (pv 3) pa_nil)))) (pss_one ps_never) pss_nil)
    (pss_cons (ps_asg (pe_tup (pa_cons (pv 1) (pa_cons (pv 2) pa_nil))) (pg_tup rfl (pgs_cons (pg_fld (pv 0)) (pgs_cons (pg_fld (pv 0)) pgs_nil))))
    (pss_cons (ps_fld (pv 0) (pe_lc (own := [("state", 6)]) (g := gName 6) (tt := tYes) rfl sc_Translator_init.nd (k_piL (K := K) rfl (pv 3)) (blkOk_by (N := NS_Translator_init) (sc := defScope s_Translator_init) (by decide +kernel)) (fun _ _ _ _ _ => pg_name (i := 6) sc_Translator_init.nd rfl (Or.inl rfl)) (fun _ _ _ _ _ => pts_nil) (fun _ _ _ _ _ => (pe_callTy (k_tupOf (K := K) rfl) (by rfl) T.f_tuple (by decide +kernel) (pa_cons (pv 6) pa_nil)))) rfl)
    (pss_one (ps_fld (pv 0) (pv 4) rfl))))))))), ?_⟩
    walk_at "go"
    refine ⟨_, rfl, .inl rfl, fun H0 t0 => ?_⟩
    walk_at "go"
    refine ⟨_, rfl, .inl rfl, fun H1 t1' => ?_⟩
    have t1 := t0.trans t1'
    have hs1 := sqL_same t1 hs
    have hd1 := dp_same t1 hd
    walk_at "go"
    refine g_for walk_enum (fun _ σ' H' => Same H1 H' ∧ ∃ x y, σ' = [some (.ref a), some (.str "ab"), some (.str "ab"), some (.ref t), some (.int r.s), x, y]) ⟨Same.refl _, _, _, rfl⟩ (fun _ _ H' _ h => sqL_same h.1 hs1) ?_ ?_
    · rintro i x σ' H2 H3 hi ⟨t2, x0, y0, rfl⟩ ⟨p, u, v, rfl, hp, rfl, eu, ev⟩
      cases eu
      obtain ⟨d, ed, hrow⟩ := dpAll_get hds ev
      rw [List.getElem?_map] at ed
      obtain ⟨row, er, rfl⟩ := Option.map_eq_some_iff.mp ed
      have t3 : Same H1 (upd H2 p (.tup [.int (i : Nat), v])) := K70.Same.new t2 hp
      refine r_gtup (SqT.of upd_same) rfl ?_
      walk_at "go"
      refine ⟨v, xs.length, row, rfl, dp_same (t1.trans t3) hrow, by rw [hl]; exact ok.row row (List.mem_of_getElem? er), fun H4 t4 => ?_⟩
      walk_at "go"
      exact ⟨t3.trans t4, _, _, rfl⟩
    · rintro σ' H2 ⟨t2, x0, y0, rfl⟩
      walk_at "go"
      intro p hp
      have ha2 := hp_old (o := .tup [.str "ab", .str "ab"]) hp ((t1.trans t2) _ _ ha)
      have hs2 := sqL_same ((t1.trans t2).trans (K70.Same.new1 (o := .tup [.str "ab", .str "ab"]) hp)) hs
      have hda2 := dps_same ((t1.trans t2).trans (K70.Same.new1 (o := .tup [.str "ab", .str "ab"]) hp)) hds
      have sb : Same H (upd H2 p (.tup [.str "ab", .str "ab"])) := (t1.trans t2).trans (K70.Same.new1 hp)
      generalize hG : upd H2 p (.tup [.str "ab", .str "ab"]) = H3 at ha2 hs2 hda2 sb ⊢
      have hpt : H3 p = some (.tup [.str "ab", .str "ab"]) := by
        rw [← hG]
        exact upd_same
      walk_at "go"
      have ls5 : Ls H3 (upd (upd H3 a (.ins (He.ga K "Translator") dx (putF "inputs" (V.str "ab") []))) a (.ins (He.ga K "Translator") dx (putF "outputs" (V.str "ab") (putF "inputs" (V.str "ab") [])))) :=
        (Ls.put ha2).trans (Ls.put (C := He.ga K "Translator") (dx := dx) (fs := putF "inputs" (V.str "ab") []) upd_same)
      have of5 : Off a H3 (upd (upd H3 a (.ins (He.ga K "Translator") dx (putF "inputs" (V.str "ab") []))) a (.ins (He.ga K "Translator") dx (putF "outputs" (V.str "ab") (putF "inputs" (V.str "ab") [])))) := Off.put1.trans Off.put1
      have ea5 : (upd (upd H3 a (.ins (He.ga K "Translator") dx (putF "inputs" (V.str "ab") []))) a (.ins (He.ga K "Translator") dx (putF "outputs" (V.str "ab") (putF "inputs" (V.str "ab") [])))) a = some (.ins (He.ga K "Translator") dx (putF "outputs" (V.str "ab") (putF "inputs" (V.str "ab") []))) := upd_same
      generalize upd (upd H3 a (.ins (He.ga K "Translator") dx (putF "inputs" (V.str "ab") []))) a (.ins (He.ga K "Translator") dx (putF "outputs" (V.str "ab") (putF "inputs" (V.str "ab") []))) = H5 at ls5 of5 ea5 ⊢
      have hs5 := sqL_ls ls5 hs2
      have hda5 := dps_ls ls5 hda2
      refine g_list xs rfl walk_list (by rw [szl]; omega) (fun H' s => sqL_same s hs5) ?_ ?_
      · rintro i x y H6 H7 N NF hi ey s ⟨rfl, e⟩ q
        obtain rfl : y = x := by
          rw [ey] at e
          exact Option.some.inj e
        obtain ⟨d, ed, hrow⟩ := dpAll_get hda5 ey
        rw [List.getElem?_map] at ed
        obtain ⟨row, er, rfl⟩ := Option.map_eq_some_iff.mp ed
        obtain ⟨b, ys, rfl, hb, _⟩ := dp_tup hrow
        have hb4 := sqT_same s hb
        unfold LcT
        walk_at "go"
        exact q _ (Same.refl _)
      · intro D H6 hD s6 hD6
        have ha6 := hp_same s6 ea5
        have hDa : D ≠ a := ne_of hD6 ha6 (by intro h; cases h)
        walk_at "go"
        refine k _ (fun b o hb h => hp_ne hb (hp_ne hb (s6 _ _ (of5 _ _ hb (sb _ _ h))))) ⟨dx, D, by rw [upd_same]; rfl, .lst (SqL.of (hp_ne hDa (hp_ne hDa hD6))) ?_⟩
        exact dps_ls (Ls.put (C := He.ga K "Translator") (dx := dx) (fs := putF "table" (V.ref D) (putF "outputs" (V.str "ab") (putF "inputs" (V.str "ab") []))) upd_same) (dps_ls (Ls.put ha6) (dps_same s6 hda5))
theorem dp_told {H : Hp} {v : V} {r : Told} (h : Dp K H v (toldD r)) : ∃ a t, v = .ref a ∧ SqT K H a [.str "ab", .str "ab", .ref t, .int r.s] ∧ Dp K H (.ref t) (.list (r.st.map rowK)) := by
  obtain ⟨a, vs, rfl, s, q⟩ := dp_tup h
  cases q with
  | cons q1 q =>
    cases q1
    cases q with
    | cons q1 q =>
      cases q1
      cases q with
      | cons q2 q =>
        obtain ⟨t, ws, rfl, s2, k2⟩ := dp_lst q2
        cases q with
        | cons q3 q =>
          cases q3
          cases q
          exact ⟨a, t, rfl, s, q2⟩
def sp_l_translator (K : PySem.W.Frag) : Sp := fun vs H Q _ => ∃ (v : V) (r : Told), vs = [v] ∧ Dp K H v (toldD r) ∧ OkTold r ∧ ∀ p H', Same H H' → H p = none → TrAt K H' p r → Q (.ref p) H'
abbrev NS_l_translator : List Str := ["_law_told_here"]
theorem sc_l_translator : FnScope NS_l_translator ["_law_told_here"] (defScope s_l_translator) := ⟨rfl, rfl, rfl, by decide +kernel, rfl, by decide +kernel, by decide +kernel⟩
theorem bb_l_translator {w : World} {mg : Str → Option Value} {K : PySem.W.Frag} (T : Tx w mg K) : Binds K (fdOf K (He.fAd K d_l_translator.at_)) ["_law_told_here"] [] := FunD.bindsN T.F_l_translator fun _ _ _ _ _ _ us hl => match us, hl with | [_], _ => rfl
theorem ok_l_translator (T : Tx w mg K) : FnOk P w K mg base CX0 5 (He.ga K "_law_translator") (fdOf K (He.fAd K d_l_translator.at_)) ["_law_told_here"] (sp_l_translator K) := by
  refine FunD.ok (CX := CX0) (k := 4) T.F_l_translator sc_l_translator (fun vs H Q E h => ?_) (fun cdv A outer s H vs Q E hr h => ?_)
  · obtain ⟨v, r, rfl, _⟩ := h
    rfl
  · obtain ⟨v, r, rfl, hd, ok, k⟩ := h
    obtain ⟨a, t, rfl, hs, ht⟩ := dp_told hd
    have G_Translator_init := ok_Translator_init (P := P) (base := base) T
    obtain ⟨mv_Translator, kb_Translator_init⟩ := kz_Translator T
    refine ⟨_, PSs.nox (pss_one (ps_ret (pe_makeK T.k_Translator G_Translator_init (hr.mono (by decide)) (by rfl) T.g_Translator kb_Translator_init pass0 (pa_cons (pe_ix (k_ixT (K := K) rfl) (pv 0) pe_int (fun _ _ => rfl)) (pa_cons (pe_ix (k_ixT (K := K) rfl) (pv 0) pe_int (fun _ _ => rfl)) (pa_cons (pe_callTy (k_listOf (K := K) rfl) (by rfl) T.f_list (by decide +kernel) (pa_cons (pe_ix (k_ixT (K := K) rfl) (pv 0) pe_int (fun _ _ => rfl)) pa_nil)) pa_nil))) (pk_cons (pe_ix (k_ixT (K := K) rfl) (pv 0) pe_int (fun _ _ => rfl)) pk_nil)))), ?_⟩
    obtain ⟨t, xs, e, hx, hxs⟩ := dp_lst ht
    cases e
    walk_at "go"
    intro l hl
    walk_at "go"
    refine ⟨rfl, rfl, fun x dx hx0 hd0 hne => ?_⟩
    have S := (K70.Same.new1 (o := .lst xs) hl).trans (mk_same (o := .own x) (u := .ins (He.ga K "Translator") dx []) hx0 hd0 hne)
    refine ⟨x, dx, .ref l, r, rfl, upd_same, .lst (SqL.of (mk_same hx0 hd0 hne _ _ upd_same)) (dps_same S hxs), ok, fun H' off hm => ⟨rfl, k x H' (off_same S (free_old hx0) off) (free_old hx0) hm⟩⟩
def sp_Translator_start (K : PySem.W.Frag) : Sp := fun vs H Q _ => ∃ (p : Addr) (r : Told), vs = [.ref p] ∧ TrAt K H p r ∧ Q (.int r.s) H
abbrev NS_Translator_start : List Str := ["self"]
theorem sc_Translator_start : FnScope NS_Translator_start ["self"] (defScope s_Translator_start) := ⟨rfl, rfl, rfl, by decide +kernel, rfl, by decide +kernel, by decide +kernel⟩
theorem bb_Translator_start {w : World} {mg : Str → Option Value} {K : PySem.W.Frag} (T : Tx w mg K) : Binds K (fdOf K (He.fAd K d_Translator_start.at_)) ["self"] [] := FunD.bindsN T.F_Translator_start fun _ _ _ _ _ _ us hl => match us, hl with | [_], _ => rfl
theorem ok_Translator_start (T : Tx w mg K) : FnOk P w K mg base CX0 1 (He.ma K (He.ga K "Translator") "start") (fdOf K (He.fAd K d_Translator_start.at_)) ["self"] (sp_Translator_start K) := by
  refine FunD.ok (CX := CX0) (k := 0) T.F_Translator_start sc_Translator_start (fun vs H Q E h => ?_) (fun cdv A outer s H vs Q E hr h => ?_)
  · obtain ⟨p, r, rfl, _⟩ := h
    rfl
  · obtain ⟨p, r, rfl, ⟨dx, t, hp, hd⟩, k⟩ := h
    have cM := T.c_Translator
    have nA := T.n_Translator_first
    refine ⟨_, PSs.nox (pss_one (ps_ret (k_fld (K := K) rfl (pv 0) rfl))), ?_⟩
    walk_at "go"
    exact k
/-- the two letters -/
def lt (i : Nat) : Str := if i = 0 then "a" else "b"
def stepT (r : Told) (s : Int) (i : Nat) : Int × Key := (r.st.getD s.toNat []).getD i (0, .inr "")
def sp_Translator_step (K : PySem.W.Frag) : Sp := fun vs H Q _ => ∃ (p : Addr) (r : Told) (s : Int) (i : Nat), vs = [.ref p, .int s, .str (lt i)] ∧ TrAt K H p r ∧ OkTold r ∧ 0 ≤ s ∧ s < r.st.length ∧ i < 2 ∧ ∀ v H', Same H H' → PairV K H' v (stepT r s i) → Q v H'
abbrev NS_Translator_step : List Str := ["self", "state", "letter"]
theorem sc_Translator_step : FnScope NS_Translator_step ["self", "state", "letter"] (defScope s_Translator_step) := ⟨rfl, rfl, rfl, by decide +kernel, rfl, by decide +kernel, by decide +kernel⟩
theorem bb_Translator_step {w : World} {mg : Str → Option Value} {K : PySem.W.Frag} (T : Tx w mg K) : Binds K (fdOf K (He.fAd K d_Translator_step.at_)) ["self", "state", "letter"] [] := FunD.bindsN T.F_Translator_step fun _ _ _ _ _ _ us hl => match us, hl with | [_, _, _], _ => rfl
theorem ok_Translator_step (T : Tx w mg K) : FnOk P w K mg base CX0 1 (He.ma K (He.ga K "Translator") "step") (fdOf K (He.fAd K d_Translator_step.at_)) ["self", "state", "letter"] (sp_Translator_step K) := by
  refine FunD.ok (CX := CX0) (k := 0) T.F_Translator_step sc_Translator_step (fun vs H Q E h => ?_) (fun cdv A outer s H vs Q E hr h => ?_)
  · obtain ⟨p, r, z, i, rfl, _⟩ := h
    rfl
  · obtain ⟨p, r, z, i, rfl, ⟨dx, t, hp, hd⟩, ok, z0, z1, hi, k⟩ := h
    obtain ⟨t, xs, e, hx, hxs⟩ := dp_lst hd
    cases e
    have lx : xs.length = r.st.length := by rw [dpAll_len hxs, List.length_map]
    have cM := T.c_Translator
    have nI := T.n_Translator_inputs
    have nT := T.n_Translator_table
    refine ⟨_, PSs.nox (pss_cons (ps_if (pt_not (pt_chain op_le op_lt pe_int (pv 1) (pe_callB (k_len (K := K) rfl) (by rfl) T.f_len (by decide +kernel) (pa_cons (k_fld (K := K) rfl (pv 0) rfl) pa_nil)))) (pss_one ps_never) pss_nil)
    (pss_cons (ps_if (pt_cmpR (k_notInS (K := K) rfl) (pv 2) (pe_callTy (call_listS rfl) (by rfl) T.f_list (by decide +kernel) (pa_cons (k_fld (K := K) rfl (pv 0) rfl) pa_nil)) (by rfl)) (pss_one ps_never) pss_nil)
    (pss_one (ps_ret (pe_ix (k_ixT (K := K) rfl) (pe_ix (k_ixL (K := K) rfl) (k_fld (K := K) rfl (pv 0) rfl) (pv 1) (fun _ _ => rfl)) (pe_m1 PySem.F.slot_str_index PySem.F.type_str_index mt_sindex (k_fld (K := K) rfl (pv 0) rfl) (pv 2)) (fun _ _ => rfl)))))), ?_⟩
    walk_at "go"
    intro l hl
    have hin : inV (.str (lt i)) (signsV "ab") = true ∧ Builtin.Str.occurrences "ab" (lt i) 0 ("ab" : Str).length 1 = [i] := by
      match i, hi with
      | 0, _ => exact ⟨by decide +kernel, by decide +kernel⟩
      | 1, _ => exact ⟨by decide +kernel, by decide +kernel⟩
    refine ⟨l, signsV "ab", rfl, .inl (SqL.of upd_same), rfl, by decide +kernel, ?_⟩
    rw [if_pos rfl, hin.1]
    have hzi : z.toNat < xs.length := by omega
    have ez : atI xs z = some xs[z.toNat] := by
      have w := atI_nat (xs := xs) (j := z.toNat) (List.getElem?_eq_getElem hzi)
      rw [show ((z.toNat : Nat) : Int) = z by omega] at w
      exact w
    obtain ⟨d, ed, hrow⟩ := dpAll_get (dps_same (K70.Same.new1 (o := .lst (signsV "ab")) hl) hxs) (List.getElem?_eq_getElem hzi)
    rw [List.getElem?_map] at ed
    obtain ⟨row, er, rfl⟩ := Option.map_eq_some_iff.mp ed
    obtain ⟨b, us, eb, hb, hus⟩ := dp_tup hrow
    have rv := dps_rowK hus
    have okr := ok.row row (List.mem_of_getElem? er)
    walk_at "go"
    refine r_ixL (sqL_same (K70.Same.new1 hl) hx) ez ?_
    rw [eb]
    walk_at "go"
    refine ⟨_, _, i, [], rfl, rfl, hin.2, ?_⟩
    have hiu : i < us.length := by rw [rv.1, okr.len]; exact hi
    refine r_ixT hb (atI_nat (List.getElem?_eq_getElem hiu)) ?_
    have hir : i < row.length := by rw [okr.len]; exact hi
    have est : stepT r z i = row[i] := by
      unfold stepT
      have e1 : r.st.getD z.toNat [] = row := by
        rw [List.getD_eq_getElem?_getD, er]
        rfl
      rw [e1, List.getD_eq_getElem?_getD, List.getElem?_eq_getElem hir]
      rfl
    refine k _ _ (K70.Same.new1 hl) ?_
    rw [est]
    exact rv.2 i _ _ (List.getElem?_eq_getElem hiu) (List.getElem?_eq_getElem hir)
/-! ### translators made of the same data are equal -/
theorem sh_told (r : Told) (ok : OkTold r) : Sh 4 (.tuple [.str "ab", .str "ab", .list (r.st.map rowK), .int r.s]) := sh_tup fun d hd => by
  simp only [List.mem_cons, List.not_mem_nil, or_false] at hd
  rcases hd with rfl | rfl | rfl | rfl
  · exact sh_str (by decide +kernel)
  · exact sh_str (by decide +kernel)
  · refine sh_list fun d hd => ?_
    obtain ⟨row, hrow, rfl⟩ := List.mem_map.mp hd
    refine sh_tup fun d hd => ?_
    obtain ⟨p, hp, rfl⟩ := List.mem_map.mp hd
    refine sh_tup fun d hd => ?_
    simp only [List.mem_cons, List.not_mem_nil, or_false] at hd
    rcases hd with rfl | rfl
    · exact sh_int _ _
    · rcases ((ok.row row hrow).ok p hp).2.2 with e | e | e
      · rw [e]
        exact sh_str (by decide +kernel)
      · rw [e]
        exact sh_str (by decide +kernel)
      · rw [e]
        exact sh_str (by decide +kernel)
  · exact sh_int _ _
def sp_Translator_eq (K : PySem.W.Frag) : Sp := fun vs H Q _ => ∃ (p q : Addr) (r : Told), vs = [.ref p, .ref q] ∧ TrAt K H p r ∧ TrAt K H q r ∧ OkTold r ∧ ∀ H', Same H H' → Q (.bl true) H'
abbrev NS_Translator_eq : List Str := ["self", "other", "mine"]
theorem sc_Translator_eq : FnScope NS_Translator_eq ["self", "other"] (defScope s_Translator_eq) := ⟨rfl, rfl, rfl, by decide +kernel, rfl, by decide +kernel, by decide +kernel⟩
theorem bb_Translator_eq {w : World} {mg : Str → Option Value} {K : PySem.W.Frag} (T : Tx w mg K) : Binds K (fdOf K (He.fAd K d_Translator_eq.at_)) ["self", "other"] [] := FunD.bindsN T.F_Translator_eq fun _ _ _ _ _ _ us hl => match us, hl with | [_, _], _ => rfl
theorem ok_Translator_eq (T : Tx w mg K) : FnOk P w K mg base CX0 1 (He.ma K (He.ga K "Translator") "__eq__") (fdOf K (He.fAd K d_Translator_eq.at_)) ["self", "other"] (sp_Translator_eq K) := by
  refine FunD.ok (CX := CX0) (k := 0) T.F_Translator_eq sc_Translator_eq (fun vs H Q E h => ?_) (fun cdv A outer s H vs Q E hr h => ?_)
  · obtain ⟨p, q, r, rfl, _⟩ := h
    rfl
  · obtain ⟨p, q, r, rfl, ⟨dx, t, hp, hd⟩, ⟨dy, t2, hq, hd2⟩, ok, k⟩ := h
    have cM := T.c_Translator
    have nI := T.n_Translator_inputs
    have nO := T.n_Translator_outputs
    have nT := T.n_Translator_table
    have nF := T.n_Translator_first
    refine ⟨_, PSs.nox (pss_cons (ps_if (pt_not (pt_val (pe_callB (C8.call_isC T.s_Translator) (by rfl) T.f_isinstance (by decide +kernel) (pa_cons (pv 1) (pa_cons (pe_glob (v := .ref (He.ga K "Translator")) (by rfl) T.g_Translator rfl) pa_nil))))) (pss_one (ps_ret pe_bl)) pss_nil)
    (pss_cons (ps_set (i := 2) sc_Translator_eq.nd rfl (.inl rfl) (pe_tup (pa_cons (k_fld (K := K) rfl (pv 0) rfl) (pa_cons (k_fld (K := K) rfl (pv 0) rfl) (pa_cons (k_fld (K := K) rfl (pv 0) rfl) (pa_cons (k_fld (K := K) rfl (pv 0) rfl) pa_nil))))))
    (pss_one (ps_ret (pe_cmpR (k_eqD (K := K) rfl hr.units) (pv 2) (pe_tup (pa_cons (k_fld (K := K) rfl (pv 1) rfl) (pa_cons (k_fld (K := K) rfl (pv 1) rfl) (pa_cons (k_fld (K := K) rfl (pv 1) rfl) (pa_cons (k_fld (K := K) rfl (pv 1) rfl) pa_nil))))) (nomark _)))))), ?_⟩
    walk_at "go"
    refine ⟨q, dy, _, rfl, hq, ?_⟩
    walk_at "go"
    intro a ha
    walk_at "go"
    intro b hb
    have sh := sh_ok (sh_told r ok) (by decide)
    have s1 : Same H (upd (upd H a (.tup [.str "ab", .str "ab", .ref t, .int r.s])) b (.tup [.str "ab", .str "ab", .ref t2, .int r.s])) := K70.Same.new (K70.Same.new1 ha) hb
    refine ⟨_, _, .tup (SqT.of (hp_old hb upd_same)) (.cons (.str _) (.cons (.str _) (.cons (dp_same s1 hd) (.cons (.int _) .nil)))), .tup (SqT.of upd_same) (.cons (.str _) (.cons (.str _) (.cons (dp_same s1 hd2) (.cons (.int _) .nil)))), sh, sh, ?_⟩
    rw [SeqAt.eqv_refl _ (SeqAt.canLay_of_shaped sh)]
    exact k _ s1
end
section
variable {P : Program} {w : World} {K : PySem.W.Frag} {mg : Str → Option Value} {base : Heap}
/-! ### Session -/
abbrev Ent : Type := Int × Str × Key
def EntV (K : PySem.W.Frag) (H : Hp) (v : V) (e : Ent) : Prop := ∃ c, v = .ref c ∧ SqT K H c [.int e.1, .str e.2.1, kV e.2.2]
def EntsV (K : PySem.W.Frag) (H : Hp) (vs : List V) (es : List Ent) : Prop := vs.length = es.length ∧ ∀ (i : Nat) v e, vs[i]? = some v → es[i]? = some e → EntV K H v e
theorem entsV_tp {H H' : Hp} {vs : List V} {es : List Ent} (s : Tp H H') (h : EntsV K H vs es) : EntsV K H' vs es := ⟨h.1, fun i v e e1 e2 => by
  obtain ⟨c, rfl, q⟩ := h.2 i v e e1 e2
  exact ⟨c, rfl, sqT_tp s q⟩⟩
theorem entsV_snoc {H : Hp} {vs : List V} {es : List Ent} {v : V} {e : Ent} (h : EntsV K H vs es) (q : EntV K H v e) : EntsV K H (vs ++ [v]) (es ++ [e]) := by
  refine ⟨by rw [List.length_append, List.length_append, h.1]; rfl, fun i x p e1 e2 => ?_⟩
  rcases Nat.lt_or_ge i vs.length with hj | hj
  · rw [List.getElem?_append_left hj] at e1
    rw [List.getElem?_append_left (by rw [← h.1]; exact hj)] at e2
    exact h.2 i x p e1 e2
  · rw [List.getElem?_append_right hj] at e1
    rw [List.getElem?_append_right (by rw [← h.1]; exact hj)] at e2
    rw [← h.1] at e2
    rcases Nat.lt_or_ge (i - vs.length) 1 with z | z
    · rw [show i - vs.length = 0 by omega] at e1 e2
      cases e1
      cases e2
      exact q
    · rw [List.getElem?_eq_none (by simpa using z)] at e1
      cases e1
def entS (r : Told) (acc : List Ent × Int) (i : Nat) : List Ent × Int := (acc.1 ++ [((stepT r acc.2 i).1, lt i, (stepT r acc.2 i).2)], (stepT r acc.2 i).1)
def entF (r : Told) (is : List Nat) : List Ent × Int := is.foldl (entS r) ([(r.s, "", .inr "")], r.s)
theorem entF_snoc (r : Told) (is : List Nat) (i : Nat) : entF r (is ++ [i]) = entS r (entF r is) i := by
  unfold entF
  rw [List.foldl_append]
  rfl
theorem stepT_ok {r : Told} (ok : OkTold r) {s : Int} {i : Nat} (s0 : 0 ≤ s) (s1 : s < r.st.length) (hi : i < 2) : 0 ≤ (stepT r s i).1 ∧ (stepT r s i).1 < r.st.length ∧ okOut (stepT r s i).2 := by
  have hz : s.toNat < r.st.length := by omega
  have okr := ok.row _ (List.getElem_mem hz)
  have e1 : r.st.getD s.toNat [] = r.st[s.toNat] := by
    rw [List.getD_eq_getElem?_getD, List.getElem?_eq_getElem hz]
    rfl
  have hr : i < (r.st[s.toNat]).length := by rw [okr.len]; exact hi
  have e2 : stepT r s i = (r.st[s.toNat])[i] := by
    unfold stepT
    rw [e1, List.getD_eq_getElem?_getD, List.getElem?_eq_getElem hr]
    rfl
  rw [e2]
  exact okr.ok _ (List.getElem_mem hr)
/-- the entries end at the state that they tell -/
structure EntOk (r : Told) (is : List Nat) : Prop where
  len : (entF r is).1.length = is.length + 1
  last : ∃ x, (entF r is).1[is.length]? = some ((entF r is).2, x)
  s0 : 0 ≤ (entF r is).2
  s1 : (entF r is).2 < r.st.length
  o : ∀ e ∈ (entF r is).1, okOut e.2.2 ∧ PyData.strOk e.2.1 = true
theorem lt_ok (i : Nat) : PyData.strOk (lt i) = true := by
  unfold lt
  split
  · decide +kernel
  · decide +kernel
theorem ent_nil {r : Told} (ok : OkTold r) : EntOk r [] := ⟨rfl, ⟨_, rfl⟩, ok.s0, ok.s1, fun e he => by
  rw [List.mem_singleton.mp he]
  exact ⟨.inl rfl, by show PyData.strOk "" = true; decide +kernel⟩⟩
theorem ent_snoc {r : Told} (ok : OkTold r) {is : List Nat} {i : Nat} (h : EntOk r is) (hi : i < 2) : EntOk r (is ++ [i]) := by
  have q := stepT_ok ok h.s0 h.s1 hi
  have e := entF_snoc r is i
  refine ⟨?_, ?_, ?_, ?_, fun x hx => ?_⟩
  rotate_right
  · rw [e] at hx
    unfold entS at hx
    rcases List.mem_append.mp hx with z | z
    · exact h.o x z
    · rw [List.mem_singleton.mp z]
      exact ⟨q.2.2, lt_ok i⟩
  · rw [e]
    unfold entS
    rw [List.length_append, h.len, List.length_append]
    rfl
  · rw [e]
    unfold entS
    refine ⟨(lt i, (stepT r (entF r is).2 i).2), ?_⟩
    rw [List.length_append, List.getElem?_append_right (by rw [h.len]; exact Nat.le_refl _), h.len]
    simp
  · rw [e]
    exact q.1
  · rw [e]
    exact q.2.1
def sesF (e d l : Addr) : List (Str × V) := [("engine", .ref e), ("done", .ref d), ("later", .ref l)]
/-- a session's own objects -/
def SesAt (K : PySem.W.Frag) (H : Hp) (p d e : Addr) (r : Told) (is : List Nat) : Prop := ∃ dx l vs, H p = some (.ins (He.ga K "Session") dx (sesF e d l)) ∧ H d = some (.lst vs) ∧ EntsV K H vs (entF r is).1
def sp_Session_init (K : PySem.W.Frag) : Sp := fun vs H Q _ => ∃ (a dx e : Addr) (r : Told), vs = [.ref a, .ref e] ∧ H a = some (.ins (He.ga K "Session") dx []) ∧ TrAt K H e r ∧ ∀ d H', Off a H H' → H d = none → SesAt K H' a d e r [] → Q .non H'
abbrev NS_Session_init : List Str := ["self", "translator"]
theorem sc_Session_init : FnScope NS_Session_init ["self", "translator"] (defScope s_Session_init) := ⟨rfl, rfl, rfl, by decide +kernel, rfl, by decide +kernel, by decide +kernel⟩
theorem bb_Session_init {w : World} {mg : Str → Option Value} {K : PySem.W.Frag} (T : Tx w mg K) : Binds K (fdOf K (He.fAd K d_Session_init.at_)) ["self", "translator"] [] := FunD.bindsN T.F_Session_init fun _ _ _ _ _ _ us hl => match us, hl with | [_, _], _ => rfl
theorem ok_Session_init (T : Tx w mg K) : FnOk P w K mg base CX0 2 (He.ma K (He.ga K "Session") "__init__") (fdOf K (He.fAd K d_Session_init.at_)) ["self", "translator"] (sp_Session_init K) := by
  refine FunD.ok (CX := CX0) (k := 1) T.F_Session_init sc_Session_init (fun vs H Q E h => ?_) (fun cdv A outer s H vs Q E hr h => ?_)
  · obtain ⟨a, dx, e, r, rfl, _⟩ := h
    rfl
  · obtain ⟨a, dx, e, r, rfl, ha, ht, k⟩ := h
    have ⟨dx2, t, he, hd⟩ := ht
    have cS := T.c_Session
    have cT := T.c_Translator
    have n1 := T.n_Session_engine
    have n2 := T.n_Session_done
    have n3 := T.n_Session_later
    have G_Translator_start := ok_Translator_start (P := P) (base := base) T
    have b_Translator_start := bb_Translator_start T
    refine ⟨_, PSs.nox (pss_cons (ps_fld (pv 0) (pv 1) rfl)
    (pss_cons (ps_fld (pv 0) (pe_lst (pa_cons (pe_tup (pa_cons (pe_meth0 (pv 1) T.c_Translator T.m_Translator_start G_Translator_start (hr.mono (by decide)) b_Translator_start .nil pass0) (pa_cons pe_str (pa_cons pe_str pa_nil)))) pa_nil)) rfl)
    (pss_one (ps_fld (pv 0) (pe_lst pa_nil) rfl)))), ?_⟩
    walk_at "go"
    have hea : e ≠ a := fun z => by
      rw [z, ha] at he
      injection he with he
      injection he with h1 h2 h3
      cases h3
    have he2 := hp_ne (p := a) (o := HO.ins (He.ga K "Session") dx (putF "engine" (V.ref e) [])) hea he
    have ht2 : TrAt K (upd H a (HO.ins (He.ga K "Session") dx (putF "engine" (V.ref e) []))) e r := ⟨dx2, t, he2, dp_ls (Ls.put ha) hd⟩
    walk_at "go"
    refine ⟨e, r, rfl, ht2, ?_⟩
    walk_at "go"
    intro p hp
    walk_at "go"
    intro q hq
    walk_at "go"
    intro l hl
    walk_at "go"
    have hqa : q ≠ a := fun z => by
      rw [z] at hq
      rw [hp_old hp upd_same] at hq
      cases hq
    have hlq : l ≠ q := fun z => by
      rw [z, hp_ne hqa upd_same] at hl
      cases hl
    have hla : l ≠ a := fun z => by
      rw [z, upd_same] at hl
      cases hl
    have hpa : p ≠ a := fun z => by
      rw [z, upd_same] at hp
      cases hp
    have hpq : p ≠ q := fun z => by
      rw [← z, upd_same] at hq
      cases hq
    have hql : q ≠ l := Ne.symm hlq
    have hpl : p ≠ l := fun z => by
      rw [← z, hp_ne hpa (hp_ne hpq upd_same)] at hl
      cases hl
    refine k q _ (fun b o hb h => ?_) (free_old (free_old hq)) ⟨dx, l, [.ref p], by rw [upd_same]; rfl, hp_ne hqa (hp_ne hql (hp_ne hqa upd_same)), rfl, fun i v en e1 e2 => ?_⟩
    · exact hp_ne hb (hp_old hl (hp_ne hb (hp_old hq (hp_old hp (hp_ne hb h)))))
    · match i, e1, e2 with
      | 0, e1, e2 =>
        cases e1
        cases e2
        exact ⟨p, rfl, SqT.of (hp_ne hpa (hp_ne hpl (hp_ne hpa (hp_ne hpq upd_same))))⟩
      | i + 1, e1, e2 => cases e1
theorem atI_m1 {xs : List V} {n : Nat} {v : V} (l : xs.length = n + 1) (h : xs[n]? = some v) : atI xs (-1) = some v := by
  rcases List.eq_nil_or_concat xs with rfl | ⟨ys, y, rfl⟩
  · cases l
  · rw [List.concat_eq_append] at l h ⊢
    rw [List.length_append] at l
    have e : ys.length = n := by
      have : [y].length = 1 := rfl
      omega
    rw [List.getElem?_append_right (by omega), e, Nat.sub_self] at h
    cases h
    exact atI_last ys _
def sp_Session_write (K : PySem.W.Frag) : Sp := fun vs H Q _ => ∃ (h : Hp) (p d e : Addr) (r : Told) (is : List Nat) (i : Nat), vs = [.ref p, .str (lt i)] ∧ Same h H ∧ SesAt K h p d e r is ∧ TrAt K H e r ∧ OkTold r ∧ EntOk r is ∧ is.length < 100 ∧ i < 2 ∧
  ∀ v H', Frm (fun b => b = p ∨ b = d) H H' → SesAt K (grow h H H') p d e r (is ++ [i]) → Q v H'
abbrev NS_Session_write : List Str := ["self", "letter", "state", "output"]
theorem sc_Session_write : FnScope NS_Session_write ["self", "letter"] (defScope s_Session_write) := ⟨rfl, rfl, rfl, by decide +kernel, rfl, by decide +kernel, by decide +kernel⟩
theorem bb_Session_write {w : World} {mg : Str → Option Value} {K : PySem.W.Frag} (T : Tx w mg K) : Binds K (fdOf K (He.fAd K d_Session_write.at_)) ["self", "letter"] [] := FunD.bindsN T.F_Session_write fun _ _ _ _ _ _ us hl => match us, hl with | [_, _], _ => rfl
theorem ok_Session_write (T : Tx w mg K) : FnOk P w K mg base CX0 2 (He.ma K (He.ga K "Session") "write") (fdOf K (He.fAd K d_Session_write.at_)) ["self", "letter"] (sp_Session_write K) := by
  refine FunD.ok (CX := CX0) (k := 1) T.F_Session_write sc_Session_write (fun vs H Q E h => ?_) (fun cdv A outer s H vs Q E hr h => ?_)
  · obtain ⟨h, p, d, e, r, is, i, rfl, _⟩ := h
    rfl
  · obtain ⟨h, p, d, e, r, is, i, rfl, sh, ⟨dx, l, ws, hp, hd, hen⟩, ht, ok, eo, l100, hi, k⟩ := h
    have ⟨dx2, t, he, hdt⟩ := ht
    have hpH := sh _ _ hp
    have hdH := sh _ _ hd
    have cS := T.c_Session
    have cT := T.c_Translator
    have n1 := T.n_Session_engine
    have n2 := T.n_Session_done
    have n3 := T.n_Session_later
    have G_Translator_step := ok_Translator_step (P := P) (base := base) T
    have b_Translator_step := bb_Translator_step T
    refine ⟨_, PSs.nox (pss_cons (ps_asg (pe_meth (k_fld (K := K) rfl (pv 0) rfl) T.c_Translator T.m_Translator_step G_Translator_step (hr.mono (by decide)) b_Translator_step .nil pass0 (pa_cons (pe_ix (k_ixT (K := K) rfl) (pe_ix (k_ixL (K := K) rfl) (k_fld (K := K) rfl (pv 0) rfl) (pe_un un_neg pe_int) (fun _ _ => rfl)) pe_int (fun _ _ => rfl)) (pa_cons (pv 1) pa_nil))) (pg_tup rfl (pgs_cons (pg_name (i := 2) sc_Session_write.nd rfl (.inl rfl)) (pgs_cons (pg_name (i := 3) sc_Session_write.nd rfl (.inl rfl)) pgs_nil))))
    (pss_cons (ps_expr (k_bm (K := K) rfl PySem.F.plainAttrs_list PySem.F.slot_list_append PySem.F.type_list_append mt_append (k_fld (K := K) rfl (pv 0) rfl) (pa_cons (pe_tup (pa_cons (pv 2) (pa_cons (pv 1) (pa_cons (pv 3) pa_nil)))) pa_nil)))
    (pss_cons (ps_fld (pv 0) (pe_lst pa_nil) rfl)
    (pss_one (ps_ret (pv 3)))))), ?_⟩
    walk_at "go"
    obtain ⟨x, elast⟩ := eo.last
    have lw : ws.length = is.length + 1 := by rw [hen.1, eo.len]
    have hwl : is.length < ws.length := by omega
    obtain ⟨c, ec, hc⟩ := hen.2 is.length _ _ (List.getElem?_eq_getElem hwl) elast
    refine r_ixL (SqL.of hdH) (atI_m1 lw (List.getElem?_eq_getElem hwl)) ?_
    rw [ec]
    have hcH := sqT_same sh hc
    walk_at "go"
    refine ⟨e, r, (entF r is).2, i, rfl, ht, ok, eo.s0, eo.s1, hi, fun v H1 s1 hv => ?_⟩
    obtain ⟨c2, rfl, hc2⟩ := hv
    have hp1 := s1 _ _ hpH
    have hd1 := s1 _ _ hdH
    walk_at "go"
    intro c3 hc3
    walk_at "go"
    intro l2 hl2
    have hdp : d ≠ p := ne_of hd hp (by intro z; cases z)
    have hp4 := hp_old (o := HO.lst []) hl2 (hp_ne (p := d) (o := HO.lst (ws ++ [.ref c3])) (Ne.symm hdp) (hp_old (o := .tup [.int (stepT r (entF r is).2 i).1, .str (lt i), kV (stepT r (entF r is).2 i).2]) hc3 hp1))
    walk_at "go"
    have hc3H : H c3 = none := free_same s1 hc3
    have nc3d : c3 ≠ d := Ne.symm (ne_of_none hd1 hc3)
    have nc3p : c3 ≠ p := Ne.symm (ne_of_none hp1 hc3)
    have nl2d : l2 ≠ d := fun z => by
      rw [z, upd_same] at hl2
      cases hl2
    have nl2p : l2 ≠ p := fun z => by
      rw [z, hp_ne (Ne.symm hdp) (hp_old hc3 hp1)] at hl2
      cases hl2
    have nc3l : c3 ≠ l2 := fun z => by
      rw [← z, hp_ne nc3d upd_same] at hl2
      cases hl2
    have f : Frm (fun b => b = p ∨ b = d) H (upd (upd (upd (upd H1 c3 (.tup [.int (stepT r (entF r is).2 i).1, .str (lt i), kV (stepT r (entF r is).2 i).2])) d (.lst (ws ++ [.ref c3]))) l2 (.lst [])) p (.ins (He.ga K "Session") dx (putF "later" (.ref l2) (sesF e d l)))) := fun b o hb n => by
      have nbp : b ≠ p := fun z => n (.inl z)
      have nbd : b ≠ d := fun z => n (.inr z)
      exact hp_ne nbp (hp_old hl2 (hp_ne nbd (hp_old hc3 (s1 _ _ hb))))
    refine k _ _ f ⟨dx, l2, ws ++ [.ref c3], ?_, ?_, ?_⟩
    · rw [grow_old hp, upd_same]
      rfl
    · rw [grow_old hd]
      exact hp_ne hdp (hp_ne (Ne.symm nl2d) upd_same)
    · rw [entF_snoc]
      refine entsV_snoc (entsV_tp ?_ hen) ⟨c3, rfl, SqT.of ?_⟩
      · intro a o ha n
        have na : a ≠ p := fun z => by
          rw [z, hp] at ha
          cases ha
          rcases n with ⟨_, n⟩ | ⟨_, _, n⟩ <;> cases n
        have nd : a ≠ d := fun z => by
          rw [z, hd] at ha
          exact (Option.some.inj ha ▸ n : TupO (.lst ws)).lst
        exact grow_frm sh f a o ha (fun z => z.elim na nd)
      · rw [grow_new hc3H]
        exact hp_ne nc3p (hp_ne nc3l (hp_ne nc3d upd_same))
def txt (is : List Nat) : Str := Txt.join "" (("" : Str) :: is.map lt)
def sp_Session_written (K : PySem.W.Frag) : Sp := fun vs H Q _ => ∃ (p d e : Addr) (r : Told) (is : List Nat), vs = [.ref p] ∧ SesAt K H p d e r is ∧ is.length < 100 ∧ ∀ H', Same H H' → Q (.str (txt is)) H'
theorem ent_let (r : Told) : ∀ is : List Nat, (entF r is).1.map (·.2.1) = ("" : Str) :: is.map lt := fun is => by
  have h : ∀ (is : List Nat) (acc : List Ent × Int), (is.foldl (entS r) acc).1.map (·.2.1) = acc.1.map (·.2.1) ++ is.map lt := by
    intro is
    induction is with
    | nil => intro acc; simp
    | cons i is ih =>
      intro acc
      rw [List.foldl_cons, ih]
      unfold entS
      simp
  exact h is _
theorem lt_len (i : Nat) : (lt i).length = 1 := by
  unfold lt
  split
  · rfl
  · rfl
theorem sum_let : ∀ is : List Nat, (is.map fun i => (lt i).length).sum = is.length
  | [] => rfl
  | i :: is => by
    rw [List.map_cons, List.sum_cons, lt_len, sum_let is, List.length_cons]
    omega
abbrev NS_Session_written : List Str := ["self", "entry"]
theorem sc_Session_written : FnScope NS_Session_written ["self"] (defScope s_Session_written) := ⟨rfl, rfl, rfl, by decide +kernel, rfl, by decide +kernel, by decide +kernel⟩
theorem bb_Session_written {w : World} {mg : Str → Option Value} {K : PySem.W.Frag} (T : Tx w mg K) : Binds K (fdOf K (He.fAd K d_Session_written.at_)) ["self"] [] := FunD.bindsN T.F_Session_written fun _ _ _ _ _ _ us hl => match us, hl with | [_], _ => rfl
theorem ok_Session_written (T : Tx w mg K) : FnOk P w K mg base CX0 1 (He.ma K (He.ga K "Session") "written") (fdOf K (He.fAd K d_Session_written.at_)) ["self"] (sp_Session_written K) := by
  refine FunD.ok (CX := CX0) (k := 0) T.F_Session_written sc_Session_written (fun vs H Q E h => ?_) (fun cdv A outer s H vs Q E hr h => ?_)
  · obtain ⟨p, d, e, r, is, rfl, _⟩ := h
    rfl
  · obtain ⟨p, d, e, r, is, rfl, ⟨dx, l, ws, hp, hd, hen⟩, l100, k⟩ := h
    have cS := T.c_Session
    have n2 := T.n_Session_done
    have lets := ent_let r is
    have lw : ws.length = (("" : Str) :: is.map lt).length := by rw [hen.1, ← lets, List.length_map]
    refine ⟨_, PSs.nox (pss_one (ps_ret (pe_join pe_str (pe_lc (own := [("entry", 1)]) (g := gName 1) (tt := tYes) rfl sc_Session_written.nd (k_piL (K := K) rfl (k_fld (K := K) rfl (pv 0) rfl)) (blkOk_by (N := NS_Session_written) (sc := defScope s_Session_written) (by decide +kernel)) (fun _ _ _ _ _ => pg_name (i := 1) sc_Session_written.nd rfl (Or.inl rfl)) (fun _ _ _ _ _ => pts_nil) (fun _ _ _ _ _ => (pe_ix (k_ixT (K := K) rfl) (pv 1) pe_int (fun _ _ => rfl))))))), ?_⟩
    walk_at "go"
    refine g_list ((("" : Str) :: is.map lt).map V.str) (by rw [List.length_map, lw]) walk_list (by rw [lw, szl, List.length_cons, List.length_map]; omega) (fun H' s => sqL_same s (SqL.of hd)) ?_ ?_
    · rintro i x y H1 H2 N NF hi ey s ⟨rfl, ex⟩ q
      have hie : i < (entF r is).1.length := by rw [← hen.1]; exact hi
      obtain ⟨c, rfl, hc⟩ := hen.2 i x _ ex (List.getElem?_eq_getElem hie)
      rw [← lets, List.map_map, List.getElem?_map, List.getElem?_eq_getElem hie] at ey
      cases ey
      have hc1 := sqT_same s hc
      unfold LcT
      walk_at "go"
      exact q _ (Same.refl _)
    · intro D H1 hD s1 hD1
      walk_at "go"
      refine x_join hD1 (by rw [List.map_cons, List.sum_cons, List.map_map]; show 0 + (is.map fun i => (lt i).length).sum ≤ _; rw [sum_let]; omega) ?_
      exact k _ s1
/-! ### sessions are equal if the same was written -/
def entD (e : Ent) : PyData := .tuple [.int e.1, .str e.2.1, kD e.2.2]
theorem entsV_dps {H : Hp} {vs : List V} {es : List Ent} (h : EntsV K H vs es) : DpAll K H vs (es.map entD) := dpAll_of (by rw [List.length_map]; exact h.1) fun i v d e1 e2 => by
  rw [List.getElem?_map] at e2
  obtain ⟨e, e3, rfl⟩ := Option.map_eq_some_iff.mp e2
  obtain ⟨c, rfl, q⟩ := h.2 i v e e1 e3
  exact .tup q (.cons (.int _) (.cons (.str _) (.cons (dp_kV _) .nil)))
theorem sh_ents {es : List Ent} (h : ∀ e ∈ es, okOut e.2.2 ∧ PyData.strOk e.2.1 = true) : Sh 2 (.list (es.map entD)) := sh_list fun d hd => by
  obtain ⟨e, he, rfl⟩ := List.mem_map.mp hd
  refine sh_tup fun d hd => ?_
  simp only [List.mem_cons, List.not_mem_nil, or_false] at hd
  rcases hd with rfl | rfl | rfl
  · exact sh_int _ _
  · exact sh_str (h e he).2
  · rcases (h e he).1 with z | z | z
    · rw [z]
      exact sh_str (by decide +kernel)
    · rw [z]
      exact sh_str (by decide +kernel)
    · rw [z]
      exact sh_str (by decide +kernel)
theorem eqv_let : ∀ {es fs : List Ent}, PyData.eqvAll (es.map entD) (fs.map entD) = true → es.map (·.2.1) = fs.map (·.2.1)
  | [], [], _ => rfl
  | [], f :: fs, h => by simp [PyData.eqvAll] at h
  | e :: es, [], h => by simp [PyData.eqvAll] at h
  | e :: es, f :: fs, h => by
    rw [List.map_cons, List.map_cons, PyData.eqvAll, Bool.and_eq_true] at h
    have h2 := eqv_let h.2
    have h1 := h.1
    unfold entD at h1
    simp only [PyData.eqv, PyData.eqvAll, Bool.and_eq_true, beq_iff_eq] at h1
    rw [List.map_cons, List.map_cons, h2, h1.2.1]
theorem lt_inj {i j : Nat} (hi : i < 2) (hj : j < 2) (h : lt i = lt j) : i = j := by
  match i, hi, j, hj, h with
  | 0, _, 0, _, _ => rfl
  | 1, _, 1, _, _ => rfl
  | 0, _, 1, _, h => exact absurd h (by decide +kernel)
  | 1, _, 0, _, h => exact absurd h (by decide +kernel)
theorem let_inj : ∀ {is js : List Nat}, (∀ i ∈ is, i < 2) → (∀ j ∈ js, j < 2) → is.map lt = js.map lt → is = js
  | [], [], _, _, _ => rfl
  | [], j :: js, _, _, h => by cases h
  | i :: is, [], _, _, h => by cases h
  | i :: is, j :: js, hi, hj, h => by
    rw [List.map_cons, List.map_cons] at h
    injection h with h1 h2
    rw [lt_inj (hi i List.mem_cons_self) (hj j List.mem_cons_self) h1, let_inj (fun x hx => hi x (List.mem_cons_of_mem _ hx)) (fun x hx => hj x (List.mem_cons_of_mem _ hx)) h2]
theorem eqv_ents {r : Told} {is js : List Nat} (ei : EntOk r is) (hi : ∀ i ∈ is, i < 2) (hj : ∀ j ∈ js, j < 2) : PyData.eqv (.list ((entF r is).1.map entD)) (.list ((entF r js).1.map entD)) = decide (is = js) := by
  by_cases e : is = js
  · subst e
    rw [decide_eq_true rfl]
    have sh := sh_ok (sh_ents ei.o) (by decide)
    exact SeqAt.eqv_refl _ (SeqAt.canLay_of_shaped sh)
  · rw [decide_eq_false e]
    cases q : PyData.eqv (.list ((entF r is).1.map entD)) (.list ((entF r js).1.map entD)) with
    | false => rfl
    | true =>
      rw [PyData.eqv] at q
      have w := eqv_let q
      rw [ent_let, ent_let] at w
      injection w with _ w
      exact absurd (let_inj hi hj w) e
def sp_Session_eq (K : PySem.W.Frag) : Sp := fun vs H Q _ => ∃ (p d e p2 d2 e2 : Addr) (r : Told) (is js : List Nat), vs = [.ref p, .ref p2] ∧ SesAt K H p d e r is ∧ SesAt K H p2 d2 e2 r js ∧ TrAt K H e r ∧ TrAt K H e2 r ∧ OkTold r ∧ EntOk r is ∧ EntOk r js ∧ (∀ i ∈ is, i < 2) ∧ (∀ j ∈ js, j < 2) ∧ ∀ H', Same H H' → Q (.bl (decide (is = js))) H'
abbrev NS_Session_eq : List Str := ["self", "other"]
theorem sc_Session_eq : FnScope NS_Session_eq ["self", "other"] (defScope s_Session_eq) := ⟨rfl, rfl, rfl, by decide +kernel, rfl, by decide +kernel, by decide +kernel⟩
theorem bb_Session_eq {w : World} {mg : Str → Option Value} {K : PySem.W.Frag} (T : Tx w mg K) : Binds K (fdOf K (He.fAd K d_Session_eq.at_)) ["self", "other"] [] := FunD.bindsN T.F_Session_eq fun _ _ _ _ _ _ us hl => match us, hl with | [_, _], _ => rfl
theorem ok_Session_eq (T : Tx w mg K) : FnOk P w K mg base CX0 2 (He.ma K (He.ga K "Session") "__eq__") (fdOf K (He.fAd K d_Session_eq.at_)) ["self", "other"] (sp_Session_eq K) := by
  refine FunD.ok (CX := CX0) (k := 1) T.F_Session_eq sc_Session_eq (fun vs H Q E h => ?_) (fun cdv A outer s H vs Q E hr h => ?_)
  · obtain ⟨p, d, e, p2, d2, e2, r, is, js, rfl, _⟩ := h
    rfl
  · obtain ⟨p, d, e, p2, d2, e2, r, is, js, rfl, ⟨dx, l, ws, hp, hd, hen⟩, ⟨dy, l2, ws2, hp2, hd2, hen2⟩, ht, ht2, ok, ei, ej, hi, hj, k⟩ := h
    have ⟨dt, t, he, hdt⟩ := ht
    have ⟨dt2, t2, he2, hdt2⟩ := ht2
    have cS := T.c_Session
    have n1 := T.n_Session_engine
    have n2 := T.n_Session_done
    have G_Translator_eq := ok_Translator_eq (P := P) (base := base) T
    have b_Translator_eq := bb_Translator_eq T
    refine ⟨_, PSs.nox (pss_cons (ps_if (pt_not (pt_val (pe_callB (C8.call_isC T.s_Session) (by rfl) T.f_isinstance (by decide +kernel) (pa_cons (pv 1) (pa_cons (pe_glob (v := .ref (He.ga K "Session")) (by rfl) T.g_Session rfl) pa_nil))))) (pss_one (ps_ret pe_bl)) pss_nil)
    (pss_one (ps_ret (pe_and (pe_cmpR (op_eqOwn G_Translator_eq (hr.mono (by decide)) T.m_Translator_eq.at_ T.m_Translator_eq.fn b_Translator_eq pass0) (k_fld (K := K) rfl (pv 0) rfl) (k_fld (K := K) rfl (pv 1) rfl) (nomark _)) (pe_one (pe_cmpR (k_eqD (K := K) rfl hr.units) (k_fld (K := K) rfl (pv 0) rfl) (k_fld (K := K) rfl (pv 1) rfl) (nomark _))))))), ?_⟩
    walk_at "go"
    refine ⟨p2, dy, _, rfl, hp2, ?_⟩
    walk_at "go"
    refine ⟨e, e2, dt, dt2, _, _, rfl, rfl, he, he2, ⟨e, e2, r, rfl, ht, ht2, ok, fun H1 s1 => ⟨true, rfl, ?_⟩⟩⟩
    have hp1 := s1 _ _ hp
    have hp21 := s1 _ _ hp2
    walk_at "go"
    refine ⟨_, _, .lst (SqL.of (s1 _ _ hd)) (entsV_dps (entsV_tp (Tp.of s1) hen)), .lst (SqL.of (s1 _ _ hd2)) (entsV_dps (entsV_tp (Tp.of s1) hen2)), sh_ok (sh_ents ei.o) (by decide), sh_ok (sh_ents ej.o) (by decide), ?_⟩
    rw [eqv_ents ei hi hj]
    exact k _ s1
end
section
variable {P : Program} {w : World} {K : PySem.W.Frag} {mg : Str → Option Value} {base : Heap}
/-! ### names -/
def nameB (x : Str) : Bool := decide (1 ≤ x.length) && decide (x.length ≤ 8) && x.cps.toList.all fun c => decide (c ∈ ("abcdefghijklmnopqrstuvwxyz" : Str).cps.toList)
def sp_name : Sp := fun vs H Q _ => ∃ x : Str, vs = [.str x] ∧ x.length ≤ 9 ∧ ∀ H', Same H H' → Q (.bl (nameB x)) H'
theorem r_allL {bs : List Bool} {D : Addr} {H : Hp} {Q : VK} (h : H D = some (.lst (bs.map V.bl))) (k : Q (.bl (bs.all id)) H) : rAll K [.ref D] H Q := ⟨D, bs, rfl, SqL.of h, k⟩
abbrev NS_is_name : List Str := ["text", "sign"]
theorem sc_is_name : FnScope NS_is_name ["text"] (defScope s_is_name) := ⟨rfl, rfl, rfl, by decide +kernel, rfl, by decide +kernel, by decide +kernel⟩
theorem bb_is_name {w : World} {mg : Str → Option Value} {K : PySem.W.Frag} (T : Tx w mg K) : Binds K (fdOf K (He.fAd K d_is_name.at_)) ["text"] [] := FunD.bindsN T.F_is_name fun _ _ _ _ _ _ us hl => match us, hl with | [_], _ => rfl
theorem ok_is_name (T : Tx w mg K) : FnOk P w K mg base CX0 1 (He.ga K "is_name") (fdOf K (He.fAd K d_is_name.at_)) ["text"] sp_name := by
  refine FunD.ok (CX := CX0) (k := 0) T.F_is_name sc_is_name (fun vs H Q E h => ?_) (fun cdv A outer s H vs Q E hr h => ?_)
  · obtain ⟨x, rfl, _⟩ := h
    rfl
  · obtain ⟨x, rfl, l9, k⟩ := h
    have l3 : x.length ≤ sizeLine := Nat.le_trans l9 (by decide)
    have sz : x.cps.size = x.length := rfl
    refine ⟨_, PSs.nox (pss_one (ps_ret (pe_and (pe_chain op_le op_le pe_int (pe_callB call_len_str (by rfl) T.f_len (by decide +kernel) (pa_cons (pv 0) pa_nil)) (pe_glob (v := .int 8) (by rfl) T.i_MAX_NAME.choose_spec ⟨_, rfl⟩)) (pe_one (pe_callB (k_all (K := K) rfl rfl) (by rfl) T.f_all (by decide +kernel) (pa_cons (pe_lc (own := [("sign", 1)]) (g := gName 1) (tt := tYes) rfl sc_is_name.nd (pi_str (pv 0)) (blkOk_by (N := NS_is_name) (sc := defScope s_is_name) (by decide +kernel)) (fun _ _ _ _ _ => pg_name (i := 1) sc_is_name.nd rfl (Or.inl rfl)) (fun _ _ _ _ _ => pts_nil) (fun _ _ _ _ _ => (pe_cmpR op_in_sign (pv 1) (pe_glob (v := .str "abcdefghijklmnopqrstuvwxyz") (by rfl) T.z_LOWERCASE.choose_spec ⟨_, rfl⟩) (by rfl)))) pa_nil)))))), ?_⟩
    walk_at "go"
    by_cases h1 : 1 ≤ x.length
    · walk_at "go"
      by_cases h8 : x.length ≤ 8
      · walk_at "go"
        refine g_list ((x.cps.toList.map fun c => decide (c ∈ ("abcdefghijklmnopqrstuvwxyz" : Str).cps.toList)).map V.bl) (by rw [List.length_map, List.length_map, Array.length_toList]) walk_str (by rw [sz, szl]; omega) (fun _ _ => trivial) ?_ ?_
        · rintro i y b H1 H2 N NF hi eb s ⟨rfl, c, ec, rfl⟩ q
          rw [List.getElem?_map, List.getElem?_map, Array.getElem?_toList, ec] at eb
          cases eb
          unfold LcT
          walk_at "go"
          exact q _ (Same.refl _)
        · intro D H1 hD s1 hD1
          walk_at "go"
          refine r_allL hD1 ?_
          have e : nameB x = (x.cps.toList.map fun c => decide (c ∈ ("abcdefghijklmnopqrstuvwxyz" : Str).cps.toList)).all id := by
            unfold nameB
            rw [decide_eq_true h1, decide_eq_true h8, List.all_map]
            rfl
          rw [← e]
          walk_at "go"
          exact k _ s1
      · walk_at "go"
        have e : nameB x = false := by
          unfold nameB
          rw [decide_eq_false h8, Bool.and_false, Bool.false_and]
        have q := k H (Same.refl _)
        rw [e] at q
        exact q
    · walk_at "go"
      have e : nameB x = false := by
        unfold nameB
        rw [decide_eq_false h1, Bool.false_and, Bool.false_and]
      have q := k H (Same.refl _)
      rw [e] at q
      exact q
abbrev NS_l_is_name : List Str := ["_law_text", "_law_sign"]
theorem sc_l_is_name : FnScope NS_l_is_name ["_law_text"] (defScope s_l_is_name) := ⟨rfl, rfl, rfl, by decide +kernel, rfl, by decide +kernel, by decide +kernel⟩
theorem bb_l_is_name {w : World} {mg : Str → Option Value} {K : PySem.W.Frag} (T : Tx w mg K) : Binds K (fdOf K (He.fAd K d_l_is_name.at_)) ["_law_text"] [] := FunD.bindsN T.F_l_is_name fun _ _ _ _ _ _ us hl => match us, hl with | [_], _ => rfl
theorem ok_l_is_name (T : Tx w mg K) : FnOk P w K mg base CX0 1 (He.ga K "_law_is_name") (fdOf K (He.fAd K d_l_is_name.at_)) ["_law_text"] sp_name := by
  refine FunD.ok (CX := CX0) (k := 0) T.F_l_is_name sc_l_is_name (fun vs H Q E h => ?_) (fun cdv A outer s H vs Q E hr h => ?_)
  · obtain ⟨x, rfl, _⟩ := h
    rfl
  · obtain ⟨x, rfl, l9, k⟩ := h
    have l3 : x.length ≤ sizeLine := Nat.le_trans l9 (by decide)
    have sz : x.cps.size = x.length := rfl
    refine ⟨_, PSs.nox (pss_one (ps_ret (pe_and (pe_chain op_lt op_lt pe_int (pe_callB call_len_str (by rfl) T.f_len (by decide +kernel) (pa_cons (pv 0) pa_nil)) pe_int) (pe_one (pe_callB (k_all (K := K) rfl rfl) (by rfl) T.f_all (by decide +kernel) (pa_cons (pe_lc (own := [("_law_sign", 1)]) (g := gName 1) (tt := tYes) rfl sc_l_is_name.nd (pi_str (pv 0)) (blkOk_by (N := NS_l_is_name) (sc := defScope s_l_is_name) (by decide +kernel)) (fun _ _ _ _ _ => pg_name (i := 1) sc_l_is_name.nd rfl (Or.inl rfl)) (fun _ _ _ _ _ => pts_nil) (fun _ _ _ _ _ => (pe_cmpR op_in_sign (pv 1) pe_str (by rfl)))) pa_nil)))))), ?_⟩
    walk_at "go"
    by_cases h1 : 1 ≤ x.length
    · walk_at "go"
      by_cases h8 : x.length ≤ 8
      · walk_at "go"
        refine g_list ((x.cps.toList.map fun c => decide (c ∈ ("abcdefghijklmnopqrstuvwxyz" : Str).cps.toList)).map V.bl) (by rw [List.length_map, List.length_map, Array.length_toList]) walk_str (by rw [sz, szl]; omega) (fun _ _ => trivial) ?_ ?_
        · rintro i y b H1 H2 N NF hi eb s ⟨rfl, c, ec, rfl⟩ q
          rw [List.getElem?_map, List.getElem?_map, Array.getElem?_toList, ec] at eb
          cases eb
          unfold LcT
          walk_at "go"
          exact q _ (Same.refl _)
        · intro D H1 hD s1 hD1
          walk_at "go"
          refine r_allL hD1 ?_
          have e : nameB x = (x.cps.toList.map fun c => decide (c ∈ ("abcdefghijklmnopqrstuvwxyz" : Str).cps.toList)).all id := by
            unfold nameB
            rw [decide_eq_true h1, decide_eq_true h8, List.all_map]
            rfl
          rw [← e]
          walk_at "go"
          exact k _ s1
      · walk_at "go"
        have e : nameB x = false := by
          unfold nameB
          rw [decide_eq_false h8, Bool.and_false, Bool.false_and]
        have q := k H (Same.refl _)
        rw [e] at q
        exact q
    · walk_at "go"
      have e : nameB x = false := by
        unfold nameB
        rw [decide_eq_false h1, Bool.false_and, Bool.false_and]
      have q := k H (Same.refl _)
      rw [e] at q
      exact q
/-! ### contents -/
inductive RelC (R : V → Raw → Prop) : List (Key × V) → List (Str × Raw) → Prop
  | nil : RelC R [] []
  | cons {n : Str} {v : V} {r : Raw} {kvs : List (Key × V)} {C : List (Str × Raw)} : R v r → RelC R kvs C → RelC R ((.inr n, v) :: kvs) ((n, r) :: C)
def findC (C : List (Str × Raw)) (n : Str) : Option Raw := (C.find? fun c => decide (c.1 = n)).map (·.2)
def putC (C : List (Str × Raw)) (n : Str) (r : Raw) : List (Str × Raw) := if (C.any fun c => decide (c.1 = n)) = true then C.map (fun c => if c.1 = n then (c.1, r) else c) else C ++ [(n, r)]
def dropC (C : List (Str × Raw)) (n : Str) : List (Str × Raw) := C.filter fun c => decide (c.1 ≠ n)
section
variable {R : V → Raw → Prop} {n : Str}
theorem key_eq {m : Str} : ((.inr m : Key) = .inr n) ↔ m = n := ⟨Sum.inr.inj, fun h => by rw [h]⟩
theorem relC_len {kvs : List (Key × V)} {C : List (Str × Raw)} (h : RelC R kvs C) : kvs.length = C.length := by
  induction h with
  | nil => rfl
  | cons _ _ ih => rw [List.length_cons, List.length_cons, ih]
theorem relC_mono {R' : V → Raw → Prop} {kvs : List (Key × V)} {C : List (Str × Raw)} (m : ∀ v r, R v r → R' v r) (h : RelC R kvs C) : RelC R' kvs C := by
  induction h with
  | nil => exact .nil
  | cons a _ ih => exact .cons (m _ _ a) ih
theorem relC_val {kvs : List (Key × V)} {C : List (Str × Raw)} (h : RelC R kvs C) : (valV kvs (.inr n) = none ∧ findC C n = none) ∨ ∃ v r, valV kvs (.inr n) = some v ∧ findC C n = some r ∧ R v r := by
  induction h with
  | nil => exact .inl ⟨rfl, rfl⟩
  | @cons m v r kvs C a b ih =>
    by_cases e : m = n
    · refine .inr ⟨v, r, valV_pos (key_eq.mpr e), ?_, a⟩
      unfold findC
      rw [List.find?_cons_of_pos (by simpa using e)]
      rfl
    · have e2 : findC ((m, r) :: C) n = findC C n := by
        unfold findC
        rw [List.find?_cons_of_neg (by simpa using e)]
      rw [valV_neg (fun z => e (key_eq.mp z)), e2]
      exact ih
theorem relC_any {kvs : List (Key × V)} {C : List (Str × Raw)} (h : RelC R kvs C) : (kvs.any fun kv => decide (kv.1 = .inr n)) = C.any fun c => decide (c.1 = n) := by
  induction h with
  | nil => rfl
  | @cons m v r kvs C a b ih =>
    rw [List.any_cons, List.any_cons, ih]
    congr 1
    exact decide_eq_decide.mpr key_eq
theorem relC_app {kvs : List (Key × V)} {C : List (Str × Raw)} {v : V} {r : Raw} (h : RelC R kvs C) (q : R v r) : RelC R (kvs ++ [(.inr n, v)]) (C ++ [(n, r)]) := by
  induction h with
  | nil => exact .cons q .nil
  | cons a _ ih => exact .cons a ih
theorem relC_map {kvs : List (Key × V)} {C : List (Str × Raw)} {v : V} {r : Raw} (h : RelC R kvs C) (q : R v r) : RelC R (kvs.map fun kv => if kv.1 = .inr n then (kv.1, v) else kv) (C.map fun c => if c.1 = n then (c.1, r) else c) := by
  induction h with
  | nil => exact .nil
  | @cons m u s kvs C a b ih =>
    rw [List.map_cons, List.map_cons]
    by_cases e : m = n
    · rw [if_pos (key_eq.mpr e), if_pos e]
      exact .cons q ih
    · rw [if_neg (fun z => e (key_eq.mp z)), if_neg e]
      exact .cons a ih
theorem relC_put {kvs : List (Key × V)} {C : List (Str × Raw)} {v : V} {r : Raw} (h : RelC R kvs C) (q : R v r) : RelC R (putK kvs (.inr n) v) (putC C n r) := by
  unfold putK putC
  rw [relC_any h]
  split
  · exact relC_map h q
  · exact relC_app h q
theorem relC_drop {kvs : List (Key × V)} {C : List (Str × Raw)} (h : RelC R kvs C) : RelC R (dropK kvs (.inr n)) (dropC C n) := by
  unfold dropK dropC
  induction h with
  | nil => exact .nil
  | @cons m u s kvs C a b ih =>
    by_cases e : m = n
    · rw [List.filter_cons_of_neg (by simpa using key_eq.mpr e), List.filter_cons_of_neg (by simpa using e)]
      exact ih
    · rw [List.filter_cons_of_pos (by simpa using fun z => e (key_eq.mp z)), List.filter_cons_of_pos (by simpa using e)]
      exact .cons a ih
theorem relC_keys {kvs : List (Key × V)} {C : List (Str × Raw)} (h : RelC R kvs C) : kvs.map (·.1) = (C.map (·.1)).map Sum.inr := by
  induction h with
  | nil => rfl
  | cons _ _ ih => rw [List.map_cons, List.map_cons, List.map_cons, ih]
end
theorem findC_any {C : List (Str × Raw)} {n : Str} : (findC C n).isSome = C.any fun c => decide (c.1 = n) := by
  unfold findC
  induction C with
  | nil => rfl
  | cons c C ih =>
    rw [List.any_cons]
    by_cases e : c.1 = n
    · rw [List.find?_cons_of_pos (by simpa using e), decide_eq_true e]
      rfl
    · rw [List.find?_cons_of_neg (by simpa using e), decide_eq_false e, Bool.false_or]
      exact ih
theorem putC_len {C : List (Str × Raw)} {n : Str} {r : Raw} (h : (findC C n).isSome = true ∨ C.length ≤ 5) (l : C.length ≤ 6) : (putC C n r).length ≤ 6 := by
  unfold putC
  split
  · rw [List.length_map]
    exact l
  · next z =>
    rw [← findC_any] at z
    rcases h with h | h
    · exact absurd h z
    · rw [List.length_append]
      show C.length + 1 ≤ 6
      omega
/-- what a command answers, and the contents behind it -/
def dueD (C : List (Str × Raw)) : Cmd → PyData
  | .add n _ => if nameB n = true then (if (findC C n).isSome = true then .tuple [.str "duplicatename", .str n] else if 5 < C.length then .tuple [.str "limitexceeded", .int 6] else .tuple [.str "", .none]) else .tuple [.str "invalidname", .str n]
  | .rep n _ => if (findC C n).isSome = true then .tuple [.str "", .none] else .tuple [.str "unknownname", .str n]
  | .rem n => match findC C n with
    | some r => .tuple [.str "", rawD r]
    | none => .tuple [.str "unknownname", .str n]
def newC (C : List (Str × Raw)) : Cmd → List (Str × Raw)
  | .add n r => if nameB n = true then (if (findC C n).isSome = true then C else if 5 < C.length then C else putC C n r) else C
  | .rep n r => if (findC C n).isSome = true then putC C n r else C
  | .rem n => dropC C n
def LawR (K : PySem.W.Frag) (h : Hp) (v : V) (r : Raw) : Prop := Dp K h v (rawD r) ∧ OkRaw r
def sp_l_result (K : PySem.W.Frag) : Sp := fun vs H Q _ => ∃ (h : Hp) (D : Addr) (v : V) (c : Cmd) (C : List (Str × Raw)) (kvs : List (Key × V)), vs = [.ref D, v] ∧ Same h H ∧ H D = some (.dK kvs) ∧ RelC (LawR K h) kvs C ∧ CmdV K h v c ∧ C.length ≤ 6 ∧
  ∀ (p : Addr) (u : V) (D' : Addr) (kvs' : List (Key × V)) (H' : Hp), Same H H' → SqT K H' p [u, .ref D'] → Dp K H' u (dueD C c) → H' D' = some (.dK kvs') → RelC (LawR K h) kvs' (newC C c) → Q (.ref p) H'
abbrev NS_l_result : List Str := ["_law_contents", "_law_command_here", "_law_word", "_law_name", "_law_later", "_law_raw_here"]
theorem sc_l_result : FnScope NS_l_result ["_law_contents", "_law_command_here"] (defScope s_l_result) := ⟨rfl, rfl, rfl, by decide +kernel, rfl, by decide +kernel, by decide +kernel⟩
theorem bb_l_result {w : World} {mg : Str → Option Value} {K : PySem.W.Frag} (T : Tx w mg K) : Binds K (fdOf K (He.fAd K d_l_result.at_)) ["_law_contents", "_law_command_here"] [] := FunD.bindsN T.F_l_result fun _ _ _ _ _ _ us hl => match us, hl with | [_, _], _ => rfl
theorem ok_l_result (T : Tx w mg K) : FnOk P w K mg base CX0 2 (He.ga K "_law_result") (fdOf K (He.fAd K d_l_result.at_)) ["_law_contents", "_law_command_here"] (sp_l_result K) := by
  refine FunD.ok (CX := CX0) (k := 1) T.F_l_result sc_l_result (fun vs H Q E h => ?_) (fun cdv A outer s H vs Q E hr h => ?_)
  · obtain ⟨h, D, v, c, C, kvs, rfl, _⟩ := h
    rfl
  · obtain ⟨h, D, v, c, C, kvs, rfl, sh, hD, rel, hc, l6, k⟩ := h
    have lk := relC_len rel
    have G_l_is_name := ok_l_is_name (P := P) (base := base) T
    have b_l_is_name := bb_l_is_name T
    refine ⟨_, PSs.nox (pss_cons (ps_par3 (i := 2) (j := 3) (l := 4) rfl sc_l_result.nd rfl rfl rfl (by decide) (by decide) (by decide) rfl rfl rfl (pa_cons (pe_ix (k_ixT (K := K) rfl) (pv 1) pe_int (fun _ _ => rfl)) (pa_cons (pe_ix (k_ixT (K := K) rfl) (pv 1) pe_int (fun _ _ => rfl)) (pa_cons (pe_callTy call_dictD (by rfl) T.f_dict (by decide +kernel) (pa_cons (pv 0) pa_nil)) pa_nil))) (by rfl))
    (pss_cons (ps_if (pt_cmpR op_eq (pv 2) pe_str (nomark _)) (pss_cons (ps_if (pt_not (pt_val (pe_call G_l_is_name (hr.mono (by decide)) (by rfl) T.g_l_is_name T.F_l_is_name.kp b_l_is_name .nil pass0 (pa_cons (pv 3) pa_nil)))) (pss_one (ps_ret (pe_tup (pa_cons (pe_tup (pa_cons pe_str (pa_cons (pv 3) pa_nil))) (pa_cons (pv 0) pa_nil))))) pss_nil)
    (pss_cons (ps_if (pt_cmp (pc_din (hu_of hr) (pv 3) (pv 0)) rfl) (pss_one (ps_ret (pe_tup (pa_cons (pe_tup (pa_cons pe_str (pa_cons (pv 3) pa_nil))) (pa_cons (pv 0) pa_nil))))) pss_nil)
    (pss_one (ps_if (pt_cmpR op_gt (pe_callB call_lenD (by rfl) T.f_len (by decide +kernel) (pa_cons (pv 0) pa_nil)) pe_int (nomark _)) (pss_one (ps_ret (pe_tup (pa_cons (pe_tup (pa_cons pe_str (pa_cons pe_int pa_nil))) (pa_cons (pv 0) pa_nil))))) pss_nil)))) (pss_one (ps_if (pt_cmp (pc_dnotin (hu_of hr) (pv 3) (pv 0)) rfl) (pss_one (ps_ret (pe_tup (pa_cons (pe_tup (pa_cons pe_str (pa_cons (pv 3) pa_nil))) (pa_cons (pv 0) pa_nil))))) pss_nil)))
    (pss_cons (ps_if (pt_cmpR op_eq (pv 2) pe_str (nomark _)) (pss_cons (ps_set (i := 5) sc_l_result.nd rfl (.inl rfl) (pe_dpop1 (pv 4) (pv 3) ⟨rfl, rfl, rfl, rfl⟩))
    (pss_one (ps_ret (pe_tup (pa_cons (pe_tup (pa_cons pe_str (pa_cons (pv 5) pa_nil))) (pa_cons (pv 4) pa_nil)))))) pss_nil)
    (pss_cons (ps_dput (hu_of hr) (pv 4) (pv 3) (pe_ix (k_ixT (K := K) rfl) (pv 1) pe_int (fun _ _ => rfl)) rfl)
    (pss_one (ps_ret (pe_tup (pa_cons (pe_tup (pa_cons pe_str (pa_cons pe_non pa_nil))) (pa_cons (pv 4) pa_nil))))))))), ?_⟩
    have pairS : ∀ (H1 : Hp) (p q D' : Addr) (x y : V) (a b : PyData), H1 q = none → (upd H1 q (.tup [x, y])) p = none → Dp K H1 x a → Dp K H1 y b →
        Dp K (upd (upd H1 q (.tup [x, y])) p (.tup [.ref q, .ref D'])) (.ref q) (.tuple [a, b]) := fun H1 p q D' x y a b hq hp dx dy => by
      have S : Same H1 (upd (upd H1 q (.tup [x, y])) p (.tup [.ref q, .ref D'])) := K70.Same.new (K70.Same.new1 hq) hp
      exact .tup (SqT.of (hp_old hp upd_same)) (.cons (dp_same S dx) (.cons (dp_same S dy) .nil))
    cases c with
    | add n r =>
      obtain ⟨l9, okr, cp, u, rfl, hcp, hu⟩ := hc
      have hcpH := sqT_same sh hcp
      walk_at "go"
      intro dl hdl
      walk_at "go"
      refine ⟨n, rfl, l9, fun H1 s1 => ?_⟩
      have s01 : Same H H1 := (K70.Same.new1 hdl).trans s1
      have hD1 := s01 _ _ hD
      have hdl1 := s1 _ _ (upd_same (H := H) (a := dl) (o := .dK kvs))
      have hcp1 := sqT_same s01 hcpH
      cases hn : nameB n with
      | false =>
        walk_at "go"
        intro q hq
        walk_at "go"
        intro p hp
        have e : dueD C (.add n r) = .tuple [.str "invalidname", .str n] := by simp [dueD, hn]
        have e2 : newC C (.add n r) = C := by simp [newC, hn]
        exact k p (.ref q) D kvs _ (K70.Same.new (K70.Same.new s01 hq) hp) (SqT.of upd_same) (by rw [e]; exact pairS H1 p q D _ _ _ _ hq hp (.str _) (.str _)) (hp_old hp (hp_old hq hD1)) (by rw [e2]; exact rel)
      | true =>
        walk_at "go"
        rcases relC_val (n := n) rel with ⟨e1, e2⟩ | ⟨v0, r0, e1, e2, rr⟩
        · rw [e1]
          walk_at "go"
          by_cases h5 : 5 < kvs.length
          · walk_at "go"
            intro q hq
            walk_at "go"
            intro p hp
            have e : dueD C (.add n r) = .tuple [.str "limitexceeded", .int 6] := by simp [dueD, hn, e2, show 5 < C.length by omega]
            have e3 : newC C (.add n r) = C := by simp [newC, hn, e2, show 5 < C.length by omega]
            exact k p (.ref q) D kvs _ (K70.Same.new (K70.Same.new s01 hq) hp) (SqT.of upd_same) (by rw [e]; exact pairS H1 p q D _ _ _ _ hq hp (.str _) (.int _)) (hp_old hp (hp_old hq hD1)) (by rw [e3]; exact rel)
          · walk_at "go"
            refine x_pS hdl1 (by rw [szl]; omega) ?_
            have sp : Same H (upd H1 dl (.dK (putK kvs (.inr n) u))) := K70.Same.mut s01 hdl
            walk_at "go"
            intro q hq
            walk_at "go"
            intro p hp
            have e : dueD C (.add n r) = .tuple [.str "", .none] := by simp [dueD, hn, e2, show ¬ 5 < C.length by omega]
            have e3 : newC C (.add n r) = putC C n r := by simp [newC, hn, e2, show ¬ 5 < C.length by omega]
            exact k p (.ref q) dl (putK kvs (.inr n) u) _ (K70.Same.new (K70.Same.new sp hq) hp) (SqT.of upd_same) (by rw [e]; exact pairS _ p q dl _ _ _ _ hq hp (.str _) .non) (hp_old hp (hp_old hq upd_same)) (by rw [e3]; exact relC_put rel ⟨hu, okr⟩)
        · rw [e1]
          walk_at "go"
          intro q hq
          walk_at "go"
          intro p hp
          have e : dueD C (.add n r) = .tuple [.str "duplicatename", .str n] := by simp [dueD, hn, e2]
          have e3 : newC C (.add n r) = C := by simp [newC, hn, e2]
          exact k p (.ref q) D kvs _ (K70.Same.new (K70.Same.new s01 hq) hp) (SqT.of upd_same) (by rw [e]; exact pairS H1 p q D _ _ _ _ hq hp (.str _) (.str _)) (hp_old hp (hp_old hq hD1)) (by rw [e3]; exact rel)
    | rep n r =>
      obtain ⟨l9, okr, cp, u, rfl, hcp, hu⟩ := hc
      have hcpH := sqT_same sh hcp
      walk_at "go"
      intro dl hdl
      have s01 : Same H (upd H dl (.dK kvs)) := K70.Same.new1 hdl
      have hcp1 := sqT_same s01 hcpH
      walk_at "go"
      rcases relC_val (n := n) rel with ⟨e1, e2⟩ | ⟨v0, r0, e1, e2, rr⟩
      · rw [e1]
        walk_at "go"
        intro q hq
        walk_at "go"
        intro p hp
        have e : dueD C (.rep n r) = .tuple [.str "unknownname", .str n] := by simp [dueD, e2]
        have e3 : newC C (.rep n r) = C := by simp [newC, e2]
        exact k p (.ref q) D kvs _ (K70.Same.new (K70.Same.new s01 hq) hp) (SqT.of upd_same) (by rw [e]; exact pairS _ p q D _ _ _ _ hq hp (.str _) (.str _)) (hp_old hp (hp_old hq (hp_old hdl hD))) (by rw [e3]; exact rel)
      · rw [e1]
        walk_at "go"
        refine x_pS upd_same (by rw [szl]; omega) ?_
        have sp : Same H (upd (upd H dl (.dK kvs)) dl (.dK (putK kvs (.inr n) u))) := K70.Same.mut s01 hdl
        walk_at "go"
        intro q hq
        walk_at "go"
        intro p hp
        have e : dueD C (.rep n r) = .tuple [.str "", .none] := by simp [dueD, e2]
        have e3 : newC C (.rep n r) = putC C n r := by simp [newC, e2]
        exact k p (.ref q) dl (putK kvs (.inr n) u) _ (K70.Same.new (K70.Same.new sp hq) hp) (SqT.of upd_same) (by rw [e]; exact pairS _ p q dl _ _ _ _ hq hp (.str _) .non) (hp_old hp (hp_old hq upd_same)) (by rw [e3]; exact relC_put rel ⟨hu, okr⟩)
    | rem n =>
      obtain ⟨l9, cp, rfl, hcp⟩ := hc
      have hcpH := sqT_same sh hcp
      walk_at "go"
      intro dl hdl
      have s01 : Same H (upd H dl (.dK kvs)) := K70.Same.new1 hdl
      have hcp1 := sqT_same s01 hcpH
      walk_at "go"
      rcases relC_val (n := n) rel with ⟨e1, e2⟩ | ⟨v0, r0, e1, e2, rr⟩
      · rw [e1]
        walk_at "go"
        intro q hq
        walk_at "go"
        intro p hp
        have e : dueD C (.rem n) = .tuple [.str "unknownname", .str n] := by simp [dueD, e2]
        have e3 : newC C (.rem n) = C := by
          unfold newC dropC
          rw [List.filter_eq_self]
          intro c hc
          have z : (findC C n).isSome = false := by rw [e2]; rfl
          rw [findC_any, List.any_eq_false] at z
          simpa using z c hc
        exact k p (.ref q) D kvs _ (K70.Same.new (K70.Same.new s01 hq) hp) (SqT.of upd_same) (by rw [e]; exact pairS _ p q D _ _ _ _ hq hp (.str _) (.str _)) (hp_old hp (hp_old hq (hp_old hdl hD))) (by rw [e3]; exact rel)
      · rw [e1]
        walk_at "go"
        refine ⟨dl, rfl, ?_, ?_⟩
        · exact .inl ⟨kvs, .inl upd_same⟩
        walk_at "go"
        refine ⟨kvs, .inr n, v0, upd_same, rfl, e1, ?_⟩
        have sp : Same H (upd (upd H dl (.dK kvs)) dl (.dK (dropK kvs (.inr n)))) := K70.Same.mut s01 hdl
        walk_at "go"
        intro q hq
        walk_at "go"
        intro p hp
        have e : dueD C (.rem n) = .tuple [.str "", rawD r0] := by simp [dueD, e2]
        exact k p (.ref q) dl (dropK kvs (.inr n)) _ (K70.Same.new (K70.Same.new sp hq) hp) (SqT.of upd_same) (by rw [e]; exact pairS _ p q dl _ _ _ _ hq hp (.str _) (dp_same (sh.trans sp) rr.1)) (hp_old hp (hp_old hq upd_same)) (relC_drop rel)
end
section
variable {P : Program} {w : World} {K : PySem.W.Frag} {mg : Str → Option Value} {base : Heap}
/-! ### Ladder: reading -/
def ladF (cd pl fl kn : Addr) : List (Str × V) := [("contents", .ref cd), ("past", .ref pl), ("future", .ref fl), ("known", .ref kn)]
def LadO (K : PySem.W.Frag) (H : Hp) (p cd pl fl kn : Addr) : Prop := ∃ dx, H p = some (.ins (He.ga K "Ladder") dx (ladF cd pl fl kn))
theorem lad_same {H H' : Hp} {p cd pl fl kn : Addr} (s : Same H H') (h : LadO K H p cd pl fl kn) : LadO K H' p cd pl fl kn := by
  obtain ⟨dx, e⟩ := h
  exact ⟨dx, s _ _ e⟩
/-- an error of its own comes -/
def ErrE (K : PySem.W.Frag) (E : XK) (H : Hp) (cls wd f : Str) (y : V) : Prop := ∀ (d : Addr) (H' : Hp), Same H H' → H d = none → H' d = some (.xd [("word", .str wd), (f, y)]) → E (.ref (He.ga K cls)) (some d) H'
theorem errE_same {E : XK} {H H1 : Hp} {cls wd f : Str} {y : V} (s : Same H H1) (h : ErrE K E H cls wd f y) : ErrE K E H1 cls wd f y := fun d H' s2 e q => h d H' (s.trans s2) (free_same s e) q
def sp_Ladder_init (K : PySem.W.Frag) : Sp := fun vs H Q _ => ∃ (a dx : Addr), vs = [.ref a] ∧ H a = some (.ins (He.ga K "Ladder") dx []) ∧ ∀ (cd pl fl kn : Addr) (H' : Hp), Off a H H' → H cd = none → H pl = none → LadO K H' a cd pl fl kn → H' cd = some (.dK []) → H' pl = some (.lst []) → H' fl = some (.lst []) → fl ≠ pl → H fl = none → Q .non H'
abbrev NS_Ladder_init : List Str := ["self"]
theorem sc_Ladder_init : FnScope NS_Ladder_init ["self"] (defScope s_Ladder_init) := ⟨rfl, rfl, rfl, by decide +kernel, rfl, by decide +kernel, by decide +kernel⟩
theorem bb_Ladder_init {w : World} {mg : Str → Option Value} {K : PySem.W.Frag} (T : Tx w mg K) : Binds K (fdOf K (He.fAd K d_Ladder_init.at_)) ["self"] [] := FunD.bindsN T.F_Ladder_init fun _ _ _ _ _ _ us hl => match us, hl with | [_], _ => rfl
theorem ok_Ladder_init (T : Tx w mg K) : FnOk P w K mg base CX0 1 (He.ma K (He.ga K "Ladder") "__init__") (fdOf K (He.fAd K d_Ladder_init.at_)) ["self"] (sp_Ladder_init K) := by
  refine FunD.ok (CX := CX0) (k := 0) T.F_Ladder_init sc_Ladder_init (fun vs H Q E h => ?_) (fun cdv A outer s H vs Q E hr h => ?_)
  · obtain ⟨a, dx, rfl, _⟩ := h
    rfl
  · obtain ⟨a, dx, rfl, ha, k⟩ := h
    have cL := T.c_Ladder
    have n1 := T.n_Ladder_contents
    have n2 := T.n_Ladder_past
    have n3 := T.n_Ladder_future
    have n4 := T.n_Ladder_known
    refine ⟨_, PSs.nox (pss_cons (ps_fld (pv 0) pe_dnewK rfl)
    (pss_cons (ps_asg (pe_tup (pa_cons (pe_lst pa_nil) (pa_cons (pe_lst pa_nil) pa_nil))) (pg_tup rfl (pgs_cons (pg_fld (pv 0)) (pgs_cons (pg_fld (pv 0)) pgs_nil))))
    (pss_one (ps_fld (pv 0) pe_dnewK rfl)))), ?_⟩
    walk_at "go"
    intro cd hcd
    walk_at "go"
    intro pl hpl
    walk_at "go"
    intro fl hfl
    walk_at "go"
    intro tp htp
    walk_at "go"
    intro kn hkn
    walk_at "go"
    refine k cd pl fl kn _ (fun b o hb h => hp_ne hb (hp_old hkn (hp_ne hb (hp_ne hb (hp_old htp (hp_old hfl (hp_old hpl (hp_ne hb (hp_old hcd h))))))))) hcd (free_old (free_old hpl)) ⟨dx, by rw [upd_same]; rfl⟩ ?_ ?_ ?_ (Ne.symm (ne_of_none upd_same hfl)) (free_old (free_old (free_old hfl)))
    · have nca : cd ≠ a := fun z => by
        rw [z, ha] at hcd
        cases hcd
      exact hp_ne nca (hp_old hkn (hp_ne nca (hp_ne nca (hp_old htp (hp_old hfl (hp_old hpl (hp_ne nca upd_same)))))))
    · have npa : pl ≠ a := fun z => by
        rw [z, upd_same] at hpl
        cases hpl
      exact hp_ne npa (hp_old hkn (hp_ne npa (hp_ne npa (hp_old htp (hp_old hfl upd_same)))))
    · have nfa : fl ≠ a := fun z => by
        rw [z] at hfl
        have z2 := free_old hfl
        rw [upd_same] at z2
        cases z2
      exact hp_ne nfa (hp_old hkn (hp_ne nfa (hp_ne nfa (hp_old htp upd_same))))
def sp_Ladder_len (K : PySem.W.Frag) : Sp := fun vs H Q _ => ∃ (p cd pl fl kn : Addr) (kvs : List (Key × V)), vs = [.ref p] ∧ LadO K H p cd pl fl kn ∧ H cd = some (.dK kvs) ∧ Q (.int kvs.length) H
abbrev NS_Ladder_len : List Str := ["self"]
theorem sc_Ladder_len : FnScope NS_Ladder_len ["self"] (defScope s_Ladder_len) := ⟨rfl, rfl, rfl, by decide +kernel, rfl, by decide +kernel, by decide +kernel⟩
theorem bb_Ladder_len {w : World} {mg : Str → Option Value} {K : PySem.W.Frag} (T : Tx w mg K) : Binds K (fdOf K (He.fAd K d_Ladder_len.at_)) ["self"] [] := FunD.bindsN T.F_Ladder_len fun _ _ _ _ _ _ us hl => match us, hl with | [_], _ => rfl
theorem ok_Ladder_len (T : Tx w mg K) : FnOk P w K mg base CX0 1 (He.ma K (He.ga K "Ladder") "__len__") (fdOf K (He.fAd K d_Ladder_len.at_)) ["self"] (sp_Ladder_len K) := by
  refine FunD.ok (CX := CX0) (k := 0) T.F_Ladder_len sc_Ladder_len (fun vs H Q E h => ?_) (fun cdv A outer s H vs Q E hr h => ?_)
  · obtain ⟨p, cd, pl, fl, kn, kvs, rfl, _⟩ := h
    rfl
  · obtain ⟨p, cd, pl, fl, kn, kvs, rfl, ⟨dx, hp⟩, hc, k⟩ := h
    have cL := T.c_Ladder
    have n1 := T.n_Ladder_contents
    refine ⟨_, PSs.nox (pss_one (ps_ret (pe_callB call_lenD (by rfl) T.f_len (by decide +kernel) (pa_cons (k_fld (K := K) rfl (pv 0) rfl) pa_nil)))), ?_⟩
    walk_at "go"
    exact k
def sp_Ladder_names (K : PySem.W.Frag) : Sp := fun vs H Q _ => ∃ (p cd pl fl kn : Addr) (kvs : List (Key × V)) (ks : List Str), vs = [.ref p] ∧ LadO K H p cd pl fl kn ∧ H cd = some (.dK kvs) ∧ kvs.map (·.1) = ks.map Sum.inr ∧ ks.length < 64 ∧ ∀ (ys : List Str) (q : Addr), ys.Perm ks → sortedS ys = true → H q = none → Q (.ref q) (upd H q (.lst (ys.map V.str)))
abbrev NS_Ladder_names : List Str := ["self"]
theorem sc_Ladder_names : FnScope NS_Ladder_names ["self"] (defScope s_Ladder_names) := ⟨rfl, rfl, rfl, by decide +kernel, rfl, by decide +kernel, by decide +kernel⟩
theorem bb_Ladder_names {w : World} {mg : Str → Option Value} {K : PySem.W.Frag} (T : Tx w mg K) : Binds K (fdOf K (He.fAd K d_Ladder_names.at_)) ["self"] [] := FunD.bindsN T.F_Ladder_names fun _ _ _ _ _ _ us hl => match us, hl with | [_], _ => rfl
theorem ok_Ladder_names (T : Tx w mg K) : FnOk P w K mg base CX0 1 (He.ma K (He.ga K "Ladder") "names") (fdOf K (He.fAd K d_Ladder_names.at_)) ["self"] (sp_Ladder_names K) := by
  refine FunD.ok (CX := CX0) (k := 0) T.F_Ladder_names sc_Ladder_names (fun vs H Q E h => ?_) (fun cdv A outer s H vs Q E hr h => ?_)
  · obtain ⟨p, cd, pl, fl, kn, kvs, ks, rfl, _⟩ := h
    rfl
  · obtain ⟨p, cd, pl, fl, kn, kvs, ks, rfl, ⟨dx, hp⟩, hc, ek, l64, k⟩ := h
    have cL := T.c_Ladder
    have n1 := T.n_Ladder_contents
    refine ⟨_, PSs.nox (pss_one (ps_ret (pe_callB (call_sortedD rfl) (by rfl) T.f_sorted (by decide +kernel) (pa_cons (k_fld (K := K) rfl (pv 0) rfl) pa_nil)))), ?_⟩
    walk_at "go"
    exact ⟨cd, kvs, ks, rfl, .inl hc, ek, l64, fun ys q h1 h2 h3 => k ys q h1 h2 h3⟩
def sp_Ladder_machine (K : PySem.W.Frag) : Sp := fun vs H Q E => ∃ (p cd pl fl kn : Addr) (kvs : List (Key × V)) (n : Str), vs = [.ref p, .str n] ∧ LadO K H p cd pl fl kn ∧ H cd = some (.dK kvs) ∧ (∀ v, valV kvs (.inr n) = some v → Q v H) ∧ (valV kvs (.inr n) = none → ErrE K E H "UnknownName" "unknownname" "name" (.str n))
abbrev NS_Ladder_machine : List Str := ["self", "name"]
theorem sc_Ladder_machine : FnScope NS_Ladder_machine ["self", "name"] (defScope s_Ladder_machine) := ⟨rfl, rfl, rfl, by decide +kernel, rfl, by decide +kernel, by decide +kernel⟩
theorem bb_Ladder_machine {w : World} {mg : Str → Option Value} {K : PySem.W.Frag} (T : Tx w mg K) : Binds K (fdOf K (He.fAd K d_Ladder_machine.at_)) ["self", "name"] [] := FunD.bindsN T.F_Ladder_machine fun _ _ _ _ _ _ us hl => match us, hl with | [_, _], _ => rfl
theorem ok_Ladder_machine (T : Tx w mg K) : FnOk P w K mg base (L2.CX P w) 3 (He.ma K (He.ga K "Ladder") "machine") (fdOf K (He.fAd K d_Ladder_machine.at_)) ["self", "name"] (sp_Ladder_machine K) := by
  refine FunD.ok (CX := L2.CX P w) (k := 2) T.F_Ladder_machine sc_Ladder_machine (fun vs H Q E h => ?_) (fun cdv A outer s H vs Q E hr h => ?_)
  · obtain ⟨p, cd, pl, fl, kn, kvs, n, rfl, _⟩ := h
    rfl
  · obtain ⟨p, cd, pl, fl, kn, kvs, n, rfl, ⟨dx, hp⟩, hc, kq, ke⟩ := h
    have cL := T.c_Ladder
    have n1 := T.n_Ladder_contents
    have G_UnknownName_init := ok_UnknownName_init (P := P) (base := base) T
    have b_UnknownName_init := bb_UnknownName_init T
    refine ⟨_, (pss_cons (ps_if (pt_cmp (pc_dnotin (hu_of hr) (pv 1) (k_fld (K := K) rfl (pv 0) rfl)) rfl) (pss_one (ps_raise rfl (takes_of rfl rfl rfl rfl) (pmk_exc PySem.F.excBase_LookupError T.e_UnknownName T.m_UnknownName_init.at_ T.y_UnknownName G_UnknownName_init (hr.mono (by decide)) b_UnknownName_init pass0 (by rfl) T.g_UnknownName (pa_cons (pv 1) pa_nil)))) pss_nil)
    (pss_one (ps_ret (pe_dget (hu_of hr) (k_fld (K := K) rfl (pv 0) rfl) (pv 1) (fun _ _ => rfl))))), ?_⟩
    walk_at "go"
    cases e : valV kvs (.inr n) with
    | some v =>
      walk_at "go"
      exact x_gS (.inl hc) e (kq v e)
    | none =>
      walk_at "go"
      exact r_exc1 (y := .str n) (fun R hR => ⟨_, rfl, hR⟩) fun d H' hd s q => ke e d H' s hd q
/-! ### Ladder: the commands on the copy -/
def sp_Ladder_do_add (K : PySem.W.Frag) : Sp := fun vs H Q E => ∃ (p cd pl fl kn : Addr) (kvs : List (Key × V)) (n : Str) (m : V), vs = [.ref p, .str n, m] ∧ LadO K H p cd pl fl kn ∧ H cd = some (.dK kvs) ∧ n.length ≤ 9 ∧ kvs.length ≤ 6 ∧
  (nameB n = true → valV kvs (.inr n) = none → kvs.length ≤ 5 → ∀ H1, Same H H1 → Q .non (upd H1 cd (.dK (putK kvs (.inr n) m)))) ∧
  (nameB n = false → ErrE K E H "InvalidName" "invalidname" "name" (.str n)) ∧ (nameB n = true → valV kvs (.inr n) ≠ none → ErrE K E H "DuplicateName" "duplicatename" "name" (.str n)) ∧
  (nameB n = true → valV kvs (.inr n) = none → 5 < kvs.length → ErrE K E H "LimitExceeded" "limitexceeded" "limit" (.int 6))
abbrev NS_Ladder_do_add : List Str := ["self", "name", "machine"]
theorem sc_Ladder_do_add : FnScope NS_Ladder_do_add ["self", "name", "machine"] (defScope s_Ladder_do_add) := ⟨rfl, rfl, rfl, by decide +kernel, rfl, by decide +kernel, by decide +kernel⟩
theorem bb_Ladder_do_add {w : World} {mg : Str → Option Value} {K : PySem.W.Frag} (T : Tx w mg K) : Binds K (fdOf K (He.fAd K d_Ladder_do_add.at_)) ["self", "name", "machine"] [] := FunD.bindsN T.F_Ladder_do_add fun _ _ _ _ _ _ us hl => match us, hl with | [_, _, _], _ => rfl
theorem ok_Ladder_do_add (T : Tx w mg K) : FnOk P w K mg base (L2.CX P w) 3 (He.ma K (He.ga K "Ladder") "do_add") (fdOf K (He.fAd K d_Ladder_do_add.at_)) ["self", "name", "machine"] (sp_Ladder_do_add K) := by
  refine FunD.ok (CX := L2.CX P w) (k := 2) T.F_Ladder_do_add sc_Ladder_do_add (fun vs H Q E h => ?_) (fun cdv A outer s H vs Q E hr h => ?_)
  · obtain ⟨p, cd, pl, fl, kn, kvs, n, m, rfl, _⟩ := h
    rfl
  · obtain ⟨p, cd, pl, fl, kn, kvs, n, m, rfl, ⟨dx, hp⟩, hc, l9, l6, kq, k1, k2, k3⟩ := h
    have cL := T.c_Ladder
    have n1 := T.n_Ladder_contents
    have G_DuplicateName_init := ok_DuplicateName_init (P := P) (base := base) T
    have b_DuplicateName_init := bb_DuplicateName_init T
    have G_InvalidName_init := ok_InvalidName_init (P := P) (base := base) T
    have b_InvalidName_init := bb_InvalidName_init T
    have G_LimitExceeded_init := ok_LimitExceeded_init (P := P) (base := base) T
    have b_LimitExceeded_init := bb_LimitExceeded_init T
    have G_is_name := ok_is_name (P := P) (base := base) T
    have b_is_name := bb_is_name T
    refine ⟨_, (pss_cons (ps_if (pt_not (pt_val (pe_call G_is_name (hr.mono (by decide)) (by rfl) T.g_is_name T.F_is_name.kp b_is_name .nil pass0 (pa_cons (pv 1) pa_nil)))) (pss_one (ps_raise rfl (takes_of rfl rfl rfl rfl) (pmk_exc PySem.F.excBase_ValueError T.e_InvalidName T.m_InvalidName_init.at_ T.y_InvalidName G_InvalidName_init (hr.mono (by decide)) b_InvalidName_init pass0 (by rfl) T.g_InvalidName (pa_cons (pv 1) pa_nil)))) pss_nil)
    (pss_cons (ps_if (pt_cmp (pc_din (hu_of hr) (pv 1) (k_fld (K := K) rfl (pv 0) rfl)) rfl) (pss_one (ps_raise rfl (takes_of rfl rfl rfl rfl) (pmk_exc PySem.F.excBase_ValueError T.e_DuplicateName T.m_DuplicateName_init.at_ T.y_DuplicateName G_DuplicateName_init (hr.mono (by decide)) b_DuplicateName_init pass0 (by rfl) T.g_DuplicateName (pa_cons (pv 1) pa_nil)))) pss_nil)
    (pss_cons (ps_if (pt_cmpR op_ge (pe_callB call_lenD (by rfl) T.f_len (by decide +kernel) (pa_cons (k_fld (K := K) rfl (pv 0) rfl) pa_nil)) (pe_glob (v := .int 6) (by rfl) T.i_MAX_NAMES.choose_spec ⟨_, rfl⟩) (nomark _)) (pss_one (ps_raise rfl (takes_of rfl rfl rfl rfl) (pmk_exc PySem.F.excBase_ValueError T.e_LimitExceeded T.m_LimitExceeded_init.at_ T.y_LimitExceeded G_LimitExceeded_init (hr.mono (by decide)) b_LimitExceeded_init pass0 (by rfl) T.g_LimitExceeded (pa_cons (pe_glob (v := .int 6) (by rfl) T.i_MAX_NAMES.choose_spec ⟨_, rfl⟩) pa_nil)))) pss_nil)
    (pss_one (ps_dput (hu_of hr) (k_fld (K := K) rfl (pv 0) rfl) (pv 1) (pv 2) rfl))))), ?_⟩
    walk_at "go"
    refine ⟨n, rfl, l9, fun H1 s1 => ?_⟩
    have hp1 := s1 _ _ hp
    have hc1 := s1 _ _ hc
    cases hn : nameB n with
    | false =>
      walk_at "go"
      exact r_exc1 (y := .str n) (fun R hR => ⟨_, rfl, hR⟩) fun d H' hd s q => k1 hn d H' (s1.trans s) (free_same s1 hd) q
    | true =>
      walk_at "go"
      cases e : valV kvs (.inr n) with
      | some v =>
        walk_at "go"
        exact r_exc1 (y := .str n) (fun R hR => ⟨_, rfl, hR⟩) fun d H' hd s q => k2 hn (by rw [e]; intro z; cases z) d H' (s1.trans s) (free_same s1 hd) q
      | none =>
        walk_at "go"
        by_cases h5 : 5 < kvs.length
        · walk_at "go"
          exact r_exc1 (y := .int 6) (fun R hR => hR) fun d H' hd s q => k3 hn e h5 d H' (s1.trans s) (free_same s1 hd) q
        · walk_at "go"
          refine x_pS hc1 (by rw [szl]; omega) ?_
          exact kq hn e (by omega) H1 s1
def sp_Ladder_do_replace (K : PySem.W.Frag) : Sp := fun vs H Q E => ∃ (p cd pl fl kn : Addr) (kvs : List (Key × V)) (n : Str) (m : V), vs = [.ref p, .str n, m] ∧ LadO K H p cd pl fl kn ∧ H cd = some (.dK kvs) ∧ kvs.length ≤ 6 ∧
  (valV kvs (.inr n) ≠ none → Q .non (upd H cd (.dK (putK kvs (.inr n) m)))) ∧ (valV kvs (.inr n) = none → ErrE K E H "UnknownName" "unknownname" "name" (.str n))
abbrev NS_Ladder_do_replace : List Str := ["self", "name", "machine"]
theorem sc_Ladder_do_replace : FnScope NS_Ladder_do_replace ["self", "name", "machine"] (defScope s_Ladder_do_replace) := ⟨rfl, rfl, rfl, by decide +kernel, rfl, by decide +kernel, by decide +kernel⟩
theorem bb_Ladder_do_replace {w : World} {mg : Str → Option Value} {K : PySem.W.Frag} (T : Tx w mg K) : Binds K (fdOf K (He.fAd K d_Ladder_do_replace.at_)) ["self", "name", "machine"] [] := FunD.bindsN T.F_Ladder_do_replace fun _ _ _ _ _ _ us hl => match us, hl with | [_, _, _], _ => rfl
theorem ok_Ladder_do_replace (T : Tx w mg K) : FnOk P w K mg base (L2.CX P w) 4 (He.ma K (He.ga K "Ladder") "do_replace") (fdOf K (He.fAd K d_Ladder_do_replace.at_)) ["self", "name", "machine"] (sp_Ladder_do_replace K) := by
  refine FunD.ok (CX := L2.CX P w) (k := 3) T.F_Ladder_do_replace sc_Ladder_do_replace (fun vs H Q E h => ?_) (fun cdv A outer s H vs Q E hr h => ?_)
  · obtain ⟨p, cd, pl, fl, kn, kvs, n, m, rfl, _⟩ := h
    rfl
  · obtain ⟨p, cd, pl, fl, kn, kvs, n, m, rfl, ⟨dx, hp⟩, hc, l6, kq, ke⟩ := h
    have cL := T.c_Ladder
    have n1 := T.n_Ladder_contents
    have G_Ladder_machine := ok_Ladder_machine (P := P) (base := base) T
    have b_Ladder_machine := bb_Ladder_machine T
    refine ⟨_, (pss_cons (ps_expr (pe_meth (pv 0) T.c_Ladder T.m_Ladder_machine G_Ladder_machine (hr.mono (by decide)) b_Ladder_machine .nil (passes_call (takes_of rfl rfl rfl rfl) (fun _ _ _ _ h => h)) (pa_cons (pv 1) pa_nil)))
    (pss_one (ps_dput (hu_of hr) (k_fld (K := K) rfl (pv 0) rfl) (pv 1) (pv 2) rfl))), ?_⟩
    walk_at "go"
    refine ⟨p, cd, pl, fl, kn, kvs, n, rfl, ⟨dx, hp⟩, hc, fun v e => ?_, ke⟩
    walk_at "go"
    refine x_pS hc (by rw [szl]; omega) ?_
    exact kq (by rw [e]; intro z; cases z)
def sp_Ladder_do_remove (K : PySem.W.Frag) : Sp := fun vs H Q E => ∃ (p cd pl fl kn : Addr) (kvs : List (Key × V)) (n : Str), vs = [.ref p, .str n] ∧ LadO K H p cd pl fl kn ∧ H cd = some (.dK kvs) ∧
  (valV kvs (.inr n) ≠ none → Q .non (upd H cd (.dK (dropK kvs (.inr n))))) ∧ (valV kvs (.inr n) = none → ErrE K E H "UnknownName" "unknownname" "name" (.str n))
abbrev NS_Ladder_do_remove : List Str := ["self", "name"]
theorem sc_Ladder_do_remove : FnScope NS_Ladder_do_remove ["self", "name"] (defScope s_Ladder_do_remove) := ⟨rfl, rfl, rfl, by decide +kernel, rfl, by decide +kernel, by decide +kernel⟩
theorem bb_Ladder_do_remove {w : World} {mg : Str → Option Value} {K : PySem.W.Frag} (T : Tx w mg K) : Binds K (fdOf K (He.fAd K d_Ladder_do_remove.at_)) ["self", "name"] [] := FunD.bindsN T.F_Ladder_do_remove fun _ _ _ _ _ _ us hl => match us, hl with | [_, _], _ => rfl
theorem ok_Ladder_do_remove (T : Tx w mg K) : FnOk P w K mg base (L2.CX P w) 4 (He.ma K (He.ga K "Ladder") "do_remove") (fdOf K (He.fAd K d_Ladder_do_remove.at_)) ["self", "name"] (sp_Ladder_do_remove K) := by
  refine FunD.ok (CX := L2.CX P w) (k := 3) T.F_Ladder_do_remove sc_Ladder_do_remove (fun vs H Q E h => ?_) (fun cdv A outer s H vs Q E hr h => ?_)
  · obtain ⟨p, cd, pl, fl, kn, kvs, n, rfl, _⟩ := h
    rfl
  · obtain ⟨p, cd, pl, fl, kn, kvs, n, rfl, ⟨dx, hp⟩, hc, kq, ke⟩ := h
    have cL := T.c_Ladder
    have n1 := T.n_Ladder_contents
    have G_Ladder_machine := ok_Ladder_machine (P := P) (base := base) T
    have b_Ladder_machine := bb_Ladder_machine T
    refine ⟨_, (pss_cons (ps_expr (pe_meth (pv 0) T.c_Ladder T.m_Ladder_machine G_Ladder_machine (hr.mono (by decide)) b_Ladder_machine .nil (passes_call (takes_of rfl rfl rfl rfl) (fun _ _ _ _ h => h)) (pa_cons (pv 1) pa_nil)))
    (pss_one (ps_expr (pe_dpop1 (k_fld (K := K) rfl (pv 0) rfl) (pv 1) ⟨rfl, rfl, rfl, rfl⟩)))), ?_⟩
    walk_at "go"
    refine ⟨p, cd, pl, fl, kn, kvs, n, rfl, ⟨dx, hp⟩, hc, fun v e => ?_, ke⟩
    walk_at "go"
    refine ⟨cd, rfl, .inl ⟨kvs, .inl hc⟩, ?_⟩
    walk_at "go"
    refine ⟨kvs, .inr n, v, hc, rfl, e, ?_⟩
    exact kq (by rw [e]; intro z; cases z)
end
section
variable {P : Program} {w : World} {K : PySem.W.Frag} {mg : Str → Option Value} {base : Heap}
/-! ### Ladder.batch: one command -/
/-- what one command does to the contents kvs: the new ones, or the error's class, word, field, value -/
inductive Out where
  | ok (kvs : List (Key × V))
  | er (cls wd f : Str) (y : V)
/-- a command for batch: word, name, its machine -/
inductive BCmd where
  | add (n : Str) (m : V)
  | rep (n : Str) (m : V)
  | rem (n : Str)
def BCmd.word : BCmd → Str
  | .add _ _ => "add"
  | .rep _ _ => "replace"
  | .rem _ => "remove"
def BCmd.nm : BCmd → Str
  | .add n _ => n
  | .rep n _ => n
  | .rem n => n
def BCmd.tl : BCmd → List V
  | .add _ m => [m]
  | .rep _ m => [m]
  | .rem _ => []
def BCmd.xs (b : BCmd) : List V := .str b.word :: .str b.nm :: b.tl
theorem cnt_b (T : Tx w mg K) (b : BCmd) : ∃ u, PySem.W.nsIn K (He.ga K "COUNTS_ladder") b.word = some (some u) ∧ RelV (.int b.xs.length) u := by
  cases b with
  | add n m => exact T.v_COUNTS_ladder_add
  | rep n m => exact T.v_COUNTS_ladder_replace
  | rem n => exact T.v_COUNTS_ladder_remove
def outB (kvs : List (Key × V)) : BCmd → Out
  | .add n m => if nameB n = true then (if (valV kvs (.inr n)).isSome = true then .er "DuplicateName" "duplicatename" "name" (.str n) else if 5 < kvs.length then .er "LimitExceeded" "limitexceeded" "limit" (.int 6) else .ok (putK kvs (.inr n) m)) else .er "InvalidName" "invalidname" "name" (.str n)
  | .rep n m => if (valV kvs (.inr n)).isSome = true then .ok (putK kvs (.inr n) m) else .er "UnknownName" "unknownname" "name" (.str n)
  | .rem n => if (valV kvs (.inr n)).isSome = true then .ok (dropK kvs (.inr n)) else .er "UnknownName" "unknownname" "name" (.str n)
theorem tryFin_of {b : WX → TS} {f g : TS} {Wo : WX} {D : Ends} {σ : L2.St} {H : Hp} (k : b (wFin g Wo) ⟨fun σ1 H1 => f D σ1 H1, fun _ _ => False, fun _ _ => False, fun _ _ => False⟩ σ H) : tryFin b f g Wo D σ H := k
theorem wFin_of {g : TS} {Wo : WX} {cls : Value} {d : Option Addr} {σ : L2.St} {H : Hp} (k : g { nx := fun σ2 H2 => Wo cls d σ2 H2, rt := fun _ _ => False } σ H) : WE (wFin g Wo) σ cls d H := k
/-- behind it: the contents new and the old ones put by; or all as it was, the error up -/
def sp_Ladder_batch (K : PySem.W.Frag) : Sp := fun vs H Q E => ∃ (p cd pl fl kn L c : Addr) (kvs : List (Key × V)) (ps : List V) (b : BCmd), vs = [.ref p, .ref L] ∧ LadO K H p cd pl fl kn ∧ H cd = some (.dK kvs) ∧ H pl = some (.lst ps) ∧ ps.length < 1000 ∧ kvs.length ≤ 6 ∧ b.nm.length ≤ 9 ∧
  H L = some (.lst [.ref c]) ∧ L ≠ pl ∧ H c = some (.tup b.xs) ∧
  (∀ kvs', outB kvs b = .ok kvs' → ∀ (cd' fl' : Addr) (H' : Hp), Frm (fun a => a = p ∨ a = pl) H H' → H cd' = none → LadO K H' p cd' pl fl' kn → H' cd' = some (.dK kvs') → H' pl = some (.lst (ps ++ [.ref cd])) → H' fl' = some (.lst []) → fl' ≠ pl → H fl' = none → Q .non H') ∧
  (∀ cls wd f y, outB kvs b = .er cls wd f y → ∀ (d : Addr) (H' : Hp), Frm (fun a => a = p) H H' → LadO K H' p cd pl fl kn → H d = none → H' d = some (.xd [("word", .str wd), (f, y)]) → E (.ref (He.ga K cls)) (some d) H')
abbrev NS_Ladder_batch : List Str := ["self", "commands", "index", "command", "before", "restore", "word", "name", "rest"]
theorem sc_Ladder_batch : FnScope NS_Ladder_batch ["self", "commands"] (defScope s_Ladder_batch) := ⟨rfl, rfl, rfl, by decide +kernel, rfl, by decide +kernel, by decide +kernel⟩
theorem bb_Ladder_batch {w : World} {mg : Str → Option Value} {K : PySem.W.Frag} (T : Tx w mg K) : Binds K (fdOf K (He.fAd K d_Ladder_batch.at_)) ["self", "commands"] [] := FunD.bindsN T.F_Ladder_batch fun _ _ _ _ _ _ us hl => match us, hl with | [_, _], _ => rfl
theorem ok_Ladder_batch (T : Tx w mg K) : FnOk P w K mg base (L2.CX P w) 5 (He.ma K (He.ga K "Ladder") "batch") (fdOf K (He.fAd K d_Ladder_batch.at_)) ["self", "commands"] (sp_Ladder_batch K) := by
  refine FunD.ok (CX := L2.CX P w) (k := 4) T.F_Ladder_batch sc_Ladder_batch (fun vs H Q E h => ?_) (fun cdv A outer s H vs Q E hr h => ?_)
  · obtain ⟨p, cd, pl, fl, kn, L, c, kvs, ps, b, rfl, _⟩ := h
    rfl
  · obtain ⟨p, cd, pl, fl, kn, L, c, kvs, ps, b, rfl, ⟨dx, hp⟩, hc, hpl, l100, l6, l9, hL, nLp, hcm, kok, ker⟩ := h
    have cL := T.c_Ladder
    have n1 := T.n_Ladder_contents
    have n2 := T.n_Ladder_past
    have n3 := T.n_Ladder_future
    have G_Ladder_do_add := ok_Ladder_do_add (P := P) (base := base) T
    have b_Ladder_do_add := bb_Ladder_do_add T
    have G_Ladder_do_remove := ok_Ladder_do_remove (P := P) (base := base) T
    have b_Ladder_do_remove := bb_Ladder_do_remove T
    have G_Ladder_do_replace := ok_Ladder_do_replace (P := P) (base := base) T
    have b_Ladder_do_replace := bb_Ladder_do_replace T
    refine ⟨_, (pss_cons (ps_for (passes_of rfl) rfl (pi_enum (by rfl) T.f_enumerate (pa_cons (pv 1) pa_nil)) (pg_tup rfl (pgs_cons (pg_name (i := 2) sc_Ladder_batch.nd rfl (.inl rfl)) (pgs_cons (pg_name (i := 3) sc_Ladder_batch.nd rfl (.inl rfl)) pgs_nil))) (pss_one (ps_if (PW.pt (pw_or (pt_cmpR op_eq (pe_callB (k_len (K := K) rfl) (by rfl) T.f_len (by decide +kernel) (pa_cons (pv 3) pa_nil)) pe_int (nomark _)) (pw_or1 (pt_cmpR op_ne (pe_kget2 T.t_COUNTS_ladder.choose_spec.choose_spec (pe_glob (v := .ref (He.ga K "COUNTS_ladder")) (by rfl) T.g_COUNTS_ladder rfl) (pe_ix (k_ixT (K := K) rfl) (pv 3) pe_int (fun _ _ => rfl)) pe_int ⟨rfl, rfl, rfl, rfl⟩) (pe_callB (k_len (K := K) rfl) (by rfl) T.f_len (by decide +kernel) (pa_cons (pv 3) pa_nil)) (nomark _))))) (pss_one ps_never) pss_nil)))
    (pss_cons (ps_if (pt_cmpR op_eq (pe_callB (k_len (K := K) rfl) (by rfl) T.f_len (by decide +kernel) (pa_cons (pv 1) pa_nil)) pe_int (nomark _)) (pss_one ps_retN) pss_nil)
    (pss_cons (ps_asg2 (k_fld (K := K) rfl (pv 0) rfl) (pg_name (i := 4) sc_Ladder_batch.nd rfl (.inl rfl)) (pg_name (i := 5) sc_Ladder_batch.nd rfl (.inl rfl)))
    (pss_cons (k_sfld (K := K) rfl (pv 0) (pe_callTy call_dictD (by rfl) T.f_dict (by decide +kernel) (pa_cons (pv 4) pa_nil)) rfl)
    (pss_cons (ps_tryFin (b := fun W => tSeq (tFor (iList K (tVar 1)) (gStar K 2 (gCons (gName 6) (gCons (gName 7) (gCons (gName 8) gNil)))) (tIfS (tTest (tOp rEq (tVar 6) (tC (.str "add")))) (tDrop (tMethT (He.ga K "Ladder") "do_add" (sp_Ladder_do_add K) (WE W) (tVar 0) (tCons (tVar 7) (tCons (tOp (rIxL K) (tVar 8) (tC (.int 0))) tNil)))) (tIfS (tTest (tOp rEq (tVar 6) (tC (.str "replace")))) (tDrop (tMethT (He.ga K "Ladder") "do_replace" (sp_Ladder_do_replace K) (WE W) (tVar 0) (tCons (tVar 7) (tCons (tOp (rIxL K) (tVar 8) (tC (.int 0))) tNil)))) (tDrop (tMethT (He.ga K "Ladder") "do_remove" (sp_Ladder_do_remove K) (WE W) (tVar 0) (tCons (tVar 7) tNil)))))) (tAsg (tC .non) (gName 5))) rfl rfl rfl (takes_of rfl rfl rfl rfl) (fun W pn xe tk po => (pss_cons (ps_for po rfl (k_piL (K := K) rfl (pv 1)) (k_gstar (K := K) rfl rfl (pgs_cons (pg_name (i := 6) sc_Ladder_batch.nd rfl (.inl rfl)) (pgs_cons (pg_name (i := 7) sc_Ladder_batch.nd rfl (.inl rfl)) (pgs_star (pg_name (i := 8) sc_Ladder_batch.nd rfl (.inl rfl)) pgs_nil)))) (pss_one (ps_if (pt_cmpR op_eq (pv 6) pe_str (nomark _)) (pss_one (ps_expr (pe_methT (pv 0) T.c_Ladder T.m_Ladder_do_add G_Ladder_do_add (hr.mono (by decide)) b_Ladder_do_add (fun σ => passAt tk σ) (pa_cons (pv 7) (pa_cons (pe_ix (k_ixL (K := K) rfl) (pv 8) pe_int (fun _ _ => rfl)) pa_nil))))) (pss_one (ps_if (pt_cmpR op_eq (pv 6) pe_str (nomark _)) (pss_one (ps_expr (pe_methT (pv 0) T.c_Ladder T.m_Ladder_do_replace G_Ladder_do_replace (hr.mono (by decide)) b_Ladder_do_replace (fun σ => passAt tk σ) (pa_cons (pv 7) (pa_cons (pe_ix (k_ixL (K := K) rfl) (pv 8) pe_int (fun _ _ => rfl)) pa_nil))))) (pss_one (ps_expr (pe_methT (pv 0) T.c_Ladder T.m_Ladder_do_remove G_Ladder_do_remove (hr.mono (by decide)) b_Ladder_do_remove (fun σ => passAt tk σ) (pa_cons (pv 7) pa_nil)))))))))
    (pss_one (ps_set (i := 5) sc_Ladder_batch.nd rfl (.inl rfl) pe_non)))) (pss_one (ps_if (pt_cmpR op_notN (pv 5) pe_non (nomark _)) (pss_one (k_sfld (K := K) rfl (pv 0) (pv 5) rfl)) pss_nil)) (fun a pn => (pss_one (ps_if (pt_cmpR op_notN (pv 5) pe_non (nomark _)) (pss_one (k_sfld (K := K) rfl (pv 0) (pv 5) rfl)) pss_nil))))
    (pss_cons (ps_expr (k_bm (K := K) rfl PySem.F.plainAttrs_list PySem.F.slot_list_append PySem.F.type_list_append mt_append (k_fld (K := K) rfl (pv 0) rfl) (pa_cons (pv 4) pa_nil)))
    (pss_one (k_sfld (K := K) rfl (pv 0) (pe_lst pa_nil) rfl)))))))), ?_⟩
    walk_at "go"
    refine g_for (walk_enum (xs := [.ref c])) (fun _ σ' H' => Same H H' ∧ ∃ x y, σ' = [some (.ref p), some (.ref L), x, y, none, none, none, none, none]) ⟨Same.refl _, none, none, rfl⟩ (fun _ _ H' _ q => SqL.of (q.1 _ _ hL)) ?_ ?_
    · rintro i x σ' H1 H2 hi ⟨s1, x0, y0, rfl⟩ ⟨tp, u, v, rfl, htp, rfl, eu, ev⟩
      cases eu
      obtain rfl : i = 0 := by
        have : i < 1 := hi
        omega
      cases ev
      have s2 : Same H (upd H1 tp (.tup [.int (0 : Nat), .ref c])) := K70.Same.new s1 htp
      have hc2 : SqT K (upd H1 tp (.tup [.int (0 : Nat), .ref c])) c b.xs := SqT.of (s2 _ _ hcm)
      refine r_gtup (SqT.of upd_same) rfl ?_
      have l2 : 2 ≤ b.xs.length := by
        unfold BCmd.xs
        rw [List.length_cons, List.length_cons]
        omega
      obtain ⟨u, e1, e2⟩ := cnt_b T b
      walk_at "go"
      refine r_ixT (v := .str b.word) hc2 (atI_nat (xs := b.xs) (j := 0) rfl) ?_
      walk_at "go"
      refine ⟨b.word, some u, .int b.xs.length, rfl, e1, (fun u0 e => (Option.some.inj e) ▸ e2), (fun e => nomatch e), ?_⟩
      walk_at "go"
      exact ⟨s2, _, _, rfl⟩
    · rintro σ' H1 ⟨s1, x0, y0, rfl⟩
      have hp1 := s1 _ _ hp
      have hL1 := s1 _ _ hL
      have hc1 := s1 _ _ hc
      have hpl1 := s1 _ _ hpl
      have hcm1 := s1 _ _ hcm
      walk_at "go"
      intro cd' hcd'
      walk_at "go"
      refine tryFin_of ?_
      have ncp : cd' ≠ p := Ne.symm (ne_of_none hp1 hcd')
      have nLp' : L ≠ p := ne_of hL1 hp1 (by intro z; cases z)
      have nplp : pl ≠ p := ne_of hpl1 hp1 (by intro z; cases z)
      have nccp : c ≠ p := ne_of hcm1 hp1 (by intro z; cases z)
      have ncdp : cd ≠ p := ne_of hc1 hp1 (by intro z; cases z)
      have hp3 : (upd (upd H1 cd' (.dK kvs)) p (.ins (He.ga K "Ladder") dx (putF "contents" (.ref cd') (ladF cd pl fl kn)))) p = some (.ins (He.ga K "Ladder") dx (ladF cd' pl fl kn)) := by
        rw [upd_same]
        rfl
      have of3 : Off p H1 (upd (upd H1 cd' (.dK kvs)) p (.ins (He.ga K "Ladder") dx (putF "contents" (.ref cd') (ladF cd pl fl kn)))) := fun a o ha h => hp_ne ha (hp_old hcd' h)
      have hcd3 : (upd (upd H1 cd' (.dK kvs)) p (.ins (He.ga K "Ladder") dx (putF "contents" (.ref cd') (ladF cd pl fl kn)))) cd' = some (.dK kvs) := hp_ne ncp upd_same
      generalize upd (upd H1 cd' (.dK kvs)) p (.ins (He.ga K "Ladder") dx (putF "contents" (.ref cd') (ladF cd pl fl kn))) = H3 at hp3 of3 hcd3 ⊢
      have hL3 := of3 _ _ nLp' hL1
      have hcm3 := of3 _ _ nccp hcm1
      have hpl3 := of3 _ _ nplp hpl1
      have hc3 := of3 _ _ ncdp hc1
      walk_at "go"
      refine g_for (walk_list (xs := [.ref c])) (fun i σ' H' => (i = 0 → σ' = [some (.ref p), some (.ref L), x0, y0, some (.ref cd), some (.ref cd), none, none, none] ∧ H' = H3) ∧ (i = 1 → ∃ (x y z : Option V) (kvs' : List (Key × V)), σ' = [some (.ref p), some (.ref L), x0, y0, some (.ref cd), some (.ref cd), x, y, z] ∧ outB kvs b = .ok kvs' ∧ Off cd' H3 H' ∧ H' cd' = some (.dK kvs')) ∧ SqL K H' L [.ref c])
        ⟨fun _ => ⟨rfl, rfl⟩, fun h => absurd h (by decide), SqL.of hL3⟩ (fun _ _ H' _ q => q.2.2) ?_ ?_
      · rintro i x σ' H4 H5 hi ⟨q0, _, _⟩ ⟨rfl, ex⟩
        obtain rfl : i = 0 := by
          have : i < 1 := hi
          omega
        cases ex
        obtain ⟨rfl, rfl⟩ := q0 rfl
        have l2 : 2 ≤ b.xs.length := by
          unfold BCmd.xs
          rw [List.length_cons, List.length_cons]
          omega
        refine ⟨c, b.xs, rfl, .inr (SqT.of hcm3), l2, fun l hl => ?_⟩
        rw [show b.xs.take 2 ++ [V.ref l] = [.str b.word, .str b.nm, .ref l] from rfl, show b.xs.drop 2 = b.tl from rfl]
        have S4 : Same H5 (upd H5 l (.lst b.tl)) := K70.Same.new1 hl
        have hp4 := S4 _ _ hp3
        have hcd4 := S4 _ _ hcd3
        have hL4 := S4 _ _ hL3
        have nLc : L ≠ cd' := ne_of hL3 hcd3 (by intro z; cases z)
        have ok1 : ∀ (kvs' : List (Key × V)) (H6 : Hp) (y z : Option V), outB kvs b = .ok kvs' → Same (upd H5 l (.lst b.tl)) H6 → (0 + 1 = 0 → [some (.ref p), some (.ref L), x0, y0, some (.ref cd), some (.ref cd), some (.str b.word), y, z] = [some (.ref p), some (.ref L), x0, y0, some (.ref cd), some (.ref cd), none, none, none] ∧ upd H6 cd' (.dK kvs') = H5) ∧
            (0 + 1 = 1 → ∃ (x y2 z2 : Option V) (kvs2 : List (Key × V)), [some (V.ref p), some (.ref L), x0, y0, some (.ref cd), some (.ref cd), some (.str b.word), y, z] = [some (.ref p), some (.ref L), x0, y0, some (.ref cd), some (.ref cd), x, y2, z2] ∧ outB kvs b = .ok kvs2 ∧ Off cd' H5 (upd H6 cd' (.dK kvs')) ∧ (upd H6 cd' (.dK kvs')) cd' = some (.dK kvs2)) ∧ SqL K (upd H6 cd' (.dK kvs')) L [.ref c] := fun kvs' H6 y z e s6 =>
          ⟨fun h => absurd h (by decide), fun _ => ⟨_, _, _, kvs', rfl, e, (Off.of (S4.trans s6)).trans Off.put1, upd_same⟩, SqL.of (hp_ne nLc (s6 _ _ hL4))⟩
        have er1 : ∀ (cls wd f : Str) (y : V) (σ5 : L2.St), outB kvs b = .er cls wd f y → σ5[0]? = some (some (.ref p)) → σ5[5]? = some (some (.ref cd)) → ErrE K (WE (wFin (tIfS (tTest (tOp (fun x y H Q => y = V.non ∧ Q (V.bl !decide (x = V.non)) H) (tVar 5) (tC V.non))) (sFld K (tVar 0) (tVar 5) "contents") tNext) fun cls d x H => E cls d H) σ5) (upd H5 l (.lst b.tl)) cls wd f y := by
          intro cls wd f y σ5 e g0 g5 d H6 s6 hd hx
          have hp6 := s6 _ _ hp4
          refine wFin_of ?_
          walk_at "go"
          refine ⟨_, g5, ?_⟩
          walk_at "go"
          refine ⟨_, g5, ?_⟩
          refine ⟨_, g0, ?_⟩
          walk_at "go"
          have hd5 : H5 d = none := free_old hd
          have ndp : d ≠ p := fun z => by
            rw [z, hp3] at hd5
            cases hd5
          have hd1 : H1 d = none := by
            cases q : H1 d with
            | none => rfl
            | some o =>
              rw [of3 _ _ ndp q] at hd5
              cases hd5
          exact ker cls wd f y e d _ (fun a o h na => hp_ne na (s6 _ _ (S4 _ _ (of3 _ _ na (s1 _ _ h))))) ⟨dx, by rw [upd_same]; rfl⟩ (free_same s1 hd1) (hp_ne ndp hx)
        cases b with
        | add n m =>
          walk_at "go"
          refine ⟨p, cd', pl, fl, kn, kvs, n, m, rfl, ⟨dx, hp4⟩, hcd4, l9, l6, fun hn hv h5 H6 s6 => ?_, fun hn => ?_, fun hn hv => ?_, fun hn hv h5 => ?_⟩
          · exact ok1 _ H6 _ _ (by simp [outB, hn, hv, show ¬ 5 < kvs.length by omega]) s6
          · exact er1 _ _ _ _ _ (by simp [outB, hn]) rfl rfl
          · exact er1 _ _ _ _ _ (by simp [outB, hn, Option.isSome_iff_ne_none, hv]) rfl rfl
          · exact er1 _ _ _ _ _ (by simp [outB, hn, hv, h5]) rfl rfl
        | rep n m =>
          walk_at "go"
          refine ⟨p, cd', pl, fl, kn, kvs, n, m, rfl, ⟨dx, hp4⟩, hcd4, l6, fun hv => ?_, fun hv => ?_⟩
          · exact ok1 _ _ _ _ (by simp [outB, Option.isSome_iff_ne_none, hv]) (Same.refl _)
          · exact er1 _ _ _ _ _ (by simp [outB, hv]) rfl rfl
        | rem n =>
          walk_at "go"
          refine ⟨p, cd', pl, fl, kn, kvs, n, rfl, ⟨dx, hp4⟩, hcd4, fun hv => ?_, fun hv => ?_⟩
          · exact ok1 _ _ _ _ (by simp [outB, Option.isSome_iff_ne_none, hv]) (Same.refl _)
          · exact er1 _ _ _ _ _ (by simp [outB, hv]) rfl rfl
      · rintro σ' H4 ⟨_, q1, _⟩
        obtain ⟨x, y, z, kvs', rfl, eo, off4, ecd4⟩ := q1 rfl
        have npc : pl ≠ cd' := ne_of hpl3 hcd3 (by intro z; cases z)
        have hp4 := off4 _ _ (Ne.symm ncp) hp3
        have hpl4 := off4 _ _ npc hpl3
        walk_at "go"
        intro fl' hfl'
        have fl0 : ∀ {x : Addr} {o : HO}, upd H4 pl o x = none → H1 x = none := fun {x o} z => by
          cases q : H1 x with
          | none => rfl
          | some u =>
            have z4 := free_old z
            by_cases xc : x = cd'
            · rw [xc, ecd4] at z4
              cases z4
            · by_cases xp : x = p
              · rw [xp, hp4] at z4
                cases z4
              · rw [off4 _ _ xc (of3 _ _ xp q)] at z4
                cases z4
        have hp5 := hp_old (o := HO.lst []) hfl' (hp_ne (p := pl) (o := HO.lst (ps ++ [.ref cd])) (Ne.symm nplp) hp4)
        walk_at "go"
        have nlf : pl ≠ fl' := fun z => by
          rw [← z, upd_same] at hfl'
          cases hfl'
        have ncf : cd' ≠ fl' := fun z => by
          rw [← z, hp_ne (Ne.symm npc) ecd4] at hfl'
          cases hfl'
        have nfp' : fl' ≠ p := fun z => by
          rw [z, hp_ne (Ne.symm nplp) hp4] at hfl'
          cases hfl'
        refine kok kvs' eo cd' fl' _ (fun a o h na => ?_) (free_same s1 hcd') ⟨dx, by rw [upd_same]; rfl⟩ (hp_ne ncp (hp_ne ncf (hp_ne (Ne.symm npc) ecd4))) (hp_ne nplp (hp_ne nlf upd_same)) (hp_ne nfp' upd_same) (Ne.symm nlf) (free_same s1 (fl0 hfl'))
        have nap : a ≠ p := fun z => na (.inl z)
        have nal : a ≠ pl := fun z => na (.inr z)
        have nac : a ≠ cd' := ne_of_none (s1 _ _ h) hcd'
        exact hp_ne nap (hp_old hfl' (hp_ne nal (off4 _ _ nac (of3 _ _ nap (s1 _ _ h)))))
end
section
variable {P : Program} {w : World} {K : PySem.W.Frag} {mg : Str → Option Value} {base : Heap}
/-! ### Ladder: add, replace, remove, undo -/
/-- one command, its answer told of by W -/
def CmdE (K : PySem.W.Frag) (H : Hp) (p cd pl fl kn : Addr) (kvs : List (Key × V)) (ps : List V) (b : BCmd) (Q : Hp → Prop) (E : XK) : Prop :=
  (∀ kvs', outB kvs b = .ok kvs' → ∀ (cd' fl' : Addr) (H' : Hp), Frm (fun a => a = p ∨ a = pl) H H' → H cd' = none → LadO K H' p cd' pl fl' kn → H' cd' = some (.dK kvs') → H' pl = some (.lst (ps ++ [.ref cd])) → H' fl' = some (.lst []) → fl' ≠ pl → H fl' = none → Q H') ∧
  (∀ cls wd f y, outB kvs b = .er cls wd f y → ∀ (d : Addr) (H' : Hp), Frm (fun a => a = p) H H' → LadO K H' p cd pl fl kn → H d = none → H' d = some (.xd [("word", .str wd), (f, y)]) → E (.ref (He.ga K cls)) (some d) H')
def sp_Ladder_cmd (K : PySem.W.Frag) (mk : Str → V → BCmd) : Sp := fun vs H Q E => ∃ (p cd pl fl kn : Addr) (kvs : List (Key × V)) (ps : List V) (n : Str) (m : V), vs = [.ref p, .str n, m] ∧ LadO K H p cd pl fl kn ∧ H cd = some (.dK kvs) ∧ H pl = some (.lst ps) ∧ ps.length < 1000 ∧ kvs.length ≤ 6 ∧ n.length ≤ 9 ∧
  CmdE K H p cd pl fl kn kvs ps (mk n m) (fun H' => Q .non H') E
abbrev NS_Ladder_add : List Str := ["self", "name", "machine"]
theorem sc_Ladder_add : FnScope NS_Ladder_add ["self", "name", "machine"] (defScope s_Ladder_add) := ⟨rfl, rfl, rfl, by decide +kernel, rfl, by decide +kernel, by decide +kernel⟩
theorem bb_Ladder_add {w : World} {mg : Str → Option Value} {K : PySem.W.Frag} (T : Tx w mg K) : Binds K (fdOf K (He.fAd K d_Ladder_add.at_)) ["self", "name", "machine"] [] := FunD.bindsN T.F_Ladder_add fun _ _ _ _ _ _ us hl => match us, hl with | [_, _, _], _ => rfl
theorem ok_Ladder_add (T : Tx w mg K) : FnOk P w K mg base (L2.CX P w) 6 (He.ma K (He.ga K "Ladder") "add") (fdOf K (He.fAd K d_Ladder_add.at_)) ["self", "name", "machine"] (sp_Ladder_cmd K .add) := by
  refine FunD.ok (CX := L2.CX P w) (k := 5) T.F_Ladder_add sc_Ladder_add (fun vs H Q E h => ?_) (fun cdv A outer s H vs Q E hr h => ?_)
  · obtain ⟨p, cd, pl, fl, kn, kvs, ps, n, m, rfl, _⟩ := h
    rfl
  · obtain ⟨p, cd, pl, fl, kn, kvs, ps, n, m, rfl, ⟨dx, hp⟩, hc, hpl, l100, l6, l9, kok, ker⟩ := h
    have cL := T.c_Ladder
    have G_Ladder_batch := ok_Ladder_batch (P := P) (base := base) T
    have b_Ladder_batch := bb_Ladder_batch T
    refine ⟨_, (pss_one (ps_expr (pe_meth (pv 0) T.c_Ladder T.m_Ladder_batch G_Ladder_batch (hr.mono (by decide)) b_Ladder_batch .nil (passes_call (takes_of rfl rfl rfl rfl) (fun _ _ _ _ h => h)) (pa_cons (pe_lst (pa_cons (pe_tup (pa_cons pe_str (pa_cons (pv 1) (pa_cons (pv 2) pa_nil)))) pa_nil)) pa_nil)))), ?_⟩
    walk_at "go"
    intro c hcn
    walk_at "go"
    intro L hLn
    have S : Same H (upd (upd H c (.tup (BCmd.add n m).xs)) L (.lst [.ref c])) := K70.Same.new (K70.Same.new1 hcn) hLn
    have nL : L ≠ pl := Ne.symm (ne_of_none (hp_old (o := .tup (BCmd.add n m).xs) hcn hpl) hLn)
    walk_at "go"
    refine ⟨p, cd, pl, fl, kn, L, c, kvs, ps, .add n m, rfl, ⟨dx, S _ _ hp⟩, S _ _ hc, S _ _ hpl, l100, l6, l9, upd_same, nL, hp_old hLn upd_same, fun kvs' e cd' fl' H' f h1 h2 h3 h4 h5 h6 h7 => ?_, fun cls wd fl y e d H' f h1 h2 h3 => ?_⟩
    · walk_at "go"
      exact kok kvs' e cd' fl' H' (fun a o h na => f a o (S _ _ h) na) (free_same S h1) h2 h3 h4 h5 h6 (free_same S h7)
    · exact ker cls wd fl y e d H' (fun a o h na => f a o (S _ _ h) na) h1 (free_same S h2) h3
abbrev NS_Ladder_replace : List Str := ["self", "name", "machine"]
theorem sc_Ladder_replace : FnScope NS_Ladder_replace ["self", "name", "machine"] (defScope s_Ladder_replace) := ⟨rfl, rfl, rfl, by decide +kernel, rfl, by decide +kernel, by decide +kernel⟩
theorem bb_Ladder_replace {w : World} {mg : Str → Option Value} {K : PySem.W.Frag} (T : Tx w mg K) : Binds K (fdOf K (He.fAd K d_Ladder_replace.at_)) ["self", "name", "machine"] [] := FunD.bindsN T.F_Ladder_replace fun _ _ _ _ _ _ us hl => match us, hl with | [_, _, _], _ => rfl
theorem ok_Ladder_replace (T : Tx w mg K) : FnOk P w K mg base (L2.CX P w) 6 (He.ma K (He.ga K "Ladder") "replace") (fdOf K (He.fAd K d_Ladder_replace.at_)) ["self", "name", "machine"] (sp_Ladder_cmd K .rep) := by
  refine FunD.ok (CX := L2.CX P w) (k := 5) T.F_Ladder_replace sc_Ladder_replace (fun vs H Q E h => ?_) (fun cdv A outer s H vs Q E hr h => ?_)
  · obtain ⟨p, cd, pl, fl, kn, kvs, ps, n, m, rfl, _⟩ := h
    rfl
  · obtain ⟨p, cd, pl, fl, kn, kvs, ps, n, m, rfl, ⟨dx, hp⟩, hc, hpl, l100, l6, l9, kok, ker⟩ := h
    have cL := T.c_Ladder
    have G_Ladder_batch := ok_Ladder_batch (P := P) (base := base) T
    have b_Ladder_batch := bb_Ladder_batch T
    refine ⟨_, (pss_one (ps_expr (pe_meth (pv 0) T.c_Ladder T.m_Ladder_batch G_Ladder_batch (hr.mono (by decide)) b_Ladder_batch .nil (passes_call (takes_of rfl rfl rfl rfl) (fun _ _ _ _ h => h)) (pa_cons (pe_lst (pa_cons (pe_tup (pa_cons pe_str (pa_cons (pv 1) (pa_cons (pv 2) pa_nil)))) pa_nil)) pa_nil)))), ?_⟩
    walk_at "go"
    intro c hcn
    walk_at "go"
    intro L hLn
    have S : Same H (upd (upd H c (.tup (BCmd.rep n m).xs)) L (.lst [.ref c])) := K70.Same.new (K70.Same.new1 hcn) hLn
    have nL : L ≠ pl := Ne.symm (ne_of_none (hp_old (o := .tup (BCmd.rep n m).xs) hcn hpl) hLn)
    walk_at "go"
    refine ⟨p, cd, pl, fl, kn, L, c, kvs, ps, .rep n m, rfl, ⟨dx, S _ _ hp⟩, S _ _ hc, S _ _ hpl, l100, l6, l9, upd_same, nL, hp_old hLn upd_same, fun kvs' e cd' fl' H' f h1 h2 h3 h4 h5 h6 h7 => ?_, fun cls wd fl y e d H' f h1 h2 h3 => ?_⟩
    · walk_at "go"
      exact kok kvs' e cd' fl' H' (fun a o h na => f a o (S _ _ h) na) (free_same S h1) h2 h3 h4 h5 h6 (free_same S h7)
    · exact ker cls wd fl y e d H' (fun a o h na => f a o (S _ _ h) na) h1 (free_same S h2) h3
def sp_Ladder_remove (K : PySem.W.Frag) : Sp := fun vs H Q E => ∃ (p cd pl fl kn : Addr) (kvs : List (Key × V)) (ps : List V) (n : Str), vs = [.ref p, .str n] ∧ LadO K H p cd pl fl kn ∧ H cd = some (.dK kvs) ∧ H pl = some (.lst ps) ∧ ps.length < 1000 ∧ kvs.length ≤ 6 ∧ n.length ≤ 9 ∧
  CmdE K H p cd pl fl kn kvs ps (.rem n) (fun H' => ∀ v, valV kvs (.inr n) = some v → Q v H') E
abbrev NS_Ladder_remove : List Str := ["self", "name", "machine"]
theorem sc_Ladder_remove : FnScope NS_Ladder_remove ["self", "name"] (defScope s_Ladder_remove) := ⟨rfl, rfl, rfl, by decide +kernel, rfl, by decide +kernel, by decide +kernel⟩
theorem bb_Ladder_remove {w : World} {mg : Str → Option Value} {K : PySem.W.Frag} (T : Tx w mg K) : Binds K (fdOf K (He.fAd K d_Ladder_remove.at_)) ["self", "name"] [] := FunD.bindsN T.F_Ladder_remove fun _ _ _ _ _ _ us hl => match us, hl with | [_, _], _ => rfl
theorem ok_Ladder_remove (T : Tx w mg K) : FnOk P w K mg base (L2.CX P w) 6 (He.ma K (He.ga K "Ladder") "remove") (fdOf K (He.fAd K d_Ladder_remove.at_)) ["self", "name"] (sp_Ladder_remove K) := by
  refine FunD.ok (CX := L2.CX P w) (k := 5) T.F_Ladder_remove sc_Ladder_remove (fun vs H Q E h => ?_) (fun cdv A outer s H vs Q E hr h => ?_)
  · obtain ⟨p, cd, pl, fl, kn, kvs, ps, n, rfl, _⟩ := h
    rfl
  · obtain ⟨p, cd, pl, fl, kn, kvs, ps, n, rfl, ⟨dx, hp⟩, hc, hpl, l100, l6, l9, kok, ker⟩ := h
    have cL := T.c_Ladder
    have G_Ladder_batch := ok_Ladder_batch (P := P) (base := base) T
    have b_Ladder_batch := bb_Ladder_batch T
    have G_Ladder_machine := ok_Ladder_machine (P := P) (base := base) T
    have b_Ladder_machine := bb_Ladder_machine T
    refine ⟨_, (pss_cons (ps_set (i := 2) sc_Ladder_remove.nd rfl (.inl rfl) (pe_meth (pv 0) T.c_Ladder T.m_Ladder_machine G_Ladder_machine (hr.mono (by decide)) b_Ladder_machine .nil (passes_call (takes_of rfl rfl rfl rfl) (fun _ _ _ _ h => h)) (pa_cons (pv 1) pa_nil)))
    (pss_cons (ps_expr (pe_meth (pv 0) T.c_Ladder T.m_Ladder_batch G_Ladder_batch (hr.mono (by decide)) b_Ladder_batch .nil (passes_call (takes_of rfl rfl rfl rfl) (fun _ _ _ _ h => h)) (pa_cons (pe_lst (pa_cons (pe_tup (pa_cons pe_str (pa_cons (pv 1) pa_nil))) pa_nil)) pa_nil)))
    (pss_one (ps_ret (pv 2))))), ?_⟩
    walk_at "go"
    refine ⟨p, cd, pl, fl, kn, kvs, n, rfl, ⟨dx, hp⟩, hc, fun v ev => ?_, fun ev d H' s hd hx => ?_⟩
    · walk_at "go"
      intro c hcn
      walk_at "go"
      intro L hLn
      have S : Same H (upd (upd H c (.tup (BCmd.rem n).xs)) L (.lst [.ref c])) := K70.Same.new (K70.Same.new1 hcn) hLn
      have nL : L ≠ pl := Ne.symm (ne_of_none (hp_old (o := .tup (BCmd.rem n).xs) hcn hpl) hLn)
      walk_at "go"
      refine ⟨p, cd, pl, fl, kn, L, c, kvs, ps, .rem n, rfl, ⟨dx, S _ _ hp⟩, S _ _ hc, S _ _ hpl, l100, l6, l9, upd_same, nL, hp_old hLn upd_same, fun kvs' e cd' fl' H' f h1 h2 h3 h4 h5 h6 h7 => ?_, fun cls wd fl y e d H' f h1 h2 h3 => ?_⟩
      · walk_at "go"
        exact kok kvs' e cd' fl' H' (fun a o h na => f a o (S _ _ h) na) (free_same S h1) h2 h3 h4 h5 h6 (free_same S h7) v ev
      · exact ker cls wd fl y e d H' (fun a o h na => f a o (S _ _ h) na) h1 (free_same S h2) h3
    · exact ker _ _ _ _ (by simp [outB, ev]) d H' (Frm.of s) ⟨dx, s _ _ hp⟩ hd hx
/-- back to the contents put by last, or nothing left -/
def sp_Ladder_undo (K : PySem.W.Frag) : Sp := fun vs H Q E => ∃ (p cd pl fl kn : Addr) (ps fs : List V), vs = [.ref p] ∧ LadO K H p cd pl fl kn ∧ H pl = some (.lst ps) ∧ H fl = some (.lst fs) ∧ fl ≠ pl ∧ ps.length < 1000 ∧ fs.length < 1000 ∧
  (∀ qs cd', ps = qs ++ [.ref cd'] → ∀ H', Frm (fun a => a = p ∨ a = pl ∨ a = fl) H H' → LadO K H' p cd' pl fl kn → H' pl = some (.lst qs) → H' fl = some (.lst (fs ++ [.ref cd])) → Q .non H') ∧
  (ps = [] → ∀ d H', Same H H' → H d = none → H' d = some (.xd [("word", .str "nothingleft")]) → E (.ref (He.ga K "NothingLeft")) (some d) H') ∧ (ps = [] ∨ ∃ qs cd', ps = qs ++ [.ref cd'])
abbrev NS_Ladder_undo : List Str := ["self"]
theorem sc_Ladder_undo : FnScope NS_Ladder_undo ["self"] (defScope s_Ladder_undo) := ⟨rfl, rfl, rfl, by decide +kernel, rfl, by decide +kernel, by decide +kernel⟩
theorem bb_Ladder_undo {w : World} {mg : Str → Option Value} {K : PySem.W.Frag} (T : Tx w mg K) : Binds K (fdOf K (He.fAd K d_Ladder_undo.at_)) ["self"] [] := FunD.bindsN T.F_Ladder_undo fun _ _ _ _ _ _ us hl => match us, hl with | [_], _ => rfl
theorem ok_Ladder_undo (T : Tx w mg K) : FnOk P w K mg base (L2.CX P w) 3 (He.ma K (He.ga K "Ladder") "undo") (fdOf K (He.fAd K d_Ladder_undo.at_)) ["self"] (sp_Ladder_undo K) := by
  refine FunD.ok (CX := L2.CX P w) (k := 2) T.F_Ladder_undo sc_Ladder_undo (fun vs H Q E h => ?_) (fun cdv A outer s H vs Q E hr h => ?_)
  · obtain ⟨p, cd, pl, fl, kn, ps, fs, rfl, _⟩ := h
    rfl
  · obtain ⟨p, cd, pl, fl, kn, ps, fs, rfl, ⟨dx, hp⟩, hpl, hfl, nfp, l1, l2, kok, ker, hps⟩ := h
    have cL := T.c_Ladder
    have n1 := T.n_Ladder_contents
    have n2 := T.n_Ladder_past
    have n3 := T.n_Ladder_future
    have G_NothingLeft_init := ok_NothingLeft_init (P := P) (base := base) T
    have b_NothingLeft_init := bb_NothingLeft_init T
    refine ⟨_, (pss_cons (ps_if (pt_cmpR (op_eqNil hr.units0) (k_fld (K := K) rfl (pv 0) rfl) (pe_lst pa_nil) (nomark _)) (pss_one (ps_raise rfl (takes_of rfl rfl rfl rfl) (pmk_exc0 PySem.F.excBase_ValueError T.e_NothingLeft T.m_NothingLeft_init.at_ T.y_NothingLeft G_NothingLeft_init (hr.mono (by decide)) b_NothingLeft_init pass0 (by rfl) T.g_NothingLeft))) pss_nil)
    (pss_cons (ps_expr (k_bm (K := K) rfl PySem.F.plainAttrs_list PySem.F.slot_list_append PySem.F.type_list_append mt_append (k_fld (K := K) rfl (pv 0) rfl) (pa_cons (k_fld (K := K) rfl (pv 0) rfl) pa_nil)))
    (pss_one (ps_fld (pv 0) (k_bm0 (K := K) rfl PySem.F.plainAttrs_list PySem.F.slot_list_pop PySem.F.type_list_pop mt_pop (k_fld (K := K) rfl (pv 0) rfl)) rfl)))), ?_⟩
    walk_at "go"
    intro e he
    have hpl1 := hp_old (o := HO.lst []) he hpl
    have hfl1 := hp_old (o := HO.lst []) he hfl
    have hp1 := hp_old (o := HO.lst []) he hp
    rcases hps with rfl | ⟨qs, cd', rfl⟩
    · refine ⟨pl, e, [], rfl, rfl, hpl1, upd_same, ?_⟩
      walk_at "go"
      exact r_exc0 fun d H' hd s q => ker rfl d H' ((K70.Same.new1 he).trans s) (free_old hd) q
    · refine ⟨pl, e, qs ++ [.ref cd'], rfl, rfl, hpl1, upd_same, ?_⟩
      rw [show (qs ++ [V.ref cd']).isEmpty = false by cases qs <;> rfl]
      walk_at "go"
      have nlp : pl ≠ p := ne_of hpl hp (by intro z; cases z)
      have nfpp : fl ≠ p := ne_of hfl hp (by intro z; cases z)
      have hp2 := hp_ne (p := fl) (o := HO.lst (fs ++ [.ref cd])) (Ne.symm nfpp) hp1
      have hpl2 := hp_ne (p := fl) (o := HO.lst (fs ++ [.ref cd])) (Ne.symm nfp) hpl1
      walk_at "go"
      refine r_pop hpl2 ?_
      have hp3 := hp_ne (p := pl) (o := HO.lst qs) (Ne.symm nlp) hp2
      walk_at "go"
      refine kok qs cd' rfl _ (fun a o h na => ?_) ⟨dx, by rw [upd_same]; rfl⟩ (hp_ne nlp upd_same) (hp_ne nfpp (hp_ne nfp upd_same))
      have n1 : a ≠ p := fun z => na (.inl z)
      have n2 : a ≠ pl := fun z => na (.inr (.inl z))
      have n3 : a ≠ fl := fun z => na (.inr (.inr z))
      exact hp_ne n1 (hp_ne n2 (hp_ne n3 (hp_old he h)))
end
section
variable {P : Program} {w : World} {K : PySem.W.Frag} {mg : Str → Option Value} {base : Heap}
/-! ### the one machine that the shells are told of -/
def lineM : Str := "ab 0 | 0.0 0.1"
def sp_transition_in (K : PySem.W.Frag) : Sp := fun vs H Q _ => ∃ (x : Str) (i : Int), vs = [.str x] ∧ (x = "0.0" ∧ i = 0 ∨ x = "0.1" ∧ i = 1) ∧ ∀ p, H p = none → Q (.ref p) (upd H p (.tup [.int 0, .int i]))
abbrev NS_transition_in : List Str := ["word"]
theorem sc_transition_in : FnScope NS_transition_in ["word"] (defScope s_transition_in) := ⟨rfl, rfl, rfl, by decide +kernel, rfl, by decide +kernel, by decide +kernel⟩
theorem bb_transition_in {w : World} {mg : Str → Option Value} {K : PySem.W.Frag} (T : Tx w mg K) : Binds K (fdOf K (He.fAd K d_transition_in.at_)) ["word"] [] := FunD.bindsN T.F_transition_in fun _ _ _ _ _ _ us hl => match us, hl with | [_], _ => rfl
theorem ok_transition_in (T : Tx w mg K) : FnOk P w K mg base CX0 1 (He.ga K "transition_in") (fdOf K (He.fAd K d_transition_in.at_)) ["word"] (sp_transition_in K) := by
  refine FunD.ok (CX := CX0) (k := 0) T.F_transition_in sc_transition_in (fun vs H Q E h => ?_) (fun cdv A outer s H vs Q E hr h => ?_)
  · obtain ⟨x, i, rfl, _⟩ := h
    rfl
  · obtain ⟨x, i, rfl, hx, k⟩ := h
    refine ⟨_, PSs.nox (pss_cons (ps_if (PW.pt (pw_or (pt_cmpR op_ne (pe_callB call_len_str (by rfl) T.f_len (by decide +kernel) (pa_cons (pv 0) pa_nil)) pe_int (nomark _)) (pw_or (pt_cmpR op_ne (pe_ix ix_str (pv 0) pe_int (fun _ _ => rfl)) pe_str (nomark _)) (pw_or (pt_cmpR op_notIn_sign (pe_ix ix_str (pv 0) pe_int (fun _ _ => rfl)) (pe_glob (v := .str "0123456789") (by rfl) T.z_DIGITS.choose_spec ⟨_, rfl⟩) (by rfl)) (pw_or1 (pt_cmpR op_notIn_sign (pe_ix ix_str (pv 0) pe_int (fun _ _ => rfl)) (pe_glob (v := .str "0123456789") (by rfl) T.z_DIGITS.choose_spec ⟨_, rfl⟩) (by rfl))))))) (pss_one ps_never) pss_nil)
    (pss_one (ps_ret (pe_tup (pa_cons (pe_callTy call_int_str (by rfl) T.f_int (by decide +kernel) (pa_cons (pe_ix ix_str (pv 0) pe_int (fun _ _ => rfl)) pa_nil)) (pa_cons (pe_callTy call_int_str (by rfl) T.f_int (by decide +kernel) (pa_cons (pe_ix ix_str (pv 0) pe_int (fun _ _ => rfl)) pa_nil)) pa_nil)))))), ?_⟩
    rcases hx with ⟨rfl, rfl⟩ | ⟨rfl, rfl⟩
    · walk_at "go"
      refine x_intS (n := 0) (by decide +kernel) (by decide +kernel) ?_
      walk_at "go"
      refine x_intS (n := 0) (by decide +kernel) (by decide +kernel) ?_
      walk_at "go"
      exact fun p hp => k p hp
    · walk_at "go"
      refine x_intS (n := 0) (by decide +kernel) (by decide +kernel) ?_
      walk_at "go"
      refine x_intS (n := 1) (by decide +kernel) (by decide +kernel) ?_
      walk_at "go"
      exact fun p hp => k p hp
/-! ### parse_machine -/
def rawP : Raw := ⟨"ab", [[(0, 0), (0, 1)]], 0⟩
theorem okP : OkRaw rawP := ⟨.inl rfl, by decide, by decide, fun q hq => by
  rw [List.mem_singleton.mp hq]
  refine ⟨rfl, fun z hz => ?_⟩
  simp only [List.mem_cons, List.not_mem_nil, or_false] at hz
  rcases hz with rfl | rfl
  · decide
  · decide, by decide, by decide⟩
def sp_parse_machine (K : PySem.W.Frag) : Sp := fun vs H Q _ => vs = [.str lineM] ∧ ∀ (p : Addr) (H' : Hp), Same H H' → H p = none → MacAt K H' p rawP → Q (.ref p) H'
abbrev NS_parse_machine : List Str := ["text", "head", "rest", "words", "states", "found", "part", "word"]
theorem sc_parse_machine : FnScope NS_parse_machine ["text"] (defScope s_parse_machine) := ⟨rfl, rfl, rfl, by decide +kernel, rfl, by decide +kernel, by decide +kernel⟩
theorem bb_parse_machine {w : World} {mg : Str → Option Value} {K : PySem.W.Frag} (T : Tx w mg K) : Binds K (fdOf K (He.fAd K d_parse_machine.at_)) ["text"] [] := FunD.bindsN T.F_parse_machine fun _ _ _ _ _ _ us hl => match us, hl with | [_], _ => rfl
theorem ok_parse_machine (T : Tx w mg K) : FnOk P w K mg base CX0 5 (He.ga K "parse_machine") (fdOf K (He.fAd K d_parse_machine.at_)) ["text"] (sp_parse_machine K) := by
  refine FunD.ok (CX := CX0) (k := 4) T.F_parse_machine sc_parse_machine (fun vs H Q E h => ?_) (fun cdv A outer s H vs Q E hr h => ?_)
  · obtain ⟨rfl, _⟩ := h
    rfl
  · obtain ⟨rfl, k⟩ := h
    have G_Machine_init := ok_Machine_init (P := P) (base := base) T
    have G_transition_in := ok_transition_in (P := P) (base := base) T
    have b_transition_in := bb_transition_in T
    obtain ⟨mv_Machine, kb_Machine_init⟩ := kz_Machine T
    refine ⟨_, PSs.nox (pss_cons (ps_asg (pe_split (pv 0) pe_str) (pg_star rfl (pgs_cons (pg_name (i := 1) sc_parse_machine.nd rfl (.inl rfl)) (pgs_star (pg_name (i := 2) sc_parse_machine.nd rfl (.inl rfl)) pgs_nil))))
    (pss_cons (ps_set (i := 3) sc_parse_machine.nd rfl (.inl rfl) (pe_split (pv 1) pe_str))
    (pss_cons (ps_if (PW.pt (pw_or (pt_cmpR op_ne (pe_callB (k_len (K := K) rfl) (by rfl) T.f_len (by decide +kernel) (pa_cons (pv 3) pa_nil)) pe_int (nomark _)) (pw_or (pt_cmpR op_ne (pe_callB call_len_str (by rfl) T.f_len (by decide +kernel) (pa_cons (pe_ix (k_ixL (K := K) rfl) (pv 3) pe_int (fun _ _ => rfl)) pa_nil)) pe_int (nomark _)) (pw_or1 (pt_cmpR op_notIn_sign (pe_ix (k_ixL (K := K) rfl) (pv 3) pe_int (fun _ _ => rfl)) (pe_glob (v := .str "0123456789") (by rfl) T.z_DIGITS.choose_spec ⟨_, rfl⟩) (by rfl)))))) (pss_one ps_never) pss_nil)
    (pss_cons (ps_setLc (i := 4) (own := [("part", 6)]) (g := gName 6) (tt := tYes) rfl sc_parse_machine.nd rfl rfl (sw_true rfl rfl rfl (by decide +kernel)) (k_piL (K := K) rfl (pv 2)) (blkOk_by (N := NS_parse_machine) (sc := defScope s_parse_machine) (by decide +kernel)) (fun _ _ _ _ _ => pg_name (i := 6) sc_parse_machine.nd rfl (Or.inl rfl)) (fun _ _ _ _ _ => pts_nil) (fun _ _ _ _ _ => (pe_callTy (k_tupOf (K := K) rfl) (by rfl) T.f_tuple (by decide +kernel) (pa_cons (pe_lc (own := [("word", 7)]) (g := gName 7) (tt := tYes) rfl sc_parse_machine.nd (k_piL (K := K) rfl (pe_split (pv 6) pe_str)) (blkOk_by (N := NS_parse_machine) (by kernel_rfl)) (fun _ _ _ _ _ => pg_name (i := 7) sc_parse_machine.nd rfl (Or.inl rfl)) (fun _ _ _ _ _ => pts_nil) (fun _ _ _ _ _ => (pe_call G_transition_in (hr.mono (by decide)) (by rfl) T.g_transition_in T.F_transition_in.kp b_transition_in .nil pass0 (pa_cons (pv 7) pa_nil)))) pa_nil))))
    (pss_cons (ps_try_thru0 (pss_one (ps_set (i := 5) sc_parse_machine.nd rfl (.inl rfl) (pe_makeK T.k_Machine G_Machine_init (hr.mono (by decide)) (by rfl) T.g_Machine kb_Machine_init pass0 (pa_cons (pe_ix (k_ixL (K := K) rfl) (pv 3) pe_int (fun _ _ => rfl)) (pa_cons (pv 4) pa_nil)) (pk_cons (pe_callTy call_int_str (by rfl) T.f_int (by decide +kernel) (pa_cons (pe_ix (k_ixL (K := K) rfl) (pv 3) pe_int (fun _ _ => rfl)) pa_nil)) pk_nil)))))
    (pss_one (ps_ret (pv 5)))))))), ?_⟩
    have e1 : Txt.split lineM " | " = ([("ab 0" : Str), "0.0 0.1"] : List Str) := by decide +kernel
    have e2 : Txt.split "ab 0" " " = ([("ab" : Str), "0"] : List Str) := by decide +kernel
    have e3 : Txt.split "0.0 0.1" " " = ([("0.0" : Str), "0.1"] : List Str) := by decide +kernel
    walk_at "go"
    rw [e1]
    intro a1 ha1
    refine ⟨a1, [.str "ab 0", .str "0.0 0.1"], rfl, .inl (SqL.of upd_same), Nat.le_of_ble_eq_true rfl, fun rl hrl => ?_⟩
    change gCons (gName 1) (gCons (gName 2) gNil) [V.str "ab 0", V.ref rl] _ (upd _ rl (.lst [V.str "0.0 0.1"])) _
    walk_at "go"
    rw [e2]
    intro wl hwl
    walk_at "go"
    refine ⟨48, _, rfl, rfl, ?_⟩
    have S : Same H (upd (upd (upd H a1 (.lst (List.map V.str [("ab 0" : Str), "0.0 0.1"]))) rl (.lst [V.str "0.0 0.1"])) wl (.lst (List.map V.str [("ab" : Str), "0"]))) := K70.Same.new (K70.Same.new (K70.Same.new1 ha1) hrl) hwl
    have hr2 := hp_old (o := .lst (List.map V.str [("ab" : Str), "0"])) hwl (upd_same (H := upd H a1 (.lst (List.map V.str [("ab 0" : Str), "0.0 0.1"]))) (a := rl) (o := .lst [V.str "0.0 0.1"]))
    have hw2 := upd_same (H := upd (upd H a1 (.lst (List.map V.str [("ab 0" : Str), "0.0 0.1"]))) rl (.lst [V.str "0.0 0.1"])) (a := wl) (o := .lst (List.map V.str [("ab" : Str), "0"]))
    generalize upd (upd (upd H a1 (.lst (List.map V.str [("ab 0" : Str), "0.0 0.1"]))) rl (.lst [V.str "0.0 0.1"])) wl (.lst (List.map V.str [("ab" : Str), "0"])) = H3 at S hr2 hw2 ⊢
    walk_at "go"
    refine g_new (walk_list (xs := [.str "0.0 0.1"])) (fun _ y Hx => ∃ (a : Addr) (us : List V), y = .ref a ∧ SqT K Hx a us ∧ RowV K Hx us (rowI [(0, 0), (0, 1)])) (by decide +kernel) (fun H' s => SqL.of (s _ _ hr2)) ?_ ?_
    · rintro i x D acc H4 H5 N NF hi hD hacc s4 ⟨rfl, ex⟩ qk
      obtain rfl : i = 0 := by
        have : i < 1 := hi
        omega
      cases ex
      unfold LcT
      walk_at "go"
      rw [e3]
      intro sl hsl
      walk_at "go"
      refine g_new (walk_list (xs := [.str "0.0", .str "0.1"])) (fun i y Hx => PairV K Hx y (0, .inl (i : Int))) (by decide +kernel) (fun H' s => SqL.of (s _ _ upd_same)) ?_ ?_
      · rintro j y D2 acc2 H6 H7 N2 NF2 hj hD2 hacc2 s6 ⟨rfl, ey⟩ qk2
        unfold LcT
        walk_at "go"
        have fin : ∀ q, H7 q = none → (j : Int) = j → N2 (.ref q) (upd H7 q (.tup [.int 0, .int (j : Int)])) := fun q hq _ => by
          have e7 : (upd H7 q (.tup [.int 0, .int (j : Int)])) D2 = some (.lst acc2) := hp_old hq hacc2
          exact qk2 _ _ (K70.Same.new1 hq) fun Hx off => pairV_tp (Tp.off e7 off) ⟨q, rfl, SqT.of upd_same⟩
        match j, ey, fin with
        | 0, ey, fin =>
          cases ey
          exact ⟨_, 0, rfl, .inl ⟨rfl, rfl⟩, fun q hq => fin q hq rfl⟩
        | 1, ey, fin =>
          cases ey
          exact ⟨_, 1, rfl, .inr ⟨rfl, rfl⟩, fun q hq => fin q hq rfl⟩
        | j + 2, ey, fin => cases ey
      · intro D2 ys H6 hD2 s6 hD2' ly hy
        walk_at "go"
        intro q hq
        have e7 : (upd H6 q (.tup ys)) D = some (.lst acc) := hp_old hq (s6 _ _ (hp_old hsl hacc))
        have rv : RowV K H6 ys (rowI [(0, 0), (0, 1)]) := ⟨ly, fun i v p e1 e2 => by
          match i, e2 with
          | 0, e2 =>
            cases e2
            exact hy 0 v e1
          | 1, e2 =>
            cases e2
            exact hy 1 v e1
          | i + 2, e2 => cases e2⟩
        exact qk _ _ ((K70.Same.new1 hsl).trans (s6.trans (K70.Same.new1 hq))) fun Hx off => ⟨q, ys, rfl, sqT_tp (Tp.off e7 off) (SqT.of upd_same), rowV_tp ((Tp.of (K70.Same.new1 hq)).trans (Tp.off e7 off)) rv⟩
    · intro D ys H4 hD s4 hD4 ly hy
      have hw4 := s4 _ _ hw2
      walk_at "go"
      refine x_intS (n := 0) (by decide +kernel) (by decide +kernel) ?_
      walk_at "go"
      refine ⟨rfl, rfl, fun x dx hx0 hd0 hne => ?_⟩
      have hl1 : ys.length = 1 := ly
      obtain ⟨a, us, ea, q1, q2⟩ := hy 0 ys[0] (List.getElem?_eq_getElem (by omega))
      have S5 := mk_same (o := .own x) (u := .ins (He.ga K "Machine") dx []) hx0 hd0 hne
      have dd : DpAll K (upd (upd H4 dx (.own x)) x (.ins (He.ga K "Machine") dx [])) ys (rawP.st.map rowD) := dpAll_of (by rw [hl1]; rfl) fun i v d e1 e2 => by
        match i, e2 with
        | 0, e2 =>
          cases e2
          have ev : ys[0] = v := by
            rw [List.getElem?_eq_getElem (by omega)] at e1
            exact Option.some.inj e1
          rw [← ev, ea]
          have z := rowV_dps (rowV_tp (Tp.of S5) q2)
          have w := rowI_D [(0, 0), (0, 1)]
          unfold rowK at w
          rw [← w]
          exact .tup (sqT_tp (Tp.of S5) q1) z
        | i + 1, e2 => cases e2
      refine ⟨x, dx, .ref D, rawP, rfl, upd_same, .lst (SqL.of (S5 _ _ hD4)) dd, okP, fun H' off hm => ⟨rfl, ?_⟩⟩
      walk_at "go"
      exact k x H' (off_same ((S.trans s4).trans S5) (free_same (S.trans s4) hx0) off) (free_same (S.trans s4) hx0) hm
end
section
variable {P : Program} {w : World} {K : PySem.W.Frag} {mg : Str → Option Value} {base : Heap}
/-! ### Shell: made, counted, told -/
def shF (p el : Addr) : List (Str × V) := [("place", .ref p), ("entries", .ref el)]
def ShO (K : PySem.W.Frag) (H : Hp) (s p el : Addr) : Prop := ∃ dx, H s = some (.ins (He.ga K "Shell") dx (shF p el))
def sp_Shell_len (K : PySem.W.Frag) : Sp := fun vs H Q _ => ∃ (s p el : Addr) (es : List V), vs = [.ref s] ∧ ShO K H s p el ∧ H el = some (.lst es) ∧ Q (.int es.length) H
abbrev NS_Shell_len : List Str := ["self"]
theorem sc_Shell_len : FnScope NS_Shell_len ["self"] (defScope s_Shell_len) := ⟨rfl, rfl, rfl, by decide +kernel, rfl, by decide +kernel, by decide +kernel⟩
theorem bb_Shell_len {w : World} {mg : Str → Option Value} {K : PySem.W.Frag} (T : Tx w mg K) : Binds K (fdOf K (He.fAd K d_Shell_len.at_)) ["self"] [] := FunD.bindsN T.F_Shell_len fun _ _ _ _ _ _ us hl => match us, hl with | [_], _ => rfl
theorem ok_Shell_len (T : Tx w mg K) : FnOk P w K mg base CX0 1 (He.ma K (He.ga K "Shell") "__len__") (fdOf K (He.fAd K d_Shell_len.at_)) ["self"] (sp_Shell_len K) := by
  refine FunD.ok (CX := CX0) (k := 0) T.F_Shell_len sc_Shell_len (fun vs H Q E h => ?_) (fun cdv A outer s H vs Q E hr h => ?_)
  · obtain ⟨s, p, el, es, rfl, _⟩ := h
    rfl
  · obtain ⟨s, p, el, es, rfl, ⟨dx, hs⟩, he, k⟩ := h
    have cS := T.c_Shell
    have n2 := T.n_Shell_entries
    refine ⟨_, PSs.nox (pss_one (ps_ret (pe_callB (k_len (K := K) rfl) (by rfl) T.f_len (by decide +kernel) (pa_cons (k_fld (K := K) rfl (pv 0) rfl) pa_nil)))), ?_⟩
    walk_at "go"
    exact k
def sp_Shell_log (K : PySem.W.Frag) : Sp := fun vs H Q _ => ∃ (s p el : Addr) (es : List V), vs = [.ref s] ∧ ShO K H s p el ∧ H el = some (.lst es) ∧ ∀ l, H l = none → Q (.ref l) (upd H l (.lst es))
abbrev NS_Shell_log : List Str := ["self"]
theorem sc_Shell_log : FnScope NS_Shell_log ["self"] (defScope s_Shell_log) := ⟨rfl, rfl, rfl, by decide +kernel, rfl, by decide +kernel, by decide +kernel⟩
theorem bb_Shell_log {w : World} {mg : Str → Option Value} {K : PySem.W.Frag} (T : Tx w mg K) : Binds K (fdOf K (He.fAd K d_Shell_log.at_)) ["self"] [] := FunD.bindsN T.F_Shell_log fun _ _ _ _ _ _ us hl => match us, hl with | [_], _ => rfl
theorem ok_Shell_log (T : Tx w mg K) : FnOk P w K mg base CX0 1 (He.ma K (He.ga K "Shell") "log") (fdOf K (He.fAd K d_Shell_log.at_)) ["self"] (sp_Shell_log K) := by
  refine FunD.ok (CX := CX0) (k := 0) T.F_Shell_log sc_Shell_log (fun vs H Q E h => ?_) (fun cdv A outer s H vs Q E hr h => ?_)
  · obtain ⟨s, p, el, es, rfl, _⟩ := h
    rfl
  · obtain ⟨s, p, el, es, rfl, ⟨dx, hs⟩, he, k⟩ := h
    have cS := T.c_Shell
    have n2 := T.n_Shell_entries
    refine ⟨_, PSs.nox (pss_one (ps_ret (pe_callTy (k_listOf (K := K) rfl) (by rfl) T.f_list (by decide +kernel) (pa_cons (k_fld (K := K) rfl (pv 0) rfl) pa_nil)))), ?_⟩
    walk_at "go"
    exact fun l hl => k l hl
theorem bz_Shell (T : Tx w mg K) : ∃ ds, Vals [V.non] ds ∧ Binds K (fdOf K (He.fAd K d_Shell_init.at_)) ["self", "ladder"] ds :=
  FunD.binds1 (ps := ["self", "ladder"]) T.F_Shell_init 1 0 (by intro h; cases h) rfl fun D kV doc pm an cdv ct us its l1 l2 => match us, l1, its, l2 with | [_], _, [_], _ => ⟨_, rfl, rfl⟩
/-- a new shell on a new ladder -/
def sp_Shell_init (K : PySem.W.Frag) : Sp := fun vs H Q _ => ∃ (a dx : Addr), vs = [.ref a, .non] ∧ H a = some (.ins (He.ga K "Shell") dx []) ∧ ∀ (p cd pl fl kn el : Addr) (H' : Hp), Off a H H' → H p = none → H cd = none → H pl = none → H el = none → p ≠ a → LadO K H' p cd pl fl kn → H' cd = some (.dK []) → H' pl = some (.lst []) → H' fl = some (.lst []) → fl ≠ pl → H fl = none → el ≠ pl → el ≠ fl → ShO K H' a p el → H' el = some (.lst []) → Q .non H'
abbrev NS_Shell_init : List Str := ["self", "ladder"]
theorem sc_Shell_init : FnScope NS_Shell_init ["self", "ladder"] (defScope s_Shell_init) := ⟨rfl, rfl, rfl, by decide +kernel, rfl, by decide +kernel, by decide +kernel⟩
theorem ok_Shell_init (T : Tx w mg K) : FnOk P w K mg base CX0 3 (He.ma K (He.ga K "Shell") "__init__") (fdOf K (He.fAd K d_Shell_init.at_)) ["self", "ladder"] (sp_Shell_init K) := by
  refine FunD.ok (CX := CX0) (k := 2) T.F_Shell_init sc_Shell_init (fun vs H Q E h => ?_) (fun cdv A outer s H vs Q E hr h => ?_)
  · obtain ⟨a, dx, rfl, _⟩ := h
    rfl
  · obtain ⟨a, dx, rfl, ha, k⟩ := h
    have cS := T.c_Shell
    have n1 := T.n_Shell_place
    have n2 := T.n_Shell_entries
    have G_Ladder_init := ok_Ladder_init (P := P) (base := base) T
    have b_Ladder_init := bb_Ladder_init T
    refine ⟨_, PSs.nox (pss_cons (ps_fld (pv 0) (pe_ifExp (pt_cmpR op_isN (pv 1) pe_non (nomark _)) (pe_make0 T.k_Ladder G_Ladder_init (hr.mono (by decide)) (by rfl) T.g_Ladder b_Ladder_init .nil pass0) (pv 1)) rfl)
    (pss_one (ps_fld (pv 0) (pe_lst pa_nil) rfl))), ?_⟩
    walk_at "go"
    intro x dx2 hx hd hne
    have S := mk_same (o := .own x) (u := .ins (He.ga K "Ladder") dx2 []) hx hd hne
    refine ⟨x, dx2, rfl, upd_same, fun cd pl fl kn H1 off hcd hpl hL ecd epl efl nfp hfl => ⟨rfl, ?_⟩⟩
    have nxa : x ≠ a := Ne.symm (ne_of_none ha hx)
    have ha1 : H1 a = some (.ins (He.ga K "Shell") dx []) := off _ _ (Ne.symm nxa) (S _ _ ha)
    have hcd0 : H cd = none := free_same S hcd
    have hpl0 : H pl = none := free_same S hpl
    have hfl0 : H fl = none := free_same S hfl
    have nfa : fl ≠ a := Ne.symm (ne_of_none ha hfl0)
    have nca : cd ≠ a := Ne.symm (ne_of_none ha hcd0)
    have npa : pl ≠ a := Ne.symm (ne_of_none ha hpl0)
    walk_at "go"
    intro el hel
    walk_at "go"
    obtain ⟨dl, eL⟩ := hL
    have hel1 : H1 el = none := by
      cases q : H1 el with
      | none => rfl
      | some o =>
        have nea : el ≠ a := fun z => by
          rw [z, upd_same] at hel
          cases hel
        rw [upd_ne nea, q] at hel
        cases hel
    have nel : el ≠ a := Ne.symm (ne_of_none ha1 hel1)
    have off2 : Same H H1 := off_same S hx off
    refine k x cd pl fl kn el _ (fun b o hb h => hp_ne hb (hp_old hel (hp_ne hb (off2 _ _ h)))) hx hcd0 hpl0 (free_same off2 hel1) nxa ⟨dl, hp_ne nxa (hp_old hel (hp_ne nxa eL))⟩ (hp_ne nca (hp_old hel (hp_ne nca ecd))) (hp_ne npa (hp_old hel (hp_ne npa epl))) (hp_ne nfa (hp_old hel (hp_ne nfa efl))) nfp hfl0 (Ne.symm (ne_of_none epl hel1)) (Ne.symm (ne_of_none efl hel1)) ⟨dx, by rw [upd_same]; rfl⟩ (hp_ne nel upd_same)
end
section
variable {P : Program} {w : World} {K : PySem.W.Frag} {mg : Str → Option Value} {base : Heap}
/-! ### Shell: one line -/
inductive Lin where
  | add
  | rem
  | undo
  | names
def Lin.word : Lin → Str
  | .add => "add"
  | .rem => "remove"
  | .undo => "undo"
  | .names => "names"
def Lin.rest : Lin → List Str
  | .add => ["a", lineM]
  | .rem => ["a"]
  | .undo => []
  | .names => []
/-- the contents of a shell's ladder: nothing, or «a» -/
def okKv (kvs : List (Key × V)) : Prop := kvs = [] ∨ ∃ v, kvs = [(.inr "a", v)]
/-- a shell's ladder: contents and all that was put by are small dicts -/
def LadS (K : PySem.W.Frag) (H : Hp) (p cd pl fl kn : Addr) (n : Nat) : Prop := LadO K H p cd pl fl kn ∧ (∃ kvs, H cd = some (.dK kvs) ∧ okKv kvs) ∧ (∃ ps, H pl = some (.lst ps) ∧ ps.length ≤ n ∧ ∀ v ∈ ps, ∃ d kvs, v = .ref d ∧ H d = some (.dK kvs) ∧ okKv kvs) ∧ (∃ fs, H fl = some (.lst fs) ∧ fs.length ≤ n) ∧ fl ≠ pl
def sp_Shell_query (K : PySem.W.Frag) : Sp := fun vs H Q _ => ∃ (s p el cd pl fl kn rl : Addr) (n : Nat), vs = [.ref s, .str "names", .ref rl] ∧ ShO K H s p el ∧ LadS K H p cd pl fl kn n ∧ ∀ (x : Str) (H' : Hp), Same H H' → x.length ≤ 100 → Q (.str x) H'
abbrev NS_Shell_query : List Str := ["self", "word", "rest", "names", "machine"]
theorem sc_Shell_query : FnScope NS_Shell_query ["self", "word", "rest"] (defScope s_Shell_query) := ⟨rfl, rfl, rfl, by decide +kernel, rfl, by decide +kernel, by decide +kernel⟩
theorem bb_Shell_query {w : World} {mg : Str → Option Value} {K : PySem.W.Frag} (T : Tx w mg K) : Binds K (fdOf K (He.fAd K d_Shell_query.at_)) ["self", "word", "rest"] [] := FunD.bindsN T.F_Shell_query fun _ _ _ _ _ _ us hl => match us, hl with | [_, _, _], _ => rfl
theorem ok_Shell_query (T : Tx w mg K) : FnOk P w K mg base CX0 2 (He.ma K (He.ga K "Shell") "query") (fdOf K (He.fAd K d_Shell_query.at_)) ["self", "word", "rest"] (sp_Shell_query K) := by
  refine FunD.ok (CX := CX0) (k := 1) T.F_Shell_query sc_Shell_query (fun vs H Q E h => ?_) (fun cdv A outer s H vs Q E hr h => ?_)
  · obtain ⟨s, p, el, cd, pl, fl, kn, rl, n, rfl, _⟩ := h
    rfl
  · obtain ⟨s, p, el, cd, pl, fl, kn, rl, n, rfl, ⟨dx, hs⟩, ⟨hL, ⟨kvs, hc, okk⟩, _⟩, k⟩ := h
    have cS := T.c_Shell
    have n1 := T.n_Shell_place
    have ⟨dl, hp⟩ := hL
    have G_Ladder_names := ok_Ladder_names (P := P) (base := base) T
    have b_Ladder_names := bb_Ladder_names T
    refine ⟨_, PSs.nox (pss_cons (ps_if (pt_cmpR op_eq (pv 1) pe_str (nomark _)) (pss_cons (ps_set (i := 3) sc_Shell_query.nd rfl (.inl rfl) (pe_meth0 (k_fld (K := K) rfl (pv 0) rfl) T.c_Ladder T.m_Ladder_names G_Ladder_names (hr.mono (by decide)) b_Ladder_names .nil pass0))
    (pss_one (ps_ret (pe_ifExp (pt_cmpR (op_neD hr.units) (pv 3) (pe_lst pa_nil) (nomark _)) (pe_join pe_str (pv 3)) pe_str)))) pss_nil)
    (pss_cons ps_never
    (pss_cons ps_never
    (pss_cons ps_never
    (pss_cons ps_never
    (pss_cons ps_never
    (pss_one ps_never))))))), ?_⟩
    walk_at "go"
    rcases okk with rfl | ⟨v, rfl⟩
    · refine ⟨p, cd, pl, fl, kn, [], [], rfl, hL, hc, rfl, by decide, fun ys q perm _ hq => ?_⟩
      obtain rfl : ys = [] := List.perm_nil.mp perm
      walk_at "go"
      intro e he
      have sh : SeqAt.shaped (.list []) = true := by decide +kernel
      refine ⟨.list [], .list [], .lst (SqL.of (hp_old he upd_same)) .nil, .lst (SqL.of upd_same) .nil, sh, sh, ?_⟩
      rw [show PyData.eqv (.list []) (.list []) = true from SeqAt.eqv_refl _ (SeqAt.canLay_of_shaped sh)]
      walk_at "go"
      exact k _ _ (K70.Same.new (K70.Same.new1 hq) he) (by decide +kernel)
    · refine ⟨p, cd, pl, fl, kn, [(.inr "a", v)], [("a" : Str)], rfl, hL, hc, rfl, by decide, fun ys q perm _ hq => ?_⟩
      obtain rfl : ys = [("a" : Str)] := List.perm_singleton.mp perm
      walk_at "go"
      intro e he
      have sh : SeqAt.shaped (.list [.str "a"]) = true := by decide +kernel
      have sh0 : SeqAt.shaped (.list []) = true := by decide +kernel
      refine ⟨.list [.str "a"], .list [], .lst (SqL.of (hp_old he upd_same)) (.cons (.str _) .nil), .lst (SqL.of upd_same) .nil, sh, sh0, ?_⟩
      rw [show PyData.eqv (.list [.str "a"]) (.list []) = false by simp [PyData.eqv, PyData.eqvAll]]
      walk_at "go"
      refine ⟨" ", q, [("a" : Str)], rfl, rfl, .inl (SqL.of (hp_old he upd_same)), by decide +kernel, ?_⟩
      exact k _ _ (K70.Same.new (K70.Same.new1 hq) he) (by decide +kernel)
theorem na : nameB "a" = true := by decide +kernel
theorem out_add {kvs kvs' : List (Key × V)} {m : V} (h : okKv kvs) (e : outB kvs (.add "a" m) = .ok kvs') : okKv kvs' := by
  rcases h with rfl | ⟨v, rfl⟩
  · simp [outB, na, valV_nil] at e
    exact .inr ⟨m, by rw [← e]; rfl⟩
  · simp [outB, na, valV_pos] at e
theorem out_rem {kvs kvs' : List (Key × V)} (h : okKv kvs) (e : outB kvs (.rem "a") = .ok kvs') : okKv kvs' := by
  rcases h with rfl | ⟨v, rfl⟩
  · simp [outB, valV_nil] at e
  · simp [outB, valV_pos] at e
    exact .inl (by rw [← e]; rfl)
theorem out_er {kvs : List (Key × V)} {b : BCmd} {cls wd f : Str} {y : V} (e : outB kvs b = .er cls wd f y) : (cls = "InvalidName" ∨ cls = "DuplicateName" ∨ cls = "LimitExceeded" ∨ cls = "UnknownName" ∨ cls = "NothingLeft") ∧ wd.length ≤ 20 := by
  cases b with
  | add n m =>
    simp only [outB] at e
    split at e
    · split at e
      · cases e
        exact ⟨.inr (.inl rfl), by decide +kernel⟩
      · split at e
        · cases e
          exact ⟨.inr (.inr (.inl rfl)), by decide +kernel⟩
        · cases e
    · cases e
      exact ⟨.inl rfl, by decide +kernel⟩
  | rep n m =>
    simp only [outB] at e
    split at e
    · cases e
    · cases e
      exact ⟨.inr (.inr (.inr (.inl rfl))), by decide +kernel⟩
  | rem n =>
    simp only [outB] at e
    split at e
    · cases e
    · cases e
      exact ⟨.inr (.inr (.inr (.inl rfl))), by decide +kernel⟩
theorem okKv_len {kvs : List (Key × V)} (h : okKv kvs) : kvs.length ≤ 6 := by
  rcases h with rfl | ⟨v, rfl⟩
  · exact Nat.zero_le _
  · exact Nat.le_of_ble_eq_true rfl
/-- what was put by stands behind a way that touches no dict -/
theorem past_frm {H H' : Hp} {F : Addr → Prop} {ps : List V} (f : Frm F H H') (hF : ∀ a kvs, F a → H a = some (.dK kvs) → False) (h : ∀ v ∈ ps, ∃ d kvs, v = .ref d ∧ H d = some (.dK kvs) ∧ okKv kvs) : ∀ v ∈ ps, ∃ d kvs, v = .ref d ∧ H' d = some (.dK kvs) ∧ okKv kvs := fun v hv => by
  obtain ⟨d, kvs, e, q, z⟩ := h v hv
  exact ⟨d, kvs, e, f _ _ q fun w => hF d kvs w q, z⟩
/-- the errors that a line may meet -/
def ErrS (K : PySem.W.Frag) (E : XK) (Q : Hp → Prop) : Prop := ∀ (cls wd : Str) (d : Addr) (fs : List (Str × V)) (H' : Hp), (cls = "InvalidName" ∨ cls = "DuplicateName" ∨ cls = "LimitExceeded" ∨ cls = "UnknownName" ∨ cls = "NothingLeft") → H' d = some (.xd (("word", .str wd) :: fs)) → wd.length ≤ 20 → Q H' → E (.ref (He.ga K cls)) (some d) H'
def sp_Shell_command (K : PySem.W.Frag) : Sp := fun vs H Q E => ∃ (s p el cd pl fl kn rl : Addr) (n : Nat) (l : Lin), vs = [.ref s, .str l.word, .ref rl] ∧ H rl = some (.lst (l.rest.map V.str)) ∧ ShO K H s p el ∧ LadS K H p cd pl fl kn n ∧ n < 500 ∧
  (l ≠ .names → ∀ (cd' fl' : Addr) (H' : Hp), Frm (fun a => a = p ∨ a = pl ∨ a = fl) H H' → LadS K H' p cd' pl fl' kn (n + 1) → (fl' = fl ∨ H fl' = none) → Q (.bl true) H') ∧ (l = .names → ∀ H', Same H H' → Q (.bl false) H') ∧
  ErrS K E (fun H' => ∃ cd' fl', Frm (fun a => a = p ∨ a = pl ∨ a = fl) H H' ∧ (fl' = fl ∨ H fl' = none) ∧ LadS K H' p cd' pl fl' kn (n + 1))
abbrev NS_Shell_command : List Str := ["self", "word", "rest"]
theorem sc_Shell_command : FnScope NS_Shell_command ["self", "word", "rest"] (defScope s_Shell_command) := ⟨rfl, rfl, rfl, by decide +kernel, rfl, by decide +kernel, by decide +kernel⟩
theorem bb_Shell_command {w : World} {mg : Str → Option Value} {K : PySem.W.Frag} (T : Tx w mg K) : Binds K (fdOf K (He.fAd K d_Shell_command.at_)) ["self", "word", "rest"] [] := FunD.bindsN T.F_Shell_command fun _ _ _ _ _ _ us hl => match us, hl with | [_, _, _], _ => rfl
theorem ok_Shell_command (T : Tx w mg K) : FnOk P w K mg base (L2.CX P w) 7 (He.ma K (He.ga K "Shell") "command") (fdOf K (He.fAd K d_Shell_command.at_)) ["self", "word", "rest"] (sp_Shell_command K) := by
  refine FunD.ok (CX := L2.CX P w) (k := 6) T.F_Shell_command sc_Shell_command (fun vs H Q E h => ?_) (fun cdv A outer s H vs Q E hr h => ?_)
  · obtain ⟨s, p, el, cd, pl, fl, kn, rl, n, l, rfl, _⟩ := h
    rfl
  · obtain ⟨s, p, el, cd, pl, fl, kn, rl, n, l, rfl, hrl, ⟨dx, hs⟩, ⟨hL, ⟨kvs, hc, okk⟩, ⟨ps, hpl, lps, hps⟩, ⟨fs, hfl, lfs⟩, nfp⟩, n5, kt, kf, ke⟩ := h
    have cS := T.c_Shell
    have cL := T.c_Ladder
    have n1 := T.n_Shell_place
    have ⟨dl, hp⟩ := hL
    have G_Ladder_add := ok_Ladder_add (P := P) (base := base) T
    have b_Ladder_add := bb_Ladder_add T
    have G_Ladder_remove := ok_Ladder_remove (P := P) (base := base) T
    have b_Ladder_remove := bb_Ladder_remove T
    have G_Ladder_undo := ok_Ladder_undo (P := P) (base := base) T
    have b_Ladder_undo := bb_Ladder_undo T
    have G_parse_machine := ok_parse_machine (P := P) (base := base) T
    have b_parse_machine := bb_parse_machine T
    refine ⟨_, (pss_cons (ps_if (pt_cmpR op_eq (pv 1) pe_str (nomark _)) (pss_one (ps_expr (pe_meth (k_fld (K := K) rfl (pv 0) rfl) T.c_Ladder T.m_Ladder_add G_Ladder_add (hr.mono (by decide)) b_Ladder_add .nil (passes_call (takes_of rfl rfl rfl rfl) (fun _ _ _ _ h => h)) (pa_cons (pe_ix (k_ixL (K := K) rfl) (pv 2) pe_int (fun _ _ => rfl)) (pa_cons (pe_call G_parse_machine (hr.mono (by decide)) (by rfl) T.g_parse_machine T.F_parse_machine.kp b_parse_machine .nil pass0 (pa_cons (pe_ix (k_ixL (K := K) rfl) (pv 2) pe_int (fun _ _ => rfl)) pa_nil)) pa_nil))))) (pss_one (ps_if (pt_cmpR op_eq (pv 1) pe_str (nomark _)) (pss_one ps_never) (pss_one (ps_if (pt_cmpR op_eq (pv 1) pe_str (nomark _)) (pss_one (ps_expr (pe_meth (k_fld (K := K) rfl (pv 0) rfl) T.c_Ladder T.m_Ladder_remove G_Ladder_remove (hr.mono (by decide)) b_Ladder_remove .nil (passes_call (takes_of rfl rfl rfl rfl) (fun _ _ _ _ h => h)) (pa_cons (pe_ix (k_ixL (K := K) rfl) (pv 2) pe_int (fun _ _ => rfl)) pa_nil)))) (pss_one (ps_if (pt_cmpR op_eq (pv 1) pe_str (nomark _)) (pss_one (ps_expr (pe_meth0 (k_fld (K := K) rfl (pv 0) rfl) T.c_Ladder T.m_Ladder_undo G_Ladder_undo (hr.mono (by decide)) b_Ladder_undo .nil (passes_call (takes_of rfl rfl rfl rfl) (fun _ _ _ _ h => h))))) (pss_one (ps_if (pt_cmpR op_eq (pv 1) pe_str (nomark _)) (pss_one ps_never) (pss_one (ps_ret pe_bl)))))))))))
    (pss_one (ps_ret pe_bl))), ?_⟩
    cases l with
    | names =>
      walk_at "go"
      exact kf rfl H (Same.refl _)
    | add =>
      walk_at "go"
      refine ⟨rfl, fun m H1 s1 _ hm => ?_⟩
      have hF : ∀ a kvs, (a = p ∨ a = pl) → H1 a = some (.dK kvs) → False := fun a kvs z e => by
        rcases z with rfl | rfl
        · rw [s1 _ _ hp] at e
          cases e
        · rw [s1 _ _ hpl] at e
          cases e
      have hps1 : ∀ v ∈ ps, ∃ d kvs, v = .ref d ∧ H1 d = some (.dK kvs) ∧ okKv kvs := past_frm (Frm.of (F := fun _ => False) s1) (fun _ _ z => z.elim) hps
      walk_at "go"
      refine ⟨p, cd, pl, fl, kn, kvs, ps, "a", .ref m, rfl, ⟨dl, s1 _ _ hp⟩, s1 _ _ hc, s1 _ _ hpl, by omega, okKv_len okk, by decide +kernel, fun kvs' e cd' fl' H' f h1 h2 h3 h4 h5 h6 h7 => ?_, fun cls wd fd y e d H' f h1 h2 h3 => ?_⟩
      · walk_at "go"
        refine kt (by intro z; cases z) cd' fl' H' (fun a o h na => f a o (s1 _ _ h) fun z => na (z.elim .inl fun w => .inr (.inl w))) ⟨h2, ⟨kvs', h3, out_add okk e⟩, ⟨_, h4, by rw [List.length_append]; exact Nat.add_le_add_right lps 1, fun v hv => ?_⟩, ⟨[], h5, Nat.zero_le _⟩, h6⟩ (.inr (free_same s1 h7))
        rcases List.mem_append.mp hv with z | z
        · exact past_frm f hF hps1 v z
        · rw [List.mem_singleton.mp z]
          exact ⟨cd, kvs, rfl, f _ _ (s1 _ _ hc) (fun w => hF cd kvs w (s1 _ _ hc)), okk⟩
      · obtain ⟨q1, q2⟩ := out_er e
        have f2 : Frm (fun a => a = p ∨ a = pl) H1 H' := f.mono fun a z => .inl z
        have npl : ∀ {a o}, H1 a = some o → o ≠ HO.ins (He.ga K "Ladder") dl (ladF cd pl fl kn) → H' a = some o := fun {a o} q n => f a o q fun z => n (by
          rw [z, s1 _ _ hp] at q
          exact (Option.some.inj q).symm)
        exact ke cls wd d _ H' q1 h3 q2 ⟨cd, fl, fun a o h na => f a o (s1 _ _ h) fun z => na (.inl z), .inl rfl, h1, ⟨kvs, npl (s1 _ _ hc) (by intro z; cases z), okk⟩, ⟨ps, npl (s1 _ _ hpl) (by intro z; cases z), by omega, past_frm f2 hF hps1⟩, ⟨fs, npl (s1 _ _ hfl) (by intro z; cases z), by omega⟩, nfp⟩
    | rem =>
      have hF : ∀ a kvs, (a = p ∨ a = pl) → H a = some (.dK kvs) → False := fun a kvs z e => by
        rcases z with rfl | rfl
        · rw [hp] at e
          cases e
        · rw [hpl] at e
          cases e
      walk_at "go"
      refine ⟨p, cd, pl, fl, kn, kvs, ps, "a", rfl, ⟨dl, hp⟩, hc, hpl, by omega, okKv_len okk, by decide +kernel, fun kvs' e cd' fl' H' f h1 h2 h3 h4 h5 h6 h7 v ev => ?_, fun cls wd fd y e d H' f h1 h2 h3 => ?_⟩
      · walk_at "go"
        refine kt (by intro z; cases z) cd' fl' H' (fun a o h na => f a o h fun z => na (z.elim .inl fun w => .inr (.inl w))) ⟨h2, ⟨kvs', h3, out_rem okk e⟩, ⟨_, h4, by rw [List.length_append]; exact Nat.add_le_add_right lps 1, fun v hv => ?_⟩, ⟨[], h5, Nat.zero_le _⟩, h6⟩ (.inr h7)
        rcases List.mem_append.mp hv with z | z
        · exact past_frm f hF hps v z
        · rw [List.mem_singleton.mp z]
          exact ⟨cd, kvs, rfl, f _ _ hc (fun w => hF cd kvs w hc), okk⟩
      · obtain ⟨q1, q2⟩ := out_er e
        have f2 : Frm (fun a => a = p ∨ a = pl) H H' := f.mono fun a z => .inl z
        have npl : ∀ {a o}, H a = some o → o ≠ HO.ins (He.ga K "Ladder") dl (ladF cd pl fl kn) → H' a = some o := fun {a o} q n => f a o q fun z => n (by
          rw [z, hp] at q
          exact (Option.some.inj q).symm)
        exact ke cls wd d _ H' q1 h3 q2 ⟨cd, fl, fun a o h na => f a o h fun z => na (.inl z), .inl rfl, h1, ⟨kvs, npl hc (by intro z; cases z), okk⟩, ⟨ps, npl hpl (by intro z; cases z), by omega, past_frm f2 hF hps⟩, ⟨fs, npl hfl (by intro z; cases z), by omega⟩, nfp⟩
    | undo =>
      have hF : ∀ a kvs, (a = p ∨ a = pl ∨ a = fl) → H a = some (.dK kvs) → False := fun a kvs z e => by
        rcases z with rfl | rfl | rfl
        · rw [hp] at e
          cases e
        · rw [hpl] at e
          cases e
        · rw [hfl] at e
          cases e
      have hps2 : ps = [] ∨ ∃ qs cd', ps = qs ++ [V.ref cd'] := by
        rcases List.eq_nil_or_concat ps with z | ⟨qs, v, z⟩
        · exact .inl z
        · rw [List.concat_eq_append] at z
          obtain ⟨d, kv2, rfl, _⟩ := hps v (by rw [z]; simp)
          exact .inr ⟨qs, d, z⟩
      walk_at "go"
      refine ⟨p, cd, pl, fl, kn, ps, fs, rfl, ⟨dl, hp⟩, hpl, hfl, nfp, by omega, by omega, fun qs cd' e H' f h1 h2 h3 => ?_, fun e d H' s1 hd hx => ?_, hps2⟩
      · walk_at "go"
        have hps3 := past_frm f hF hps
        rw [e] at hps3 lps
        rw [List.length_append] at lps
        obtain ⟨d, kv2, ed, q, okq⟩ := hps3 (.ref cd') (by simp)
        cases ed
        exact kt (by intro z; cases z) cd' fl H' f ⟨h1, ⟨kv2, q, okq⟩, ⟨qs, h2, by omega, fun v hv => hps3 v (List.mem_append.mpr (.inl hv))⟩, ⟨_, h3, by rw [List.length_append]; exact Nat.add_le_add_right lfs 1⟩, nfp⟩ (.inl rfl)
      · exact ke "NothingLeft" "nothingleft" d [] H' (.inr (.inr (.inr (.inr rfl)))) hx (by decide +kernel) ⟨cd, fl, Frm.of s1, .inl rfl, ⟨dl, s1 _ _ hp⟩, ⟨kvs, s1 _ _ hc, okk⟩, ⟨ps, s1 _ _ hpl, by omega, past_frm (Frm.of (F := fun _ => False) s1) (fun _ _ z => z.elim) hps⟩, ⟨fs, s1 _ _ hfl, by omega⟩, nfp⟩
end
section
variable {P : Program} {w : World} {K : PySem.W.Frag} {mg : Str → Option Value} {base : Heap}
/-! ### Shell.answer -/
/-- every error is caught -/
theorem takesNo {X : Cx} : Takes X (fun _ _ _ _ => False) := fun u s' xx => by
  obtain ⟨_, _, _, _, _, _, _, _, _, _, _, _, _, _, _, _, w⟩ := xx
  exact w.elim
def Lin.text : Lin → Str
  | .add => "add a ab 0 | 0.0 0.1"
  | .rem => "remove a"
  | .undo => "undo"
  | .names => "names"
def Lin.raw : Lin → List Str
  | .add => ["a", "ab", "0", "|", "0.0", "0.1"]
  | .rem => ["a"]
  | .undo => []
  | .names => []
theorem split_l (l : Lin) : Txt.split l.text " " = l.word :: l.raw := by
  cases l <;> decide +kernel
theorem cnt_l (T : Tx w mg K) (l : Lin) : ∃ u, PySem.W.nsIn K (He.ga K "COUNTS_shell") l.word = some (some u) ∧ RelV (.int (1 + ((l.rest.map V.str).length : Nat))) u := by
  cases l with
  | add => exact T.v_COUNTS_shell_add
  | rem => exact T.v_COUNTS_shell_remove
  | undo => exact T.v_COUNTS_shell_undo
  | names => exact T.v_COUNTS_shell_names
theorem lads_same {H H' : Hp} {p cd pl fl kn : Addr} {n m : Nat} (s : Same H H') (nm : n ≤ m) (h : LadS K H p cd pl fl kn n) : LadS K H' p cd pl fl kn m := by
  obtain ⟨⟨dl, h1⟩, ⟨kvs, h2, okk⟩, ⟨ps, h3, lps, hps⟩, ⟨fs, h4, lfs⟩, nfp⟩ := h
  exact ⟨⟨dl, s _ _ h1⟩, ⟨kvs, s _ _ h2, okk⟩, ⟨ps, s _ _ h3, Nat.le_trans lps nm, past_frm (Frm.of (F := fun _ => False) s) (fun _ _ z => z.elim) hps⟩, ⟨fs, s _ _ h4, Nat.le_trans lfs nm⟩, nfp⟩
def sp_Shell_answer (K : PySem.W.Frag) : Sp := fun vs H Q _ => ∃ (s p el cd pl fl kn : Addr) (n : Nat) (l : Lin), vs = [.ref s, .str l.text] ∧ ShO K H s p el ∧ LadS K H p cd pl fl kn n ∧ n < 500 ∧
  ∀ (x : Str) (cd' fl' : Addr) (H' : Hp), Frm (fun a => a = p ∨ a = pl ∨ a = fl) H H' → LadS K H' p cd' pl fl' kn (n + 1) → (fl' = fl ∨ H fl' = none) → x.length ≤ 200 → Q (.str x) H'
abbrev NS_Shell_answer : List Str := ["self", "line", "word", "rest", "e"]
theorem sc_Shell_answer : FnScope NS_Shell_answer ["self", "line"] (defScope s_Shell_answer) := ⟨rfl, rfl, rfl, by decide +kernel, rfl, by decide +kernel, by decide +kernel⟩
theorem bb_Shell_answer {w : World} {mg : Str → Option Value} {K : PySem.W.Frag} (T : Tx w mg K) : Binds K (fdOf K (He.fAd K d_Shell_answer.at_)) ["self", "line"] [] := FunD.bindsN T.F_Shell_answer fun _ _ _ _ _ _ us hl => match us, hl with | [_, _], _ => rfl
theorem ok_Shell_answer (T : Tx w mg K) : FnOk P w K mg base CX0 8 (He.ma K (He.ga K "Shell") "answer") (fdOf K (He.fAd K d_Shell_answer.at_)) ["self", "line"] (sp_Shell_answer K) := by
  refine FunD.ok (CX := CX0) (k := 7) T.F_Shell_answer sc_Shell_answer (fun vs H Q E h => ?_) (fun cdv A outer s H vs Q E hr h => ?_)
  · obtain ⟨s, p, el, cd, pl, fl, kn, n, l, rfl, _⟩ := h
    rfl
  · obtain ⟨s, p, el, cd, pl, fl, kn, n, l, rfl, ⟨dx, hs⟩, hL, n5, k⟩ := h
    have cS := T.c_Shell
    have n1 := T.n_Shell_place
    have G_Shell_command := ok_Shell_command (P := P) (base := base) T
    have b_Shell_command := bb_Shell_command T
    have G_Shell_query := ok_Shell_query (P := P) (base := base) T
    have b_Shell_query := bb_Shell_query T
    refine ⟨_, PSs.nox (pss_cons (ps_asg (pe_split (pv 1) pe_str) (pg_star rfl (pgs_cons (pg_name (i := 2) sc_Shell_answer.nd rfl (.inl rfl)) (pgs_star (pg_name (i := 3) sc_Shell_answer.nd rfl (.inl rfl)) pgs_nil))))
    (pss_cons (ps_if (PW.pt (pw_and (pt_cmpR (k_inS (K := K) rfl) (pv 2) (pe_tup (pa_cons pe_str (pa_cons pe_str pa_nil))) (by rfl)) (pw_and1 (pt_cmpR op_gt (pe_callB (k_len (K := K) rfl) (by rfl) T.f_len (by decide +kernel) (pa_cons (pv 3) pa_nil)) pe_int (nomark _))))) (pss_one (ps_set (i := 3) sc_Shell_answer.nd rfl (.inl rfl) (pe_lst (pa_cons (pe_ix (k_ixL (K := K) rfl) (pv 3) pe_int (fun _ _ => rfl)) (pa_cons (pe_join pe_str (pe_slice sl_list (pv 3) (po_some pe_int) po_none)) pa_nil))))) pss_nil)
    (pss_cons (ps_if (PW.pt (pw_or (pt_cmpR op_ne (pe_kget2 T.t_COUNTS_shell.choose_spec.choose_spec (pe_glob (v := .ref (He.ga K "COUNTS_shell")) (by rfl) T.g_COUNTS_shell rfl) (pv 2) pe_int ⟨rfl, rfl, rfl, rfl⟩) (pe_op op_add pe_int (pe_callB (k_len (K := K) rfl) (by rfl) T.f_len (by decide +kernel) (pa_cons (pv 3) pa_nil))) (nomark _)) (pw_or (pt_cmpR (k_inS (K := K) rfl) pe_str (pv 3) (by rfl)) (pw_or1 (PW.pt (pw_and (pt_cmpR (op_neD hr.units) (pe_slice sl_list (pv 3) (po_some (pe_un un_neg pe_int)) po_none) (pe_lst pa_nil) (nomark _)) (pw_and1 (pt_cmpR op_eq (pe_ix ix_str (pe_ix (k_ixL (K := K) rfl) (pv 3) (pe_un un_neg pe_int) (fun _ _ => rfl)) pe_int (fun _ _ => rfl)) pe_str (nomark _))))))))) (pss_one (ps_ret (pe_glob (v := .str "unknown") (by rfl) T.z_UNKNOWN.choose_spec ⟨_, rfl⟩))) pss_nil)
    (pss_one (ps_clauses (tb := fun W => tRet (tIf (tB (tMethT (He.ga K "Shell") "command" (sp_Shell_command K) (WE W) (tVar 0) (tCons (tVar 2) (tCons (tVar 3) tNil)))) (tC (.str "done")) (tMeth (He.ga K "Shell") "query" (sp_Shell_query K) [] E0 (tVar 0) (tCons (tVar 2) (tCons (tVar 3) tNil))))) rfl rfl sc_Shell_answer.nd takesNo (fun W pn xe tk po => pss_one (ps_ret (pe_ifExp (pt_val (pe_methT (pv 0) T.c_Shell T.m_Shell_command G_Shell_command (hr.mono (by decide)) b_Shell_command (fun σ => passAt tk σ) (pa_cons (pv 2) (pa_cons (pv 3) pa_nil)))) pe_str (pe_meth (pv 0) T.c_Shell T.m_Shell_query G_Shell_query (hr.mono (by decide)) b_Shell_query .nil pass0 (pa_cons (pv 2) (pa_cons (pv 3) pa_nil)))))) (.cons (i := 4) (ts := fun a cls d => tRet (fun σ H Q => tJs [tC (.str "error "), tFmt (tXfA K a cls d "word" (tVar 4))] Str.empty σ H fun out H1 => Q (.str out) H1)) (test_one ⟨by rfl, by decide +kernel, .inl T.g_EchoError⟩) rfl rfl (fun a oe cls d pn hz hf => pss_one (ps_ret (pe_joined (.cons pe_str (.cons (pe_fmt (pe_xfA rfl hz hf (pv 4))) .nil))))) (.cons (i := 4) (ts := fun a cls d => tRet (fun σ H Q => tJs [tC (.str "error "), tFmt (tXfA K a cls d "word" (tVar 4))] Str.empty σ H fun out H1 => Q (.str out) H1)) (test_one ⟨by rfl, by decide +kernel, .inl T.g_NotFound⟩) rfl rfl (fun a oe cls d pn hz hf => pss_one (ps_ret (pe_joined (.cons pe_str (.cons (pe_fmt (pe_xfA rfl hz hf (pv 4))) .nil))))) .nil))))))), ?_⟩
    refine r_join (fun σ' H' => Same H H' ∧ ∃ rl, σ' = [some (.ref s), some (.str l.text), some (.str l.word), some (.ref rl), none] ∧ H' rl = some (.lst (l.raw.map V.str))) ?_ ?_
    · rintro σ' H1 ⟨s1, rl, rfl, hrl⟩
      refine r_join (fun σ' H' => Same H H' ∧ ∃ rl, σ' = [some (.ref s), some (.str l.text), some (.str l.word), some (.ref rl), none] ∧ H' rl = some (.lst (l.rest.map V.str))) ?_ ?_
      · rintro σ' H2 ⟨s2, rl2, rfl, hrl2⟩
        refine r_join (fun σ' H' => Same H H' ∧ σ' = [some (.ref s), some (.str l.text), some (.str l.word), some (.ref rl2), none] ∧ H' rl2 = some (.lst (l.rest.map V.str))) ?_ ?_
        · rintro σ' H3 ⟨s3, rfl, hrl3⟩
          dsimp only
          walk_at "go"
          have hs3 := s3 _ _ hs
          have hL3 : LadS K H3 p cd pl fl kn n := by
            obtain ⟨⟨dl, h1⟩, ⟨kvs, h2, okk⟩, ⟨ps, h3, lps, hps⟩, ⟨fs, h4, lfs⟩, nfp⟩ := hL
            exact ⟨⟨dl, s3 _ _ h1⟩, ⟨kvs, s3 _ _ h2, okk⟩, ⟨ps, s3 _ _ h3, lps, past_frm (Frm.of (F := fun _ => False) s3) (fun _ _ z => z.elim) hps⟩, ⟨fs, s3 _ _ h4, lfs⟩, nfp⟩
          refine ⟨s, p, el, cd, pl, fl, kn, rl2, n, l, rfl, hrl3, ⟨dx, hs3⟩, hL3, n5, fun nl cd' fl' H' f q n7 => ?_, fun e H' s4 => ?_, fun cls wd d fs H' hc hx lw ⟨cd', fl', f, n7, q⟩ => ?_⟩
          · walk_at "go"
            exact k _ cd' fl' H' (fun a o h na => f a o (s3 _ _ h) na) q (n7.imp id (free_same s3)) (by decide +kernel)
          · subst e
            have hs4 := s4 _ _ hs3
            walk_at "go"
            refine ⟨s, p, el, cd, pl, fl, kn, rl2, n, rfl, ⟨dx, hs4⟩, lads_same s4 (Nat.le_refl n) hL3, fun x H5 s5 lx => ?_⟩
            exact k x cd fl H5 (Frm.of (s3.trans (s4.trans s5))) (lads_same (s4.trans s5) (Nat.le_succ n) hL3) (.inl rfl) (by omega)
          · have hand : ∀ (C : Addr) (a : Addr), XfC K C → PySem.W.findIn K (.ref C) "word" = some none → tRet (fun σ H Q => tJs [tC (.str "error "), tFmt (tXfA K a (.ref C) (some d) "word" (tVar 4))] Str.empty σ H fun out H1 => Q (.str out) H1) { nx := fun σ' H'' => Q .non H'', rt := Q } ([some (.ref s), some (.str l.text), some (.str l.word), some (.ref rl2), none].set 4 (some (.ref a))) H' := fun C a xc nf => by
              refine r_ret ?_
              refine ⟨"error ", rfl, by decide +kernel, ?_⟩
              refine ⟨_, rfl, rfl, C, d, _, .str wd, rfl, xc, nf, rfl, hx, rfl, .inl ⟨wd, rfl, by rw [szl]; omega, ?_⟩⟩
              have ll : (Str.empty ++ "error " ++ wd).length ≤ 26 := by
                rw [Str.length_append]
                have e6 : (Str.empty ++ ("error " : Str)).length = 6 := by decide +kernel
                rw [e6]
                omega
              refine ⟨wd, rfl, by rw [szl]; omega, ?_⟩
              exact k _ cd' fl' H' (fun a o h na => f a o (s3 _ _ h) na) q (n7.imp id (free_same s3)) (by omega)
            rcases hc with rfl | rfl | rfl | rfl | rfl
            · exact ⟨true, T.x_InvalidName_EchoError, fun _ a _ => hand _ a T.q_InvalidName T.n_InvalidName_word, fun z => by cases z⟩
            · exact ⟨true, T.x_DuplicateName_EchoError, fun _ a _ => hand _ a T.q_DuplicateName T.n_DuplicateName_word, fun z => by cases z⟩
            · exact ⟨true, T.x_LimitExceeded_EchoError, fun _ a _ => hand _ a T.q_LimitExceeded T.n_LimitExceeded_word, fun z => by cases z⟩
            · exact ⟨false, T.x_UnknownName_EchoError, (fun z => nomatch z), fun _ => ⟨true, T.x_UnknownName_NotFound, fun _ a _ => hand _ a T.q_UnknownName T.n_UnknownName_word, fun z => by cases z⟩⟩
            · exact ⟨true, T.x_NothingLeft_EchoError, fun _ a _ => hand _ a T.q_NothingLeft T.n_NothingLeft_word, fun z => by cases z⟩
        · intro N hN
          obtain ⟨u, e1, e2⟩ := cnt_l T l
          walk_at "go"
          refine ⟨l.word, some u, _, rfl, e1, (fun u0 e => (Option.some.inj e) ▸ e2), (fun e => nomatch e), ?_⟩
          walk_at "go"
          refine ⟨rl2, l.rest.map V.str, rfl, .inl (SqL.of hrl2), rfl, by cases l <;> decide +kernel, ?_⟩
          rw [if_neg (by decide), show inV (.str "") (l.rest.map V.str) = false by cases l <;> decide +kernel]
          walk_at "go"
          intro p1 hp1
          have hrl3 := hp_old (o := .lst (cutV (l.rest.map V.str) (some (-1)) none)) hp1 hrl2
          walk_at "go"
          intro q1 hq1
          have hrl4 := hp_old (o := HO.lst []) hq1 hrl3
          have hcut := hp_old (o := HO.lst []) hq1 (upd_same (H := H2) (a := p1) (o := .lst (cutV (l.rest.map V.str) (some (-1)) none)))
          have S4 : Same H (upd (upd H2 p1 (.lst (cutV (l.rest.map V.str) (some (-1)) none))) q1 (.lst [])) := K70.Same.new (K70.Same.new s2 hp1) hq1
          have hnil := upd_same (H := upd H2 p1 (.lst (cutV (l.rest.map V.str) (some (-1)) none))) (a := q1) (o := HO.lst [])
          generalize upd (upd H2 p1 (.lst (cutV (l.rest.map V.str) (some (-1)) none))) q1 (.lst []) = H5 at hrl4 hcut S4 hnil ⊢
          have sh0 : SeqAt.shaped (.list []) = true := by decide +kernel
          have last : ∀ (z : Str) (c : Nat), cutV (l.rest.map V.str) (some (-1)) none = [.str z] → PyData.strOk z = true → atI (l.rest.map V.str) (-1) = some (.str z) → z.length ≤ sizeLine → atI z.cps.toList 0 = some c → (⟨#[c]⟩ : Str) ≠ " " → rNeD K (.ref p1) (.ref q1) H5 fun x H' => ∃ b, x = V.bl b ∧ if b = true then tTest (tOp rEq (tOp rIxS (tOp (rIxL K) (tVar 3) (tUn (rU fun i => V.int (-i)) (tC (V.int 1)))) (tC (V.int 0))) (tC (V.str " "))) [some (V.ref s), some (V.str l.text), some (V.str l.word), some (V.ref rl2), none] H' fun b H1 =>
              if b = true then tRet (tC (V.str "unknown")) { nx := N, rt := Q } [some (V.ref s), some (V.str l.text), some (V.str l.word), some (V.ref rl2), none] H1 else tNext { nx := N, rt := Q } [some (V.ref s), some (V.str l.text), some (V.str l.word), some (V.ref rl2), none] H1
              else if false = true then tRet (tC (V.str "unknown")) { nx := N, rt := Q } [some (V.ref s), some (V.str l.text), some (V.str l.word), some (V.ref rl2), none] H' else tNext { nx := N, rt := Q } [some (V.ref s), some (V.str l.text), some (V.str l.word), some (V.ref rl2), none] H' := fun z c ec oz ea lz ez nz => by
            rw [ec] at hcut
            refine ⟨.list [.str z], .list [], .lst (SqL.of hcut) (.cons (.str _) .nil), .lst (SqL.of hnil) .nil, sh_ok (n := 1) (sh_list fun d hd => by rw [List.mem_singleton.mp hd]; exact sh_str oz) (by decide), sh0, ?_⟩
            rw [show PyData.eqv (.list [.str z]) (.list []) = false by simp [PyData.eqv, PyData.eqvAll]]
            walk_at "go"
            refine r_ixL (SqL.of hrl4) ea ?_
            walk_at "go"
            refine r_ixS lz ez ?_
            walk_at "go"
            exact hN _ _ ⟨S4, rfl, hrl4⟩
          cases l with
          | add => exact last lineM 97 rfl (by decide +kernel) rfl (by decide +kernel) rfl (by decide +kernel)
          | rem => exact last "a" 97 rfl (by decide +kernel) rfl (by decide +kernel) rfl (by decide +kernel)
          | undo =>
            refine ⟨.list [], .list [], .lst (SqL.of hcut) .nil, .lst (SqL.of hnil) .nil, sh0, sh0, ?_⟩
            rw [SeqAt.eqv_refl _ (SeqAt.canLay_of_shaped sh0)]
            walk_at "go"
            exact hN _ _ ⟨S4, rfl, hrl4⟩
          | names =>
            refine ⟨.list [], .list [], .lst (SqL.of hcut) .nil, .lst (SqL.of hnil) .nil, sh0, sh0, ?_⟩
            rw [SeqAt.eqv_refl _ (SeqAt.canLay_of_shaped sh0)]
            walk_at "go"
            exact hN _ _ ⟨S4, rfl, hrl4⟩
      · intro N hN
        walk_at "go"
        intro p1 hp1
        have hrl1 := hp_old (o := .tup [V.str "add", V.str "replace"]) hp1 hrl
        have s2 : Same H (upd H1 p1 (.tup [V.str "add", V.str "replace"])) := K70.Same.new s1 hp1
        refine ⟨p1, [.str "add", .str "replace"], rfl, .inr (SqT.of upd_same), rfl, rfl, ?_⟩
        rw [if_neg (by decide)]
        cases l with
        | add =>
          rw [show inV (.str Lin.add.word) [.str "add", .str "replace"] = true by decide +kernel]
          walk_at "go"
          intro c hc
          have ec : cutV (Lin.add.raw.map V.str) (some 1) none = ([("ab" : Str), "0", "|", "0.0", "0.1"] : List Str).map V.str := rfl
          rw [ec]
          have e5 : Txt.join " " ([("ab" : Str), "0", "|", "0.0", "0.1"] : List Str) = lineM := by decide +kernel
          refine ⟨" ", c, ([("ab" : Str), "0", "|", "0.0", "0.1"] : List Str), rfl, rfl, .inl (SqL.of upd_same), by decide +kernel, ?_⟩
          rw [e5]
          walk_at "go"
          intro q hq
          walk_at "go"
          exact hN _ _ ⟨K70.Same.new (K70.Same.new s2 hc) hq, q, rfl, upd_same⟩
        | rem =>
          rw [show inV (.str Lin.rem.word) [.str "add", .str "replace"] = false by decide +kernel]
          walk_at "go"
          exact hN _ _ ⟨s2, rl, rfl, hrl1⟩
        | undo =>
          rw [show inV (.str Lin.undo.word) [.str "add", .str "replace"] = false by decide +kernel]
          walk_at "go"
          exact hN _ _ ⟨s2, rl, rfl, hrl1⟩
        | names =>
          rw [show inV (.str Lin.names.word) [.str "add", .str "replace"] = false by decide +kernel]
          walk_at "go"
          exact hN _ _ ⟨s2, rl, rfl, hrl1⟩
    · intro N hN
      walk_at "go"
      refine x_split (by decide +kernel) (by cases l <;> decide +kernel) ?_
      rw [split_l]
      intro a1 ha1
      refine ⟨a1, .str l.word :: l.raw.map V.str, rfl, .inl (SqL.of upd_same), Nat.le_add_left 1 _, fun rl hrl => ?_⟩
      change gCons (gName 2) (gCons (gName 3) gNil) [V.str l.word, V.ref rl] _ (upd _ rl (.lst (l.raw.map V.str))) _
      walk_at "go"
      exact hN _ _ ⟨K70.Same.new (K70.Same.new1 ha1) hrl, rl, rfl, upd_same⟩
end
section
variable {P : Program} {w : World} {K : PySem.W.Frag} {mg : Str → Option Value} {base : Heap}
/-! ### Shell.run -/
def sp_Shell_run (K : PySem.W.Frag) : Sp := fun vs H Q _ => ∃ (s p el cd pl fl kn : Addr) (n : Nat) (l : Lin) (es : List V), vs = [.ref s, .str l.text] ∧ ShO K H s p el ∧ LadS K H p cd pl fl kn n ∧ n < 500 ∧ H el = some (.lst es) ∧ es.length < 1000 ∧ el ≠ pl ∧ el ≠ fl ∧ s ≠ p ∧
  ∀ (v u : V) (cd' fl' : Addr) (H' : Hp), Frm (fun a => a = p ∨ a = pl ∨ a = fl ∨ a = el) H H' → LadS K H' p cd' pl fl' kn (n + 1) → (fl' = fl ∨ H fl' = none) → H' el = some (.lst (es ++ [u])) → Q v H'
abbrev NS_Shell_run : List Str := ["self", "line", "found"]
theorem sc_Shell_run : FnScope NS_Shell_run ["self", "line"] (defScope s_Shell_run) := ⟨rfl, rfl, rfl, by decide +kernel, rfl, by decide +kernel, by decide +kernel⟩
theorem bb_Shell_run {w : World} {mg : Str → Option Value} {K : PySem.W.Frag} (T : Tx w mg K) : Binds K (fdOf K (He.fAd K d_Shell_run.at_)) ["self", "line"] [] := FunD.bindsN T.F_Shell_run fun _ _ _ _ _ _ us hl => match us, hl with | [_, _], _ => rfl
theorem ok_Shell_run (T : Tx w mg K) : FnOk P w K mg base CX0 9 (He.ma K (He.ga K "Shell") "run") (fdOf K (He.fAd K d_Shell_run.at_)) ["self", "line"] (sp_Shell_run K) := by
  refine FunD.ok (CX := CX0) (k := 8) T.F_Shell_run sc_Shell_run (fun vs H Q E h => ?_) (fun cdv A outer s H vs Q E hr h => ?_)
  · obtain ⟨s, p, el, cd, pl, fl, kn, n, l, es, rfl, _⟩ := h
    rfl
  · obtain ⟨s, p, el, cd, pl, fl, kn, n, l, es, rfl, ⟨dx, hs⟩, hL, n5, hel, l1, nep, nef, nsp, k⟩ := h
    have cS := T.c_Shell
    have n2 := T.n_Shell_entries
    have hL0 := hL
    obtain ⟨⟨dl, hp⟩, _, ⟨ps, hpl, _, _⟩, ⟨fs, hfl, _⟩, _⟩ := hL0
    have G_Shell_answer := ok_Shell_answer (P := P) (base := base) T
    have b_Shell_answer := bb_Shell_answer T
    refine ⟨_, PSs.nox (pss_cons (ps_set (i := 2) sc_Shell_run.nd rfl (.inl rfl) (pe_meth (pv 0) T.c_Shell T.m_Shell_answer G_Shell_answer (hr.mono (by decide)) b_Shell_answer .nil pass0 (pa_cons (pv 1) pa_nil)))
    (pss_cons (ps_expr (k_bm (K := K) rfl PySem.F.plainAttrs_list PySem.F.slot_list_append PySem.F.type_list_append mt_append (k_fld (K := K) rfl (pv 0) rfl) (pa_cons (pe_tup (pa_cons (pv 1) (pa_cons (pv 2) pa_nil))) pa_nil)))
    (pss_one (ps_ret (pv 2))))), ?_⟩
    walk_at "go"
    refine ⟨s, p, el, cd, pl, fl, kn, n, l, rfl, ⟨dx, hs⟩, hL, n5, fun x cd' fl' H1 f q n7 lx => ?_⟩
    have nss : ¬ (s = p ∨ s = pl ∨ s = fl) := fun z => by
      rcases z with z | rfl | rfl
      · exact nsp z
      · rw [hs] at hpl
        cases hpl
      · rw [hs] at hfl
        cases hfl
    have nee : ¬ (el = p ∨ el = pl ∨ el = fl) := fun z => by
      rcases z with rfl | z | z
      · rw [hel] at hp
        cases hp
      · exact nep z
      · exact nef z
    have hs1 := f _ _ hs nss
    have hel1 := f _ _ hel nee
    walk_at "go"
    intro c hc
    have hel2 := hp_old (o := .tup [.str l.text, .str x]) hc hel1
    walk_at "go"
    have S : Same H1 (upd H1 c (.tup [.str l.text, .str x])) := K70.Same.new1 hc
    obtain ⟨⟨dl2, r1⟩, ⟨kv, r2, okv⟩, ⟨qs, r3, lq, hq⟩, ⟨gs, r4, lg⟩, nn⟩ := q
    have off : ∀ {a o}, H1 a = some o → o ≠ HO.lst es → (upd (upd H1 c (.tup [.str l.text, .str x])) el (.lst (es ++ [.ref c]))) a = some o := fun {a o} e n => hp_ne (fun z => n (by
      rw [z, hel1] at e
      exact (Option.some.inj e).symm)) (S _ _ e)
    have npe : pl ≠ el := Ne.symm nep
    refine k (.str x) (.ref c) cd' fl' _ (fun a o h na => ?_) ⟨⟨dl2, off r1 (by intro z; cases z)⟩, ⟨kv, off r2 (by intro z; cases z), okv⟩, ⟨qs, hp_ne npe (S _ _ r3), lq, fun v hv => ?_⟩, ⟨gs, hp_ne ?_ (S _ _ r4), lg⟩, nn⟩ n7 upd_same
    · have n1 : a ≠ el := fun z => na (.inr (.inr (.inr z)))
      exact hp_ne n1 (S _ _ (f _ _ h fun z => na (by rcases z with z | z | z; exact .inl z; exact .inr (.inl z); exact .inr (.inr (.inl z)))))
    · obtain ⟨d, kv2, e, r, o⟩ := hq v hv
      exact ⟨d, kv2, e, off r (by intro z; cases z), o⟩
    · rcases n7 with z | z
      · rw [z]
        exact Ne.symm nef
      · exact Ne.symm (ne_of_none hel z)
end
section
variable {P : Program} {w : World} {K : PySem.W.Frag} {mg : Str → Option Value} {base : Heap}
/-! ### _law_same: equal data -/
theorem k_ixQ {X : Cx} (h : X.K = K) : IxR X (rIx K) := h ▸ ix_seq
/-- equal data that it calls the same -/
def okD : Nat → PyData → Prop
  | 0, _ => False
  | _ + 1, .none => True
  | _ + 1, .int _ => True
  | _ + 1, .str _ => True
  | n + 1, .list ds => ds.length < 1000 ∧ ∀ d ∈ ds, okD n d
  | n + 1, .tuple ds => ds.length < 1000 ∧ ∀ d ∈ ds, okD n d
  | _ + 1, _ => False
theorem okD_mono : ∀ {n m : Nat} {d : PyData}, n ≤ m → okD n d → okD m d
  | 0, _, _, _, h => h.elim
  | n + 1, 0, _, l, _ => absurd l (by omega)
  | n + 1, m + 1, d, l, h => by
    cases d with
    | none => trivial
    | int i => trivial
    | str x => trivial
    | list ds => exact ⟨h.1, fun d hd => okD_mono (by omega) (h.2 d hd)⟩
    | tuple ds => exact ⟨h.1, fun d hd => okD_mono (by omega) (h.2 d hd)⟩
    | bool b => exact h.elim
    | dict es => exact h.elim
theorem x_isi {H : Hp} {x : V} {n m : String} {b : Bool} {Q : VK} (ty : TyX K H x (.type m)) (e : kitB m n = some b) (k : Q (.bl b) H) : rIsi K [x, .ty n] H Q := ⟨x, .ty n, .type m, .type n, b, rfl, .ty n, ty, kit_ty e, k⟩
theorem ty_sqL {H : Hp} {a : Addr} {xs : List V} (h : SqL K H a xs) : TyX K H (.ref a) (.type "list") := by
  rcases h with (h | ⟨o, h⟩) | h
  · exact .base (.lst h)
  · exact .base (.frz h)
  · obtain ⟨o, _, _, h, c, _⟩ := h
    exact .kList h c
theorem ty_sqT {H : Hp} {a : Addr} {xs : List V} (h : SqT K H a xs) : TyX K H (.ref a) (.type "tuple") := by
  rcases h with (h | ⟨o, h⟩) | h
  · exact .base (.tup h)
  · exact .fTuple h
  · obtain ⟨o, _, _, h, c, _⟩ := h
    exact .kTuple h c
theorem kb_int_bool : kitB "int" "bool" = some false := by decide +kernel
theorem kb_str_bool : kitB "str" "bool" = some false := by decide +kernel
theorem kb_list_bool : kitB "list" "bool" = some false := by decide +kernel
theorem kb_tuple_bool : kitB "tuple" "bool" = some false := by decide +kernel
theorem kb_int_int : kitB "int" "int" = some true := by decide +kernel
theorem kb_str_int : kitB "str" "int" = some false := by decide +kernel
theorem kb_list_int : kitB "list" "int" = some false := by decide +kernel
theorem kb_tuple_int : kitB "tuple" "int" = some false := by decide +kernel
theorem kb_int_str : kitB "int" "str" = some false := by decide +kernel
theorem kb_str_str : kitB "str" "str" = some true := by decide +kernel
theorem kb_list_str : kitB "list" "str" = some false := by decide +kernel
theorem kb_tuple_str : kitB "tuple" "str" = some false := by decide +kernel
theorem kb_list_dict : kitB "list" "dict" = some false := by decide +kernel
theorem kb_tuple_dict : kitB "tuple" "dict" = some false := by decide +kernel
theorem kb_list_tuple : kitB "list" "tuple" = some false := by decide +kernel
theorem kb_tuple_tuple : kitB "tuple" "tuple" = some true := by decide +kernel
theorem kb_list_list : kitB "list" "list" = some true := by decide +kernel
theorem kb_tuple_list : kitB "tuple" "list" = some false := by decide +kernel
local macro_rules | `(tactic| walk_at "kb") => `(tactic| first | exact kb_int_bool | exact kb_str_bool | exact kb_list_bool | exact kb_tuple_bool | exact kb_int_int | exact kb_str_int | exact kb_list_int | exact kb_tuple_int | exact kb_int_str | exact kb_str_str | exact kb_list_str | exact kb_tuple_str | exact kb_list_dict | exact kb_tuple_dict | exact kb_list_tuple | exact kb_tuple_tuple | exact kb_list_list | exact kb_tuple_list)
local macro_rules | `(tactic| walk_at "go1") => `(tactic| ((with_reducible refine' x_isi ?h1 ?h2 ?_); (case h1 => assumption); (case h2 => walk_at "kb")))
def sp_l_same (K : PySem.W.Frag) (n : Nat) : Sp := fun vs H Q _ => ∃ (x y : V) (d : PyData), vs = [x, y] ∧ Dp K H x d ∧ Dp K H y d ∧ okD n d ∧ ∀ H', Same H H' → Q (.bl true) H'
abbrev NS_l_same : List Str := ["_law_found", "_law_due", "_law_key", "_law_k"]
theorem sc_l_same : FnScope NS_l_same ["_law_found", "_law_due"] (defScope s_l_same) := ⟨rfl, rfl, rfl, by decide +kernel, rfl, by decide +kernel, by decide +kernel⟩
theorem bb_l_same {w : World} {mg : Str → Option Value} {K : PySem.W.Frag} (T : Tx w mg K) : Binds K (fdOf K (He.fAd K d_l_same.at_)) ["_law_found", "_law_due"] [] := FunD.bindsN T.F_l_same fun _ _ _ _ _ _ us hl => match us, hl with | [_, _], _ => rfl
theorem same_go {n : Nat} {a b : Addr} {xs ys : List V} {ds : List PyData} {H : Hp} {Q : VK} (ix : ∀ (i : Nat) (v : V) (H1 : Hp) (Q1 : VK), Same H H1 → xs[i]? = some v → Q1 v H1 → rIx K (.ref a) (.int (0 + (i : Int))) H1 Q1) (iy : ∀ (i : Nat) (v : V) (H1 : Hp) (Q1 : VK), Same H H1 → ys[i]? = some v → Q1 v H1 → rIx K (.ref b) (.int (0 + (i : Int))) H1 Q1)
    (ax : DpAll K H xs ds) (ay : DpAll K H ys ds) (ok : ∀ d ∈ ds, okD n d) (ll : ds.length < 1000) (k : ∀ H', Same H H' → Q (.bl true) H') :
    LcG (Itr 0 (ys.length : Int).toNat) (gName 3) tYes (tCall (sp_l_same K n) [] E0 (tCons (tOp (rIx K) (tVar 0) (tVar 3)) (tCons (tOp (rIx K) (tVar 1) (tVar 3)) tNil)))
      (List.map (fun x => x.snd) [(Str.ofString "_law_k", 3)]) (L2.start NS_l_same [V.ref a, V.ref b]) H fun x H1 => tNil (L2.start NS_l_same [V.ref a, V.ref b]) H1 fun xs H2 => rAll K (x :: xs) H2 Q := by
  have ly := dpAll_len ay
  refine g_true walk_range (by rw [szl]; omega) (fun _ _ => trivial) ?_ ?_
  · rintro i z H1 H2 N NF hi s ⟨rfl, rfl⟩ q
    have hd : i < ds.length := by omega
    obtain ⟨x, ex, dx⟩ := dpAll_at ax (List.getElem?_eq_getElem hd)
    obtain ⟨y, ey, dy⟩ := dpAll_at ay (List.getElem?_eq_getElem hd)
    unfold LcT
    walk_at "go"
    refine ix i x _ _ s ex ?_
    walk_at "go"
    refine iy i y _ _ s ey ?_
    walk_at "go"
    exact ⟨x, y, ds[i], rfl, dp_same s dx, dp_same s dy, ok _ (List.getElem_mem hd), fun H3 s3 => q _ s3⟩
  · intro D H1 s1 hD
    walk_at "go"
    exact r_all hD (k _ s1)
theorem okn_l_same (T : Tx w mg K) : ∀ n : Nat, FnOk P w K mg base CX0 (n + 1) (He.ga K "_law_same") (fdOf K (He.fAd K d_l_same.at_)) ["_law_found", "_law_due"] (sp_l_same K n)
  | 0 => ⟨fun vs H Q E h => by
      obtain ⟨_, _, _, _, _, _, h, _⟩ := h
      exact h.elim, fun A outer s H args us vs Q E _ _ _ _ h => by
      obtain ⟨_, _, _, _, _, _, h, _⟩ := h
      exact h.elim⟩
  | n + 1 => by
    have G_l_same := okn_l_same T n
    refine FunD.ok (CX := CX0) (k := n + 1) T.F_l_same sc_l_same (fun vs H Q E h => ?_) (fun cdv A outer s H vs Q E hr h => ?_)
    · obtain ⟨x, y, d, rfl, _⟩ := h
      rfl
    · obtain ⟨x, y, d, rfl, hx, hy, ok, k⟩ := h
      have b_l_same := bb_l_same T
      refine ⟨_, PSs.nox (pss_cons (ps_if (pt_cmpR op_isN (pv 1) pe_non (nomark _)) (pss_one (ps_ret (pe_cmpR op_isN (pv 0) pe_non (nomark _)))) pss_nil)
    (pss_cons (ps_if (PW.pt (pw_or (pt_val (pe_callB call_isi (by rfl) T.f_isinstance (by decide +kernel) (pa_cons (pv 1) (pa_cons (pe_bltn (v := .ty "bool") (by rfl) T.f_bool (by decide +kernel) rfl) pa_nil)))) (pw_or1 (pt_val (pe_callB call_isi (by rfl) T.f_isinstance (by decide +kernel) (pa_cons (pv 0) (pa_cons (pe_bltn (v := .ty "bool") (by rfl) T.f_bool (by decide +kernel) rfl) pa_nil))))))) (pss_one (ps_ret (pe_and (pe_callB call_isi (by rfl) T.f_isinstance (by decide +kernel) (pa_cons (pv 1) (pa_cons (pe_bltn (v := .ty "bool") (by rfl) T.f_bool (by decide +kernel) rfl) pa_nil))) (pe_and (pe_callB call_isi (by rfl) T.f_isinstance (by decide +kernel) (pa_cons (pv 0) (pa_cons (pe_bltn (v := .ty "bool") (by rfl) T.f_bool (by decide +kernel) rfl) pa_nil))) (pe_one (pe_cmpR op_eq (pv 0) (pv 1) (nomark _))))))) pss_nil)
    (pss_cons (ps_if (PW.pt (pw_or (pt_val (pe_callB call_isi (by rfl) T.f_isinstance (by decide +kernel) (pa_cons (pv 1) (pa_cons (pe_bltn (v := .ty "int") (by rfl) T.f_int (by decide +kernel) rfl) pa_nil)))) (pw_or1 (pt_val (pe_callB call_isi (by rfl) T.f_isinstance (by decide +kernel) (pa_cons (pv 1) (pa_cons (pe_bltn (v := .ty "str") (by rfl) T.f_str (by decide +kernel) rfl) pa_nil))))))) (pss_cons (ps_if (PW.pt (pw_or (pt_cmpR op_ne (pe_callB call_isi (by rfl) T.f_isinstance (by decide +kernel) (pa_cons (pv 0) (pa_cons (pe_bltn (v := .ty "int") (by rfl) T.f_int (by decide +kernel) rfl) pa_nil))) (pe_callB call_isi (by rfl) T.f_isinstance (by decide +kernel) (pa_cons (pv 1) (pa_cons (pe_bltn (v := .ty "int") (by rfl) T.f_int (by decide +kernel) rfl) pa_nil))) (nomark _)) (pw_or1 (pt_cmpR op_ne (pe_callB call_isi (by rfl) T.f_isinstance (by decide +kernel) (pa_cons (pv 0) (pa_cons (pe_bltn (v := .ty "str") (by rfl) T.f_str (by decide +kernel) rfl) pa_nil))) (pe_callB call_isi (by rfl) T.f_isinstance (by decide +kernel) (pa_cons (pv 1) (pa_cons (pe_bltn (v := .ty "str") (by rfl) T.f_str (by decide +kernel) rfl) pa_nil))) (nomark _))))) (pss_one (ps_ret pe_bl)) pss_nil)
    (pss_one (ps_ret (pe_cmpR op_eq (pv 0) (pv 1) (nomark _))))) pss_nil)
    (pss_cons (ps_if (pt_val (pe_callB call_isi (by rfl) T.f_isinstance (by decide +kernel) (pa_cons (pv 1) (pa_cons (pe_bltn (v := .ty "dict") (by rfl) T.f_dict (by decide +kernel) rfl) pa_nil)))) (pss_cons ps_never
    (pss_one ps_never)) pss_nil)
    (pss_cons (ps_if (PW.pt (pw_or (pt_cmpR op_ne (pe_callB call_isi (by rfl) T.f_isinstance (by decide +kernel) (pa_cons (pv 1) (pa_cons (pe_bltn (v := .ty "tuple") (by rfl) T.f_tuple (by decide +kernel) rfl) pa_nil))) (pe_callB call_isi (by rfl) T.f_isinstance (by decide +kernel) (pa_cons (pv 0) (pa_cons (pe_bltn (v := .ty "tuple") (by rfl) T.f_tuple (by decide +kernel) rfl) pa_nil))) (nomark _)) (pw_or1 (pt_cmpR op_ne (pe_callB call_isi (by rfl) T.f_isinstance (by decide +kernel) (pa_cons (pv 1) (pa_cons (pe_bltn (v := .ty "list") (by rfl) T.f_list (by decide +kernel) rfl) pa_nil))) (pe_callB call_isi (by rfl) T.f_isinstance (by decide +kernel) (pa_cons (pv 0) (pa_cons (pe_bltn (v := .ty "list") (by rfl) T.f_list (by decide +kernel) rfl) pa_nil))) (nomark _))))) (pss_one (ps_ret pe_bl)) pss_nil)
    (pss_one (ps_ret (pe_and (pe_cmpR op_eq (pe_callB (k_len (K := K) rfl) (by rfl) T.f_len (by decide +kernel) (pa_cons (pv 0) pa_nil)) (pe_callB (k_len (K := K) rfl) (by rfl) T.f_len (by decide +kernel) (pa_cons (pv 1) pa_nil)) (nomark _)) (pe_one (pe_callB (k_all (K := K) rfl rfl) (by rfl) T.f_all (by decide +kernel) (pa_cons (pe_lc (own := [("_law_k", 3)]) (g := gName 3) (tt := tYes) rfl sc_l_same.nd (pi_range1 (by rfl) T.f_range (pa_cons (pe_callB (k_len (K := K) rfl) (by rfl) T.f_len (by decide +kernel) (pa_cons (pv 1) pa_nil)) pa_nil)) (blkOk_by (N := NS_l_same) (sc := defScope s_l_same) (by decide +kernel)) (fun _ _ _ _ _ => pg_name (i := 3) sc_l_same.nd rfl (Or.inl rfl)) (fun _ _ _ _ _ => pts_nil) (fun _ _ _ _ _ => (pe_call G_l_same hr (by rfl) T.g_l_same T.F_l_same.kp b_l_same .nil pass0 (pa_cons (pe_ix (k_ixQ (K := K) rfl) (pv 0) (pv 3) (fun _ _ => rfl)) (pa_cons (pe_ix (k_ixQ (K := K) rfl) (pv 1) (pv 3) (fun _ _ => rfl)) pa_nil))))) pa_nil))))))))))), ?_⟩
      cases d with
      | bool b => exact ok.elim
      | dict es => exact ok.elim
      | none =>
        cases hx
        cases hy
        walk_at "go"
        exact k _ (Same.refl _)
      | int i =>
        cases hx
        cases hy
        have ty : TyX K H (.int i) (.type "int") := .base (.int i)
        walk_at "go"
        rw [decide_eq_true rfl]
        exact k _ (Same.refl _)
      | str z =>
        cases hx
        cases hy
        have ty : TyX K H (.str z) (.type "str") := .base (.str z)
        walk_at "go"
        rw [decide_eq_true rfl]
        exact k _ (Same.refl _)
      | list ds =>
        obtain ⟨a, xs, rfl, sx, ax⟩ := dp_lst hx
        obtain ⟨b, ys, rfl, sy, ay⟩ := dp_lst hy
        have tx := ty_sqL sx
        have ty := ty_sqL sy
        have lx := dpAll_len ax
        have ly := dpAll_len ay
        have ll := ok.1
        walk_at "go"
        exact same_go (fun i v H1 Q1 s e q => .inl (r_ixL (sqL_same s sx) (by rw [Int.zero_add]; exact atI_nat e) q)) (fun i v H1 Q1 s e q => .inl (r_ixL (sqL_same s sy) (by rw [Int.zero_add]; exact atI_nat e) q)) ax ay ok.2 ll k
      | tuple ds =>
        obtain ⟨a, xs, rfl, sx, ax⟩ := dp_tup hx
        obtain ⟨b, ys, rfl, sy, ay⟩ := dp_tup hy
        have tx := ty_sqT sx
        have ty := ty_sqT sy
        have lx := dpAll_len ax
        have ly := dpAll_len ay
        have ll := ok.1
        walk_at "go"
        exact same_go (fun i v H1 Q1 s e q => .inr (.inl (r_ixT (sqT_same s sx) (by rw [Int.zero_add]; exact atI_nat e) q))) (fun i v H1 Q1 s e q => .inr (.inl (r_ixT (sqT_same s sy) (by rw [Int.zero_add]; exact atI_nat e) q))) ax ay ok.2 ll k
theorem ok_l_same (T : Tx w mg K) : FnOk P w K mg base CX0 7 (He.ga K "_law_same") (fdOf K (He.fAd K d_l_same.at_)) ["_law_found", "_law_due"] (sp_l_same K 6) := okn_l_same T 6
end
section
variable {P : Program} {w : World} {K : PySem.W.Frag} {mg : Str → Option Value} {base : Heap}
/-! ### _law_matches -/
theorem risingS_pw : ∀ {l : List Str} {p : Str}, risingS p l = true → (p :: l).Pairwise (fun a b => a.cps.toList ≤ b.cps.toList)
  | [], p, _ => by simp
  | x :: r, p, h => by
    have h2 : (!ltCps x.cps.toList p.cps.toList && risingS x r) = true := h
    rw [Bool.and_eq_true] at h2
    obtain ⟨h3, h4⟩ := h2
    have ih := risingS_pw h4
    rw [ltCps_eq, Bool.not_eq_true', decide_eq_false_iff_not] at h3
    have hpx : p.cps.toList ≤ x.cps.toList := h3
    refine List.pairwise_cons.mpr ⟨fun y hy => ?_, ih⟩
    rcases List.mem_cons.mp hy with rfl | hy
    · exact hpx
    · exact List.le_trans hpx ((List.pairwise_cons.mp ih).1 y hy)
theorem sortedS_pw {l : List Str} (h : sortedS l = true) : l.Pairwise (fun a b => a.cps.toList ≤ b.cps.toList) := by
  cases l with
  | nil => exact .nil
  | cons x r => exact risingS_pw h
theorem sortedS_uniq {ys zs : List Str} (h : sortedS ys = true) (h' : sortedS zs = true) (p : ys.Perm zs) : ys = zs := by
  refine p.eq_of_pairwise (le := fun a b => a.cps.toList ≤ b.cps.toList) (fun a b _ _ h1 h2 => ?_) (sortedS_pw h) (sortedS_pw h')
  have e := List.le_antisymm h1 h2
  cases a
  cases b
  congr
  exact Array.toList_inj.mp e
/-- a ladder's machine, the law's state of it -/
def MacR (K : PySem.W.Frag) (h : Hp) (v : V) (r : Raw) : Prop := OkRaw r ∧ ∃ m, v = .ref m ∧ MacAt K h m r
theorem dp_strs {H : Hp} : ∀ ys : List Str, DpAll K H (ys.map V.str) (ys.map PyData.str)
  | [] => .nil
  | y :: ys => .cons (.str y) (dp_strs ys)
theorem okD_raw {r : Raw} (o : OkRaw r) : okD 5 (rawD r) := by
  refine ⟨(show (3 : Nat) < 1000 by decide), fun d hd => ?_⟩
  simp only [List.mem_cons, List.not_mem_nil, or_false] at hd
  rcases hd with rfl | rfl | rfl
  · trivial
  · refine ⟨by rw [List.length_map]; exact Nat.lt_of_le_of_lt o.n5 (by decide), fun d hd => ?_⟩
    obtain ⟨row, hr, rfl⟩ := List.mem_map.mp hd
    have z := o.row row hr
    have l3 : r.l.length ≤ 3 := by
      rcases o.l with e | e | e <;> rw [e] <;> decide +kernel
    refine ⟨by rw [List.length_map, z.len]; omega, fun d hd => ?_⟩
    obtain ⟨p, hp, rfl⟩ := List.mem_map.mp hd
    refine ⟨(show (2 : Nat) < 1000 by decide), fun d hd => ?_⟩
    simp only [List.mem_cons, List.not_mem_nil, or_false] at hd
    rcases hd with rfl | rfl
    · trivial
    · trivial
  · trivial
theorem passNo {X : Cx} : Passes (L2.CX X.prog X.w) X (fun _ _ _ => False) := fun pins σ H s e s' I h => by
  obtain ⟨_, _, _, _, _, _, _, _, _, _, _, _, z⟩ := h
  exact z.elim
def sp_l_matches (K : PySem.W.Frag) : Sp := fun vs H Q _ => ∃ (p cd pl fl kn D : Addr) (kvs lvs : List (Key × V)) (C : List (Str × Raw)), vs = [.ref p, .ref D] ∧ LadO K H p cd pl fl kn ∧ H cd = some (.dK kvs) ∧ H D = some (.dK lvs) ∧ D ≠ cd ∧
  RelC (MacR K (del H D)) kvs C ∧ RelC (LawR K (del H D)) lvs C ∧ C.length ≤ 6 ∧ ∀ H', Same H H' → Q (.bl true) H'
abbrev NS_l_matches : List Str := ["_law_ladder", "_law_contents", "_law_name"]
theorem sc_l_matches : FnScope NS_l_matches ["_law_ladder", "_law_contents"] (defScope s_l_matches) := ⟨rfl, rfl, rfl, by decide +kernel, rfl, by decide +kernel, by decide +kernel⟩
theorem bb_l_matches {w : World} {mg : Str → Option Value} {K : PySem.W.Frag} (T : Tx w mg K) : Binds K (fdOf K (He.fAd K d_l_matches.at_)) ["_law_ladder", "_law_contents"] [] := FunD.bindsN T.F_l_matches fun _ _ _ _ _ _ us hl => match us, hl with | [_, _], _ => rfl
theorem ok_l_matches (T : Tx w mg K) : FnOk P w K mg base CX0 8 (He.ga K "_law_matches") (fdOf K (He.fAd K d_l_matches.at_)) ["_law_ladder", "_law_contents"] (sp_l_matches K) := by
  refine FunD.ok (CX := CX0) (k := 7) T.F_l_matches sc_l_matches (fun vs H Q E h => ?_) (fun cdv A outer s H vs Q E hr h => ?_)
  · obtain ⟨p, cd, pl, fl, kn, D, kvs, lvs, C, rfl, _⟩ := h
    rfl
  · obtain ⟨p, cd, pl, fl, kn, D, kvs, lvs, C, rfl, hL, hc, hD, nD, rm, rl, l6, k⟩ := h
    have cL := T.c_Ladder
    have ⟨dx, hp⟩ := hL
    have G_Ladder_len := ok_Ladder_len (P := P) (base := base) T
    have b_Ladder_len := bb_Ladder_len T
    have G_Ladder_machine := ok_Ladder_machine (P := P) (base := base) T
    have b_Ladder_machine := bb_Ladder_machine T
    have G_Ladder_names := ok_Ladder_names (P := P) (base := base) T
    have b_Ladder_names := bb_Ladder_names T
    have G_l_read := ok_l_read (P := P) (base := base) T
    have b_l_read := bb_l_read T
    have G_l_same := ok_l_same (P := P) (base := base) T
    have b_l_same := bb_l_same T
    refine ⟨_, PSs.nox (pss_cons (ps_if (pt_not (pt_val (pe_call G_l_same (hr.mono (by decide)) (by rfl) T.g_l_same T.F_l_same.kp b_l_same .nil pass0 (pa_cons (pe_lst (pa_cons (pe_meth0 (pv 0) T.c_Ladder T.m_Ladder_names G_Ladder_names (hr.mono (by decide)) b_Ladder_names .nil pass0) (pa_cons (pe_callB (call_lenOwn G_Ladder_len (hr.mono (by decide)) T.m_Ladder_len.at_ T.m_Ladder_len.fn b_Ladder_len pass0) (by rfl) T.f_len (by decide +kernel) (pa_cons (pv 0) pa_nil)) pa_nil))) (pa_cons (pe_lst (pa_cons (pe_callB (call_sortedD rfl) (by rfl) T.f_sorted (by decide +kernel) (pa_cons (pv 1) pa_nil)) (pa_cons (pe_callB call_lenD (by rfl) T.f_len (by decide +kernel) (pa_cons (pv 1) pa_nil)) pa_nil))) pa_nil))))) (pss_one (ps_ret pe_bl)) pss_nil)
    (pss_one (ps_ret (pe_callB (k_all (K := K) rfl rfl) (by rfl) T.f_all (by decide +kernel) (pa_cons (pe_lock (pe_lc (own := [("_law_name", 2)]) (g := gName 2) (tt := tYes) rfl sc_l_matches.nd (pi_keys (pv 1)) (blkOk_by (N := NS_l_matches) (sc := defScope s_l_matches) (by decide +kernel)) (fun _ _ _ _ _ => pg_name (i := 2) sc_l_matches.nd rfl (Or.inl rfl)) (fun _ _ _ _ _ => pts_nil) (fun _ _ _ _ _ => (pe_call G_l_same (hr.mono (by decide)) (by rfl) T.g_l_same T.F_l_same.kp b_l_same .nil pass0 (pa_cons (pe_call G_l_read (hr.mono (by decide)) (by rfl) T.g_l_read T.F_l_read.kp b_l_read .nil pass0 (pa_cons (pe_meth (pv 0) T.c_Ladder T.m_Ladder_machine G_Ladder_machine (hr.mono (by decide)) b_Ladder_machine .nil passNo (pa_cons (pv 2) pa_nil)) pa_nil)) (pa_cons (pe_dget (hu_of hr) (pv 1) (pv 2) (fun _ _ => rfl)) pa_nil)))))) pa_nil))))), ?_⟩
    walk_at "go"
    have lk := relC_len rm
    have ll := relC_len rl
    refine ⟨p, cd, pl, fl, kn, kvs, C.map (·.1), rfl, hL, hc, relC_keys rm, by rw [List.length_map]; omega, fun ys q1 pm so hq1 => ?_⟩
    have hp1 := hp_old (o := HO.lst (ys.map V.str)) hq1 hp
    have hc1 := hp_old (o := HO.lst (ys.map V.str)) hq1 hc
    have hD1 := hp_old (o := HO.lst (ys.map V.str)) hq1 hD
    walk_at "go"
    refine ⟨p, dx, _, rfl, hp1, ⟨p, cd, pl, fl, kn, kvs, rfl, ⟨dx, hp1⟩, hc1, kvs.length, rfl, by omega, ?_⟩⟩
    walk_at "go"
    intro q2 hq2
    have hD2 := hp_old (o := HO.lst [V.ref q1, V.int kvs.length]) hq2 hD1
    walk_at "go"
    refine ⟨D, lvs, C.map (·.1), rfl, .inl hD2, relC_keys rl, by rw [List.length_map]; omega, fun zs q3 pm2 so2 hq3 => ?_⟩
    obtain rfl : ys = zs := sortedS_uniq so so2 (pm.trans pm2.symm)
    have hD3 := hp_old (o := HO.lst (ys.map V.str)) hq3 hD2
    walk_at "go"
    intro q4 hq4
    have e1 := hp_old (o := HO.lst [V.ref q3, V.int lvs.length]) hq4 (hp_old (o := HO.lst (ys.map V.str)) hq3 (hp_old (o := HO.lst [V.ref q1, V.int kvs.length]) hq2 (upd_same (H := H) (a := q1) (o := HO.lst (ys.map V.str)))))
    have e2 := hp_old (o := HO.lst [V.ref q3, V.int lvs.length]) hq4 (hp_old (o := HO.lst (ys.map V.str)) hq3 (upd_same (H := upd H q1 (HO.lst (ys.map V.str))) (a := q2) (o := HO.lst [V.ref q1, V.int kvs.length])))
    have e3 := hp_old (o := HO.lst [V.ref q3, V.int lvs.length]) hq4 (upd_same (H := upd (upd H q1 (HO.lst (ys.map V.str))) q2 (HO.lst [V.ref q1, V.int kvs.length])) (a := q3) (o := HO.lst (ys.map V.str)))
    have e4 := upd_same (H := upd (upd (upd H q1 (HO.lst (ys.map V.str))) q2 (HO.lst [V.ref q1, V.int kvs.length])) q3 (HO.lst (ys.map V.str))) (a := q4) (o := HO.lst [V.ref q3, V.int lvs.length])
    have S4 : Same H (upd (upd (upd (upd H q1 (HO.lst (ys.map V.str))) q2 (HO.lst [V.ref q1, V.int kvs.length])) q3 (HO.lst (ys.map V.str))) q4 (HO.lst [V.ref q3, V.int lvs.length])) := K70.Same.new (K70.Same.new (K70.Same.new (K70.Same.new1 hq1) hq2) hq3) hq4
    generalize upd (upd (upd (upd H q1 (HO.lst (ys.map V.str))) q2 (HO.lst [V.ref q1, V.int kvs.length])) q3 (HO.lst (ys.map V.str))) q4 (HO.lst [V.ref q3, V.int lvs.length]) = H4 at e1 e2 e3 e4 S4 ⊢
    have ly : ys.length ≤ 6 := by
      rw [pm.length_eq, List.length_map]
      exact l6
    walk_at "go"
    refine ⟨.ref q2, .ref q4, .list [.list (ys.map PyData.str), .int kvs.length], rfl, .lst (SqL.of e2) (.cons (.lst (SqL.of e1) (dp_strs ys)) (.cons (.int _) .nil)), ?_, ?_, fun H5 s5 => ?_⟩
    · rw [lk, ← ll]
      exact .lst (SqL.of e4) (.cons (.lst (SqL.of e3) (dp_strs ys)) (.cons (.int _) .nil))
    · refine ⟨(show (2 : Nat) < 1000 by decide), fun d hd => ?_⟩
      rcases List.mem_cons.mp hd with rfl | hd
      · refine ⟨by rw [List.length_map]; omega, fun d hd => ?_⟩
        obtain ⟨x, _, rfl⟩ := List.mem_map.mp hd
        trivial
      · rw [List.mem_singleton.mp hd]
        trivial
    have hD5 := s5 _ _ (S4 _ _ hD)
    walk_at "go"
    refine ⟨D, .dK lvs, hD5, trivial, fun od => ?_⟩
    walk_at "go"
    have nDp : D ≠ p := ne_of hD hp (by intro z; cases z)
    have hpL := hp_ne (p := D) (o := HO.frz od (.dK lvs)) (Ne.symm nDp) (s5 _ _ (S4 _ _ hp))
    have hcL := hp_ne (p := D) (o := HO.frz od (.dK lvs)) (Ne.symm nD) (s5 _ _ (S4 _ _ hc))
    have hDL := upd_same (H := H5) (a := D) (o := HO.frz od (.dK lvs))
    have SL : Same (del H D) (upd H5 D (HO.frz od (.dK lvs))) := fun a o e => by
      have na : a ≠ D := fun z => by
        rw [z, del_same] at e
        cases e
      rw [del_ne na] at e
      exact hp_ne na (s5 _ _ (S4 _ _ e))
    have back : ∀ Hx, Same (upd H5 D (HO.frz od (.dK lvs))) Hx → Same H (upd Hx D (.dK lvs)) := fun Hx sx a o e => by
      by_cases na : a = D
      · rw [na, hD] at e
        cases e
        rw [na]
        exact upd_same
      · exact hp_ne na (sx _ _ (hp_ne na (s5 _ _ (S4 _ _ e))))
    refine ⟨D, od, rfl, .inl ⟨lvs, hDL, ?_⟩⟩
    refine g_true walk_keys (by rw [szl]; omega) (fun H' s => s _ _ hDL) ?_ ?_
    · rintro i x H1 H2 N NF hi s ⟨rfl, kk0, v, ek, rfl⟩ q
      have hk : (lvs.map (·.1))[i]? = some kk0 := by
        rw [List.getElem?_map, ek]
        rfl
      rw [relC_keys rl, List.getElem?_map, List.getElem?_map] at hk
      obtain ⟨n, e5, e9⟩ := Option.map_eq_some_iff.mp hk
      have hp2 := s _ _ hpL
      have hc2 := s _ _ hcL
      have hD2 := s _ _ hDL
      obtain ⟨u, r, eu, er, lr⟩ : ∃ u r, valV lvs (.inr n) = some u ∧ findC C n = some r ∧ LawR K (del H D) u r := by
        rcases relC_val (n := n) rl with ⟨z, _⟩ | z
        · exfalso
          have z2 := valV_any (.inr n) lvs
          rw [z] at z2
          have z3 := List.any_eq_false.mp z2 (.inr n, v) (by
            rw [e9]
            exact List.mem_of_getElem? ek)
          simp at z3
        · exact z
      obtain ⟨m, em, okr, m2, rfl, hm⟩ : ∃ m, valV kvs (.inr n) = some m ∧ MacR K (del H D) m r := by
        rcases relC_val (n := n) rm with ⟨_, z⟩ | ⟨m, r2, z1, z2, z3⟩
        · rw [z] at er
          cases er
        · rw [er] at z2
          cases z2
          exact ⟨m, z1, z3⟩
      subst e9
      unfold LcT
      walk_at "go"
      refine ⟨p, cd, pl, fl, kn, kvs, n, rfl, ⟨dx, hp2⟩, hc2, fun v2 ev2 => ?_, fun z => ?_⟩
      · rw [em] at ev2
        cases ev2
        walk_at "go"
        refine ⟨m2, r, rfl, mac_same (SL.trans s) hm, fun v3 H3 s3 hn => ?_⟩
        have hv3 := hn H3 ⟨fun _ _ e _ => e, fun _ _ _ e => e⟩
        have hD3 := s3 _ _ hD2
        walk_at "go"
        refine x_gS (.inr ⟨od, hD3⟩) eu ?_
        walk_at "go"
        exact ⟨v3, u, rawD r, rfl, hv3, dp_same ((SL.trans s).trans s3) lr.1, okD_mono (by decide) (okD_raw okr), fun H4 s4 => q _ (s3.trans s4)⟩
      · rw [em] at z
        cases z
    · intro DD H6 s6 hDD
      refine ⟨s6 _ _ hDL, ?_⟩
      walk_at "go"
      exact r_all (hp_ne (ne_of hDD (s6 _ _ hDL) (by intro z; cases z)) hDD) (k _ (back _ s6))
end
section
variable {P : Program} {w : World} {K : PySem.W.Frag} {mg : Str → Option Value} {base : Heap}
/-! ### _law_run -/
def bOf (m : V) : Cmd → BCmd
  | .add n _ => .add n m
  | .rep n _ => .rep n m
  | .rem n => .rem n
/-- an error: its class, field, value, the data that the law expects -/
def ErO (cls f : Str) (y : V) (x : PyData) : Prop := ((cls = "InvalidName" ∨ cls = "DuplicateName" ∨ cls = "UnknownName") ∧ f = "name" ∧ ∃ n : Str, y = .str n ∧ x = .str n) ∨ (cls = "LimitExceeded" ∧ f = "limit" ∧ y = .int 6 ∧ x = .int 6)
theorem relC_some {R : V → Raw → Prop} {n : Str} {kvs : List (Key × V)} {C : List (Str × Raw)} (h : RelC R kvs C) : (valV kvs (.inr n)).isSome = (findC C n).isSome := by
  rcases relC_val (n := n) h with ⟨a, b⟩ | ⟨v, r, a, b, _⟩
  · rw [a, b]
    rfl
  · rw [a, b]
    rfl
theorem dropC_none {n : Str} {C : List (Str × Raw)} (h : findC C n = none) : dropC C n = C := by
  unfold dropC
  rw [List.filter_eq_self]
  intro c hc
  have z : (findC C n).isSome = false := by rw [h]; rfl
  rw [findC_any] at z
  have q := List.any_eq_false.mp z c hc
  simpa using q
section
variable {R : V → Raw → Prop} {kvs kvs' : List (Key × V)} {C : List (Str × Raw)} {c : Cmd} {m : V} {cls wd f : Str} {y : V}
theorem out_er2 (rel : RelC R kvs C) (e : outB kvs (bOf m c) = .er cls wd f y) : ∃ x, dueD C c = .tuple [.str wd, x] ∧ newC C c = C ∧ ErO cls f y x := by
  have lk := relC_len rel
  cases c with
  | add n r =>
    have hs := relC_some (n := n) rel
    unfold bOf outB at e
    dsimp only at e
    unfold dueD newC
    dsimp only
    rw [hs, lk] at e
    split at e
    · rename_i hn
      rw [if_pos hn, if_pos hn]
      split at e
      · rename_i hf
        rw [if_pos hf, if_pos hf]
        cases e
        exact ⟨_, rfl, rfl, .inl ⟨.inr (.inl rfl), rfl, n, rfl, rfl⟩⟩
      · rename_i hf
        rw [if_neg hf, if_neg hf]
        split at e
        · rename_i h5
          rw [if_pos h5, if_pos h5]
          cases e
          exact ⟨_, rfl, rfl, .inr ⟨rfl, rfl, rfl, rfl⟩⟩
        · cases e
    · rename_i hn
      rw [if_neg hn, if_neg hn]
      cases e
      exact ⟨_, rfl, rfl, .inl ⟨.inl rfl, rfl, n, rfl, rfl⟩⟩
  | rep n r =>
    have hs := relC_some (n := n) rel
    unfold bOf outB at e
    dsimp only at e
    unfold dueD newC
    dsimp only
    rw [hs] at e
    split at e
    · cases e
    · rename_i hf
      rw [if_neg hf, if_neg hf]
      cases e
      exact ⟨_, rfl, rfl, .inl ⟨.inr (.inr rfl), rfl, n, rfl, rfl⟩⟩
  | rem n =>
    have hs := relC_some (n := n) rel
    unfold bOf outB at e
    dsimp only at e
    unfold dueD newC
    dsimp only
    rw [hs] at e
    split at e
    · cases e
    · rename_i hf
      have hf2 : findC C n = none := by simpa using hf
      rw [hf2, dropC_none hf2]
      cases e
      exact ⟨_, rfl, rfl, .inl ⟨.inr (.inr rfl), rfl, n, rfl, rfl⟩⟩
theorem out_add2 {n : Str} {r : Raw} (rel : RelC R kvs C) (rm : R m r) (e : outB kvs (.add n m) = .ok kvs') : dueD C (.add n r) = .tuple [.str "", .none] ∧ RelC R kvs' (newC C (.add n r)) := by
  have lk := relC_len rel
  have hs := relC_some (n := n) rel
  unfold outB at e
  dsimp only at e
  unfold dueD newC
  dsimp only
  rw [hs, lk] at e
  split at e
  · rename_i hn
    rw [if_pos hn, if_pos hn]
    split at e
    · cases e
    · rename_i hf
      rw [if_neg hf, if_neg hf]
      split at e
      · cases e
      · rename_i h5
        rw [if_neg h5, if_neg h5]
        cases e
        exact ⟨rfl, relC_put rel rm⟩
  · cases e
theorem out_rep2 {n : Str} {r : Raw} (rel : RelC R kvs C) (rm : R m r) (e : outB kvs (.rep n m) = .ok kvs') : dueD C (.rep n r) = .tuple [.str "", .none] ∧ RelC R kvs' (newC C (.rep n r)) := by
  have hs := relC_some (n := n) rel
  unfold outB at e
  dsimp only at e
  unfold dueD newC
  dsimp only
  rw [hs] at e
  split at e
  · rename_i hf
    rw [if_pos hf, if_pos hf]
    cases e
    exact ⟨rfl, relC_put rel rm⟩
  · cases e
theorem out_rem2 {n : Str} (rel : RelC R kvs C) (e : outB kvs (.rem n) = .ok kvs') : RelC R kvs' (newC C (.rem n)) ∧ ∃ v r, valV kvs (.inr n) = some v ∧ R v r ∧ dueD C (.rem n) = .tuple [.str "", rawD r] := by
  unfold outB at e
  dsimp only at e
  unfold dueD newC
  dsimp only
  split at e
  · rename_i hf
    cases e
    refine ⟨relC_drop rel, ?_⟩
    rcases relC_val (n := n) rel with ⟨a, _⟩ | ⟨v, r, a, b, q⟩
    · rw [a] at hf
      cases hf
    · exact ⟨v, r, a, q, by rw [b]⟩
  · cases e
end
theorem macR_same {h h' : Hp} {v : V} {r : Raw} (s : Same h h') (q : MacR K h v r) : MacR K h' v r := by
  obtain ⟨o, m, e, z⟩ := q
  exact ⟨o, m, e, mac_same s z⟩
theorem made_go {h H : Hp} {u : V} {r : Raw} {F : Addr → Prop} {Q : VK} {E : XK} (sh : Same h H) (hu : Dp K h u (rawD r)) (okr : OkRaw r) (hF : ∀ a, F a → H a ≠ none ∧ h a = none)
    (k : ∀ (m : Addr) (H1 : Hp), Same H H1 → H m = none → (∀ H', Frm F H1 H' → MacAt K (grow h H H') m r) → Q (.ref m) H1) : Framed (sp_l_made K) [u] H Q E := by
  refine ⟨pln h, pln_sub.trans sh, fun a o e => pln_plain e, u, r, rfl, pln_dp hu, okr, fun m h' s hm mac gone S => ?_⟩
  have nw : ∀ {a o}, h' a = some o → pln h a = none → H a = none := fun {a o} e n => by
    cases z : H a with
    | none => rfl
    | some w =>
      rw [gone a w z n] at e
      cases e
  have hmH : H m = none := by
    obtain ⟨dx, t, e, _⟩ := mac
    exact nw e hm
  refine k m _ (join_sub (pln_sub.trans sh) s) hmH fun H' f => mac_same (fun a o e => ?_) mac
  cases z : pln h a with
  | none =>
    have hn := nw e z
    rw [grow_new hn]
    exact f a o (by rw [join_new hn]; exact e) fun fa => (hF a fa).1 hn
  | some w =>
    have hz := pln_sub a w z
    rw [grow_old hz]
    exact f a o (by rw [join_in z]; exact e) fun fa => by rw [(hF a fa).2] at hz; cases hz
def RunQ (K : PySem.W.Frag) (h H : Hp) (p cd pl kn : Addr) (ps : List V) (c : Cmd) (C : List (Str × Raw)) (Q : VK) : Prop :=
  ∀ (u : V) (x : PyData) (cd' fl' : Addr) (kvs' : List (Key × V)) (H' : Hp), dueD C c = .tuple [.str "", x] → Frm (fun a => a = p ∨ a = pl) H H' → LadO K H' p cd' pl fl' kn → H cd' = none → H' cd' = some (.dK kvs') → RelC (MacR K (grow h H H')) kvs' (newC C c) → H' pl = some (.lst (ps ++ [.ref cd])) → Dp K H' u x → Q u H'
def RunE (K : PySem.W.Frag) (H : Hp) (p cd pl fl kn : Addr) (c : Cmd) (C : List (Str × Raw)) (E : XK) : Prop :=
  ∀ (cls wd f : Str) (y : V) (x : PyData) (d : Addr) (H' : Hp), dueD C c = .tuple [.str wd, x] → newC C c = C → ErO cls f y x → Frm (fun a => a = p) H H' → LadO K H' p cd pl fl kn → H d = none → H' d = some (.xd [("word", .str wd), (f, y)]) → E (.ref (He.ga K cls)) (some d) H'
def sp_l_run (K : PySem.W.Frag) : Sp := fun vs H Q E => ∃ (h : Hp) (p cd pl fl kn : Addr) (v : V) (c : Cmd) (C : List (Str × Raw)) (kvs : List (Key × V)) (ps : List V), vs = [.ref p, v] ∧ Same h H ∧ LadO K H p cd pl fl kn ∧ H cd = some (.dK kvs) ∧ H pl = some (.lst ps) ∧ ps.length < 1000 ∧
  RelC (MacR K h) kvs C ∧ C.length ≤ 6 ∧ CmdV K h v c ∧ h p = none ∧ h pl = none ∧ RunQ K h H p cd pl kn ps c C Q ∧ RunE K H p cd pl fl kn c C E
abbrev NS_l_run : List Str := ["_law_ladder", "_law_command_here"]
theorem sc_l_run : FnScope NS_l_run ["_law_ladder", "_law_command_here"] (defScope s_l_run) := ⟨rfl, rfl, rfl, by decide +kernel, rfl, by decide +kernel, by decide +kernel⟩
theorem bb_l_run {w : World} {mg : Str → Option Value} {K : PySem.W.Frag} (T : Tx w mg K) : Binds K (fdOf K (He.fAd K d_l_run.at_)) ["_law_ladder", "_law_command_here"] [] := FunD.bindsN T.F_l_run fun _ _ _ _ _ _ us hl => match us, hl with | [_, _], _ => rfl
theorem ok_l_run (T : Tx w mg K) : FnOk P w K mg base (L2.CX P w) 7 (He.ga K "_law_run") (fdOf K (He.fAd K d_l_run.at_)) ["_law_ladder", "_law_command_here"] (sp_l_run K) := by
  refine FunD.ok (CX := L2.CX P w) (k := 6) T.F_l_run sc_l_run (fun vs H Q E h => ?_) (fun cdv A outer s H vs Q E hr h => ?_)
  · obtain ⟨h, p, cd, pl, fl, kn, v, c, C, kvs, ps, rfl, _⟩ := h
    rfl
  · obtain ⟨h, p, cd, pl, fl, kn, v, c, C, kvs, ps, rfl, sh, ⟨dx, hp⟩, hc, hpl, l1, rel, l6, hcm, np, npl, kq, ke⟩ := h
    have cL := T.c_Ladder
    have lk := relC_len rel
    have hF : ∀ a, (a = p ∨ a = pl) → H a ≠ none ∧ h a = none := fun a z => by
      rcases z with rfl | rfl
      · exact ⟨(by rw [hp]; intro z; cases z), np⟩
      · exact ⟨(by rw [hpl]; intro z; cases z), npl⟩
    have G_Ladder_add := ok_Ladder_add (P := P) (base := base) T
    have b_Ladder_add := bb_Ladder_add T
    have G_Ladder_remove := ok_Ladder_remove (P := P) (base := base) T
    have b_Ladder_remove := bb_Ladder_remove T
    have G_Ladder_replace := ok_Ladder_replace (P := P) (base := base) T
    have b_Ladder_replace := bb_Ladder_replace T
    have G_l_made := ok_l_made (P := P) (base := base) T
    have b_l_made := bb_l_made T
    have G_l_read := ok_l_read (P := P) (base := base) T
    have b_l_read := bb_l_read T
    have G_l_made := framed G_l_made
    refine ⟨_, (pss_cons (ps_if (pt_cmpR op_eq (pe_ix (k_ixT (K := K) rfl) (pv 1) pe_int (fun _ _ => rfl)) pe_str (nomark _)) (pss_one (ps_ret (pe_meth (pv 0) T.c_Ladder T.m_Ladder_add G_Ladder_add (hr.mono (by decide)) b_Ladder_add .nil (passes_call (takes_of rfl rfl rfl rfl) (fun _ _ _ _ h => h)) (pa_cons (pe_ix (k_ixT (K := K) rfl) (pv 1) pe_int (fun _ _ => rfl)) (pa_cons (pe_call G_l_made (hr.mono (by decide)) (by rfl) T.g_l_made T.F_l_made.kp b_l_made .nil pass0 (pa_cons (pe_ix (k_ixT (K := K) rfl) (pv 1) pe_int (fun _ _ => rfl)) pa_nil)) pa_nil))))) pss_nil)
    (pss_cons (ps_if (pt_cmpR op_eq (pe_ix (k_ixT (K := K) rfl) (pv 1) pe_int (fun _ _ => rfl)) pe_str (nomark _)) (pss_one (ps_ret (pe_meth (pv 0) T.c_Ladder T.m_Ladder_replace G_Ladder_replace (hr.mono (by decide)) b_Ladder_replace .nil (passes_call (takes_of rfl rfl rfl rfl) (fun _ _ _ _ h => h)) (pa_cons (pe_ix (k_ixT (K := K) rfl) (pv 1) pe_int (fun _ _ => rfl)) (pa_cons (pe_call G_l_made (hr.mono (by decide)) (by rfl) T.g_l_made T.F_l_made.kp b_l_made .nil pass0 (pa_cons (pe_ix (k_ixT (K := K) rfl) (pv 1) pe_int (fun _ _ => rfl)) pa_nil)) pa_nil))))) pss_nil)
    (pss_one (ps_ret (pe_call G_l_read (hr.mono (by decide)) (by rfl) T.g_l_read T.F_l_read.kp b_l_read .nil pass0 (pa_cons (pe_meth (pv 0) T.c_Ladder T.m_Ladder_remove G_Ladder_remove (hr.mono (by decide)) b_Ladder_remove .nil (passes_call (takes_of rfl rfl rfl rfl) (fun _ _ _ _ h => h)) (pa_cons (pe_ix (k_ixT (K := K) rfl) (pv 1) pe_int (fun _ _ => rfl)) pa_nil)) pa_nil)))))), ?_⟩
    cases c with
    | add n r =>
      obtain ⟨ln, okr, q, u, rfl, hq, hu⟩ := hcm
      have hqH := sqT_same sh hq
      walk_at "go"
      refine made_go (F := fun a => a = p ∨ a = pl) sh hu okr hF fun m H1 s1 hm hmac => ?_
      have hp1 := s1 _ _ hp
      have hc1 := s1 _ _ hc
      have hpl1 := s1 _ _ hpl
      walk_at "go"
      refine ⟨p, cd, pl, fl, kn, kvs, ps, n, .ref m, rfl, ⟨dx, hp1⟩, hc1, hpl1, l1, by omega, ln, fun kvs' e cd' fl' H' f h1 h2 h3 h4 h5 h6 h7 => ?_, fun cls wd fd y e d H' f h1 h2 h3 => ?_⟩
      · have fH : Frm (fun a => a = p ∨ a = pl) H H' := fun a o e na => f a o (s1 _ _ e) na
        have sg : Same h (grow h H H') := fun a o e => grow_frm sh fH a o e fun z => by rw [(hF a z).2] at e; cases e
        obtain ⟨e1, e2⟩ := out_add2 (r := r) (relC_mono (fun v r => macR_same sg) rel) ⟨okr, m, rfl, hmac H' f⟩ e
        exact kq .non .none cd' fl' kvs' H' e1 fH h2 (free_same s1 h1) h3 e2 h4 .non
      · obtain ⟨x, e1, e2, e3⟩ := out_er2 (c := .add n r) rel e
        exact ke cls wd fd y x d H' e1 e2 e3 (fun a o e na => f a o (s1 _ _ e) na) h1 (free_same s1 h2) h3
    | rep n r =>
      obtain ⟨ln, okr, q, u, rfl, hq, hu⟩ := hcm
      have hqH := sqT_same sh hq
      walk_at "go"
      refine made_go (F := fun a => a = p ∨ a = pl) sh hu okr hF fun m H1 s1 hm hmac => ?_
      have hp1 := s1 _ _ hp
      have hc1 := s1 _ _ hc
      have hpl1 := s1 _ _ hpl
      walk_at "go"
      refine ⟨p, cd, pl, fl, kn, kvs, ps, n, .ref m, rfl, ⟨dx, hp1⟩, hc1, hpl1, l1, by omega, ln, fun kvs' e cd' fl' H' f h1 h2 h3 h4 h5 h6 h7 => ?_, fun cls wd fd y e d H' f h1 h2 h3 => ?_⟩
      · have fH : Frm (fun a => a = p ∨ a = pl) H H' := fun a o e na => f a o (s1 _ _ e) na
        have sg : Same h (grow h H H') := fun a o e => grow_frm sh fH a o e fun z => by rw [(hF a z).2] at e; cases e
        obtain ⟨e1, e2⟩ := out_rep2 (r := r) (relC_mono (fun v r => macR_same sg) rel) ⟨okr, m, rfl, hmac H' f⟩ e
        exact kq .non .none cd' fl' kvs' H' e1 fH h2 (free_same s1 h1) h3 e2 h4 .non
      · obtain ⟨x, e1, e2, e3⟩ := out_er2 (c := .rep n r) rel e
        exact ke cls wd fd y x d H' e1 e2 e3 (fun a o e na => f a o (s1 _ _ e) na) h1 (free_same s1 h2) h3
    | rem n =>
      obtain ⟨ln, q, rfl, hq⟩ := hcm
      have hqH := sqT_same sh hq
      walk_at "go"
      refine ⟨p, cd, pl, fl, kn, kvs, ps, n, rfl, ⟨dx, hp⟩, hc, hpl, l1, by omega, ln, fun kvs' e cd' fl' H' f h1 h2 h3 h4 h5 h6 h7 v ev => ?_, fun cls wd fd y e d H' f h1 h2 h3 => ?_⟩
      · have sg : Same h (grow h H H') := fun a o e => grow_frm sh f a o e fun z => by rw [(hF a z).2] at e; cases e
        obtain ⟨e2, v2, r, ev2, ⟨okr, m, rfl, hm⟩, e1⟩ := out_rem2 (relC_mono (fun v r => macR_same sg) rel) e
        rw [ev] at ev2
        cases ev2
        have hm1 : MacAt K H' m r := mac_same grow_sub hm
        walk_at "go"
        refine ⟨m, r, rfl, hm1, fun v3 H3 s3 hn => ?_⟩
        obtain ⟨dx2, hp2⟩ := h2
        exact kq v3 (rawD r) cd' fl' kvs' H3 e1 (fun a o e na => s3 _ _ (f a o e na)) ⟨dx2, s3 _ _ hp2⟩ h1 (s3 _ _ h3) (relC_mono (fun v r => macR_same fun a o e => by
          unfold grow at e ⊢
          split at e
          · rename_i z
            rw [if_pos z]
            exact s3 _ _ e
          · cases e) e2) (s3 _ _ h4) (hn H3 ⟨fun _ _ e _ => e, fun _ _ _ e => e⟩)
      · obtain ⟨x, e1, e2, e3⟩ := out_er2 (m := .non) (c := .rem n) rel e
        exact ke cls wd fd y x d H' e1 e2 e3 f h1 h2 h3
end
section
variable {P : Program} {w : World} {K : PySem.W.Frag} {mg : Str → Option Value} {base : Heap}
/-! ### _law_try: the def that calls what it got -/
open LamX
theorem exmAny3 {cls c1 c2 c3 : Value} {b1 b2 b3 : Bool} (h1 : PySem.W.exmOne K cls c1 = some b1) (h2 : PySem.W.exmOne K cls c2 = some b2) (h3 : PySem.W.exmOne K cls c3 = some b3) : PySem.W.exmAny K cls [c1, c2, c3] = some (b1 || (b2 || (b3 || false))) := by
  simp only [PySem.W.exmAny, h1, h2, h3]
theorem testNot {X : Cx} {te : Expr} : TestR X te (fun _ => none) := fun a oe cls pn s σ H b Q E I ha hc hm => by cases hm
theorem takesNo2 {X : Cx} : Takes X (fun _ _ _ _ => False) := fun u s' xx => by
  obtain ⟨_, _, _, _, _, _, _, _, _, _, _, _, _, _, _, _, w⟩ := xx
  exact w.elim
theorem takes_len {X : Cx} {W : WX} (tk : Takes X W) : Takes X (fun cls d σ H => σ.length = X.N.length → W cls d σ H) := fun u s' xx => by
  obtain ⟨a, B, sI, pins', σ1, H1, cls, d, e, J, nb, up, sky, na, os, ag, w⟩ := xx
  exact tk u s' ⟨a, B, sI, pins', σ1, H1, cls, d, e, J, nb, up, sky, na, os, ag, w J.len⟩
/-- an error that the law's commands may meet: the pair that is made of it -/
def EchT (K : PySem.W.Frag) (Q : VK) : XK := fun cls d H => ∃ (n wd f : Str) (y : V) (x : PyData) (dd : Addr), cls = .ref (He.ga K n) ∧ ErO n f y x ∧ d = some dd ∧ H dd = some (.xd [("word", .str wd), (f, y)]) ∧ ∀ p, H p = none → Q (.ref p) (upd H p (.tup [.str wd, y]))
def TTry (K : PySem.W.Frag) : (XK → Hp → VK → Prop) → Hp → VK → Prop := fun tl H Q =>
  tl (EchT K Q) H fun v H1 => [V.str "", v].length ≤ sizeLine ∧ ∀ p, H1 p = none → Q (.ref p) (upd H1 p (.tup [.str "", v]))
def tPair (K : PySem.W.Frag) (f : Str) (a : Addr) (cls : Value) (d : Option Addr) : TS := tRet (tTup (tCons (tXfA K a cls d "word" (tVar 1)) (tCons (tXfA K a cls d f (tVar 1)) tNil)))
theorem pair_go {K : PySem.W.Frag} {f wd : Str} {a C dd : Addr} {y : V} {D : Ends} {σ : L2.St} {H : Hp} (hs : σ[1]? = some (some (.ref a))) (xc : XfC K C) (nw : PySem.W.findIn K (.ref C) "word" = some none) (nf : PySem.W.findIn K (.ref C) f = some none) (hd : H dd = some (.xd [("word", .str wd), (f, y)])) (fw : f ≠ "word")
    (k : ∀ p, H p = none → D.rt (.ref p) (upd H p (.tup [.str wd, y]))) : tPair K f a (.ref C) (some dd) D σ H := by
  refine r_ret ?_
  refine ⟨_, hs, rfl, C, dd, _, .str wd, rfl, xc, nw, rfl, hd, rfl, ?_⟩
  refine ⟨_, hs, rfl, C, dd, _, y, rfl, xc, nf, rfl, hd, ?_, ?_, k⟩
  · rw [List.lookup_cons, show (f == ("word" : Str)) = false by simpa using fw]
    simp
  · rw [szl]
    exact (show (2 : Nat) ≤ 16777216 by decide)
abbrev NS_l_try : List Str := ["_law_ask", "e"]
theorem sc_l_try : FnScope NS_l_try ["_law_ask"] (defScope s_l_try) := ⟨rfl, rfl, rfl, by decide +kernel, rfl, by decide +kernel, by decide +kernel⟩
theorem bb_l_try {w : World} {mg : Str → Option Value} {K : PySem.W.Frag} (T : Tx w mg K) : Binds K (fdOf K (He.fAd K d_l_try.at_)) ["_law_ask"] [] := FunD.bindsN T.F_l_try fun _ _ _ _ _ _ us hl => match us, hl with | [_], _ => rfl
theorem try_gives {X : Cx} (T : Tx X.w X.mg X.K) {q : Str} {cdv : Value} : GivesTo X NS_l_try "_law_try" d_l_try.scope (He.ga X.K "_law_try") cdv d_l_try.body "_law_ask" q (TTry X.K) := by
  intro f c' s H Q tl act hc h
  refine ⟨_, pss_one (ps_clauses (X := (cxOf C8.CX0 X.prog X.w X.K X.mg X.base NS_l_try "_law_try" d_l_try.scope (He.ga X.K "_law_try") cdv X.A X.stack s H C8.E0).nox)
      (tb := fun W D σ H => ∃ Ech : XK, (∀ cls d (σ' : L2.St) H', Ech cls d H' → σ'.length = 2 → W cls d σ' H') ∧ σ[0]? = some (some (.ref f)) ∧ H c' = some (CodeO c' q) ∧ tl Ech H (fun v H1 => [V.str "", v].length ≤ sizeLine ∧ ∀ p, H1 p = none → D.rt (.ref p) (upd H1 p (.tup [.str "", v]))))
      rfl rfl sc_l_try.nd takesNo2 (fun W pn xe tk po => ?_)
      (.cons (i := 1) (ts := fun a cls d => tPair X.K "state" a cls d) (test_three ⟨by rfl, by decide +kernel, .inl T.g_InvalidMachine⟩ ⟨by rfl, by decide +kernel, .inl T.g_InvalidTranslator⟩ ⟨by rfl, by decide +kernel, .inl T.g_InvalidOpponent⟩) rfl rfl (fun a oe cls d pn hz hf => pss_one (ps_ret (pe_tup (pa_cons (pe_xfA rfl hz hf (pv 1)) (pa_cons (pe_xfA rfl hz hf (pv 1)) pa_nil)))))
      (.cons (i := 1) (ts := fun a cls d => tPair X.K "text" a cls d) (test_one ⟨by rfl, by decide +kernel, .inl T.g_InvalidLetters⟩) rfl rfl (fun a oe cls d pn hz hf => pss_one (ps_ret (pe_tup (pa_cons (pe_xfA rfl hz hf (pv 1)) (pa_cons (pe_xfA rfl hz hf (pv 1)) pa_nil)))))
      (.cons (i := 1) (ts := fun a cls d => tPair X.K "limit" a cls d) (test_one ⟨by rfl, by decide +kernel, .inl T.g_LimitExceeded⟩) rfl rfl (fun a oe cls d pn hz hf => pss_one (ps_ret (pe_tup (pa_cons (pe_xfA rfl hz hf (pv 1)) (pa_cons (pe_xfA rfl hz hf (pv 1)) pa_nil)))))
      (.cons (i := 1) (ts := fun a cls d => tPair X.K "number" a cls d) (test_one ⟨by rfl, by decide +kernel, .inl T.g_OutOfRange⟩) rfl rfl (fun a oe cls d pn hz hf => pss_one (ps_ret (pe_tup (pa_cons (pe_xfA rfl hz hf (pv 1)) (pa_cons (pe_xfA rfl hz hf (pv 1)) pa_nil)))))
      (.cons (i := 1) (ts := fun a cls d => tPair X.K "line" a cls d) (test_one ⟨by rfl, by decide +kernel, .inl T.g_InvalidFile⟩) rfl rfl (fun a oe cls d pn hz hf => pss_one (ps_ret (pe_tup (pa_cons (pe_xfA rfl hz hf (pv 1)) (pa_cons (pe_xfA rfl hz hf (pv 1)) pa_nil)))))
      (.cons (i := 1) (ts := fun a cls d => tPair X.K "name" a cls d) (test_three ⟨by rfl, by decide +kernel, .inl T.g_InvalidName⟩ ⟨by rfl, by decide +kernel, .inl T.g_DuplicateName⟩ ⟨by rfl, by decide +kernel, .inl T.g_UnknownName⟩) rfl rfl (fun a oe cls d pn hz hf => pss_one (ps_ret (pe_tup (pa_cons (pe_xfA rfl hz hf (pv 1)) (pa_cons (pe_xfA rfl hz hf (pv 1)) pa_nil)))))
      (.cons (i := 1) (ts := fun a cls d => tNever) testNot rfl rfl (fun a oe cls d pn hz hf => pss_one ps_never)
      (.cons (i := 1) (ts := fun a cls d => tNever) testNot rfl rfl (fun a oe cls d pn hz hf => pss_one ps_never)
      (.cons (i := 1) (ts := fun a cls d => tNever) testNot rfl rfl (fun a oe cls d pn hz hf => pss_one ps_never) .nil)))))))))), ?_⟩
  · refine ⟨fun pins s' σ H' D I h' => ?_⟩
    obtain ⟨Ech, hW, h1, h2, h3⟩ := h'
    exact (pss_one (ps_ret (pe_tup (pa_cons pe_str (pa_cons (act _ pn xe Ech _ _ (takes_len tk) hW) pa_nil))))).run pins s' σ H' D I ⟨h1, h2, h3⟩
  · refine ⟨EchT X.K Q, fun cls d σ' H' hE lσ => ?_, rfl, hc, h⟩
    obtain ⟨n, wd, fl, y, x, dd, rfl, eo, rfl, hd, k⟩ := hE
    have s1 : ∀ a : Addr, (σ'.set 1 (some (.ref a)))[1]? = some (some (.ref a)) := fun a => by
      rw [List.getElem?_set_self (by omega)]
    rcases eo with ⟨hn, rfl, m, rfl, rfl⟩ | ⟨rfl, rfl, rfl, rfl⟩
    · rcases hn with rfl | rfl | rfl
      · exact ⟨false, exmAny3 T.x_InvalidName_InvalidMachine T.x_InvalidName_InvalidTranslator T.x_InvalidName_InvalidOpponent, (fun z => nomatch z), fun _ => ⟨false, T.x_InvalidName_InvalidLetters, (fun z => nomatch z), fun _ => ⟨false, T.x_InvalidName_LimitExceeded, (fun z => nomatch z), fun _ => ⟨false, T.x_InvalidName_OutOfRange, (fun z => nomatch z), fun _ => ⟨false, T.x_InvalidName_InvalidFile, (fun z => nomatch z), fun _ =>
          ⟨true, exmAny3 T.x_InvalidName_InvalidName T.x_InvalidName_DuplicateName T.x_InvalidName_UnknownName, fun _ a _ => pair_go (s1 a) T.q_InvalidName T.n_InvalidName_word T.n_InvalidName_name hd (by decide) k, fun z => nomatch z⟩⟩⟩⟩⟩⟩
      · exact ⟨false, exmAny3 T.x_DuplicateName_InvalidMachine T.x_DuplicateName_InvalidTranslator T.x_DuplicateName_InvalidOpponent, (fun z => nomatch z), fun _ => ⟨false, T.x_DuplicateName_InvalidLetters, (fun z => nomatch z), fun _ => ⟨false, T.x_DuplicateName_LimitExceeded, (fun z => nomatch z), fun _ => ⟨false, T.x_DuplicateName_OutOfRange, (fun z => nomatch z), fun _ => ⟨false, T.x_DuplicateName_InvalidFile, (fun z => nomatch z), fun _ =>
          ⟨true, exmAny3 T.x_DuplicateName_InvalidName T.x_DuplicateName_DuplicateName T.x_DuplicateName_UnknownName, fun _ a _ => pair_go (s1 a) T.q_DuplicateName T.n_DuplicateName_word T.n_DuplicateName_name hd (by decide) k, fun z => nomatch z⟩⟩⟩⟩⟩⟩
      · exact ⟨false, exmAny3 T.x_UnknownName_InvalidMachine T.x_UnknownName_InvalidTranslator T.x_UnknownName_InvalidOpponent, (fun z => nomatch z), fun _ => ⟨false, T.x_UnknownName_InvalidLetters, (fun z => nomatch z), fun _ => ⟨false, T.x_UnknownName_LimitExceeded, (fun z => nomatch z), fun _ => ⟨false, T.x_UnknownName_OutOfRange, (fun z => nomatch z), fun _ => ⟨false, T.x_UnknownName_InvalidFile, (fun z => nomatch z), fun _ =>
          ⟨true, exmAny3 T.x_UnknownName_InvalidName T.x_UnknownName_DuplicateName T.x_UnknownName_UnknownName, fun _ a _ => pair_go (s1 a) T.q_UnknownName T.n_UnknownName_word T.n_UnknownName_name hd (by decide) k, fun z => nomatch z⟩⟩⟩⟩⟩⟩
    · exact ⟨false, exmAny3 T.x_LimitExceeded_InvalidMachine T.x_LimitExceeded_InvalidTranslator T.x_LimitExceeded_InvalidOpponent, (fun z => nomatch z), fun _ => ⟨false, T.x_LimitExceeded_InvalidLetters, (fun z => nomatch z), fun _ => ⟨true, T.x_LimitExceeded_LimitExceeded, fun _ a _ => pair_go (s1 a) T.q_LimitExceeded T.n_LimitExceeded_word T.n_LimitExceeded_limit hd (by decide) k, fun z => nomatch z⟩⟩⟩
end
section
variable {P : Program} {w : World} {K : PySem.W.Frag} {mg : Str → Option Value} {base : Heap}
/-! ### the law's state: what each object holds, by labels -/
open LamX
/-! a part of a heap by the kinds of its objects -/
def flt (f : HO → Bool) (h : Hp) : Hp := fun a => match h a with
  | some o => if f o = true then some o else none
  | none => none
structure DatF (f : HO → Bool) : Prop where
  l : ∀ xs, f (.lst xs) = true
  t : ∀ xs, f (.tup xs) = true
  fl : ∀ o xs, f (.frz o (.lst xs)) = true
  ft : ∀ o xs, f (.frz o (.tup xs)) = true
/-- all but tables -/
def nt : HO → Bool
  | .tbl _ => false
  | _ => true
/-- lists and tuples -/
def nd : HO → Bool
  | .lst _ => true
  | .tup _ => true
  | .frz _ u => nd u
  | _ => false
theorem ntF : DatF nt := ⟨fun _ => rfl, fun _ => rfl, fun _ _ => rfl, fun _ _ => rfl⟩
theorem ndF : DatF nd := ⟨fun _ => rfl, fun _ => rfl, fun _ _ => rfl, fun _ _ => rfl⟩
theorem nd_plain : ∀ {o : HO}, nd o = true → Plain o
  | .lst _, _ => trivial
  | .tup _, _ => trivial
  | .frz _ u, h => nd_plain (o := u) h
theorem nd_nt : ∀ {o : HO}, nd o = true → nt o = true
  | .lst _, _ => rfl
  | .tup _, _ => rfl
  | .frz _ _, _ => rfl
section
variable {f : HO → Bool} {h : Hp} {a : Addr} {o : HO}
theorem flt_in (e : h a = some o) (p : f o = true) : flt f h a = some o := by
  unfold flt
  rw [e]
  exact if_pos p
theorem flt_inv (e : flt f h a = some o) : h a = some o ∧ f o = true := by
  unfold flt at e
  split at e
  · rename_i u z
    split at e
    · rename_i q
      cases e
      exact ⟨z, q⟩
    · cases e
  · cases e
theorem flt_sub : Same (flt f h) h := fun a o e => (flt_inv e).1
theorem flt_sqL (F : DatF f) {xs : List V} (s : SqL K h a xs) : SqL K (flt f h) a xs := by
  rcases s with (s | ⟨o, s⟩) | s
  · exact .inl (.inl (flt_in s (F.l _)))
  · exact .inl (.inr ⟨o, flt_in s (F.fl _ _)⟩)
  · exact .inr s
theorem flt_sqT (F : DatF f) {xs : List V} (s : SqT K h a xs) : SqT K (flt f h) a xs := by
  rcases s with (s | ⟨o, s⟩) | s
  · exact .inl (.inl (flt_in s (F.t _)))
  · exact .inl (.inr ⟨o, flt_in s (F.ft _ _)⟩)
  · exact .inr s
mutual
theorem flt_dp (F : DatF f) : ∀ {d : PyData} {v : V}, Dp K h v d → Dp K (flt f h) v d
  | .none, _, h => by
    cases h
    exact .non
  | .bool b, _, h => by
    cases h
    exact .bl b
  | .int i, _, h => by
    cases h
    exact .int i
  | .str x, _, h => by
    cases h
    exact .str x
  | .list ds, _, h => by
    cases h with
    | lst s a => exact .lst (flt_sqL F s) (flt_dps F a)
  | .tuple ds, _, h => by
    cases h with
    | tup s a => exact .tup (flt_sqT F s) (flt_dps F a)
  | .dict _, _, h => by cases h
theorem flt_dps (F : DatF f) : ∀ {ds : List PyData} {vs : List V}, DpAll K h vs ds → DpAll K (flt f h) vs ds
  | [], _, h => by
    cases h
    exact .nil
  | d :: ds, _, h => by
    cases h with
    | cons a b => exact .cons (flt_dp F a) (flt_dps F b)
end
theorem flt_mac {p : Addr} {r : Raw} (s : MacAt K h p r) : MacAt K (flt nt h) p r := by
  obtain ⟨dx, t, e, d⟩ := s
  exact ⟨dx, t, flt_in e rfl, flt_dp ntF d⟩
theorem flt_macR {v : V} {r : Raw} (s : MacR K h v r) : MacR K (flt nt h) v r := by
  obtain ⟨o, m, e, z⟩ := s
  exact ⟨o, m, e, flt_mac z⟩
theorem flt_tr {p : Addr} {r : Told} (s : TrAt K h p r) : TrAt K (flt nt h) p r := by
  obtain ⟨dx, t, e, d⟩ := s
  exact ⟨dx, t, flt_in e rfl, flt_dp ntF d⟩
theorem flt_lawR (F : DatF f) {v : V} {r : Raw} (s : LawR K h v r) : LawR K (flt f h) v r := ⟨flt_dp F s.1, s.2⟩
theorem flt_cmd (F : DatF f) {v : V} : ∀ {c : Cmd}, CmdV K h v c → CmdV K (flt f h) v c
  | .add n r, ⟨a, b, p, u, e, q, d⟩ => ⟨a, b, p, u, e, flt_sqT F q, flt_dp F d⟩
  | .rep n r, ⟨a, b, p, u, e, q, d⟩ => ⟨a, b, p, u, e, flt_sqT F q, flt_dp F d⟩
  | .rem n, ⟨a, p, e, q⟩ => ⟨a, p, e, flt_sqT F q⟩
theorem flt_pool (F : DatF f) {us : List V} (s : PoolV K h us) : PoolV K (flt f h) us := ⟨s.1, fun i u e => by
  obtain ⟨r, d, o⟩ := s.2 i u e
  exact ⟨r, flt_dp F d, o⟩⟩
end
theorem cmd_same {h h' : Hp} (s : Same h h') {v : V} : ∀ {c : Cmd}, CmdV K h v c → CmdV K h' v c
  | .add n r, ⟨a, b, p, u, e, q, d⟩ => ⟨a, b, p, u, e, sqT_same s q, dp_same s d⟩
  | .rep n r, ⟨a, b, p, u, e, q, d⟩ => ⟨a, b, p, u, e, sqT_same s q, dp_same s d⟩
  | .rem n, ⟨a, p, e, q⟩ => ⟨a, p, e, sqT_same s q⟩
theorem pool_same {h h' : Hp} (s : Same h h') {us : List V} (p : PoolV K h us) : PoolV K h' us := ⟨p.1, fun i u e => by
  obtain ⟨r, d, o⟩ := p.2 i u e
  exact ⟨r, dp_same s d, o⟩⟩
theorem lawR_same {h h' : Hp} (s : Same h h') {v : V} {r : Raw} (p : LawR K h v r) : LawR K h' v r := ⟨dp_same s p.1, p.2⟩
/-! ### labels -/
inductive Lb where
  | cst
  | bag
  | st
  | tx
  | ct
  | lad (i : Bool)
  | she (i : Bool)
  | ses (i : Bool)
def LI (o : HO) : Prop := (∃ xs, o = .lst xs) ∨ ∃ C dx fs, o = .ins C dx fs
theorem li_l {xs : List V} : LI (.lst xs) := .inl ⟨xs, rfl⟩
theorem li_i {C dx : Addr} {fs : List (Str × V)} : LI (.ins C dx fs) := .inr ⟨C, dx, fs, rfl⟩
theorem not_li_t {xs : List V} : ¬ LI (.tup xs) := fun h => by
  rcases h with ⟨_, h⟩ | ⟨_, _, _, h⟩ <;> cases h
theorem not_li_d {kvs : List (Key × V)} : ¬ LI (.dK kvs) := fun h => by
  rcases h with ⟨_, h⟩ | ⟨_, _, _, h⟩ <;> cases h
theorem not_li_f {o : Obj} {u : HO} : ¬ LI (.frz o u) := fun h => by
  rcases h with ⟨_, h⟩ | ⟨_, _, _, h⟩ <;> cases h
theorem not_li_b {ps : Array Value} : ¬ LI (.tbl ps) := fun h => by
  rcases h with ⟨_, h⟩ | ⟨_, _, _, h⟩ <;> cases h
theorem not_li_x {φ : Heap → Prop} : ¬ LI (.ext φ) := fun h => by
  rcases h with ⟨_, h⟩ | ⟨_, _, _, h⟩ <;> cases h
/-- what no object of the law's holds -/
def imm (own : Addr → Lb) (H : Hp) : Hp := fun a => match own a with
  | .cst => flt nt H a
  | _ => none
section
variable {own own' : Addr → Lb} {H H' : Hp} {a : Addr} {o : HO} {k j : Lb}
theorem imm_in (w : own a = .cst) (e : H a = some o) (n : nt o = true) : imm own H a = some o := by
  unfold imm
  rw [w]
  exact flt_in e n
theorem imm_inv (e : imm own H a = some o) : own a = .cst ∧ H a = some o ∧ nt o = true := by
  unfold imm at e
  split at e
  · rename_i w
    exact ⟨w, flt_inv e⟩
  · cases e
theorem imm_sub : Same (imm own H) H := fun a o e => (imm_inv e).2.1
/-- a step: lists and instances that bear the label k may change, tables too -/
structure Stp (k : Lb) (own own' : Addr → Lb) (H H' : Hp) : Prop where
  pos : k ≠ .cst
  kp : ∀ a o, H a = some o → nt o = true → (own a = k → ¬ LI o) → H' a = some o
  ag : ∀ a, H a ≠ none → own a ≠ k → own' a = own a
theorem Stp.obj (s : Stp k own own' H H') (hj : j ≠ k) (w : own a = j) (e : H a = some o) (n : nt o = true) : H' a = some o := s.kp a o e n fun z => absurd (w.symm.trans z) hj
theorem Stp.frz (s : Stp k own own' H H') (l : ¬ LI o) (e : H a = some o) (n : nt o = true) : H' a = some o := s.kp a o e n fun _ => l
theorem Stp.lb (s : Stp k own own' H H') (hj : j ≠ k) (w : own a = j) (e : H a = some o) : own' a = j := (s.ag a (by rw [e]; intro z; cases z) (by rw [w]; exact hj)).trans w
theorem Stp.imm (s : Stp k own own' H H') : Same (imm own H) (imm own' H') := fun a o e => by
  obtain ⟨w, h, n⟩ := imm_inv e
  exact imm_in (s.lb (Ne.symm s.pos) w h) (s.obj (Ne.symm s.pos) w h n) n
theorem Stp.sqT (s : Stp k own own' H H') {xs : List V} (h : SqT K H a xs) : SqT K H' a xs := by
  rcases h with (h | ⟨o, h⟩) | h
  · exact .inl (.inl (s.frz not_li_t h rfl))
  · exact .inl (.inr ⟨o, s.frz not_li_f h rfl⟩)
  · exact .inr h
theorem stp_frm {F : Addr → Prop} (pos : k ≠ .cst) (f : Frm F H H') (hF : ∀ a, F a → own a = k ∧ ∀ o, H a = some o → LI o) : Stp k own own H H' where
  pos := pos
  kp := fun a o e _ l => f a o e fun z => l (hF a z).1 ((hF a z).2 o e)
  ag := fun _ _ _ => rfl
theorem stp_same (pos : k ≠ .cst) (s : Same H H') : Stp k own own H H' := ⟨pos, fun a o e _ _ => s a o e, fun _ _ _ => rfl⟩
theorem stp_ext (pos : k ≠ .cst) (s : ExtN H H') : Stp k own own H H' := ⟨pos, fun a o e n _ => s a o e (fun ps z => by rw [z] at n; cases n), fun _ _ _ => rfl⟩
theorem tabs_frm {T : List (Addr × Str)} {F : Addr → Prop} (f : Frm F H H') (hF : ∀ a o, F a → H a = some o → LI o) (t : Tabs T H) : Tabs T H' := fun p hp => by
  obtain ⟨ps, h1, h2, h3⟩ := t p hp
  refine ⟨ps, f _ _ h1 fun z => not_li_b (hF _ _ z h1), h2, fun pos cv hc => ?_⟩
  obtain ⟨c, e1, e2⟩ := h3 pos cv hc
  exact ⟨c, e1, f _ _ e2 fun z => not_li_x (hF _ _ z e2)⟩
end
/-! ### the parts -/
structure Cst where
  b : Addr
  l0 : Addr
  nl : Addr
  pl : Addr
  Ld : Addr
  St : Addr
  Sh : Addr
  Se : Addr
  Tx : Addr
  Ct : Addr
  ns : List Str
  us : List V
  P : Bool → Addr
  PL : Bool → Addr
  S : Bool → Addr
  EL : Bool → Addr
  Z : Bool → Addr
  r : Told
structure Sta where
  cd : Bool → Addr
  D : Bool → Addr
  C1 : Bool → List (Str × Raw)
  C2 : Bool → List (Str × Raw)
  is : Bool → List Nat
  tx : Bool → Str
  ct : Bool → Nat
  m : Bool → Nat
  bl : Bool → Nat
  bs : Bool → Nat
section
variable {α : Type}
def fset (f : Bool → α) (i : Bool) (x : α) : Bool → α := fun j => if j = i then x else f j
theorem fset_at {f : Bool → α} {i : Bool} {x : α} : fset f i x i = x := if_pos rfl
theorem fset_ne {f : Bool → α} {i j : Bool} {x : α} (h : j ≠ i) : fset f i x j = f j := if_neg h
end
def LadI (K : PySem.W.Frag) (own : Addr → Lb) (H : Hp) (k : Lb) (p pl cd : Addr) (n : Nat) (C : List (Str × Raw)) : Prop := ∃ (fl kn : Addr) (kvs : List (Key × V)) (ps : List V), LadO K H p cd pl fl kn ∧ H cd = some (.dK kvs) ∧ H pl = some (.lst ps) ∧ ps.length ≤ n ∧ RelC (MacR K (imm own H)) kvs C ∧ C.length ≤ 6 ∧ own p = k ∧ own pl = k
def StaI (K : PySem.W.Frag) (own : Addr → Lb) (H : Hp) (D : Addr) (C : List (Str × Raw)) : Prop := ∃ lvs : List (Key × V), H D = some (.dK lvs) ∧ RelC (LawR K (imm own H)) lvs C ∧ C.length ≤ 6
def SheI (K : PySem.W.Frag) (own : Addr → Lb) (H : Hp) (k : Lb) (s el : Addr) (m n : Nat) : Prop := ∃ (p cd pl fl kn : Addr) (es : List V), ShO K H s p el ∧ LadS K H p cd pl fl kn n ∧ H el = some (.lst es) ∧ es.length = m ∧ el ≠ pl ∧ el ≠ fl ∧ s ≠ p ∧ own el = k ∧ own p = k ∧ own pl = k ∧ own fl = k ∧ own s = .cst
def SesI (K : PySem.W.Frag) (own : Addr → Lb) (H : Hp) (k : Lb) (p : Addr) (r : Told) (is : List Nat) : Prop := ∃ d e : Addr, SesAt K H p d e r is ∧ TrAt K (imm own H) e r ∧ EntOk r is ∧ (∀ i ∈ is, i < 2) ∧ own p = k ∧ own d = k
structure CstI (K : PySem.W.Frag) (c : Cst) (own : Addr → Lb) (H : Hp) : Prop where
  nl : imm own H c.nl = some (.lst (c.ns.map V.str))
  n8 : c.ns.length = 8
  nle : ∀ x ∈ c.ns, x.length ≤ 8
  pl : imm own H c.pl = some (.lst c.us)
  pool : PoolV K (imm own H) c.us
  ld : imm own H c.Ld = some (.lst [.ref (c.P false), .ref (c.P true)])
  sh : imm own H c.Sh = some (.lst [.ref (c.S false), .ref (c.S true)])
  se : imm own H c.Se = some (.lst [.ref (c.Z false), .ref (c.Z true)])
  told : OkTold c.r
def Pt (K : PySem.W.Frag) (c : Cst) (s : Sta) (own : Addr → Lb) (H : Hp) : Lb → Prop
  | .cst => CstI K c own H ∧ ∀ i, StaI K own H (s.D i) (s.C2 i)
  | .bag => BagAt H c.b c.l0 ∧ own c.b = .bag ∧ own c.l0 = .cst
  | .st => H c.St = some (.lst [.ref (s.D false), .ref (s.D true)]) ∧ own c.St = .st
  | .tx => H c.Tx = some (.lst [.str (s.tx false), .str (s.tx true)]) ∧ own c.Tx = .tx
  | .ct => H c.Ct = some (.lst [.int (s.ct false), .int (s.ct true)]) ∧ own c.Ct = .ct
  | .lad i => LadI K own H (.lad i) (c.P i) (c.PL i) (s.cd i) (s.bl i) (s.C1 i)
  | .she i => SheI K own H (.she i) (c.S i) (c.EL i) (s.m i) (s.bs i)
  | .ses i => SesI K own H (.ses i) (c.Z i) c.r (s.is i)
section
variable {own own' : Addr → Lb} {H H' : Hp} {k j : Lb}
theorem lad_stp {p pl cd : Addr} {n : Nat} {C : List (Str × Raw)} (s : Stp k own own' H H') (hj : j ≠ k) (h : LadI K own H j p pl cd n C) : LadI K own' H' j p pl cd n C := by
  obtain ⟨fl, kn, kvs, ps, ⟨dx, h1⟩, h2, h3, h4, h5, h6, h7, h8⟩ := h
  exact ⟨fl, kn, kvs, ps, ⟨dx, s.obj hj h7 h1 rfl⟩, s.frz not_li_d h2 rfl, s.obj hj h8 h3 rfl, h4, relC_mono (fun v r => macR_same s.imm) h5, h6, s.lb hj h7 h1, s.lb hj h8 h3⟩
theorem sta_stp {D : Addr} {C : List (Str × Raw)} (s : Stp k own own' H H') (h : StaI K own H D C) : StaI K own' H' D C := by
  obtain ⟨lvs, h1, h2, h3⟩ := h
  exact ⟨lvs, s.frz not_li_d h1 rfl, relC_mono (fun v r => lawR_same s.imm) h2, h3⟩
theorem she_stp {p el : Addr} {m n : Nat} (s : Stp k own own' H H') (hj : j ≠ k) (h : SheI K own H j p el m n) : SheI K own' H' j p el m n := by
  obtain ⟨p, cd, pl, fl, kn, es, ⟨dx, h1⟩, ⟨⟨dl, h2⟩, ⟨kvs, h3, h4⟩, ⟨ps, h5, h6, h7⟩, ⟨fs, h8, h9⟩, h10⟩, h11, h12, h13, h14, h15, o1, o2, o3, o4, o5⟩ := h
  refine ⟨p, cd, pl, fl, kn, es, ⟨dx, s.obj (Ne.symm s.pos) o5 h1 rfl⟩, ⟨⟨dl, s.obj hj o2 h2 rfl⟩, ⟨kvs, s.frz not_li_d h3 rfl, h4⟩, ⟨ps, s.obj hj o3 h5 rfl, h6, fun v hv => ?_⟩, ⟨fs, s.obj hj o4 h8 rfl, h9⟩, h10⟩, s.obj hj o1 h11 rfl, h12, h13, h14, h15,
    s.lb hj o1 h11, s.lb hj o2 h2, s.lb hj o3 h5, s.lb hj o4 h8, s.lb (Ne.symm s.pos) o5 h1⟩
  obtain ⟨d, kv, e1, e2, e3⟩ := h7 v hv
  exact ⟨d, kv, e1, s.frz not_li_d e2 rfl, e3⟩
theorem ents_stp {vs : List V} {es : List Ent} (s : Stp k own own' H H') (h : EntsV K H vs es) : EntsV K H' vs es := ⟨h.1, fun i v e e1 e2 => by
  obtain ⟨c, e3, e4⟩ := h.2 i v e e1 e2
  exact ⟨c, e3, s.sqT e4⟩⟩
theorem ses_stp {p : Addr} {r : Told} {is : List Nat} (s : Stp k own own' H H') (hj : j ≠ k) (h : SesI K own H j p r is) : SesI K own' H' j p r is := by
  obtain ⟨d, e, ⟨dx, l, vs, h1, h2, h3⟩, h4, h5, h6, o1, o2⟩ := h
  exact ⟨d, e, ⟨dx, l, vs, s.obj hj o1 h1 rfl, s.obj hj o2 h2 rfl, ents_stp s h3⟩, tr_same s.imm h4, h5, h6, s.lb hj o1 h1, s.lb hj o2 h2⟩
theorem pt_stp {c : Cst} {t : Sta} (s : Stp k own own' H H') (hj : j ≠ k) (h : Pt K c t own H j) : Pt K c t own' H' j := by
  cases j with
  | cst =>
    obtain ⟨⟨h1, h2, h3, h4, h5, h6, h7, h8, h9⟩, h10⟩ := h
    exact ⟨⟨s.imm _ _ h1, h2, h3, s.imm _ _ h4, pool_same s.imm h5, s.imm _ _ h6, s.imm _ _ h7, s.imm _ _ h8, h9⟩, fun i => sta_stp s (h10 i)⟩
  | bag =>
    obtain ⟨⟨ns, n, x, y, h1, h2, h3, h4, h5, h6⟩, o1, o2⟩ := h
    exact ⟨⟨ns, n, x, y, h1, h2, s.obj hj o1 h3 rfl, s.obj (Ne.symm s.pos) o2 h4 rfl, h5, h6⟩, s.lb hj o1 h3, s.lb (Ne.symm s.pos) o2 h4⟩
  | st => exact ⟨s.obj hj h.2 h.1 rfl, s.lb hj h.2 h.1⟩
  | tx => exact ⟨s.obj hj h.2 h.1 rfl, s.lb hj h.2 h.1⟩
  | ct => exact ⟨s.obj hj h.2 h.1 rfl, s.lb hj h.2 h.1⟩
  | lad i => exact lad_stp s hj h
  | she i => exact she_stp s hj h
  | ses i => exact ses_stp s hj h
end
abbrev TL (K : PySem.W.Frag) : List (Addr × Str) := [((He.cT K ("law", none)).2, "law.<locals>.<lambda>")]
/-- what bears a label is there -/
def Alc (own : Addr → Lb) (H : Hp) : Prop := ∀ a, own a ≠ .cst → ∃ o, H a = some o ∧ nt o = true
/-- the law's state -/
structure Wd (K : PySem.W.Frag) (c : Cst) (s : Sta) (own : Addr → Lb) (H : Hp) : Prop where
  al : Alc own H
  tabs : Tabs (TL K) H
  ne : ∀ i j, s.D i ≠ s.cd j
  pt : ∀ j, Pt K c s own H j
section
variable {own own' : Addr → Lb} {H H' : Hp} {k : Lb} {c : Cst} {s s' : Sta}
theorem Wd.step (w : Wd K c s own H) (S : Stp k own own' H H') (al : Alc own' H') (tabs : Tabs (TL K) H') (ne : ∀ i j, s'.D i ≠ s'.cd j) (sm : ∀ j, j ≠ k → Pt K c s own' H' j → Pt K c s' own' H' j) (nw : Pt K c s' own' H' k) : Wd K c s' own' H' :=
  ⟨al, tabs, ne, fun j => (Classical.em (j = k)).elim (fun h => h ▸ nw) fun h => sm j h (pt_stp S h (w.pt j))⟩
theorem al_frm {F : Addr → Prop} (al : Alc own H) (f : Frm F H H') (hF : ∀ a, F a → ∃ o, H' a = some o ∧ nt o = true) : Alc own H' := fun a ha => by
  by_cases z : F a
  · exact hF a z
  · obtain ⟨o, e, n⟩ := al a ha
    exact ⟨o, f a o e z, n⟩
theorem Wd.lbl (w : Wd K c s own H) {a : Addr} (e : H a = none) : own a = .cst := Classical.byContradiction fun z => by
  obtain ⟨o, e2, _⟩ := w.al a z
  rw [e] at e2
  cases e2
/-- new objects, no change -/
theorem Wd.same (w : Wd K c s own H) (S : Same H H') : Wd K c s own H' := by
  have hb := w.pt .bag
  exact w.step (k := .bag) (stp_same (by intro z; cases z) S) (al_frm w.al (Frm.of (F := fun _ => False) S) fun _ z => z.elim) (w.tabs.ext fun b o e => S b o e) w.ne (fun _ _ h => h) ⟨bag_same hb.1 S, hb.2⟩
/-- tables grow -/
theorem Wd.ext (w : Wd K c s own H) (S : ExtN H H') (t : Tabs (TL K) H') : Wd K c s own H' := by
  obtain ⟨⟨ns, n, x, y, h1, h2, h3, h4, h5, h6⟩, o1, o2⟩ := w.pt .bag
  refine w.step (k := .bag) (stp_ext (by intro z; cases z) S) (fun a ha => ?_) t w.ne (fun _ _ h => h) ⟨⟨ns, n, x, y, h1, h2, S _ _ h3 (fun _ z => by cases z), S _ _ h4 (fun _ z => by cases z), h5, h6⟩, o1, o2⟩
  obtain ⟨o, e, n⟩ := w.al a ha
  exact ⟨o, S a o e (fun ps z => by rw [z] at n; cases n), n⟩
/-- the bag is drawn from -/
theorem Wd.bag (w : Wd K c s own H) (o : Off c.b H H') (hb : BagAt H' c.b c.l0) : Wd K c s own H' := by
  obtain ⟨⟨ns, n, x, y, h1, h2, h3, h4, h5, h6⟩, o1, o2⟩ := w.pt .bag
  have f : Frm (fun a => a = c.b) H H' := fun a u e z => o a u z e
  refine w.step (k := .bag) (stp_frm (nofun) f fun a z => ?_) (al_frm w.al f fun a z => ?_) (tabs_frm f (fun a u z e => ?_) w.tabs) w.ne (fun _ _ h => h) ⟨hb, o1, o2⟩
  · have z2 : a = c.b := z
    rw [z2]
    refine ⟨o1, fun u e => ?_⟩
    rw [h3] at e
    cases e
    exact li_l
  · have z2 : a = c.b := z
    rw [z2]
    obtain ⟨_, _, _, _, _, _, q, _⟩ := hb
    exact ⟨_, q, rfl⟩
  · have z2 : a = c.b := z
    rw [z2, h3] at e
    cases e
    exact li_l
/-- what is new since then, in the objects of no label -/
theorem imm_grow (al : Alc own H) : Same (flt nt (grow (imm own H) H H')) (imm own H') := fun a o e => by
  obtain ⟨e1, n⟩ := flt_inv e
  unfold grow at e1
  split at e1
  · rename_i z
    refine imm_in ?_ e1 n
    rcases z with z | z
    · obtain ⟨u, hu⟩ := Option.isSome_iff_exists.mp z
      exact (imm_inv hu).1
    · refine Classical.byContradiction fun q => ?_
      obtain ⟨u, hu, _⟩ := al a q
      rw [z] at hu
      cases hu
  · cases e1
/-- a command on the ladder i went through -/
theorem Wd.run {i : Bool} {cd' fl' kn : Addr} {kvs' : List (Key × V)} {ps' : List V} {C' : List (Str × Raw)} {n : Nat} (w : Wd K c s own H) (f : Frm (fun a => a = c.P i ∨ a = c.PL i) H H') (hL : LadO K H' (c.P i) cd' (c.PL i) fl' kn) (hn : H cd' = none) (hc : H' cd' = some (.dK kvs'))
    (rel : RelC (MacR K (grow (imm own H) H H')) kvs' C') (hp : H' (c.PL i) = some (.lst ps')) (ln : ps'.length ≤ n) (l6 : C'.length ≤ 6) :
    Wd K c { s with C1 := fset s.C1 i C', cd := fset s.cd i cd', bl := fset s.bl i n } own H' := by
  obtain ⟨fl, kn0, kvs, ps, ⟨dx, h1⟩, h2, h3, h4, h5, h6, h7, h8⟩ := w.pt (.lad i)
  have li : ∀ a o, (a = c.P i ∨ a = c.PL i) → H a = some o → LI o := fun a o z e => by
    rcases z with z | z
    · rw [z, h1] at e
      cases e
      exact li_i
    · rw [z, h3] at e
      cases e
      exact li_l
  obtain ⟨dx', e1⟩ := hL
  refine w.step (k := .lad i) (stp_frm (nofun) f fun a z => ⟨?_, fun o e => li a o z e⟩) (al_frm w.al f fun a z => ?_) (tabs_frm f li w.tabs) (fun j l => ?_) (fun j hj q => ?_) ?_
  · rcases z with z | z
    · rw [z]
      exact h7
    · rw [z]
      exact h8
  · rcases z with z | z
    · rw [z]
      exact ⟨_, e1, rfl⟩
    · rw [z]
      exact ⟨_, hp, rfl⟩
  · show s.D j ≠ fset s.cd i cd' l
    unfold fset
    split
    · obtain ⟨lvs, q, _⟩ := (w.pt .cst).2 j
      exact ne_of_none q hn
    · exact w.ne j l
  · cases j with
    | lad j =>
      have ne : j ≠ i := fun z => hj (by rw [z])
      show LadI K own H' (.lad j) (c.P j) (c.PL j) (fset s.cd i cd' j) (fset s.bl i n j) (fset s.C1 i C' j)
      rw [fset_ne ne, fset_ne ne, fset_ne ne]
      exact q
    | _ => exact q
  · show LadI K own H' (.lad i) (c.P i) (c.PL i) (fset s.cd i cd' i) (fset s.bl i n i) (fset s.C1 i C' i)
    rw [fset_at, fset_at, fset_at]
    exact ⟨fl', kn, kvs', ps', ⟨dx', e1⟩, hc, hp, ln, relC_mono (fun v r q => macR_same (imm_grow w.al) (flt_macR q)) rel, l6, h7, h8⟩
/-- a command on the ladder i met an error -/
theorem Wd.err {i : Bool} {fl kn : Addr} (w : Wd K c s own H) (f : Frm (fun a => a = c.P i) H H') (hL : LadO K H' (c.P i) (s.cd i) (c.PL i) fl kn) : Wd K c s own H' := by
  obtain ⟨fl0, kn0, kvs, ps, ⟨dx, h1⟩, h2, h3, h4, h5, h6, h7, h8⟩ := w.pt (.lad i)
  have li : ∀ a o, (a = c.P i) → H a = some o → LI o := fun a o z e => by
    rw [z, h1] at e
    cases e
    exact li_i
  obtain ⟨dx', e1⟩ := hL
  have S : Stp (.lad i) own own H H' := stp_frm (nofun) f fun a z => ⟨by rw [(show a = c.P i from z)]; exact h7, fun o e => li a o z e⟩
  refine w.step S (al_frm w.al f fun a z => ?_) (tabs_frm f li w.tabs) w.ne (fun j hj q => q) ?_
  · rw [(show a = c.P i from z)]
    exact ⟨_, e1, rfl⟩
  · have np : c.PL i ≠ c.P i := ne_of h3 h1 (by intro z; cases z)
    exact ⟨fl, kn, kvs, ps, ⟨dx', e1⟩, S.frz not_li_d h2 rfl, f _ _ h3 np, h4, relC_mono (fun v r => macR_same S.imm) h5, h6, h7, h8⟩
/-- a letter is written to the session i -/
theorem Wd.wr {i : Bool} {d e : Addr} {is : List Nat} (w : Wd K c s own H) (f : Frm (fun a => a = c.Z i ∨ a = d) H H') (h0 : H d ≠ none) (od : own d = .ses i) (hd : ∀ o, H d = some o → LI o) (hS : SesAt K H' (c.Z i) d e c.r is) (ht : TrAt K (imm own H) e c.r) (eo : EntOk c.r is) (h2 : ∀ i ∈ is, i < 2) :
    Wd K c { s with is := fset s.is i is } own H' := by
  obtain ⟨d0, e0, ⟨dx, l, vs, h1, _, _⟩, _, _, _, o1, _⟩ := w.pt (.ses i)
  have li : ∀ a o, (a = c.Z i ∨ a = d) → H a = some o → LI o := fun a o z q => by
    rcases z with z | z
    · rw [z, h1] at q
      cases q
      exact li_i
    · rw [z] at q
      exact hd o q
  obtain ⟨dx', l', vs', e1, e2, e3⟩ := hS
  have S : Stp (.ses i) own own H H' := stp_frm (nofun) f fun a z => ⟨by rcases z with z | z <;> rw [z] <;> assumption, fun o q => li a o z q⟩
  refine w.step S (al_frm w.al f fun a z => ?_) (tabs_frm f li w.tabs) w.ne (fun j hj q => ?_) ?_
  · rcases z with z | z
    · rw [z]
      exact ⟨_, e1, rfl⟩
    · rw [z]
      exact ⟨_, e2, rfl⟩
  · cases j with
    | ses j =>
      have ne : j ≠ i := fun z => hj (by rw [z])
      show SesI K own H' (.ses j) (c.Z j) c.r (fset s.is i is j)
      rw [fset_ne ne]
      exact q
    | _ => exact q
  · show SesI K own H' (.ses i) (c.Z i) c.r (fset s.is i is i)
    rw [fset_at]
    exact ⟨d, e, ⟨dx', l', vs', e1, e2, e3⟩, tr_same S.imm ht, eo, h2, o1, od⟩
/-- a line is run on the shell i -/
theorem Wd.shr {i : Bool} {p cd pl fl kn cd' fl' : Addr} {es : List V} {u : V} (w : Wd K c s own H) (hl : es.length = s.m i) (hs : ShO K H (c.S i) p (c.EL i)) (hL : LadS K H p cd pl fl kn (s.bs i)) (he : H (c.EL i) = some (.lst es)) (n1 : c.EL i ≠ pl) (n2 : c.EL i ≠ fl) (n3 : c.S i ≠ p)
    (o1 : own (c.EL i) = .she i) (o2 : own p = .she i) (o3 : own pl = .she i) (o4 : own fl = .she i) (o5 : own (c.S i) = .cst)
    (f : Frm (fun a => a = p ∨ a = pl ∨ a = fl ∨ a = c.EL i) H H') (hL' : LadS K H' p cd' pl fl' kn (s.bs i + 1)) (hf : fl' = fl ∨ H fl' = none) (he' : H' (c.EL i) = some (.lst (es ++ [u]))) :
    ∃ own', Wd K c { s with m := fset s.m i (s.m i + 1), bs := fset s.bs i (s.bs i + 1) } own' H' := by
  have hL0 := hL
  have hL1 := hL'
  obtain ⟨⟨dl, q1⟩, _, ⟨ps, q2, _⟩, ⟨fs, q3, _⟩, _⟩ := hL0
  obtain ⟨⟨dl', r1⟩, _, ⟨ps', r2, _⟩, ⟨fs', r3, _⟩, rn⟩ := hL1
  obtain ⟨dx, hsx⟩ := hs
  have li : ∀ a o, (a = p ∨ a = pl ∨ a = fl ∨ a = c.EL i) → H a = some o → LI o := fun a o z e => by
    rcases z with z | z | z | z
    · rw [z, q1] at e
      cases e
      exact li_i
    · rw [z, q2] at e
      cases e
      exact li_l
    · rw [z, q3] at e
      cases e
      exact li_l
    · rw [z, he] at e
      cases e
      exact li_l
  have lb : ∀ a, (a = p ∨ a = pl ∨ a = fl ∨ a = c.EL i) → own a = .she i := fun a z => by
    rcases z with z | z | z | z <;> rw [z] <;> assumption
  let own' : Addr → Lb := fun a => if a = fl' then .she i else if a = fl then .cst else own a
  have ne1 : ∀ {a}, a ≠ fl' → a ≠ fl → own' a = own a := fun {a} x y => by
    show (if a = fl' then Lb.she i else if a = fl then .cst else own a) = own a
    rw [if_neg x, if_neg y]
  have at1 : own' fl' = .she i := if_pos rfl
  have S : Stp (.she i) own own' H H' := ⟨nofun, fun a o e _ l => f a o e fun z => l (lb a z) (li a o z e), fun a ha hk => ne1 (fun z => by
    rcases hf with q | q
    · exact hk (by rw [z, q]; exact o4)
    · exact ha (by rw [z]; exact q)) fun z => hk (by rw [z]; exact o4)⟩
  have gl : ∀ {a o}, H a = some o → a ≠ fl → own' a = own a := fun {a o} e z => by
    refine ne1 (fun y => ?_) z
    rcases hf with q | q
    · exact z (y.trans q)
    · rw [y, q] at e
      cases e
  have npf : p ≠ fl := ne_of q1 q3 (by intro z; cases z)
  have nsf : c.S i ≠ fl := ne_of hsx q3 (by intro z; cases z)
  have nlf : pl ≠ fl := Ne.symm hL.2.2.2.2
  refine ⟨own', w.step S (fun a ha => ?_) (tabs_frm f li w.tabs) w.ne (fun j hj q => ?_) ?_⟩
  · by_cases z1 : a = fl'
    · rw [z1]
      exact ⟨_, r3, rfl⟩
    · by_cases z2 : a = fl
      · exact absurd (show own' a = .cst from by show (if a = fl' then Lb.she i else if a = fl then .cst else own a) = .cst; rw [if_neg z1, if_pos z2]) ha
      · rw [ne1 z1 z2] at ha
        obtain ⟨o, e, no⟩ := w.al a ha
        by_cases z3 : a = p ∨ a = pl ∨ a = fl ∨ a = c.EL i
        · rcases z3 with z | z | z | z
          · rw [z]
            exact ⟨_, r1, rfl⟩
          · rw [z]
            exact ⟨_, r2, rfl⟩
          · exact absurd z z2
          · rw [z]
            exact ⟨_, he', rfl⟩
        · exact ⟨o, f a o e z3, no⟩
  · cases j with
    | she j =>
      have ne : j ≠ i := fun z => hj (by rw [z])
      show SheI K own' H' (.she j) (c.S j) (c.EL j) (fset s.m i (s.m i + 1) j) (fset s.bs i (s.bs i + 1) j)
      rw [fset_ne ne, fset_ne ne]
      exact q
    | _ => exact q
  · show SheI K own' H' (.she i) (c.S i) (c.EL i) (fset s.m i (s.m i + 1) i) (fset s.bs i (s.bs i + 1) i)
    rw [fset_at, fset_at]
    refine ⟨p, cd', pl, fl', kn, es ++ [u], ⟨dx, f _ _ hsx fun z => ?_⟩, hL', he', by rw [List.length_append, hl]; rfl, n1, ?_, n3, (gl he n2).trans o1, (gl q1 npf).trans o2, (gl q2 nlf).trans o3, at1, (gl hsx nsf).trans o5⟩
    · have z2 := lb _ z
      rw [o5] at z2
      cases z2
    · rcases hf with q | q
      · rw [q]
        exact n2
      · exact ne_of_none he q
end
def bI : Bool → Int
  | false => 0
  | true => 1
def bN : Bool → Nat
  | false => 0
  | true => 1
theorem at2 (g : Bool → V) (i : Bool) : atI [g false, g true] (bI i) = some (g i) := by cases i <;> rfl
theorem ix2 {i : Bool} {x y : V} : ixN [x, y].length (bI i) = some (bN i) := by cases i <;> rfl
theorem set2 {α : Type} (f : α → V) (g : Bool → α) (i : Bool) (x : α) : [f (g false), f (g true)].set (bN i) (f x) = [f (fset g i x false), f (fset g i x true)] := by cases i <;> rfl
theorem bI_of {d : Int} (h0 : 0 ≤ d) (h1 : d < 2) : ∃ i, d = bI i := by
  rcases (show d = 0 ∨ d = 1 by omega) with h | h
  · exact ⟨false, h⟩
  · exact ⟨true, h⟩
section
variable {own own' : Addr → Lb} {H H' : Hp} {k : Lb} {c : Cst} {s s' : Sta}
/-- one of the law's own lists is stored into -/
theorem put_stp {a : Addr} {xs ys : List V} (pos : k ≠ .cst) (o : own a = k) (e : H a = some (.lst xs)) : Stp k own own H (upd H a (.lst ys)) :=
  stp_frm (F := fun b => b = a) pos (fun b u q z => hp_ne z q) fun b z => ⟨by rw [(show b = a from z)]; exact o, fun u q => by
    rw [(show b = a from z), e] at q
    cases q
    exact li_l⟩
theorem put_al {a : Addr} {ys : List V} (al : Alc own H) : Alc own (upd H a (.lst ys)) := al_frm (F := fun b => b = a) al (fun b u q z => hp_ne z q) fun b z => by
  have z2 : b = a := z
  rw [z2]
  exact ⟨_, upd_same, rfl⟩
theorem put_tabs {T : List (Addr × Str)} {a : Addr} {xs ys : List V} (e : H a = some (.lst xs)) (t : Tabs T H) : Tabs T (upd H a (.lst ys)) := tabs_frm (F := fun b => b = a) (fun b u q z => hp_ne z q) (fun b u z q => by
  rw [(show b = a from z), e] at q
  cases q
  exact li_l) t
theorem Wd.sto {i : Bool} {D' : Addr} {C' : List (Str × Raw)} (w : Wd K c s own H) (h : StaI K own H D' C') (ne : ∀ j, D' ≠ s.cd j) :
    Wd K c { s with D := fset s.D i D', C2 := fset s.C2 i C' } own (upd H c.St (.lst [.ref (fset s.D i D' false), .ref (fset s.D i D' true)])) := by
  obtain ⟨e, o⟩ := w.pt .st
  have S := put_stp (ys := [.ref (fset s.D i D' false), .ref (fset s.D i D' true)]) (k := .st) (nofun) o e
  refine w.step S (put_al w.al) (put_tabs e w.tabs) (fun j l => ?_) (fun j hj q => ?_) ⟨upd_same, o⟩
  · show fset s.D i D' j ≠ s.cd l
    unfold fset
    split
    · exact ne l
    · exact w.ne j l
  · cases j with
    | cst =>
      refine ⟨q.1, fun j => ?_⟩
      show StaI K own _ (fset s.D i D' j) (fset s.C2 i C' j)
      by_cases z : j = i
      · rw [z, fset_at, fset_at]
        exact sta_stp S h
      · rw [fset_ne z, fset_ne z]
        exact q.2 j
    | st => exact absurd rfl hj
    | _ => exact q
theorem Wd.stx {i : Bool} {x : Str} (w : Wd K c s own H) : Wd K c { s with tx := fset s.tx i x } own (upd H c.Tx (.lst [.str (fset s.tx i x false), .str (fset s.tx i x true)])) := by
  obtain ⟨e, o⟩ := w.pt .tx
  refine w.step (put_stp (k := .tx) (nofun) o e) (put_al w.al) (put_tabs e w.tabs) w.ne (fun j hj q => ?_) ⟨upd_same, o⟩
  cases j with
  | tx => exact absurd rfl hj
  | _ => exact q
theorem Wd.sct {i : Bool} {x : Nat} (w : Wd K c s own H) : Wd K c { s with ct := fset s.ct i x } own (upd H c.Ct (.lst [.int ((fset s.ct i x false : Nat) : Int), .int ((fset s.ct i x true : Nat) : Int)])) := by
  obtain ⟨e, o⟩ := w.pt .ct
  refine w.step (put_stp (k := .ct) (nofun) o e) (put_al w.al) (put_tabs e w.tabs) w.ne (fun j hj q => ?_) ⟨upd_same, o⟩
  cases j with
  | ct => exact absurd rfl hj
  | _ => exact q
/-! ### the calls that are told of a part of the heap -/
theorem imm_join {h h' : Hp} (al : Alc own H) (gone : ∀ a o, H a = some o → h a = none → h' a = none) (S : Same h' (join h H h')) {a : Addr} {o : HO} (e : h' a = some o) (hw : ∀ u, h a = some u → own a = .cst) (n : nt o = true) : imm own (join h H h') a = some o := by
  refine imm_in ?_ (S a o e) n
  cases z : h a with
  | some u => exact hw u z
  | none =>
    refine Classical.byContradiction fun q => ?_
    obtain ⟨u, hu, _⟩ := al a q
    rw [gone a u hu z] at e
    cases e
/-- a region and one object more -/
def plus (h : Hp) (a : Addr) (H : Hp) : Hp := fun x => if x = a then H x else h x
theorem plus_at {h : Hp} {a : Addr} : plus h a H a = H a := if_pos rfl
theorem plus_ne {h : Hp} {a x : Addr} (n : x ≠ a) : plus h a H x = h x := if_neg n
theorem plus_sub {h : Hp} {a : Addr} (s : Same h H) : Same (plus h a H) H := fun x o e => by
  by_cases z : x = a
  · rw [z, plus_at] at e
    rw [z]
    exact e
  · rw [plus_ne z] at e
    exact s x o e
/-- lists and tuples that no object of the law's holds -/
abbrev reg (own : Addr → Lb) (H : Hp) : Hp := flt nd (imm own H)
theorem reg_sub : Same (reg own H) H := flt_sub.trans imm_sub
theorem reg_plain {a : Addr} {o : HO} (e : reg own H a = some o) : Plain o := nd_plain (flt_inv e).2
theorem reg_own {a : Addr} {o : HO} (e : reg own H a = some o) : own a = .cst := (imm_inv (flt_inv e).1).1
theorem reg_in {a : Addr} {o : HO} (e : imm own H a = some o) (n : nd o = true) : reg own H a = some o := flt_in e n
end
end
section
variable {P : Program} {w : World} {K : PySem.W.Frag} {mg : Str → Option Value} {base : Heap}
/-! ### the law's calls -/
open LamX
theorem newC_len {C : List (Str × Raw)} {cm : Cmd} (l : C.length ≤ 6) : (newC C cm).length ≤ 6 := by
  cases cm with
  | add n r =>
    unfold newC
    dsimp only
    split
    · split
      · exact l
      · split
        · exact l
        · exact putC_len (.inr (by omega)) l
    · exact l
  | rep n r =>
    unfold newC
    dsimp only
    split
    · rename_i h
      exact putC_len (.inl h) l
    · exact l
  | rem n =>
    unfold newC dropC
    exact Nat.le_trans (List.length_filter_le _ _) l
theorem okD_due {R : V → Raw → Prop} {kvs : List (Key × V)} {C : List (Str × Raw)} (rel : RelC R kvs C) (hR : ∀ v r, R v r → OkRaw r) (cm : Cmd) : okD 6 (dueD C cm) := by
  have two : ∀ {a b : PyData}, okD 5 a → okD 5 b → okD 6 (.tuple [a, b]) := fun {a b} ha hb => ⟨(show (2 : Nat) < 1000 by decide), fun d hd => by
    simp only [List.mem_cons, List.not_mem_nil, or_false] at hd
    rcases hd with rfl | rfl
    · exact ha
    · exact hb⟩
  cases cm with
  | add n r =>
    unfold dueD
    dsimp only
    split
    · split
      · exact two trivial trivial
      · split
        · exact two trivial trivial
        · exact two trivial trivial
    · exact two trivial trivial
  | rep n r =>
    unfold dueD
    dsimp only
    split
    · exact two trivial trivial
    · exact two trivial trivial
  | rem n =>
    unfold dueD
    dsimp only
    rcases relC_val (n := n) rel with ⟨_, e⟩ | ⟨v, r, _, e, q⟩
    · rw [e]
      exact two trivial trivial
    · rw [e]
      exact two trivial (okD_raw (hR v r q))
section
variable {own own' : Addr → Lb} {H H' : Hp} {k : Lb} {c : Cst} {s s' : Sta} {Q : VK} {E : XK}
theorem w_command (w : Wd K c s own H) (kk : ∀ (v : V) (cm : Cmd) (H' : Hp), Wd K c s own H' → Off c.b H H' → CmdV K (imm own H') v cm → Q v H') : Framed (sp_l_command K) [.ref c.b, .ref c.nl, .ref c.pl] H Q E := by
  obtain ⟨⟨h1, h2, h3, h4, h5, _, _, _, _⟩, _⟩ := w.pt .cst
  obtain ⟨hb, ob, ol⟩ := w.pt .bag
  have hb0 := hb
  obtain ⟨ns, n, x, y, nlb, q1, q2, q3, q4, q5⟩ := hb0
  have nb : ∀ {a o}, imm own H a = some o → a ≠ c.b := fun {a o} e z => by
    have z2 := (imm_inv e).1
    rw [z, ob] at z2
    cases z2
  have al0 := flt_in (f := nd) (imm_in ol q3 rfl) rfl
  have sub : Same (plus (reg own H) c.b H) H := plus_sub reg_sub
  have inP : ∀ {a o}, imm own H a = some o → nd o = true → plus (reg own H) c.b H a = some o := fun {a o} e z => by
    rw [plus_ne (nb e)]
    exact reg_in e z
  have own0 : ∀ {a u}, a ≠ c.b → plus (reg own H) c.b H a = some u → own a = .cst := fun {a u} z e => by
    rw [plus_ne z] at e
    exact reg_own e
  refine ⟨plus (reg own H) c.b H, sub, fun a o e => ?_, c.b, c.l0, c.nl, c.pl, c.ns, c.us, rfl, ?_, inP h1 rfl, h2, h3, nb h1, inP h4 rfl, nb h4, ?_, fun v cm h' off hb' hv gone S => ?_⟩
  · by_cases z : a = c.b
    · rw [z, plus_at, q2] at e
      cases e
      trivial
    · rw [plus_ne z] at e
      exact reg_plain e
  · refine ⟨ns, n, x, y, nlb, q1, ?_, ?_, q4, q5⟩
    · rw [plus_at]
      exact q2
    · rw [plus_ne nlb]
      exact al0
  · refine pool_same (fun a o e => ?_) (flt_pool ndF h5)
    rw [del_ne (nb (flt_sub _ _ e)), plus_ne (nb (flt_sub _ _ e))]
    exact e
  · have offH : Off c.b H (join (plus (reg own H) c.b H) H h') := fun a o na e => by
      cases z : plus (reg own H) c.b H a with
      | none => exact join_old e z
      | some u =>
        rw [join_in z]
        have q := sub _ _ z
        rw [e] at q
        cases q
        exact off a _ na z
    refine kk v cm _ (w.bag offH (bag_same hb' S)) offH (cmd_same (fun a o e => ?_) (flt_cmd ntF hv))
    obtain ⟨e1, e2⟩ := flt_inv e
    have na : a ≠ c.b := fun z => by
      rw [z, del_same] at e1
      cases e1
    rw [del_ne na] at e1
    exact imm_join w.al gone S e1 (fun u z => own0 na z) e2
theorem w_result {i : Bool} {v : V} {cm : Cmd} (w : Wd K c s own H) (hv : CmdV K (imm own H) v cm)
    (kk : ∀ (p : Addr) (u : V) (D' : Addr) (H' : Hp), Same H H' → SqT K H' p [u, .ref D'] → Dp K (imm own H') u (dueD (s.C2 i) cm) → StaI K own H' D' (newC (s.C2 i) cm) → (∀ j, D' ≠ s.cd j) → Wd K c s own H' → Q (.ref p) H') : Framed (sp_l_result K) [.ref (s.D i), v] H Q E := by
  obtain ⟨lvs, hD, rel, l6⟩ := (w.pt .cst).2 i
  have sub : Same (plus (reg own H) (s.D i) H) H := plus_sub reg_sub
  have nD : ∀ {a o}, reg own H a = some o → a ≠ s.D i := fun {a o} e z => by
    have q := reg_sub _ _ e
    rw [z, hD] at q
    cases q
    have z2 := (flt_inv e).2
    cases z2
  have subR : Same (reg own H) (plus (reg own H) (s.D i) H) := fun a o e => by
    rw [plus_ne (nD e)]
    exact e
  refine ⟨plus (reg own H) (s.D i) H, sub, fun a o e => ?_, reg own H, s.D i, v, cm, s.C2 i, lvs, rfl, subR, by rw [plus_at]; exact hD, relC_mono (fun v r => flt_lawR ndF) rel, flt_cmd ndF hv, l6, fun p u D' kvs' h' sm hp hu hD' rel' gone S => ?_⟩
  · by_cases z : a = s.D i
    · rw [z, plus_at, hD] at e
      cases e
      trivial
    · rw [plus_ne z] at e
      exact reg_plain e
  · have SH : Same H (join (plus (reg own H) (s.D i) H) H h') := join_sub sub sm
    have W := w.same SH
    have ij : Same (flt nd h') (imm own (join (plus (reg own H) (s.D i) H) H h')) := fun a o e => by
      obtain ⟨e1, e2⟩ := flt_inv e
      refine imm_join w.al gone S e1 (fun x z => ?_) (nd_nt e2)
      by_cases y : a = s.D i
      · have z2 := sm a x z
        rw [y, plus_at, hD] at z
        cases z
        rw [e1] at z2
        cases z2
        cases e2
      · rw [plus_ne y] at z
        exact reg_own z
    refine kk p u D' _ SH (sqT_same S hp) (dp_same ij (flt_dp ndF hu)) ⟨kvs', S _ _ hD', relC_mono (fun v r => lawR_same fun a o e => ?_) rel', newC_len l6⟩ (fun j z => ?_) W
    · exact (stp_same (k := .bag) (own := own) nofun SH).imm _ _ (flt_sub _ _ e)
    · obtain ⟨fl, kn, kv, ps, _, hc, _⟩ := w.pt (.lad j)
      have n1 : s.cd j ≠ s.D i := Ne.symm (w.ne i j)
      have n2 : plus (reg own H) (s.D i) H (s.cd j) = none := by
        rw [plus_ne n1]
        cases q : reg own H (s.cd j) with
        | none => rfl
        | some o =>
          have q2 := reg_sub _ _ q
          rw [hc] at q2
          cases q2
          have q3 := (flt_inv q).2
          cases q3
      have n3 := gone _ _ hc n2
      rw [← z, hD'] at n3
      cases n3
/-- what a command on the ladder i leaves -/
structure RunS (s s' : Sta) (i : Bool) (cm : Cmd) : Prop where
  D : s'.D = s.D
  C1 : s'.C1 = fset s.C1 i (newC (s.C1 i) cm)
  C2 : s'.C2 = s.C2
  is : s'.is = s.is
  tx : s'.tx = s.tx
  ct : s'.ct = s.ct
  m : s'.m = s.m
  bs : s'.bs = s.bs
  bl : ∀ j, s'.bl j ≤ s.bl j + 1
theorem fset_self {α : Type} {f : Bool → α} {i : Bool} : fset f i (f i) = f := by
  funext j
  unfold fset
  split
  · rename_i h
    rw [h]
  · rfl
theorem w_run {i : Bool} {v : V} {cm : Cmd} (w : Wd K c s own H) (hv : CmdV K (imm own H) v cm) (l5 : s.bl i < 500)
    (kq : ∀ (u : V) (x : PyData) (s' : Sta) (H' : Hp), dueD (s.C1 i) cm = .tuple [.str "", x] → RunS s s' i cm → Wd K c s' own H' → Same (imm own H) (imm own H') → Dp K H' u x → Q u H')
    (ke : ∀ (cls wd f : Str) (y : V) (x : PyData) (s' : Sta) (d : Addr) (H' : Hp), dueD (s.C1 i) cm = .tuple [.str wd, x] → ErO cls f y x → RunS s s' i cm → Wd K c s' own H' → Same (imm own H) (imm own H') → H' d = some (.xd [("word", .str wd), (f, y)]) → E (.ref (He.ga K cls)) (some d) H') :
    sp_l_run K [.ref (c.P i), v] H Q E := by
  obtain ⟨fl, kn, kvs, ps, hL, hc, hp, l1, rel, l6, o1, o2⟩ := w.pt (.lad i)
  have no : ∀ {a}, own a = .lad i → imm own H a = none := fun {a} z => by
    cases q : imm own H a with
    | none => rfl
    | some o =>
      have z2 := (imm_inv q).1
      rw [z] at z2
      cases z2
  obtain ⟨dx, e1⟩ := id hL
  have li : ∀ a, (a = c.P i ∨ a = c.PL i) → own a = .lad i ∧ ∀ o, H a = some o → LI o := fun a z => by
    rcases z with z | z
    · rw [z]
      refine ⟨o1, fun o e => ?_⟩
      rw [e1] at e
      cases e
      exact li_i
    · rw [z]
      refine ⟨o2, fun o e => ?_⟩
      rw [hp] at e
      cases e
      exact li_l
  refine ⟨imm own H, c.P i, s.cd i, c.PL i, fl, kn, v, cm, s.C1 i, kvs, ps, rfl, imm_sub, hL, hc, hp, by omega, rel, l6, hv, no o1, no o2, fun u x cd' fl' kvs' H' e f q1 q2 q3 q4 q5 q6 => ?_, fun cls wd fd y x d H' e1' e2 e3 f q1 q2 q3 => ?_⟩
  · refine kq u x { s with C1 := fset s.C1 i (newC (s.C1 i) cm), cd := fset s.cd i cd', bl := fset s.bl i (s.bl i + 1) } H' e ⟨rfl, rfl, rfl, rfl, rfl, rfl, rfl, rfl, fun j => ?_⟩ (w.run (n := s.bl i + 1) f q1 q2 q3 q4 q5 (by rw [List.length_append]; exact Nat.add_le_add_right l1 1) (newC_len l6)) (stp_frm (k := .lad i) (own := own) nofun f li).imm q6
    show fset s.bl i (s.bl i + 1) j ≤ s.bl j + 1
    unfold fset
    split
    · rename_i h
      rw [h]
      exact Nat.le_refl _
    · exact Nat.le_succ _
  · refine ke cls wd fd y x s d H' e1' e3 ⟨rfl, by rw [e2, fset_self], rfl, rfl, rfl, rfl, rfl, rfl, fun j => Nat.le_succ _⟩ (w.err f q1) (stp_frm (k := .lad i) (own := own) nofun f fun a z => li a (.inl z)).imm q3
theorem tr_go {v : V} {r : Told} (al : Alc own H) (hv : Dp K (imm own H) v (toldD r)) (ok : OkTold r) (kk : ∀ (p : Addr) (H' : Hp), Same H H' → H p = none → TrAt K (imm own H') p r → Q (.ref p) H') : Framed (sp_l_translator K) [v] H Q E := by
  refine ⟨reg own H, reg_sub, fun a o e => reg_plain e, v, r, rfl, flt_dp ndF hv, ok, fun p h' sm hp tr gone S => ?_⟩
  have hn : H p = none := by
    obtain ⟨dx, t, e, _⟩ := id tr
    cases z : H p with
    | none => rfl
    | some o =>
      rw [gone p o z hp] at e
      cases e
  refine kk p _ (join_sub reg_sub sm) hn (tr_same (fun a o e => ?_) (flt_tr tr))
  obtain ⟨e1, e2⟩ := flt_inv e
  exact imm_join al gone S e1 (fun u z => reg_own z) e2
end
/-! ### the state is set up, object by object -/
structure Wl (K : PySem.W.Frag) (c : Cst) (s : Sta) (L : Lb → Prop) (own : Addr → Lb) (H : Hp) : Prop where
  al : Alc own H
  tabs : Tabs (TL K) H
  pt : ∀ j, L j → Pt K c s own H j
def lab (own : Addr → Lb) (N : List Addr) (k : Lb) : Addr → Lb := fun a => if a ∈ N then k else own a
section
variable {own own' : Addr → Lb} {H H' : Hp} {k : Lb} {c c' : Cst} {s s' : Sta} {L : Lb → Prop} {N : List Addr}
theorem lab_in {a : Addr} (h : a ∈ N) : lab own N k a = k := if_pos h
theorem lab_out {a : Addr} (h : a ∉ N) : lab own N k a = own a := if_neg h
theorem Alc.lbl (al : Alc own H) {a : Addr} (e : H a = none) : own a = .cst := Classical.byContradiction fun z => by
  obtain ⟨o, e2, _⟩ := al a z
  rw [e] at e2
  cases e2
theorem alc_same (al : Alc own H) (S : Same H H') : Alc own H' := al_frm (F := fun _ => False) al (Frm.of S) fun _ z => z.elim
theorem imm_same (S : Same H H') : Same (imm own H) (imm own H') := (stp_same (k := .bag) nofun S).imm
theorem Wl.same (w : Wl K c s L own H) (S : Same H H') : Wl K c s L own H' := ⟨alc_same w.al S, w.tabs.ext S, fun j h => by
  cases j with
  | bag => exact pt_stp (k := .st) (stp_same nofun S) nofun (w.pt _ h)
  | _ => exact pt_stp (k := .bag) (stp_same nofun S) nofun (w.pt _ h)⟩
theorem lab_stp (pos : k ≠ .cst) (S : Same H H') (hN : ∀ a, a ∈ N → H a = none) : Stp k own (lab own N k) H H' := ⟨pos, fun a o e _ _ => S a o e, fun a ha _ => lab_out fun z => ha (hN a z)⟩
theorem Wl.add (w : Wl K c s L own H) (pos : k ≠ .cst) (hk : ¬ L k) (S : Same H H') (hN : ∀ a, a ∈ N → H a = none ∧ ∃ o, H' a = some o ∧ nt o = true) (sm : ∀ j, L j → j ≠ k → Pt K c s (lab own N k) H' j → Pt K c' s' (lab own N k) H' j) (nw : Pt K c' s' (lab own N k) H' k) :
    Wl K c' s' (fun j => L j ∨ j = k) (lab own N k) H' := by
  have st : Stp k own (lab own N k) H H' := lab_stp pos S fun a z => (hN a z).1
  refine ⟨fun a ha => ?_, w.tabs.ext S, fun j h => ?_⟩
  · by_cases z : a ∈ N
    · exact (hN a z).2
    · rw [lab_out z] at ha
      obtain ⟨o, e, n⟩ := w.al a ha
      exact ⟨o, S _ _ e, n⟩
  · by_cases z : j = k
    · rw [z]
      exact nw
    · have hL : L j := h.elim id fun y => absurd y z
      exact sm j hL z (pt_stp st z (w.pt j hL))
end
end
section
variable {P : Program} {w : World} {K : PySem.W.Frag} {mg : Str → Option Value} {base : Heap}
/-! ### objects made -/
open LamX
section
variable {own own' : Addr → Lb} {H H' : Hp} {k : Lb} {c c' : Cst} {s s' : Sta} {L : Lb → Prop} {N : List Addr} {Q : VK} {Q0 : Hp → Prop} {E : XK} {i : Bool} {x dx : Addr}
theorem w_lad0 (w : Wl K c s L own H) (hC : ¬ L .cst) (hL : ¬ L (.lad i)) (hx : H x = none) (hd : H dx = none) (hne : dx ≠ x)
    (kk : ∀ (cd pl : Addr) (own' : Addr → Lb) (H' : Hp), Wl K { c with P := fset c.P i x, PL := fset c.PL i pl } { s with cd := fset s.cd i cd, C1 := fset s.C1 i [], bl := fset s.bl i 0 } (fun j => L j ∨ j = .lad i) own' H' → Same H H' → Same (imm own H) (imm own' H') → H' cd = some (.dK []) → Q0 H') :
    sp_Ladder_init K [.ref x] (upd (upd H dx (.own x)) x (.ins (He.ga K "Ladder") dx [])) (fun v H2 => v = .non ∧ Q0 H2) E := by
  have SM := mk_same (o := .own x) (u := .ins (He.ga K "Ladder") dx []) hx hd hne
  refine ⟨x, dx, rfl, upd_same, fun cd pl fl kn H5 off hcd hpl hL5 ecd epl efl nfp hfl => ⟨rfl, ?_⟩⟩
  have S : Same H H5 := off_same SM hx off
  have hN : ∀ a, a ∈ [x, pl] → H a = none ∧ ∃ o, H5 a = some o ∧ nt o = true := fun a ha => by
    simp only [List.mem_cons, List.not_mem_nil, or_false] at ha
    rcases ha with rfl | rfl
    · obtain ⟨d, e⟩ := hL5
      exact ⟨hx, _, e, rfl⟩
    · exact ⟨free_same SM hpl, _, epl, rfl⟩
  refine kk cd pl (lab own [x, pl] (.lad i)) H5 (w.add (k := .lad i) nofun hL S hN (fun j lj hj q => ?_) ?_) S (lab_stp (own := own) (k := .lad i) nofun S fun a z => (hN a z).1).imm ecd
  · cases j with
    | lad j =>
      have ne : j ≠ i := fun z => hj (by rw [z])
      show LadI K _ H5 (.lad j) (fset c.P i x j) (fset c.PL i pl j) (fset s.cd i cd j) (fset s.bl i 0 j) (fset s.C1 i [] j)
      rw [fset_ne ne, fset_ne ne, fset_ne ne, fset_ne ne, fset_ne ne]
      exact q
    | cst => exact absurd lj hC
    | _ => exact q
  · show LadI K _ H5 (.lad i) (fset c.P i x i) (fset c.PL i pl i) (fset s.cd i cd i) (fset s.bl i 0 i) (fset s.C1 i [] i)
    rw [fset_at, fset_at, fset_at, fset_at, fset_at]
    exact ⟨fl, kn, [], [], hL5, ecd, epl, Nat.le_refl _, .nil, Nat.zero_le _, lab_in (by simp), lab_in (by simp)⟩
theorem w_she0 (w : Wl K c s L own H) (hC : ¬ L .cst) (hL : ¬ L (.she i)) (hx : H x = none) (hd : H dx = none) (hne : dx ≠ x)
    (kk : ∀ (el : Addr) (own' : Addr → Lb) (H' : Hp), Wl K { c with S := fset c.S i x, EL := fset c.EL i el } { s with m := fset s.m i 0, bs := fset s.bs i 0 } (fun j => L j ∨ j = .she i) own' H' → Same H H' → Same (imm own H) (imm own' H') → Q0 H') :
    sp_Shell_init K [.ref x, .non] (upd (upd H dx (.own x)) x (.ins (He.ga K "Shell") dx [])) (fun v H2 => v = .non ∧ Q0 H2) E := by
  have SM := mk_same (o := .own x) (u := .ins (He.ga K "Shell") dx []) hx hd hne
  refine ⟨x, dx, rfl, upd_same, fun p cd pl fl kn el H5 off hp hcd hpl hel npx hL5 ecd epl efl nfp hfl nep nef hs5 eel => ⟨rfl, ?_⟩⟩
  have S : Same H H5 := off_same SM hx off
  have hN : ∀ a, a ∈ [p, pl, fl, el] → H a = none ∧ ∃ o, H5 a = some o ∧ nt o = true := fun a ha => by
    simp only [List.mem_cons, List.not_mem_nil, or_false] at ha
    rcases ha with rfl | rfl | rfl | rfl
    · obtain ⟨d, e⟩ := hL5
      exact ⟨free_same SM hp, _, e, rfl⟩
    · exact ⟨free_same SM hpl, _, epl, rfl⟩
    · exact ⟨free_same SM hfl, _, efl, rfl⟩
    · exact ⟨free_same SM hel, _, eel, rfl⟩
  refine kk el (lab own [p, pl, fl, el] (.she i)) H5 (w.add (k := .she i) nofun hL S hN (fun j lj hj q => ?_) ?_) S (lab_stp (own := own) (k := .she i) nofun S fun a z => (hN a z).1).imm
  · cases j with
    | she j =>
      have ne : j ≠ i := fun z => hj (by rw [z])
      show SheI K _ H5 (.she j) (fset c.S i x j) (fset c.EL i el j) (fset s.m i 0 j) (fset s.bs i 0 j)
      rw [fset_ne ne, fset_ne ne, fset_ne ne, fset_ne ne]
      exact q
    | cst => exact absurd lj hC
    | _ => exact q
  · show SheI K _ H5 (.she i) (fset c.S i x i) (fset c.EL i el i) (fset s.m i 0 i) (fset s.bs i 0 i)
    rw [fset_at, fset_at, fset_at, fset_at]
    have hm : ∀ {y : Addr}, (upd (upd H dx (.own x)) x (.ins (He.ga K "Shell") dx [])) y = none → x ≠ y := fun {y} e z => by
      rw [← z, upd_same] at e
      cases e
    refine ⟨p, cd, pl, fl, kn, [], hs5, ⟨hL5, ⟨[], ecd, .inl rfl⟩, ⟨[], epl, Nat.le_refl _, fun v hv => by cases hv⟩, ⟨[], efl, Nat.le_refl _⟩, nfp⟩, eel, rfl, nep, nef, Ne.symm npx, lab_in (by simp), lab_in (by simp), lab_in (by simp), lab_in (by simp), ?_⟩
    rw [lab_out]
    · exact w.al.lbl hx
    · simp only [List.mem_cons, List.not_mem_nil, or_false]
      rintro (z | z | z | z)
      · exact npx z.symm
      · exact hm hpl z
      · exact hm hfl z
      · exact hm hel z
theorem w_ses0 {e : Addr} {r : Told} (w : Wl K c s L own H) (hC : ¬ L .cst) (hL : ¬ L (.ses i)) (hr : c.r = r) (ht : TrAt K (imm own H) e r) (okr : OkTold r) (hx : H x = none) (hd : H dx = none) (hne : dx ≠ x)
    (kk : ∀ (own' : Addr → Lb) (H' : Hp), Wl K { c with Z := fset c.Z i x } { s with is := fset s.is i [] } (fun j => L j ∨ j = .ses i) own' H' → Same H H' → Same (imm own H) (imm own' H') → Q0 H') :
    sp_Session_init K [.ref x, .ref e] (upd (upd H dx (.own x)) x (.ins (He.ga K "Session") dx [])) (fun v H2 => v = .non ∧ Q0 H2) E := by
  have SM := mk_same (o := .own x) (u := .ins (He.ga K "Session") dx []) hx hd hne
  refine ⟨x, dx, e, r, rfl, upd_same, tr_same (imm_sub.trans SM) ht, fun d H5 off hdn hS => ⟨rfl, ?_⟩⟩
  have S : Same H H5 := off_same SM hx off
  have hS0 := hS
  obtain ⟨dx2, l, vs, e1, e2, _⟩ := hS0
  have hN : ∀ a, a ∈ [x, d] → H a = none ∧ ∃ o, H5 a = some o ∧ nt o = true := fun a ha => by
    simp only [List.mem_cons, List.not_mem_nil, or_false] at ha
    rcases ha with rfl | rfl
    · exact ⟨hx, _, e1, rfl⟩
    · exact ⟨free_same SM hdn, _, e2, rfl⟩
  have ii := (lab_stp (own := own) (k := .ses i) (N := [x, d]) nofun S fun a z => (hN a z).1).imm
  refine kk (lab own [x, d] (.ses i)) H5 (w.add (k := .ses i) nofun hL S hN (fun j lj hj q => ?_) ?_) S ii
  · cases j with
    | ses j =>
      have ne : j ≠ i := fun z => hj (by rw [z])
      show SesI K _ H5 (.ses j) (fset c.Z i x j) c.r (fset s.is i [] j)
      rw [fset_ne ne, fset_ne ne]
      exact q
    | cst => exact absurd lj hC
    | _ => exact q
  · show SesI K _ H5 (.ses i) (fset c.Z i x i) c.r (fset s.is i [] i)
    rw [fset_at, fset_at, hr]
    exact ⟨d, e, hS, tr_same ii ht, ent_nil okr, (fun j hj => by cases hj), lab_in (by simp), lab_in (by simp)⟩
/-- one of the law's own lists -/
theorem w_lst0 {a : Addr} {xs : List V} (w : Wl K c s L own H) (pos : k ≠ .cst) (hk : ¬ L k) (ha : H a = none) (sm : ∀ j, L j → j ≠ k → Pt K c s (lab own [a] k) (upd H a (.lst xs)) j → Pt K c' s' (lab own [a] k) (upd H a (.lst xs)) j) (nw : lab own [a] k a = k → Pt K c' s' (lab own [a] k) (upd H a (.lst xs)) k) :
    ∃ own', Wl K c' s' (fun j => L j ∨ j = k) own' (upd H a (.lst xs)) ∧ Same (imm own H) (imm own' (upd H a (.lst xs))) := by
  have S : Same H (upd H a (.lst xs)) := K70.Same.new1 ha
  have hN : ∀ b, b ∈ [a] → H b = none ∧ ∃ o, (upd H a (.lst xs)) b = some o ∧ nt o = true := fun b hb => by
    rw [List.mem_singleton.mp hb]
    exact ⟨ha, _, upd_same, rfl⟩
  exact ⟨lab own [a] k, w.add pos hk S hN sm (nw (lab_in (by simp))), (lab_stp (own := own) pos S fun a z => (hN a z).1).imm⟩
theorem w_tx0 {a : Addr} (w : Wl K c s L own H) (hC : ¬ L .cst) (hk : ¬ L .tx) (ha : H a = none) : ∃ own', Wl K { c with Tx := a } { s with tx := fun _ => "" } (fun j => L j ∨ j = .tx) own' (upd H a (.lst [.str "", .str ""])) ∧ Same (imm own H) (imm own' (upd H a (.lst [.str "", .str ""]))) :=
  w_lst0 w nofun hk ha (fun j lj hj q => by
    cases j with
    | tx => exact absurd rfl hj
    | cst => exact absurd lj hC
    | _ => exact q) fun ol => ⟨upd_same, ol⟩
theorem w_ct0 {a : Addr} (w : Wl K c s L own H) (hC : ¬ L .cst) (hk : ¬ L .ct) (ha : H a = none) : ∃ own', Wl K { c with Ct := a } { s with ct := fun _ => 0 } (fun j => L j ∨ j = .ct) own' (upd H a (.lst [.int 0, .int 0])) ∧ Same (imm own H) (imm own' (upd H a (.lst [.int 0, .int 0]))) :=
  w_lst0 w nofun hk ha (fun j lj hj q => by
    cases j with
    | ct => exact absurd rfl hj
    | cst => exact absurd lj hC
    | _ => exact q) fun ol => ⟨upd_same, ol⟩
theorem Wl.close {Ld Sh Se : Addr} (w : Wl K c s L own H) (hL : ∀ j, j ≠ .cst → L j) (h : CstI K { c with Ld := Ld, Sh := Sh, Se := Se } own H) (sta : ∀ i, StaI K own H (s.D i) (s.C2 i)) (ne : ∀ i j, s.D i ≠ s.cd j) : Wd K { c with Ld := Ld, Sh := Sh, Se := Se } s own H :=
  ⟨w.al, w.tabs, ne, fun j => by
    cases j with
    | cst => exact ⟨h, sta⟩
    | bag => exact w.pt .bag (hL _ nofun)
    | st => exact w.pt .st (hL _ nofun)
    | tx => exact w.pt .tx (hL _ nofun)
    | ct => exact w.pt .ct (hL _ nofun)
    | lad i => exact w.pt (.lad i) (hL _ nofun)
    | she i => exact w.pt (.she i) (hL _ nofun)
    | ses i => exact w.pt (.ses i) (hL _ nofun)⟩
/-- between two turns, n of them past -/
structure GoodS (s : Sta) (n : Nat) : Prop where
  C : ∀ i, s.C1 i = s.C2 i
  tx : ∀ i, s.tx i = txt (s.is i)
  ct : ∀ i, s.ct i = (s.is i).length
  m : ∀ i, s.m i = (s.is i).length
  bl : ∀ i, s.bl i ≤ n
  bs : ∀ i, s.bs i ≤ n
  len : ∀ i, (s.is i).length ≤ n
end
end
section
variable {P : Program} {w : World} {K : PySem.W.Frag} {mg : Str → Option Value} {base : Heap}
/-! ### the law's command, tried -/
open LamX
theorem erO_dp {H : Hp} {cls f : Str} {y : V} {x : PyData} (e : ErO cls f y x) : Dp K H y x := by
  rcases e with ⟨_, _, n, rfl, rfl⟩ | ⟨_, _, rfl, rfl⟩
  · exact .str n
  · exact .int 6
section
variable {own : Addr → Lb} {H : Hp} {c : Cst} {st : Sta} {i : Bool} {v : V} {cm : Cmd} {Q : VK}
theorem w_try {t : XK → Hp → VK → Prop} (W : Wd K c st own H) (hv : CmdV K (imm own H) v cm) (l5 : st.bl i < 500) (ht : ∀ E H1 Q1, Wd K c st own H1 → sp_l_run K [.ref (c.P i), v] H1 Q1 E → t E H1 Q1)
    (kk : ∀ (p : Addr) (st2 : Sta) (H' : Hp), RunS st st2 i cm → Wd K c st2 own H' → Same (imm own H) (imm own H') → Dp K H' (.ref p) (dueD (st.C1 i) cm) → Q (.ref p) H') : TTry K t H Q := by
  refine ht _ _ _ W (w_run W hv l5 (fun u x st2 H' e rs W' r hx => ⟨?_, fun p hp => ?_⟩) fun cls wd f y x st2 dd H' e eo rs W' r hd => ⟨cls, wd, f, y, x, dd, rfl, eo, rfl, hd, fun p hp => ?_⟩)
  · rw [szl]
    exact (show (2 : Nat) ≤ 16777216 by decide)
  · refine kk p st2 _ rs (W'.same (K70.Same.new1 hp)) (r.trans (imm_same (K70.Same.new1 hp))) ?_
    rw [e]
    exact .tup (SqT.of upd_same) (.cons (.str _) (.cons (dp_same (K70.Same.new1 hp) hx) .nil))
  · refine kk p st2 _ rs (W'.same (K70.Same.new1 hp)) (r.trans (imm_same (K70.Same.new1 hp))) ?_
    rw [e]
    exact .tup (SqT.of upd_same) (.cons (.str _) (.cons (erO_dp eo) .nil))
theorem w_lam {t : XK → TE} {σ : L2.St} (W : Wd K c st own H) (hv : CmdV K (imm own H) v cm) (l5 : st.bl i < 500) (ht : ∀ E H1 Q1, Wd K c st own H1 → sp_l_run K [.ref (c.P i), v] H1 Q1 E → t E σ H1 Q1)
    (kk : ∀ (p : Addr) (st2 : Sta) (H' : Hp), RunS st st2 i cm → Wd K c st2 own H' → Same (imm own H) (imm own H') → Dp K H' (.ref p) (dueD (st.C1 i) cm) → Q (.ref p) H') : tLam (TL K) (TTry K) t σ H Q :=
  ⟨W.tabs, fun H1 eN t1 => by
    have r := (stp_ext (k := .bag) (own := own) nofun eN).imm
    exact w_try (W.ext eN t1) (cmd_same r hv) l5 ht fun p st2 H' rs W' r2 d => kk p st2 H' rs W' (r.trans r2) d⟩
/-- a letter is written -/
theorem w_write {j : Nat} (W : Wd K c st own H) (hj : j < 2) (l : (st.is i).length < 100) (okr : OkTold c.r)
    (kk : ∀ (x : V) (H' : Hp), Wd K c { st with is := fset st.is i (st.is i ++ [j]) } own H' → Q x H') {E : XK} : sp_Session_write K [.ref (c.Z i), .str (lt j)] H Q E := by
  obtain ⟨d, e, hS, ht, eo, hi, o1, o2⟩ := W.pt (.ses i)
  obtain ⟨dx, l0, vs, e1, e2, e3⟩ := id hS
  refine ⟨H, c.Z i, d, e, c.r, st.is i, j, rfl, Same.refl _, hS, tr_same imm_sub ht, okr, eo, l, hj, fun x H' f hS' => ?_⟩
  refine kk x H' (W.wr (d := d) (e := e) f (by rw [e2]; intro z; cases z) o2 (fun o q => ?_) ?_ ht (ent_snoc okr eo hj) fun k hk => ?_)
  · rw [e2] at q
    cases q
    exact li_l
  · obtain ⟨dx', l', vs', q1, q2, q3⟩ := hS'
    exact ⟨dx', l', vs', grow_sub _ _ q1, grow_sub _ _ q2, entsV_tp (Tp.of grow_sub) q3⟩
  · rcases List.mem_append.mp hk with z | z
    · exact hi k z
    · rw [List.mem_singleton.mp z]
      exact hj
/-- a line is run -/
theorem w_line {l : Lin} (W : Wd K c st own H) (l5 : st.bs i < 500) (lm : st.m i < 1000)
    (kk : ∀ (x : V) (own' : Addr → Lb) (H' : Hp), Wd K c { st with m := fset st.m i (st.m i + 1), bs := fset st.bs i (st.bs i + 1) } own' H' → Q x H') {E : XK} : sp_Shell_run K [.ref (c.S i), .str l.text] H Q E := by
  obtain ⟨p, cd, pl, fl, kn, es, hs, hL, he, hl, n1, n2, n3, o1, o2, o3, o4, o5⟩ := W.pt (.she i)
  refine ⟨c.S i, p, c.EL i, cd, pl, fl, kn, st.bs i, l, es, rfl, hs, hL, l5, he, by omega, n1, n2, n3, fun x u cd' fl' H' f hL' hf he' => ?_⟩
  obtain ⟨own', W'⟩ := W.shr hl hs hL he n1 n2 n3 o1 o2 o3 o4 o5 f hL' hf he'
  exact kk x own' H' W'
/-- the ladder i and the law's contents -/
theorem w_match (W : Wd K c st own H) (hC : st.C1 i = st.C2 i) (kk : ∀ H', Wd K c st own H' → Q (.bl true) H') {E : XK} : sp_l_matches K [.ref (c.P i), .ref (st.D i)] H Q E := by
  obtain ⟨fl, kn, kvs, ps, hL, hc, hp, l1, rel, l6, o1, o2⟩ := W.pt (.lad i)
  obtain ⟨lvs, hD, rel2, _⟩ := (W.pt .cst).2 i
  have sub : ∀ {a o}, imm own H a = some o → (∀ kvs, o ≠ .dK kvs) → del H (st.D i) a = some o := fun {a o} e n => by
    have q := imm_sub _ _ e
    rw [del_ne (fun z => by
      rw [z, hD] at q
      exact n _ (Option.some.inj q).symm)]
    exact q
  have sn : Same (flt nd (imm own H)) (del H (st.D i)) := fun a o e => by
    obtain ⟨e1, e2⟩ := flt_inv e
    exact sub e1 fun kvs z => by
      rw [z] at e2
      cases e2
  refine ⟨c.P i, st.cd i, c.PL i, fl, kn, st.D i, kvs, lvs, st.C2 i, rfl, hL, hc, hD, W.ne i i, ?_, relC_mono (fun v r q => lawR_same sn (flt_lawR ndF q)) rel2, by rw [← hC]; exact l6, fun H' S => kk H' (W.same S)⟩
  rw [← hC]
  refine relC_mono (fun v r q => ?_) rel
  obtain ⟨o, m, e, dx, t, z1, z2⟩ := q
  exact ⟨o, m, e, dx, t, sub z1 (fun kvs z => by cases z), dp_same sn (flt_dp ndF z2)⟩
end
/-! ### the letters written, as a text -/
theorem str_ext {a b : Str} (h : a.cps.toList = b.cps.toList) : a = b := by
  cases a
  cases b
  congr
  exact Array.toList_inj.mp h
theorem app_cps (a b : Str) : (a ++ b).cps.toList = a.cps.toList ++ b.cps.toList := by
  show (a.cps ++ b.cps).toList = _
  simp
theorem join_cps : ∀ l : List Str, (Str.join ("" : Str) l).cps.toList = (l.map fun x => x.cps.toList).flatten
  | [] => rfl
  | [x] => by
    show x.cps.toList = _
    simp
  | x :: y :: r => by
    show (x ++ ("" : Str) ++ Str.join "" (y :: r)).cps.toList = _
    rw [app_cps, app_cps, join_cps (y :: r), show ("" : Str).cps.toList = [] by decide +kernel, List.append_nil, List.map_cons (l := y :: r), List.flatten_cons]
def lc (i : Nat) : Nat := if i = 0 then 97 else 98
theorem lt_cps (i : Nat) : (lt i).cps.toList = [lc i] := by
  unfold lt lc
  split
  · decide +kernel
  · decide +kernel
theorem join_eq0 : ∀ (y : Str) (l : List Str), Txt.join y l = Str.join y l := fun y l => by
  have z := PyProof.Rows.join_plain_closes y l
  simpa using z
theorem txt_cps (is : List Nat) : (txt is).cps.toList = is.map lc := by
  unfold txt
  rw [K70.join_eq0, join_cps, List.map_cons, List.flatten_cons, show ("" : Str).cps.toList = [] by decide +kernel, List.nil_append, List.map_map]
  induction is with
  | nil => rfl
  | cons i is ih =>
    rw [List.map_cons, List.flatten_cons, ih, List.map_cons]
    show (lt i).cps.toList ++ _ = _
    rw [lt_cps]
    rfl
theorem txt_len (is : List Nat) : (txt is).length = is.length := by
  show (txt is).cps.size = _
  rw [← Array.length_toList, txt_cps, List.length_map]
theorem txt_snoc (is : List Nat) (j : Nat) : txt is ++ lt j = txt (is ++ [j]) := str_ext (by rw [app_cps, txt_cps, txt_cps, lt_cps, List.map_append]; rfl)
theorem txt_inj : ∀ {is js : List Nat}, (∀ i ∈ is, i < 2) → (∀ j ∈ js, j < 2) → is.map lc = js.map lc → is = js
  | [], [], _, _, _ => rfl
  | [], _ :: _, _, _, h => by cases h
  | _ :: _, [], _, _, h => by cases h
  | i :: is, j :: js, hi, hj, h => by
    rw [List.map_cons, List.map_cons] at h
    injection h with h1 h2
    have i2 := hi i (List.mem_cons_self ..)
    have j2 := hj j (List.mem_cons_self ..)
    have e : i = j := by
      unfold lc at h1
      split at h1 <;> split at h1 <;> omega
    rw [e, txt_inj (fun k hk => hi k (List.mem_cons_of_mem _ hk)) (fun k hk => hj k (List.mem_cons_of_mem _ hk)) h2]
theorem txt_eq {is js : List Nat} (hi : ∀ i ∈ is, i < 2) (hj : ∀ j ∈ js, j < 2) : decide (V.str (txt is) = V.str (txt js)) = decide (is = js) := by
  refine decide_eq_decide.mpr ⟨fun h => ?_, fun h => by rw [h]⟩
  have e : txt is = txt js := V.str.inj h
  refine txt_inj hi hj ?_
  rw [← txt_cps, ← txt_cps, e]
theorem good_next {st st2 : Sta} {i : Bool} {cm : Cmd} {lj n : Nat} {D' : Addr} (gd : GoodS st n) (rs : RunS { st with D := fset st.D i D', C2 := fset st.C2 i (newC (st.C2 i) cm) } st2 i cm) :
    GoodS { st2 with is := fset st2.is i (st2.is i ++ [lj]), tx := fset st2.tx i (st2.tx i ++ lt lj), ct := fset st2.ct i (st2.ct i + 1), m := fset st2.m i (st2.m i + 1), bs := fset st2.bs i (st2.bs i + 1) } (n + 1) := by
  have ei : st2.is = st.is := rs.is
  have et : st2.tx = st.tx := rs.tx
  have ec : st2.ct = st.ct := rs.ct
  have em : st2.m = st.m := rs.m
  have es : st2.bs = st.bs := rs.bs
  have e1 : st2.C1 = fset st.C1 i (newC (st.C1 i) cm) := rs.C1
  have e2 : st2.C2 = fset st.C2 i (newC (st.C2 i) cm) := rs.C2
  refine ⟨fun j => ?_, fun j => ?_, fun j => ?_, fun j => ?_, fun j => Nat.le_trans (rs.bl j) (Nat.add_le_add_right (gd.bl j) 1), fun j => ?_, fun j => ?_⟩
  · show st2.C1 j = st2.C2 j
    rw [e1, e2]
    by_cases z : j = i
    · rw [z, fset_at, fset_at, gd.C i]
    · rw [fset_ne z, fset_ne z, gd.C j]
  · show fset st2.tx i (st2.tx i ++ lt lj) j = txt (fset st2.is i (st2.is i ++ [lj]) j)
    rw [et, ei]
    by_cases z : j = i
    · rw [z, fset_at, fset_at, gd.tx i, txt_snoc]
    · rw [fset_ne z, fset_ne z, gd.tx j]
  · show fset st2.ct i (st2.ct i + 1) j = (fset st2.is i (st2.is i ++ [lj]) j).length
    rw [ec, ei]
    by_cases z : j = i
    · rw [z, fset_at, fset_at, gd.ct i, List.length_append]
      rfl
    · rw [fset_ne z, fset_ne z, gd.ct j]
  · show fset st2.m i (st2.m i + 1) j = (fset st2.is i (st2.is i ++ [lj]) j).length
    rw [em, ei]
    by_cases z : j = i
    · rw [z, fset_at, fset_at, gd.m i, List.length_append]
      rfl
    · rw [fset_ne z, fset_ne z, gd.m j]
  · show fset st2.bs i (st2.bs i + 1) j ≤ n + 1
    rw [es]
    have b1 := gd.bs i
    have b2 := gd.bs j
    unfold fset
    split <;> omega
  · show (fset st2.is i (st2.is i ++ [lj]) j).length ≤ n + 1
    rw [ei]
    have b1 := gd.len i
    have b2 := gd.len j
    unfold fset
    split
    · rw [List.length_append]
      exact Nat.add_le_add_right b1 1
    · omega
end
section
variable {P : Program} {w : World} {K : PySem.W.Frag} {mg : Str → Option Value} {base : Heap}
/-! ### the law: the walk -/
open LamX
/-- a def whose code object is known -/
theorem okT {CX : CXT} {N ps : List Str} {k : Nat} {sp : Sp} {x qual : Str} {params : Arguments} {body : List Stmt} {scope : Scope} {dvs : List V} {kws : List (Str × V)} {p : He.Defn} {fd : FuncData} (F : FunD K x qual params body scope dvs kws (He.fAd K p) fd) (S : FnScope N ps scope) (len : ∀ vs H Q E, sp vs H Q E → vs.length = ps.length)
    (hbody : ∀ (A : Around) (outer : List Env) (s : Shared) (H : Hp) (vs : List V) (Q : VK) (E : XK), Room k (A.deeper (envOfC qual scope s.heap.objs.size (He.fAd K p) (.ref (He.cT K p).1))) → sp vs H Q E →
      ∃ t, PSs (cxOf CX P w K mg base N qual scope (He.fAd K p) (.ref (He.cT K p).1) A outer s H E) body t ∧ t { nx := fun _ H' => Q .non H', rt := Q } (L2.start N vs) H) : FnOk P w K mg base CX (k + 1) (He.fAd K p) fd ps sp := by
  obtain ⟨oc, od, dV, kV, doc, pm, an, cdv, ct, osl, rfl, lk, hcd, _, _⟩ := F.ex
  obtain ⟨c, rfl⟩ := He.codeIn_ref hcd
  have e := He.codeOf_eq (p := p) lk rfl
  have hb : ∀ (A : Around) (outer : List Env) (s : Shared) (H : Hp) (vs : List V) (Q : VK) (E : XK), Room k (A.deeper (envOfC qual scope s.heap.objs.size (He.fAd K p) (.ref c))) → sp vs H Q E →
      ∃ t, PSs (cxOf CX P w K mg base N qual scope (He.fAd K p) (.ref c) A outer s H E) body t ∧ t { nx := fun _ H' => Q .non H', rt := Q } (L2.start N vs) H := by
    rw [show c = (He.cT K p).1 from e.symm]
    exact hbody
  exact fn_of lk hcd S len hb
def sp_law (K : PySem.W.Frag) : Sp := fun vs H Q _ => ∃ (a : Addr) (ns : List Int), vs = [.ref a] ∧ SqL K H a (ns.map V.int) ∧ ns.length ≤ 63 ∧ H (He.cT K ("law", none)).2 = some (.tbl #[]) ∧ ∀ H', Q (.bl true) H'
abbrev NS_law : List Str := ["_law_script", "_law_bag_here", "_law_names_here", "_law_pool_here", "_law_told_here", "_law_ladders", "_law_states", "_law_shells", "_law_sessions", "_law_texts", "_law_counts", "_law_turn", "_law_at", "_law_command_here", "_law_due", "_law_letter", "_law_k", "_law_shell"]
theorem sc_law : FnScope NS_law ["_law_script"] (defScope s_law) := ⟨rfl, rfl, rfl, by decide +kernel, rfl, by decide +kernel, by decide +kernel⟩
theorem bb_law {w : World} {mg : Str → Option Value} {K : PySem.W.Frag} (T : Tx w mg K) : Binds K (fdOf K (He.fAd K d_law.at_)) ["_law_script"] [] := FunD.bindsN T.F_law fun _ _ _ _ _ _ us hl => match us, hl with | [_], _ => rfl
theorem ok_law (T : Tx w mg K) (TB : TabB base mg (He.cT K ("law", none)).1 (He.cT K ("law", none)).2) : FnOk P w K mg base CX0 13 (He.fAd K ("law", none)) (fdOf K (He.fAd K d_law.at_)) ["_law_script"] (sp_law K) := by
  refine okT (CX := CX0) (k := 12) (p := ("law", none)) T.F_law sc_law (fun vs H Q E h => ?_) (fun A outer s H vs Q E hr h => ?_)
  · obtain ⟨a, ns, rfl, _⟩ := h
    rfl
  · obtain ⟨a, ns, rfl, hs, l63, ht, k⟩ := h
    obtain ⟨oc, od, dV, kV, doc, pm, an, cdv, ct, osl, efd, lk, hcdT, _, _⟩ := T.F_l_try.ex
    have hbT := bb_l_try T
    rw [efd] at hbT
    have lkT := lk
    rw [efd] at lkT
    obtain ⟨ds, dv_Shell_init, b_Shell_init⟩ := bz_Shell T
    have G_Ladder_init := ok_Ladder_init (P := P) (base := base) T
    have b_Ladder_init := bb_Ladder_init T
    have G_Ladder_names := ok_Ladder_names (P := P) (base := base) T
    have b_Ladder_names := bb_Ladder_names T
    have G_Session_eq := ok_Session_eq (P := P) (base := base) T
    have b_Session_eq := bb_Session_eq T
    have G_Session_init := ok_Session_init (P := P) (base := base) T
    have b_Session_init := bb_Session_init T
    have G_Session_write := ok_Session_write (P := P) (base := base) T
    have b_Session_write := bb_Session_write T
    have G_Session_written := ok_Session_written (P := P) (base := base) T
    have b_Session_written := bb_Session_written T
    have G_Shell_init := ok_Shell_init (P := P) (base := base) T
    have G_Shell_len := ok_Shell_len (P := P) (base := base) T
    have b_Shell_len := bb_Shell_len T
    have G_Shell_log := ok_Shell_log (P := P) (base := base) T
    have b_Shell_log := bb_Shell_log T
    have G_Shell_run := ok_Shell_run (P := P) (base := base) T
    have b_Shell_run := bb_Shell_run T
    have G_l_bag := ok_l_bag (P := P) (base := base) T
    have b_l_bag := bb_l_bag T
    have G_l_command := ok_l_command (P := P) (base := base) T
    have b_l_command := bb_l_command T
    have G_l_matches := ok_l_matches (P := P) (base := base) T
    have b_l_matches := bb_l_matches T
    have G_l_names := ok_l_names (P := P) (base := base) T
    have b_l_names := bb_l_names T
    have G_l_of := ok_l_of (P := P) (base := base) T
    have b_l_of := bb_l_of T
    have G_l_pool := ok_l_pool (P := P) (base := base) T
    have b_l_pool := bb_l_pool T
    have G_l_pull := ok_l_pull (P := P) (base := base) T
    have b_l_pull := bb_l_pull T
    have G_l_result := ok_l_result (P := P) (base := base) T
    have b_l_result := bb_l_result T
    have G_l_run := ok_l_run (P := P) (base := base) T
    have b_l_run := bb_l_run T
    have G_l_same := ok_l_same (P := P) (base := base) T
    have b_l_same := bb_l_same T
    have G_l_told := ok_l_told (P := P) (base := base) T
    have b_l_told := bb_l_told T
    have G_l_translator := ok_l_translator (P := P) (base := base) T
    have b_l_translator := bb_l_translator T
    have G_l_command := framed G_l_command
    have G_l_result := framed G_l_result
    have G_l_translator := framed G_l_translator
    refine ⟨_, PSs.nox (pss_cons (ps_set (i := 1) sc_law.nd rfl (.inl rfl) (pe_call G_l_bag (hr.mono (by decide)) (by rfl) T.g_l_bag T.F_l_bag.kp b_l_bag .nil pass0 (pa_cons (pv 0) pa_nil)))
    (pss_cons (ps_par (i := 2) (j := 3) rfl sc_law.nd rfl rfl (by decide) rfl rfl (pa_cons (pe_call G_l_names (hr.mono (by decide)) (by rfl) T.g_l_names T.F_l_names.kp b_l_names .nil pass0 (pa_cons (pv 1) pa_nil)) (pa_cons (pe_call G_l_pool (hr.mono (by decide)) (by rfl) T.g_l_pool T.F_l_pool.kp b_l_pool .nil pass0 (pa_cons (pv 1) pa_nil)) pa_nil)) (by rfl))
    (pss_cons (ps_set (i := 4) sc_law.nd rfl (.inl rfl) (pe_call G_l_told (hr.mono (by decide)) (by rfl) T.g_l_told T.F_l_told.kp b_l_told .nil pass0 (pa_cons (pv 1) (pa_cons pe_str (pa_cons pe_str (pa_cons pe_int (pa_cons pe_int pa_nil)))))))
    (pss_cons (ps_asg (pe_tup (pa_cons (pe_lst (pa_cons (pe_make0 T.k_Ladder G_Ladder_init (hr.mono (by decide)) (by rfl) T.g_Ladder b_Ladder_init .nil pass0) (pa_cons (pe_make0 T.k_Ladder G_Ladder_init (hr.mono (by decide)) (by rfl) T.g_Ladder b_Ladder_init .nil pass0) pa_nil))) (pa_cons (pe_lst (pa_cons pe_dnewK (pa_cons pe_dnewK pa_nil))) (pa_cons (pe_lst (pa_cons (pe_make0 T.k_Shell G_Shell_init (hr.mono (by decide)) (by rfl) T.g_Shell b_Shell_init dv_Shell_init pass0) (pa_cons (pe_make0 T.k_Shell G_Shell_init (hr.mono (by decide)) (by rfl) T.g_Shell b_Shell_init dv_Shell_init pass0) pa_nil))) pa_nil)))) (pg_tup rfl (pgs_cons (pg_name (i := 5) sc_law.nd rfl (.inr rfl)) (pgs_cons (pg_name (i := 6) sc_law.nd rfl (.inl rfl)) (pgs_cons (pg_name (i := 7) sc_law.nd rfl (.inl rfl)) pgs_nil)))))
    (pss_cons (ps_par3 (i := 8) (j := 9) (l := 10) rfl sc_law.nd rfl rfl rfl (by decide) (by decide) (by decide) rfl rfl rfl (pa_cons (pe_lst (pa_cons (pe_make T.k_Session G_Session_init (hr.mono (by decide)) (by rfl) T.g_Session b_Session_init .nil pass0 (pa_cons (pe_call G_l_translator (hr.mono (by decide)) (by rfl) T.g_l_translator T.F_l_translator.kp b_l_translator .nil pass0 (pa_cons (pv 4) pa_nil)) pa_nil)) (pa_cons (pe_make T.k_Session G_Session_init (hr.mono (by decide)) (by rfl) T.g_Session b_Session_init .nil pass0 (pa_cons (pe_call G_l_translator (hr.mono (by decide)) (by rfl) T.g_l_translator T.F_l_translator.kp b_l_translator .nil pass0 (pa_cons (pv 4) pa_nil)) pa_nil)) pa_nil))) (pa_cons (pe_lst (pa_cons pe_str (pa_cons pe_str pa_nil))) (pa_cons (pe_lst (pa_cons pe_int (pa_cons pe_int pa_nil))) pa_nil))) (by rfl))
    (pss_cons (ps_for PassesOwn.never rfl (pi_range1 (by rfl) T.f_range (pa_cons (pe_call G_l_pull (hr.mono (by decide)) (by rfl) T.g_l_pull T.F_l_pull.kp b_l_pull .nil pass0 (pa_cons (pv 1) (pa_cons pe_int pa_nil))) pa_nil)) (pg_name (i := 11) sc_law.nd rfl (.inl rfl)) (pss_cons (ps_set (i := 12) sc_law.nd rfl (.inr rfl) (pe_call G_l_pull (hr.mono (by decide)) (by rfl) T.g_l_pull T.F_l_pull.kp b_l_pull .nil pass0 (pa_cons (pv 1) (pa_cons pe_int pa_nil))))
    (pss_cons (ps_set (i := 13) sc_law.nd rfl (.inr rfl) (pe_call G_l_command (hr.mono (by decide)) (by rfl) T.g_l_command T.F_l_command.kp b_l_command .nil pass0 (pa_cons (pv 1) (pa_cons (pv 2) (pa_cons (pv 3) pa_nil)))))
    (pss_cons (ps_asg (pe_call G_l_result (hr.mono (by decide)) (by rfl) T.g_l_result T.F_l_result.kp b_l_result .nil pass0 (pa_cons (pe_ix (k_ixL (K := K) rfl) (pv 6) (pv 12) (fun _ _ => rfl)) (pa_cons (pv 13) pa_nil))) (pg_tup rfl (pgs_cons (pg_name (i := 14) sc_law.nd rfl (.inl rfl)) (pgs_cons (pg_sub (pv 6) (pv 12) set_list) pgs_nil))))
    (pss_cons (ps_if (pt_not (pt_val (pe_call G_l_same (hr.mono (by decide)) (by rfl) T.g_l_same T.F_l_same.kp b_l_same .nil pass0 (pa_cons (pe_lamcall (T := TL K) (TT := TTry K) (k := 7) (by rfl) T.g_l_try T.F_l_try.kp lkT hcdT hbT sc_l_try rfl (.inl rfl) (try_gives T) TB rfl (List.mem_singleton.mpr rfl) (fun p hp _ => by rw [List.mem_singleton.mp hp]; rfl) (hr.mono (by decide)) (lamS_by (sc := d_law.scope) (by decide +kernel)) rfl (fun _ _ _ _ _ => rfl) (fun A1 o1 s1 H1 E1 f1 c1 hr1 => pe_call G_l_run hr1 (by rfl) T.g_l_run T.F_l_run.kp b_l_run .nil (passes_call (takes_of rfl rfl rfl rfl) (fun _ _ _ _ h => h)) (pa_cons (pe_ix (k_ixL (K := K) rfl) (pv 5) (pv 12) (fun _ _ => rfl)) (pa_cons (pv 13) pa_nil)))) (pa_cons (pv 14) pa_nil))))) (pss_one (ps_ret pe_bl)) pss_nil)
    (pss_cons (ps_set (i := 15) sc_law.nd rfl (.inl rfl) (pe_call G_l_of (hr.mono (by decide)) (by rfl) T.g_l_of T.F_l_of.kp b_l_of .nil pass0 (pa_cons (pv 1) (pa_cons (pe_lst (pa_cons pe_str (pa_cons pe_str pa_nil))) pa_nil))))
    (pss_cons (ps_expr (pe_meth (pe_ix (k_ixL (K := K) rfl) (pv 8) (pv 12) (fun _ _ => rfl)) T.c_Session T.m_Session_write G_Session_write (hr.mono (by decide)) b_Session_write .nil pass0 (pa_cons (pv 15) pa_nil)))
    (pss_cons (ps_asg (pe_tup (pa_cons (pe_op op_add_str (pe_ix (k_ixL (K := K) rfl) (pv 9) (pv 12) (fun _ _ => rfl)) (pv 15)) (pa_cons (pe_op op_add (pe_ix (k_ixL (K := K) rfl) (pv 10) (pv 12) (fun _ _ => rfl)) pe_int) pa_nil))) (pg_tup rfl (pgs_cons (pg_sub (pv 9) (pv 12) set_list) (pgs_cons (pg_sub (pv 10) (pv 12) set_list) pgs_nil))))
    (pss_cons (ps_expr (pe_meth (pe_ix (k_ixL (K := K) rfl) (pv 7) (pv 12) (fun _ _ => rfl)) T.c_Shell T.m_Shell_run G_Shell_run (hr.mono (by decide)) b_Shell_run .nil pass0 (pa_cons (pe_call G_l_of (hr.mono (by decide)) (by rfl) T.g_l_of T.F_l_of.kp b_l_of .nil pass0 (pa_cons (pv 1) (pa_cons (pe_lst (pa_cons pe_str (pa_cons pe_str (pa_cons pe_str (pa_cons pe_str pa_nil))))) pa_nil))) pa_nil)))
    (pss_one (ps_for PassesOwn.never rfl (pi_range1 (by rfl) T.f_range (pa_cons pe_int pa_nil)) (pg_name (i := 16) sc_law.nd rfl (.inl rfl)) (pss_cons (ps_if (PW.pt (pw_or (pt_not (pt_val (pe_call G_l_matches (hr.mono (by decide)) (by rfl) T.g_l_matches T.F_l_matches.kp b_l_matches .nil pass0 (pa_cons (pe_ix (k_ixL (K := K) rfl) (pv 5) (pv 16) (fun _ _ => rfl)) (pa_cons (pe_ix (k_ixL (K := K) rfl) (pv 6) (pv 16) (fun _ _ => rfl)) pa_nil))))) (pw_or (pt_cmpR op_ne (pe_meth0 (pe_ix (k_ixL (K := K) rfl) (pv 8) (pv 16) (fun _ _ => rfl)) T.c_Session T.m_Session_written G_Session_written (hr.mono (by decide)) b_Session_written .nil pass0) (pe_ix (k_ixL (K := K) rfl) (pv 9) (pv 16) (fun _ _ => rfl)) (nomark _)) (pw_or1 (pt_cmpR op_ne (pe_callB (call_lenOwn G_Shell_len (hr.mono (by decide)) T.m_Shell_len.at_ T.m_Shell_len.fn b_Shell_len pass0) (by rfl) T.f_len (by decide +kernel) (pa_cons (pe_ix (k_ixL (K := K) rfl) (pv 7) (pv 16) (fun _ _ => rfl)) pa_nil)) (pe_ix (k_ixL (K := K) rfl) (pv 10) (pv 16) (fun _ _ => rfl)) (nomark _)))))) (pss_one (ps_ret pe_bl)) pss_nil)
    (pss_cons (ps_expr (k_bm0 (K := K) rfl PySem.F.plainAttrs_list PySem.F.slot_list_clear PySem.F.type_list_clear mt_clear (pe_meth0 (pe_ix (k_ixL (K := K) rfl) (pv 5) (pv 16) (fun _ _ => rfl)) T.c_Ladder T.m_Ladder_names G_Ladder_names (hr.mono (by decide)) b_Ladder_names .nil pass0)))
    (pss_one (ps_expr (k_bm (K := K) rfl PySem.F.plainAttrs_list PySem.F.slot_list_append PySem.F.type_list_append mt_append (pe_meth0 (pe_ix (k_ixL (K := K) rfl) (pv 7) (pv 16) (fun _ _ => rfl)) T.c_Shell T.m_Shell_log G_Shell_log (hr.mono (by decide)) b_Shell_log .nil pass0) (pa_cons pe_int pa_nil)))))))))))))))))
    (pss_one (ps_ret (pe_and (pe_cmpR op_eq (pe_cmpR (op_eqOwn G_Session_eq (hr.mono (by decide)) T.m_Session_eq.at_ T.m_Session_eq.fn b_Session_eq pass0) (pe_ix (k_ixL (K := K) rfl) (pv 8) pe_int (fun _ _ => rfl)) (pe_ix (k_ixL (K := K) rfl) (pv 8) pe_int (fun _ _ => rfl)) (nomark _)) (pe_cmpR op_eq (pe_ix (k_ixL (K := K) rfl) (pv 9) pe_int (fun _ _ => rfl)) (pe_ix (k_ixL (K := K) rfl) (pv 9) pe_int (fun _ _ => rfl)) (nomark _)) (nomark _)) (pe_one (pe_cmpR (k_eqD (K := K) rfl hr.units) (pe_lc (own := [("_law_shell", 17)]) (g := gName 17) (tt := tYes) rfl sc_law.nd (k_piL (K := K) rfl (pv 7)) (blkOk_by (N := NS_law) (sc := defScope s_law) (by decide +kernel)) (fun _ _ _ _ _ => pg_name (i := 17) sc_law.nd rfl (Or.inl rfl)) (fun _ _ _ _ _ => pts_nil) (fun _ _ _ _ _ => (pe_callB (k_len (K := K) rfl) (by rfl) T.f_len (by decide +kernel) (pa_cons (pe_meth0 (pv 17) T.c_Shell T.m_Shell_log G_Shell_log (hr.mono (by decide)) b_Shell_log .nil pass0) pa_nil)))) (pv 10) (nomark _)))))))))))), ?_⟩
    walk_at "go"
    refine ⟨a, ns, rfl, hs, l63, fun b l0 H1 s1 hb0 hl0 hb1 => ?_⟩
    walk_at "go"
    refine ⟨b, l0, rfl, hb1, fun nl nms H2 hnl off2 hb2 enl n8 nle => ?_⟩
    walk_at "go"
    refine ⟨b, l0, rfl, hb2, fun pl us H3 off3 hb3 hpl epl pool => ?_⟩
    walk_at "go"
    refine ⟨b, l0, rfl, hb3, fun tv r H4 off4 hb4 okr htd => ?_⟩
    walk_at "go"
    have ht4 : H4 (He.cT K ("law", none)).2 = some (.tbl #[]) := by
      have z1 := s1 _ _ ht
      have nb : (He.cT K ("law", none)).2 ≠ b := ne_of_none ht hb0
      exact off4 _ _ nb (off3 _ _ nb (off2 _ _ nb z1))
    obtain ⟨own0, hown⟩ : ∃ o : Addr → Lb, o = lab (fun _ => .cst) [b] .bag := ⟨_, rfl⟩
    have ob0 : own0 b = .bag := by rw [hown]; exact lab_in (by simp)
    have oc0 : ∀ {x}, x ≠ b → own0 x = .cst := fun {x} z => by rw [hown]; exact lab_out (by simpa using z)
    have w0 : Wl K ⟨b, l0, nl, pl, 0, 0, 0, 0, 0, 0, nms, us, fun _ => 0, fun _ => 0, fun _ => 0, fun _ => 0, fun _ => 0, r⟩ ⟨fun _ => 0, fun _ => 0, fun _ => [], fun _ => [], fun _ => [], fun _ => "", fun _ => 0, fun _ => 0, fun _ => 0, fun _ => 0⟩ (fun j => j = .bag) own0 H4 := by
      obtain ⟨_, _, _, _, nlb, _, eb, _⟩ := id hb4
      refine ⟨fun x hx => ?_, fun p hp => ?_, fun j hj => ?_⟩
      · by_cases z : x = b
        · rw [z]
          exact ⟨_, eb, rfl⟩
        · exact absurd (oc0 z) hx
      · rw [List.mem_singleton.mp hp]
        exact TabS.nil ht4
      · rw [hj]
        exact ⟨hb4, ob0, oc0 nlb⟩
    have nnl : nl ≠ b := by
      obtain ⟨zs, eb⟩ := bag_lst hb1
      exact Ne.symm (ne_of_none eb hnl)
    have npl : pl ≠ b := by
      obtain ⟨zs, eb⟩ := bag_lst hb2
      exact Ne.symm (ne_of_none eb hpl)
    have i_nl : imm own0 H4 nl = some (.lst (nms.map V.str)) := imm_in (oc0 nnl) (off4 _ _ nnl (off3 _ _ nnl enl)) rfl
    have i_pl : imm own0 H4 pl = some (.lst us) := imm_in (oc0 npl) (off4 _ _ npl epl) rfl
    have dsub : Same (flt nt (del H4 b)) (imm own0 H4) := fun x o e => by
      obtain ⟨e1, e2⟩ := flt_inv e
      have nx : x ≠ b := fun z => by
        rw [z, del_same] at e1
        cases e1
      rw [del_ne nx] at e1
      exact imm_in (oc0 nx) e1 e2
    have i_pool : PoolV K (imm own0 H4) us := pool_same dsub (flt_pool ntF (pool_same (off_del off4) pool))
    have i_told : Dp K (imm own0 H4) tv (toldD r) := dp_same dsub (flt_dp ntF htd)
    clear ht4 hown dsub ht hb1 hb2 hb3 hb4 off2 off3 off4 s1 htd pool enl epl hs hb0 hl0 hnl hpl nnl npl
    intro p0 dx0 hp0 hd0 hn0
    refine w_lad0 (i := false) w0 nofun nofun hp0 hd0 hn0 fun cd0 pl0 own1 H5 w1 S1 R1 ecd0 => ?_
    walk_at "go"
    intro p1 dx1 hp1 hd1 hn1
    refine w_lad0 (i := true) w1 (by simp) (by simp) hp1 hd1 hn1 fun cd1 pl1 own2 H6 w2 S2 R2 ecd1 => ?_
    have ecd0 := S2 _ _ ecd0
    have R2 := R1.trans R2
    clear R1 S1 S2 w1 w0 hp0 hd0 hn0 hp1 hd1 hn1 ob0 oc0
    walk_at "go"
    intro Ld hLd
    have S3 := K70.Same.new1 (o := .lst [V.ref p0, V.ref p1]) hLd
    have R3 := R2.trans (imm_same (own := own2) S3)
    have i_ld := imm_in (own := own2) (w2.al.lbl hLd) (upd_same (H := H6) (a := Ld) (o := .lst [V.ref p0, V.ref p1])) rfl
    have w3 := w2.same S3
    have ecd0 := S3 _ _ ecd0
    have ecd1 := S3 _ _ ecd1
    clear R2 S3 w2 hLd
    generalize upd H6 Ld (.lst [V.ref p0, V.ref p1]) = H7 at *
    walk_at "go"
    intro D0 hD0
    walk_at "go"
    intro D1 hD1
    have S4 := (K70.Same.new1 (o := .dK []) hD0).trans (K70.Same.new1 (o := .dK []) hD1)
    have eD0 := hp_old (o := .dK []) hD1 (upd_same (H := H7) (a := D0) (o := .dK []))
    have eD1 := upd_same (H := upd H7 D0 (.dK [])) (a := D1) (o := .dK [])
    have nD00 : D0 ≠ cd0 := Ne.symm (ne_of_none ecd0 hD0)
    have nD01 : D0 ≠ cd1 := Ne.symm (ne_of_none ecd1 hD0)
    have nD10 : D1 ≠ cd0 := Ne.symm (ne_of_none ecd0 (free_old hD1))
    have nD11 : D1 ≠ cd1 := Ne.symm (ne_of_none ecd1 (free_old hD1))
    have R4 := R3.trans (imm_same (own := own2) S4)
    have i_ld := imm_same (own := own2) S4 _ _ i_ld
    have w4 := w3.same S4
    clear R3 S4 w3 hD0 hD1 ecd0 ecd1
    generalize upd (upd H7 D0 (.dK [])) D1 (.dK []) = H8 at *
    walk_at "go"
    intro St hSt
    have eD0 := hp_old (o := HO.lst [V.ref D0, V.ref D1]) hSt eD0
    have eD1 := hp_old (o := HO.lst [V.ref D0, V.ref D1]) hSt eD1
    obtain ⟨own3, w5, r5⟩ := w_lst0 (k := .st) (c' := ⟨b, l0, nl, pl, 0, St, 0, 0, 0, 0, nms, us, fset (fset (fun _ => 0) false p0) true p1, fset (fset (fun _ => 0) false pl0) true pl1, fun _ => 0, fun _ => 0, fun _ => 0, r⟩)
      (s' := ⟨fset (fset (fun _ => 0) false cd0) true cd1, fset (fun _ => D0) true D1, fset (fset (fun _ => []) false []) true [], fun _ => [], fun _ => [], fun _ => "", fun _ => 0, fun _ => 0, fset (fset (fun _ => 0) false 0) true 0, fun _ => 0⟩)
      (xs := [V.ref D0, V.ref D1]) w4 nofun (by simp) hSt (fun j lj hj q => by
        cases j with
        | st => exact absurd rfl hj
        | cst => simp at lj
        | _ => exact q) fun ol => ⟨upd_same, ol⟩
    have R5 := R4.trans r5
    have i_ld5 := r5 _ _ i_ld
    clear R4 r5 w4 hSt
    generalize upd H8 St (HO.lst [V.ref D0, V.ref D1]) = H9 at *
    walk_at "go"
    intro s0 dx2 hs0 hd2 hn2
    refine w_she0 (i := false) w5 (by simp) (by simp) hs0 hd2 hn2 fun el0 own4 H10 w6 S6 r6 => ?_
    walk_at "go"
    intro s1 dx3 hs1 hd3 hn3
    refine w_she0 (i := true) w6 (by simp) (by simp) hs1 hd3 hn3 fun el1 own5 H11 w7 S7 r7 => ?_
    have R7 := R5.trans (r6.trans r7)
    have i_ld7 := r7 _ _ (r6 _ _ i_ld5)
    have eD0 := S7 _ _ (S6 _ _ eD0)
    have eD1 := S7 _ _ (S6 _ _ eD1)
    clear R5 r6 r7 S6 S7 w5 w6 hs0 hd2 hn2 hs1 hd3 hn3 i_ld5
    walk_at "go"
    intro Sh hSh
    walk_at "go"
    intro tp htp
    have S8 := (K70.Same.new1 (o := .lst [V.ref s0, V.ref s1]) hSh).trans (K70.Same.new1 (o := .tup [V.ref Ld, V.ref St, V.ref Sh]) htp)
    have i_sh := imm_in (own := own5) (w7.al.lbl hSh) (hp_old (o := .tup [V.ref Ld, V.ref St, V.ref Sh]) htp (upd_same (H := H11) (a := Sh) (o := .lst [V.ref s0, V.ref s1]))) rfl
    have R8 := R7.trans (imm_same (own := own5) S8)
    have i_ld8 := imm_same (own := own5) S8 _ _ i_ld7
    have w8 := w7.same S8
    have eD0 := S8 _ _ eD0
    have eD1 := S8 _ _ eD1
    have etp := upd_same (H := upd H11 Sh (.lst [V.ref s0, V.ref s1])) (a := tp) (o := .tup [V.ref Ld, V.ref St, V.ref Sh])
    clear R7 S8 w7 hSh htp i_ld7
    generalize upd (upd H11 Sh (.lst [V.ref s0, V.ref s1])) tp (.tup [V.ref Ld, V.ref St, V.ref Sh]) = H12 at *
    refine r_gtup (SqT.of etp) rfl ?_
    walk_at "go"
    refine tr_go w8.al (dp_same R8 i_told) okr fun e0 H13 S9 _ t9 => ?_
    walk_at "go"
    intro z0 dx4 hz0 hd4 hn4
    refine w_ses0 (i := false) (w8.same S9) (by simp) (by simp) rfl t9 okr hz0 hd4 hn4 fun own6 H14 w10 S10 r10 => ?_
    have q10 := (imm_same (own := own5) S9).trans r10
    have R10 := R8.trans q10
    have i_ld10 := q10 _ _ i_ld8
    have i_sh10 := q10 _ _ i_sh
    have eD0 := S10 _ _ (S9 _ _ eD0)
    have eD1 := S10 _ _ (S9 _ _ eD1)
    clear R8 q10 S9 S10 r10 w8 t9 hz0 hd4 hn4 i_ld8 etp
    walk_at "go"
    refine tr_go w10.al (dp_same R10 i_told) okr fun e1 H15 S11 _ t11 => ?_
    walk_at "go"
    intro z1 dx5 hz1 hd5 hn5
    refine w_ses0 (i := true) (w10.same S11) (by simp) (by simp) rfl t11 okr hz1 hd5 hn5 fun own7 H16 w12 S12 r12 => ?_
    have q12 := (imm_same (own := own6) S11).trans r12
    have R12 := R10.trans q12
    have i_ld12 := q12 _ _ i_ld10
    have i_sh12 := q12 _ _ i_sh10
    have eD0 := S12 _ _ (S11 _ _ eD0)
    have eD1 := S12 _ _ (S11 _ _ eD1)
    clear R10 q12 S11 S12 r12 w10 t11 hz1 hd5 hn5 i_ld10 i_sh10
    walk_at "go"
    intro Se hSe
    have S13 := K70.Same.new1 (o := .lst [V.ref z0, V.ref z1]) hSe
    have i_se := imm_in (own := own7) (w12.al.lbl hSe) (upd_same (H := H16) (a := Se) (o := .lst [V.ref z0, V.ref z1])) rfl
    have R13 := R12.trans (imm_same (own := own7) S13)
    have i_ld13 := imm_same (own := own7) S13 _ _ i_ld12
    have i_sh13 := imm_same (own := own7) S13 _ _ i_sh12
    have eD0 := S13 _ _ eD0
    have eD1 := S13 _ _ eD1
    have w13 := w12.same S13
    clear R12 S13 w12 hSe i_ld12 i_sh12
    generalize upd H16 Se (.lst [V.ref z0, V.ref z1]) = H17 at *
    walk_at "go"
    intro Tx hTx
    walk_at "go"
    intro Ct hCt
    walk_at "go"
    obtain ⟨own8, w14, r14⟩ := w_tx0 w13 (by simp) (by simp) hTx
    obtain ⟨own9, w15, r15⟩ := w_ct0 w14 (by simp) (by simp) hCt
    have r16 := r14.trans r15
    have R := R13.trans r16
    obtain ⟨c, st, own, W, gd, eb, el0, enl, epl, eLd, eSt, eSh, eSe, eTx, eCt⟩ : ∃ (c : Cst) (s : Sta) (own : Addr → Lb), Wd K c s own (upd (upd H17 Tx (HO.lst [V.str "", V.str ""])) Ct (HO.lst [V.int 0, V.int 0])) ∧ GoodS s 0 ∧ c.b = b ∧ c.l0 = l0 ∧ c.nl = nl ∧ c.pl = pl ∧ c.Ld = Ld ∧ c.St = St ∧ c.Sh = Sh ∧ c.Se = Se ∧ c.Tx = Tx ∧ c.Ct = Ct := by
      refine ⟨_, _, own9, w15.close (Ld := Ld) (Sh := Sh) (Se := Se) (fun j hj => ?_) ⟨R _ _ i_nl, n8, nle, R _ _ i_pl, pool_same R i_pool, r16 _ _ i_ld13, r16 _ _ i_sh13, r16 _ _ i_se, okr⟩ (fun i => ?_) (fun i j => ?_), ⟨fun i => ?_, fun i => ?_, fun i => ?_, fun i => ?_, fun i => ?_, fun i => ?_, fun i => ?_⟩, rfl, rfl, rfl, rfl, rfl, rfl, rfl, rfl, rfl, rfl⟩
      · cases j with
        | cst => exact absurd rfl hj
        | lad i => cases i <;> simp
        | she i => cases i <;> simp
        | ses i => cases i <;> simp
        | _ => simp
      · cases i with
        | false => exact ⟨[], hp_old hCt (hp_old hTx eD0), .nil, Nat.zero_le _⟩
        | true => exact ⟨[], hp_old hCt (hp_old hTx eD1), .nil, Nat.zero_le _⟩
      · cases i <;> cases j <;> assumption
      · cases i <;> rfl
      · have z : ("" : Str) = txt [] := by decide +kernel
        cases i <;> exact z
      · cases i <;> rfl
      · cases i <;> rfl
      · cases i <;> exact Nat.le_refl _
      · cases i <;> exact Nat.le_refl _
      · cases i <;> exact Nat.le_refl _
    subst eb el0 enl epl eLd eSt eSh eSe eTx eCt
    clear w13 w14 w15 r14 r15 r16 R R13 i_nl i_pl i_pool i_told i_ld13 i_sh13 i_se eD0 eD1 hTx hCt nD00 nD01 nD10 nD11 n8 nle okr
    generalize upd (upd H17 c.Tx (HO.lst [V.str "", V.str ""])) c.Ct (HO.lst [V.int 0, V.int 0]) = H18 at *
    refine ⟨c.b, c.l0, 21, rfl, by omega, by omega, (W.pt .bag).1, fun d H19 d0 d1 hb off => ?_⟩
    have W := W.bag off hb
    clear hb off
    walk_at "go"
    refine g_for walk_range (fun n σ' H' => ∃ (st : Sta) (own : Addr → Lb) (x11 x12 x13 x14 x15 x16 x17 : Option V), σ' = [some (V.ref a), some (.ref c.b), some (.ref c.nl), some (.ref c.pl), some tv, some (.ref c.Ld), some (.ref c.St), some (.ref c.Sh), some (.ref c.Se), some (.ref c.Tx), some (.ref c.Ct), x11, x12, x13, x14, x15, x16, x17] ∧ Wd K c st own H' ∧ GoodS st n)
      ⟨st, own, none, none, none, none, none, none, none, rfl, W, gd⟩ (fun _ _ _ _ _ => trivial) ?_ ?_
    · clear W gd
      rintro n x σ' H1 H2 hi ⟨st, own, x11, x12, x13, x14, x15, x16, x17, rfl, W, gd⟩ ⟨rfl, rfl⟩
      have n21 : n < 21 := by omega
      walk_at "go"
      refine ⟨c.b, c.l0, 2, rfl, by omega, by omega, (W.pt .bag).1, fun e H3 e0 e1 hb off => ?_⟩
      have W := W.bag off hb
      obtain ⟨i, rfl⟩ := bI_of e0 e1
      clear hb off
      walk_at "go"
      refine w_command W fun v cm H4 W _ hv => ?_
      walk_at "go"
      refine r_ixL (SqL.of (W.pt .st).1) (at2 (fun j => V.ref (st.D j)) i) ?_
      walk_at "go"
      have okd : okD 6 (dueD (st.C2 i) cm) := by
        obtain ⟨_, _, rel, _⟩ := (W.pt .cst).2 i
        exact okD_due rel (fun v r q => q.2) cm
      refine w_result W hv fun p u D' H5 S5 hp hu hD' nD W => ?_
      have hv5 : CmdV K (imm own H5) v cm := cmd_same (imm_same S5) hv
      refine r_gtup hp rfl ?_
      walk_at "go"
      refine r_setL (W.pt .st).1 ix2 ?_
      rw [set2 V.ref st.D i D']
      have r6 := (put_stp (k := .st) (own := own) (ys := [.ref (fset st.D i D' false), .ref (fset st.D i D' true)]) nofun (W.pt .st).2 (W.pt .st).1).imm
      have hu6 := dp_same r6 hu
      have hv6 := cmd_same r6 hv5
      have W := W.sto (i := i) hD' nD
      clear hp hu hD' nD S5 hv hv5 r6
      generalize upd H5 c.St (.lst [.ref (fset st.D i D' false), .ref (fset st.D i D' true)]) = H6 at *
      walk_at "go"
      refine w_lam W hv6 (show st.bl i < 500 from Nat.lt_of_le_of_lt (gd.bl i) (by omega)) (fun E1 H1 Q1 W1 q => ?_) fun p st2 H7 rs W r7 hd => ?_
      · walk_at "go"
        refine r_ixL (SqL.of (imm_sub _ _ (W1.pt .cst).1.ld)) (at2 (fun j => V.ref (c.P j)) i) ?_
        walk_at "go"
        exact q
      walk_at "go"
      refine ⟨.ref p, u, dueD (st.C2 i) cm, rfl, by rw [← gd.C i]; exact hd, dp_same (r7.trans imm_sub) hu6, okd, fun H8 S8 => ?_⟩
      have W := W.same S8
      clear hd r7 hu6 hv6 okd S8
      walk_at "go"
      intro ll hll
      have S9 := K70.Same.new1 (o := .lst [V.str "a", V.str "b"]) hll
      have ell := upd_same (H := H8) (a := ll) (o := .lst [V.str "a", V.str "b"])
      have nlb : ll ≠ c.b := by
        obtain ⟨zs, eb⟩ := bag_lst (W.pt .bag).1
        exact Ne.symm (ne_of_none eb hll)
      have W := W.same S9
      clear S9 hll
      generalize upd H8 ll (.lst [V.str "a", V.str "b"]) = H9 at *
      walk_at "go"
      refine ⟨c.b, c.l0, ll, [.str "a", .str "b"], rfl, SqL.of ell, by decide, by decide, (W.pt .bag).1, fun Hx off => SqL.of (off _ _ nlb ell), fun j x H10 ex hb off => ?_⟩
      have W := W.bag off hb
      obtain ⟨lj, hj, rfl⟩ : ∃ lj, lj < 2 ∧ x = .str (lt lj) := by
        match j, ex with
        | 0, ex => exact ⟨0, by decide, by cases ex; rfl⟩
        | 1, ex => exact ⟨1, by decide, by cases ex; rfl⟩
      clear ex hb off ell nlb
      walk_at "go"
      refine r_ixL (SqL.of (imm_sub _ _ (W.pt .cst).1.se)) (at2 (fun j => V.ref (c.Z j)) i) ?_
      have ⟨_, _, ⟨_, _, _, hz, _, _⟩, _⟩ := W.pt (.ses i)
      walk_at "go"
      have ei : st2.is = st.is := rs.is
      have et : st2.tx = st.tx := rs.tx
      have ec : st2.ct = st.ct := rs.ct
      have em : st2.m = st.m := rs.m
      have es : st2.bs = st.bs := rs.bs
      refine w_write W hj (by rw [ei]; exact Nat.lt_of_le_of_lt (gd.len i) (by omega)) (W.pt .cst).1.told fun _ H11 W => ?_
      clear hz
      have l1 : (st2.tx i).length ≤ 21 := by
        rw [et, gd.tx i, txt_len]
        exact Nat.le_trans (gd.len i) (by omega)
      have l2 := lt_len lj
      walk_at "go"
      refine r_ixL (SqL.of (W.pt .tx).1) (at2 (fun j => V.str (st2.tx j)) i) ?_
      walk_at "go"
      refine r_ixL (SqL.of (W.pt .ct).1) (at2 (fun j => V.int (st2.ct j)) i) ?_
      walk_at "go"
      intro tq htq
      have W := W.same (K70.Same.new1 (o := .tup [V.str (st2.tx i ++ lt lj), V.int (st2.ct i + 1)]) htq)
      refine r_gtup (SqT.of upd_same) rfl ?_
      clear htq l1 l2
      generalize upd H11 tq (.tup [V.str (st2.tx i ++ lt lj), V.int (st2.ct i + 1)]) = H12 at *
      walk_at "go"
      refine r_setL (xs := [V.str (st2.tx false), V.str (st2.tx true)]) (W.pt .tx).1 ix2 ?_
      rw [set2 V.str st2.tx i (st2.tx i ++ lt lj)]
      have W : Wd K c { st2 with is := fset st2.is i (st2.is i ++ [lj]), tx := fset st2.tx i (st2.tx i ++ lt lj) } own (upd H12 c.Tx (.lst [V.str (fset st2.tx i (st2.tx i ++ lt lj) false), V.str (fset st2.tx i (st2.tx i ++ lt lj) true)])) := W.stx
      generalize upd H12 c.Tx (.lst [V.str (fset st2.tx i (st2.tx i ++ lt lj) false), V.str (fset st2.tx i (st2.tx i ++ lt lj) true)]) = H13 at *
      walk_at "go"
      refine r_setL (xs := [V.int (st2.ct false), V.int (st2.ct true)]) (W.pt .ct).1 ix2 ?_
      rw [show [V.int (st2.ct false), V.int (st2.ct true)].set (bN i) (V.int (st2.ct i + 1)) = [V.int ((fset st2.ct i (st2.ct i + 1) false : Nat) : Int), V.int ((fset st2.ct i (st2.ct i + 1) true : Nat) : Int)] from set2 (fun n : Nat => V.int n) st2.ct i (st2.ct i + 1)]
      have W : Wd K c { st2 with is := fset st2.is i (st2.is i ++ [lj]), tx := fset st2.tx i (st2.tx i ++ lt lj), ct := fset st2.ct i (st2.ct i + 1) } own (upd H13 c.Ct (.lst [V.int ((fset st2.ct i (st2.ct i + 1) false : Nat) : Int), V.int ((fset st2.ct i (st2.ct i + 1) true : Nat) : Int)])) := W.sct
      generalize upd H13 c.Ct (.lst [V.int ((fset st2.ct i (st2.ct i + 1) false : Nat) : Int), V.int ((fset st2.ct i (st2.ct i + 1) true : Nat) : Int)]) = H14 at *
      walk_at "go"
      refine r_ixL (SqL.of (imm_sub _ _ (W.pt .cst).1.sh)) (at2 (fun j => V.ref (c.S j)) i) ?_
      have ⟨_, _, _, _, _, _, ⟨_, hsi⟩, _⟩ := W.pt (.she i)
      walk_at "go"
      intro ql hql
      have eql := upd_same (H := H14) (a := ql) (o := .lst [V.str "add a ab 0 | 0.0 0.1", V.str "remove a", V.str "undo", V.str "names"])
      have nqb : ql ≠ c.b := by
        obtain ⟨zs, eb⟩ := bag_lst (W.pt .bag).1
        exact Ne.symm (ne_of_none eb hql)
      have W := W.same (K70.Same.new1 (o := .lst [V.str "add a ab 0 | 0.0 0.1", V.str "remove a", V.str "undo", V.str "names"]) hql)
      clear hql hsi
      generalize upd H14 ql (.lst [V.str "add a ab 0 | 0.0 0.1", V.str "remove a", V.str "undo", V.str "names"]) = H15 at *
      walk_at "go"
      refine ⟨c.b, c.l0, ql, [V.str "add a ab 0 | 0.0 0.1", V.str "remove a", V.str "undo", V.str "names"], rfl, SqL.of eql, by decide, by decide, (W.pt .bag).1, fun Hx off => SqL.of (off _ _ nqb eql), fun j x H16 ex hb off => ?_⟩
      have W := W.bag off hb
      obtain ⟨li, rfl⟩ : ∃ li : Lin, x = .str li.text := by
        match j, ex with
        | 0, ex => exact ⟨.add, by cases ex; rfl⟩
        | 1, ex => exact ⟨.rem, by cases ex; rfl⟩
        | 2, ex => exact ⟨.undo, by cases ex; rfl⟩
        | 3, ex => exact ⟨.names, by cases ex; rfl⟩
      clear ex hb off eql nqb
      walk_at "go"
      refine w_line W (by rw [show ({ st2 with is := fset st2.is i (st2.is i ++ [lj]), tx := fset st2.tx i (st2.tx i ++ lt lj), ct := fset st2.ct i (st2.ct i + 1) } : Sta).bs = st.bs from es]; exact Nat.lt_of_le_of_lt (gd.bs i) (by omega)) (by rw [show ({ st2 with is := fset st2.is i (st2.is i ++ [lj]), tx := fset st2.tx i (st2.tx i ++ lt lj), ct := fset st2.ct i (st2.ct i + 1) } : Sta).m = st.m from em, gd.m i]; exact Nat.lt_of_le_of_lt (gd.len i) (by omega)) fun _ own2 H17 W => ?_
      walk_at "go"
      obtain ⟨st3, own3, W, gd3⟩ : ∃ (s3 : Sta) (o3 : Addr → Lb), Wd K c s3 o3 H17 ∧ GoodS s3 (n + 1) := ⟨_, _, W, good_next gd rs⟩
      clear gd rs ei et ec em es
      refine g_for walk_range (fun k σ' H' => ∃ (y : Option V), σ' = [some (V.ref a), some (.ref c.b), some (.ref c.nl), some (.ref c.pl), some tv, some (.ref c.Ld), some (.ref c.St), some (.ref c.Sh), some (.ref c.Se), some (.ref c.Tx), some (.ref c.Ct), some (.int (0 + (n : Int))), some (.int (bI i)), some v, some u, some (.str (lt lj)), y, x17] ∧ Wd K c st3 own3 H')
        ⟨x16, rfl, W⟩ (fun _ _ _ _ _ => trivial) ?_ ?_
      · clear W
        rintro k x σ' H1 H2 hk ⟨y, rfl, W⟩ ⟨rfl, rfl⟩
        have hk2 : k < 2 := hk
        obtain ⟨i2, ei⟩ := bI_of (d := 0 + (k : Int)) (by omega) (by omega)
        dsimp only
        rw [ei]
        walk_at "go"
        refine r_ixL (SqL.of (imm_sub _ _ (W.pt .cst).1.ld)) (at2 (fun j => V.ref (c.P j)) i2) ?_
        walk_at "go"
        refine r_ixL (SqL.of (W.pt .st).1) (at2 (fun j => V.ref (st3.D j)) i2) ?_
        walk_at "go"
        refine w_match W (gd3.C i2) fun H3 W => ?_
        walk_at "go"
        refine r_ixL (SqL.of (imm_sub _ _ (W.pt .cst).1.se)) (at2 (fun j => V.ref (c.Z j)) i2) ?_
        have ⟨_, _, hS, _⟩ := W.pt (.ses i2)
        have ⟨_, _, _, hz, _, _⟩ := hS
        walk_at "go"
        refine ⟨c.Z i2, _, _, c.r, st3.is i2, rfl, hS, Nat.lt_of_le_of_lt (gd3.len i2) (by omega), fun H4 S4 => ?_⟩
        have W := W.same S4
        clear hS hz S4
        walk_at "go"
        refine r_ixL (SqL.of (W.pt .tx).1) (at2 (fun j => V.str (st3.tx j)) i2) ?_
        rw [gd3.tx i2]
        walk_at "go"
        refine r_ixL (SqL.of (imm_sub _ _ (W.pt .cst).1.sh)) (at2 (fun j => V.ref (c.S j)) i2) ?_
        have ⟨sp, scd, spl, sfl, skn, es, ⟨sdx, hsi⟩, _, hel, lel, _⟩ := W.pt (.she i2)
        have les : es.length = st3.ct i2 := by rw [lel, gd3.m i2, gd3.ct i2]
        have les2 : es.length ≤ 21 := by
          rw [lel, gd3.m i2]
          exact Nat.le_trans (gd3.len i2) (by omega)
        walk_at "go"
        refine ⟨c.S i2, sdx, _, rfl, hsi, ⟨c.S i2, sp, c.EL i2, es, rfl, ⟨sdx, hsi⟩, hel, es.length, rfl, by omega, ?_⟩⟩
        walk_at "go"
        refine r_ixL (SqL.of (W.pt .ct).1) (at2 (fun j => V.int (st3.ct j)) i2) ?_
        rw [les]
        walk_at "go"
        refine r_ixL (SqL.of (imm_sub _ _ (W.pt .cst).1.ld)) (at2 (fun j => V.ref (c.P j)) i2) ?_
        have ⟨lfl, lkn, lkv, lps, ⟨ldx, hla⟩, hlc, _, _, lrel, ll6, _, _⟩ := W.pt (.lad i2)
        walk_at "go"
        refine ⟨c.P i2, st3.cd i2, c.PL i2, lfl, lkn, lkv, (st3.C1 i2).map (·.1), rfl, ⟨ldx, hla⟩, hlc, relC_keys lrel, by rw [List.length_map]; omega, fun ys q _ _ hq => ?_⟩
        clear hla hlc lrel ll6
        walk_at "go"
        refine ⟨q, _, rfl, rfl, upd_same, ?_⟩
        rw [upd_upd]
        have W := W.same (K70.Same.new1 (o := .lst []) hq)
        clear hq hsi hel lel les les2
        generalize upd H4 q (.lst []) = H5 at *
        walk_at "go"
        refine r_ixL (SqL.of (imm_sub _ _ (W.pt .cst).1.sh)) (at2 (fun j => V.ref (c.S j)) i2) ?_
        have ⟨sp2, _, _, _, _, es2, ⟨sdx2, hsi2⟩, _, hel2, lel2, _⟩ := W.pt (.she i2)
        have les2 : es2.length ≤ 21 := by
          rw [lel2, gd3.m i2]
          exact Nat.le_trans (gd3.len i2) (by omega)
        walk_at "go"
        refine ⟨c.S i2, sp2, c.EL i2, es2, rfl, ⟨sdx2, hsi2⟩, hel2, fun l hl => ?_⟩
        walk_at "go"
        rw [upd_upd]
        exact ⟨_, rfl, W.same (K70.Same.new1 hl)⟩
      · rintro σ' H1 ⟨y, rfl, W⟩
        exact ⟨st3, own3, _, _, _, _, _, _, _, rfl, W, gd3⟩
    · rintro σ' H1 ⟨st, own, x11, x12, x13, x14, x15, x16, x17, rfl, W, gd⟩
      walk_at "go"
      refine r_ixL (SqL.of (imm_sub _ _ (W.pt .cst).1.se)) (at2 (fun j => V.ref (c.Z j)) false) ?_
      walk_at "go"
      refine r_ixL (SqL.of (imm_sub _ _ (W.pt .cst).1.se)) (at2 (fun j => V.ref (c.Z j)) true) ?_
      have ⟨dA, eA, hA, tA, oA, iA, _⟩ := W.pt (.ses false)
      have ⟨dB, eB, hB, tB, oB, iB, _⟩ := W.pt (.ses true)
      have ⟨_, _, _, zA, _, _⟩ := hA
      have ⟨_, _, _, zB, _, _⟩ := hB
      refine ⟨c.Z false, c.Z true, _, _, _, _, rfl, rfl, zA, zB, c.Z false, dA, eA, c.Z true, dB, eB, c.r, st.is false, st.is true, rfl, hA, hB, tr_same imm_sub tA, tr_same imm_sub tB, (W.pt .cst).1.told, oA, oB, iA, iB, fun H2 S2 => ⟨_, rfl, ?_⟩⟩
      have W := W.same S2
      clear zA zB hA hB tA tB oA oB S2
      walk_at "go"
      refine r_ixL (SqL.of (W.pt .tx).1) (at2 (fun j => V.str (st.tx j)) false) ?_
      walk_at "go"
      refine r_ixL (SqL.of (W.pt .tx).1) (at2 (fun j => V.str (st.tx j)) true) ?_
      rw [gd.tx false, gd.tx true]
      walk_at "go"
      rw [txt_eq iA iB, decide_eq_true rfl, if_pos rfl]
      walk_at "go"
      have eSh := imm_sub _ _ (W.pt .cst).1.sh
      refine ⟨c.Sh, rfl, ⟨_, SqL.of eSh⟩, ?_⟩
      refine g_list [V.int (st.ct false), V.int (st.ct true)] rfl (walk_list (xs := [V.ref (c.S false), V.ref (c.S true)])) (by rw [szl]; exact (show (2 : Nat) < 16777216 by decide)) (fun H3 S3 => sqL_same S3 (SqL.of eSh)) ?_ ?_
      · rintro j x y H3 H4 N NF hj ey s ⟨rfl, ex⟩ q
        obtain ⟨i, rfl, rfl⟩ : ∃ i, x = .ref (c.S i) ∧ y = .int (st.ct i) := by
          match j, ex, ey with
          | 0, ex, ey => exact ⟨false, by cases ex; rfl, by cases ey; rfl⟩
          | 1, ex, ey => exact ⟨true, by cases ex; rfl, by cases ey; rfl⟩
        have ⟨sp, _, _, _, _, es, ⟨sdx, hsi⟩, _, hel, lel, _⟩ := (W.same s).pt (.she i)
        have les : es.length = st.ct i := by rw [lel, gd.m i, gd.ct i]
        unfold LcT
        walk_at "go"
        refine ⟨c.S i, sp, c.EL i, es, rfl, ⟨sdx, hsi⟩, hel, fun l hl => ?_⟩
        walk_at "go"
        rw [les]
        exact q _ (K70.Same.new1 hl)
      · intro DD H3 hDD S3 eDD
        have W := W.same S3
        walk_at "go"
        have sh : SeqAt.shaped (.list [.int (st.ct false), .int (st.ct true)]) = true := sh_ok (n := 1) (sh_list fun d hd => by
          simp only [List.mem_cons, List.not_mem_nil, or_false] at hd
          rcases hd with rfl | rfl
          · exact sh_int _ _
          · exact sh_int _ _) (by decide)
        refine ⟨.list [.int (st.ct false), .int (st.ct true)], .list [.int (st.ct false), .int (st.ct true)], .lst (SqL.of eDD) (.cons (.int _) (.cons (.int _) .nil)), .lst (SqL.of (W.pt .ct).1) (.cons (.int _) (.cons (.int _) .nil)), sh, sh, ?_⟩
        rw [SeqAt.eqv_refl _ (SeqAt.canLay_of_shaped sh)]
        exact k _
end
end K70
/-! the end: what the head leaves, the law called -/
namespace K70
open PySem PySem.Spec PyProof.Rows L2
theorem exB_ok {K : PySem.W.Frag} {x : Str} {bm : List Value} {nw : String} (h : exB K x bm nw = true) : ExC K (He.ga K x) bm nw ∧ XfC K (He.ga K x) ∧ PySem.W.typeIn K (.ref (He.ma K (He.ga K x) "__init__")) = some (.type "function") := by
  obtain ⟨h1, h⟩ := Bool.and_eq_true_iff.mp h
  obtain ⟨h2, h⟩ := Bool.and_eq_true_iff.mp h
  obtain ⟨h3, h⟩ := Bool.and_eq_true_iff.mp h
  obtain ⟨h4, h⟩ := Bool.and_eq_true_iff.mp h
  obtain ⟨h5, h⟩ := Bool.and_eq_true_iff.mp h
  obtain ⟨h6, h⟩ := Bool.and_eq_true_iff.mp h
  obtain ⟨h7, h⟩ := Bool.and_eq_true_iff.mp h
  obtain ⟨h8, h9⟩ := Bool.and_eq_true_iff.mp h
  exact ⟨⟨h1, h2, h3, He.eqO_ok h4, of_decide_eq_true h5, of_decide_eq_true h6, h7⟩, xfB_ok h8, of_decide_eq_true h9⟩
theorem inB_ok {K : PySem.W.Frag} {x : Str} (c : Cls K (He.ga K x)) (h : inB K x = true) : C8.InsC K (He.ga K x) := by
  obtain ⟨h1, h⟩ := Bool.and_eq_true_iff.mp h
  obtain ⟨h2, h⟩ := Bool.and_eq_true_iff.mp h
  obtain ⟨h3, h⟩ := Bool.and_eq_true_iff.mp h
  obtain ⟨h4, h5⟩ := Bool.and_eq_true_iff.mp h
  exact ⟨c, He.eqO_ok h1, He.eqO_ok h2, of_decide_eq_true h3, of_decide_eq_true h4, of_decide_eq_true h5⟩
theorem tx_of {w : World} {h : Heap} {mg : Str → Option Value} {K : PySem.W.Frag} (X : K.In h) (G : h.Ns mainGlobals mg) (c : He.SaysX fa fn ts tf ex w h K) : Tx w mg K := by
  have cd := c.t.d
  have m := c.more
  obtain ⟨b_LimitExceeded, m⟩ := Bool.and_eq_true_iff.mp m
  obtain ⟨b_InvalidName, m⟩ := Bool.and_eq_true_iff.mp m
  obtain ⟨b_DuplicateName, m⟩ := Bool.and_eq_true_iff.mp m
  obtain ⟨b_NothingLeft, m⟩ := Bool.and_eq_true_iff.mp m
  obtain ⟨b_UnknownName, m⟩ := Bool.and_eq_true_iff.mp m
  obtain ⟨b_Translator, m⟩ := Bool.and_eq_true_iff.mp m
  obtain ⟨b_Session, m⟩ := Bool.and_eq_true_iff.mp m
  obtain ⟨b_vl, b_vs⟩ := Bool.and_eq_true_iff.mp m
  have b_LimitExceeded := exB_ok b_LimitExceeded
  have b_InvalidName := exB_ok b_InvalidName
  have b_DuplicateName := exB_ok b_DuplicateName
  have b_NothingLeft := exB_ok b_NothingLeft
  have b_UnknownName := exB_ok b_UnknownName
  exact {
    F_InvalidName_init := (cd.def_ 0 (d := d_InvalidName_init) rfl).elim fun _ F => fdOf_eq F
    F_DuplicateName_init := (cd.def_ 1 (d := d_DuplicateName_init) rfl).elim fun _ F => fdOf_eq F
    F_LimitExceeded_init := (cd.def_ 2 (d := d_LimitExceeded_init) rfl).elim fun _ F => fdOf_eq F
    F_NothingLeft_init := (cd.def_ 3 (d := d_NothingLeft_init) rfl).elim fun _ F => fdOf_eq F
    F_UnknownName_init := (cd.def_ 4 (d := d_UnknownName_init) rfl).elim fun _ F => fdOf_eq F
    F_is_alphabet := (cd.def_ 5 (d := d_is_alphabet) rfl).elim fun _ F => fdOf_eq F
    F_need_alphabet := (cd.def_ 6 (d := d_need_alphabet) rfl).elim fun _ F => fdOf_eq F
    F_is_state := (cd.def_ 7 (d := d_is_state) rfl).elim fun _ F => fdOf_eq F
    F_Machine_init := (cd.def_ 8 (d := d_Machine_init) rfl).elim fun _ F => fdOf_eq F
    F_Machine_letters := (cd.def_ 9 (d := d_Machine_letters) rfl).elim fun _ F => fdOf_eq F
    F_Machine_states := (cd.def_ 10 (d := d_Machine_states) rfl).elim fun _ F => fdOf_eq F
    F_Machine_start := (cd.def_ 11 (d := d_Machine_start) rfl).elim fun _ F => fdOf_eq F
    F_is_answer := (cd.def_ 12 (d := d_is_answer) rfl).elim fun _ F => fdOf_eq F
    F_Translator_init := (cd.def_ 13 (d := d_Translator_init) rfl).elim fun _ F => fdOf_eq F
    F_Translator_eq := (cd.def_ 14 (d := d_Translator_eq) rfl).elim fun _ F => fdOf_eq F
    F_Translator_start := (cd.def_ 15 (d := d_Translator_start) rfl).elim fun _ F => fdOf_eq F
    F_Translator_step := (cd.def_ 16 (d := d_Translator_step) rfl).elim fun _ F => fdOf_eq F
    F_transition_in := (cd.def_ 17 (d := d_transition_in) rfl).elim fun _ F => fdOf_eq F
    F_parse_machine := (cd.def_ 18 (d := d_parse_machine) rfl).elim fun _ F => fdOf_eq F
    F_is_name := (cd.def_ 19 (d := d_is_name) rfl).elim fun _ F => fdOf_eq F
    F_Ladder_init := (cd.def_ 20 (d := d_Ladder_init) rfl).elim fun _ F => fdOf_eq F
    F_Ladder_len := (cd.def_ 21 (d := d_Ladder_len) rfl).elim fun _ F => fdOf_eq F
    F_Ladder_names := (cd.def_ 22 (d := d_Ladder_names) rfl).elim fun _ F => fdOf_eq F
    F_Ladder_machine := (cd.def_ 23 (d := d_Ladder_machine) rfl).elim fun _ F => fdOf_eq F
    F_Ladder_do_add := (cd.def_ 24 (d := d_Ladder_do_add) rfl).elim fun _ F => fdOf_eq F
    F_Ladder_do_replace := (cd.def_ 25 (d := d_Ladder_do_replace) rfl).elim fun _ F => fdOf_eq F
    F_Ladder_do_remove := (cd.def_ 26 (d := d_Ladder_do_remove) rfl).elim fun _ F => fdOf_eq F
    F_Ladder_batch := (cd.def_ 27 (d := d_Ladder_batch) rfl).elim fun _ F => fdOf_eq F
    F_Ladder_add := (cd.def_ 28 (d := d_Ladder_add) rfl).elim fun _ F => fdOf_eq F
    F_Ladder_replace := (cd.def_ 29 (d := d_Ladder_replace) rfl).elim fun _ F => fdOf_eq F
    F_Ladder_remove := (cd.def_ 30 (d := d_Ladder_remove) rfl).elim fun _ F => fdOf_eq F
    F_Ladder_undo := (cd.def_ 31 (d := d_Ladder_undo) rfl).elim fun _ F => fdOf_eq F
    F_behaviours := (cd.def_ 32 (d := d_behaviours) rfl).elim fun _ F => fdOf_eq F
    F_minimized := (cd.def_ 33 (d := d_minimized) rfl).elim fun _ F => fdOf_eq F
    F_Session_init := (cd.def_ 34 (d := d_Session_init) rfl).elim fun _ F => fdOf_eq F
    F_Session_eq := (cd.def_ 35 (d := d_Session_eq) rfl).elim fun _ F => fdOf_eq F
    F_Session_write := (cd.def_ 36 (d := d_Session_write) rfl).elim fun _ F => fdOf_eq F
    F_Session_written := (cd.def_ 37 (d := d_Session_written) rfl).elim fun _ F => fdOf_eq F
    F_Shell_init := (cd.def_ 38 (d := d_Shell_init) rfl).elim fun _ F => fdOf_eq F
    F_Shell_len := (cd.def_ 39 (d := d_Shell_len) rfl).elim fun _ F => fdOf_eq F
    F_Shell_log := (cd.def_ 40 (d := d_Shell_log) rfl).elim fun _ F => fdOf_eq F
    F_Shell_command := (cd.def_ 41 (d := d_Shell_command) rfl).elim fun _ F => fdOf_eq F
    F_Shell_query := (cd.def_ 42 (d := d_Shell_query) rfl).elim fun _ F => fdOf_eq F
    F_Shell_answer := (cd.def_ 43 (d := d_Shell_answer) rfl).elim fun _ F => fdOf_eq F
    F_Shell_run := (cd.def_ 44 (d := d_Shell_run) rfl).elim fun _ F => fdOf_eq F
    F_l_bag := (cd.def_ 45 (d := d_l_bag) rfl).elim fun _ F => fdOf_eq F
    F_l_pull := (cd.def_ 46 (d := d_l_pull) rfl).elim fun _ F => fdOf_eq F
    F_l_of := (cd.def_ 47 (d := d_l_of) rfl).elim fun _ F => fdOf_eq F
    F_l_names := (cd.def_ 48 (d := d_l_names) rfl).elim fun _ F => fdOf_eq F
    F_l_raw := (cd.def_ 49 (d := d_l_raw) rfl).elim fun _ F => fdOf_eq F
    F_l_read := (cd.def_ 50 (d := d_l_read) rfl).elim fun _ F => fdOf_eq F
    F_l_made := (cd.def_ 51 (d := d_l_made) rfl).elim fun _ F => fdOf_eq F
    F_l_pool := (cd.def_ 52 (d := d_l_pool) rfl).elim fun _ F => fdOf_eq F
    F_l_told := (cd.def_ 53 (d := d_l_told) rfl).elim fun _ F => fdOf_eq F
    F_l_translator := (cd.def_ 54 (d := d_l_translator) rfl).elim fun _ F => fdOf_eq F
    F_l_command := (cd.def_ 55 (d := d_l_command) rfl).elim fun _ F => fdOf_eq F
    F_l_is_name := (cd.def_ 56 (d := d_l_is_name) rfl).elim fun _ F => fdOf_eq F
    F_l_result := (cd.def_ 57 (d := d_l_result) rfl).elim fun _ F => fdOf_eq F
    F_l_same := (cd.def_ 58 (d := d_l_same) rfl).elim fun _ F => fdOf_eq F
    F_l_try := (cd.def_ 59 (d := d_l_try) rfl).elim fun _ F => fdOf_eq F
    F_l_run := (cd.def_ 60 (d := d_l_run) rfl).elim fun _ F => fdOf_eq F
    F_l_matches := (cd.def_ 61 (d := d_l_matches) rfl).elim fun _ F => fdOf_eq F
    F_law := (cd.def_ 62 (d := d_law) rfl).elim fun _ F => fdOf_eq F
    g_is_alphabet := He.glo_ok X G (cd.fact 0 (f := .glo "is_alphabet") rfl)
    g_need_alphabet := He.glo_ok X G (cd.fact 1 (f := .glo "need_alphabet") rfl)
    g_is_state := He.glo_ok X G (cd.fact 2 (f := .glo "is_state") rfl)
    g_is_answer := He.glo_ok X G (cd.fact 3 (f := .glo "is_answer") rfl)
    g_transition_in := He.glo_ok X G (cd.fact 4 (f := .glo "transition_in") rfl)
    g_parse_machine := He.glo_ok X G (cd.fact 5 (f := .glo "parse_machine") rfl)
    g_is_name := He.glo_ok X G (cd.fact 6 (f := .glo "is_name") rfl)
    g_behaviours := He.glo_ok X G (cd.fact 7 (f := .glo "behaviours") rfl)
    g_minimized := He.glo_ok X G (cd.fact 8 (f := .glo "minimized") rfl)
    g_l_bag := He.glo_ok X G (cd.fact 9 (f := .glo "_law_bag") rfl)
    g_l_pull := He.glo_ok X G (cd.fact 10 (f := .glo "_law_pull") rfl)
    g_l_of := He.glo_ok X G (cd.fact 11 (f := .glo "_law_of") rfl)
    g_l_names := He.glo_ok X G (cd.fact 12 (f := .glo "_law_names") rfl)
    g_l_raw := He.glo_ok X G (cd.fact 13 (f := .glo "_law_raw") rfl)
    g_l_read := He.glo_ok X G (cd.fact 14 (f := .glo "_law_read") rfl)
    g_l_made := He.glo_ok X G (cd.fact 15 (f := .glo "_law_made") rfl)
    g_l_pool := He.glo_ok X G (cd.fact 16 (f := .glo "_law_pool") rfl)
    g_l_told := He.glo_ok X G (cd.fact 17 (f := .glo "_law_told") rfl)
    g_l_translator := He.glo_ok X G (cd.fact 18 (f := .glo "_law_translator") rfl)
    g_l_command := He.glo_ok X G (cd.fact 19 (f := .glo "_law_command") rfl)
    g_l_is_name := He.glo_ok X G (cd.fact 20 (f := .glo "_law_is_name") rfl)
    g_l_result := He.glo_ok X G (cd.fact 21 (f := .glo "_law_result") rfl)
    g_l_same := He.glo_ok X G (cd.fact 22 (f := .glo "_law_same") rfl)
    g_l_try := He.glo_ok X G (cd.fact 23 (f := .glo "_law_try") rfl)
    g_l_run := He.glo_ok X G (cd.fact 24 (f := .glo "_law_run") rfl)
    g_l_matches := He.glo_ok X G (cd.fact 25 (f := .glo "_law_matches") rfl)
    g_law := He.glo_ok X G (cd.fact 26 (f := .glo "law") rfl)
    g_Machine := He.glo_ok X G (cd.fact 27 (f := .glo "Machine") rfl)
    g_Translator := He.glo_ok X G (cd.fact 28 (f := .glo "Translator") rfl)
    g_Ladder := He.glo_ok X G (cd.fact 29 (f := .glo "Ladder") rfl)
    g_Session := He.glo_ok X G (cd.fact 30 (f := .glo "Session") rfl)
    g_Shell := He.glo_ok X G (cd.fact 31 (f := .glo "Shell") rfl)
    g_InvalidMachine := He.glo_ok X G (cd.fact 32 (f := .glo "InvalidMachine") rfl)
    g_InvalidTranslator := He.glo_ok X G (cd.fact 33 (f := .glo "InvalidTranslator") rfl)
    g_InvalidOpponent := He.glo_ok X G (cd.fact 34 (f := .glo "InvalidOpponent") rfl)
    g_InvalidLetters := He.glo_ok X G (cd.fact 35 (f := .glo "InvalidLetters") rfl)
    g_OutOfRange := He.glo_ok X G (cd.fact 36 (f := .glo "OutOfRange") rfl)
    g_InvalidFile := He.glo_ok X G (cd.fact 37 (f := .glo "InvalidFile") rfl)
    g_InvalidCommand := He.glo_ok X G (cd.fact 38 (f := .glo "InvalidCommand") rfl)
    g_UnknownLetter := He.glo_ok X G (cd.fact 39 (f := .glo "UnknownLetter") rfl)
    g_EchoError := He.glo_ok X G (cd.fact 40 (f := .glo "EchoError") rfl)
    g_NotFound := He.glo_ok X G (cd.fact 41 (f := .glo "NotFound") rfl)
    g_LimitExceeded := He.glo_ok X G (cd.fact 42 (f := .glo "LimitExceeded") rfl)
    g_InvalidName := He.glo_ok X G (cd.fact 43 (f := .glo "InvalidName") rfl)
    g_DuplicateName := He.glo_ok X G (cd.fact 44 (f := .glo "DuplicateName") rfl)
    g_NothingLeft := He.glo_ok X G (cd.fact 45 (f := .glo "NothingLeft") rfl)
    g_UnknownName := He.glo_ok X G (cd.fact 46 (f := .glo "UnknownName") rfl)
    g_COUNTS_ladder := He.glo_ok X G (cd.fact 47 (f := .glo "COUNTS_ladder") rfl)
    g_COUNTS_shell := He.glo_ok X G (cd.fact 48 (f := .glo "COUNTS_shell") rfl)
    f_len := He.free_ok X G (cd.fact 49 (f := .free "len") rfl)
    f_list := He.free_ok X G (cd.fact 50 (f := .free "list") rfl)
    f_tuple := He.free_ok X G (cd.fact 51 (f := .free "tuple") rfl)
    f_all := He.free_ok X G (cd.fact 52 (f := .free "all") rfl)
    f_range := He.free_ok X G (cd.fact 53 (f := .free "range") rfl)
    f_enumerate := He.free_ok X G (cd.fact 54 (f := .free "enumerate") rfl)
    f_sorted := He.free_ok X G (cd.fact 55 (f := .free "sorted") rfl)
    f_dict := He.free_ok X G (cd.fact 56 (f := .free "dict") rfl)
    f_isinstance := He.free_ok X G (cd.fact 57 (f := .free "isinstance") rfl)
    f_int := He.free_ok X G (cd.fact 58 (f := .free "int") rfl)
    f_bool := He.free_ok X G (cd.fact 59 (f := .free "bool") rfl)
    f_str := He.free_ok X G (cd.fact 60 (f := .free "str") rfl)
    i_MAX_LETTERS := He.int_ok X G (cd.fact 61 (f := .int "MAX_LETTERS" 3) rfl)
    i_MAX_STATES := He.int_ok X G (cd.fact 62 (f := .int "MAX_STATES" 5) rfl)
    i_MAX_PRIORITY := He.int_ok X G (cd.fact 63 (f := .int "MAX_PRIORITY" 3) rfl)
    i_MAX_NAME := He.int_ok X G (cd.fact 64 (f := .int "MAX_NAME" 8) rfl)
    i_MAX_NAMES := He.int_ok X G (cd.fact 65 (f := .int "MAX_NAMES" 6) rfl)
    z_LOWERCASE := He.str_ok X G (cd.fact 66 (f := .str "LOWERCASE" "abcdefghijklmnopqrstuvwxyz") rfl)
    z_DIGITS := He.str_ok X G (cd.fact 67 (f := .str "DIGITS" "0123456789") rfl)
    z_UNKNOWN := He.str_ok X G (cd.fact 68 (f := .str "UNKNOWN" "unknown") rfl)
    c_Machine := He.cls_ok (cd.fact 69 (f := .cls "Machine") rfl)
    k_Machine := He.mkr_ok (cd.fact 70 (f := .mkr "Machine") rfl)
    n_Machine_alphabet := He.noat_ok (cd.fact 71 (f := .noat "Machine" "alphabet") rfl)
    n_Machine_table := He.noat_ok (cd.fact 72 (f := .noat "Machine" "table") rfl)
    n_Machine_first := He.noat_ok (cd.fact 73 (f := .noat "Machine" "first") rfl)
    c_Translator := He.cls_ok (cd.fact 74 (f := .cls "Translator") rfl)
    k_Translator := He.mkr_ok (cd.fact 75 (f := .mkr "Translator") rfl)
    n_Translator_inputs := He.noat_ok (cd.fact 76 (f := .noat "Translator" "inputs") rfl)
    n_Translator_outputs := He.noat_ok (cd.fact 77 (f := .noat "Translator" "outputs") rfl)
    n_Translator_table := He.noat_ok (cd.fact 78 (f := .noat "Translator" "table") rfl)
    n_Translator_first := He.noat_ok (cd.fact 79 (f := .noat "Translator" "first") rfl)
    c_Ladder := He.cls_ok (cd.fact 80 (f := .cls "Ladder") rfl)
    k_Ladder := He.mkr_ok (cd.fact 81 (f := .mkr "Ladder") rfl)
    n_Ladder_contents := He.noat_ok (cd.fact 82 (f := .noat "Ladder" "contents") rfl)
    n_Ladder_past := He.noat_ok (cd.fact 83 (f := .noat "Ladder" "past") rfl)
    n_Ladder_future := He.noat_ok (cd.fact 84 (f := .noat "Ladder" "future") rfl)
    n_Ladder_known := He.noat_ok (cd.fact 85 (f := .noat "Ladder" "known") rfl)
    c_Session := He.cls_ok (cd.fact 86 (f := .cls "Session") rfl)
    k_Session := He.mkr_ok (cd.fact 87 (f := .mkr "Session") rfl)
    n_Session_engine := He.noat_ok (cd.fact 88 (f := .noat "Session" "engine") rfl)
    n_Session_done := He.noat_ok (cd.fact 89 (f := .noat "Session" "done") rfl)
    n_Session_later := He.noat_ok (cd.fact 90 (f := .noat "Session" "later") rfl)
    c_Shell := He.cls_ok (cd.fact 91 (f := .cls "Shell") rfl)
    k_Shell := He.mkr_ok (cd.fact 92 (f := .mkr "Shell") rfl)
    n_Shell_place := He.noat_ok (cd.fact 93 (f := .noat "Shell" "place") rfl)
    n_Shell_entries := He.noat_ok (cd.fact 94 (f := .noat "Shell" "entries") rfl)
    m_Machine_init := He.meth_ok (cd.fact 95 (f := .meth "Machine" "__init__") rfl)
    m_Machine_letters := He.meth_ok (cd.fact 96 (f := .meth "Machine" "letters") rfl)
    m_Machine_states := He.meth_ok (cd.fact 97 (f := .meth "Machine" "states") rfl)
    m_Machine_start := He.meth_ok (cd.fact 98 (f := .meth "Machine" "start") rfl)
    m_Translator_init := He.meth_ok (cd.fact 99 (f := .meth "Translator" "__init__") rfl)
    m_Translator_eq := He.meth_ok (cd.fact 100 (f := .meth "Translator" "__eq__") rfl)
    m_Translator_start := He.meth_ok (cd.fact 101 (f := .meth "Translator" "start") rfl)
    m_Translator_step := He.meth_ok (cd.fact 102 (f := .meth "Translator" "step") rfl)
    m_Ladder_init := He.meth_ok (cd.fact 103 (f := .meth "Ladder" "__init__") rfl)
    m_Ladder_len := He.meth_ok (cd.fact 104 (f := .meth "Ladder" "__len__") rfl)
    m_Ladder_names := He.meth_ok (cd.fact 105 (f := .meth "Ladder" "names") rfl)
    m_Ladder_machine := He.meth_ok (cd.fact 106 (f := .meth "Ladder" "machine") rfl)
    m_Ladder_do_add := He.meth_ok (cd.fact 107 (f := .meth "Ladder" "do_add") rfl)
    m_Ladder_do_replace := He.meth_ok (cd.fact 108 (f := .meth "Ladder" "do_replace") rfl)
    m_Ladder_do_remove := He.meth_ok (cd.fact 109 (f := .meth "Ladder" "do_remove") rfl)
    m_Ladder_batch := He.meth_ok (cd.fact 110 (f := .meth "Ladder" "batch") rfl)
    m_Ladder_add := He.meth_ok (cd.fact 111 (f := .meth "Ladder" "add") rfl)
    m_Ladder_replace := He.meth_ok (cd.fact 112 (f := .meth "Ladder" "replace") rfl)
    m_Ladder_remove := He.meth_ok (cd.fact 113 (f := .meth "Ladder" "remove") rfl)
    m_Ladder_undo := He.meth_ok (cd.fact 114 (f := .meth "Ladder" "undo") rfl)
    m_Session_init := He.meth_ok (cd.fact 115 (f := .meth "Session" "__init__") rfl)
    m_Session_eq := He.meth_ok (cd.fact 116 (f := .meth "Session" "__eq__") rfl)
    m_Session_write := He.meth_ok (cd.fact 117 (f := .meth "Session" "write") rfl)
    m_Session_written := He.meth_ok (cd.fact 118 (f := .meth "Session" "written") rfl)
    m_Shell_init := He.meth_ok (cd.fact 119 (f := .meth "Shell" "__init__") rfl)
    m_Shell_len := He.meth_ok (cd.fact 120 (f := .meth "Shell" "__len__") rfl)
    m_Shell_log := He.meth_ok (cd.fact 121 (f := .meth "Shell" "log") rfl)
    m_Shell_command := He.meth_ok (cd.fact 122 (f := .meth "Shell" "command") rfl)
    m_Shell_query := He.meth_ok (cd.fact 123 (f := .meth "Shell" "query") rfl)
    m_Shell_answer := He.meth_ok (cd.fact 124 (f := .meth "Shell" "answer") rfl)
    m_Shell_run := He.meth_ok (cd.fact 125 (f := .meth "Shell" "run") rfl)
    m_LimitExceeded_init := He.meth_ok (cd.fact 126 (f := .meth "LimitExceeded" "__init__") rfl)
    n_LimitExceeded_limit := He.noat_ok (cd.fact 127 (f := .noat "LimitExceeded" "limit") rfl)
    n_LimitExceeded_word := He.noat_ok (cd.fact 128 (f := .noat "LimitExceeded" "word") rfl)
    x_LimitExceeded_InvalidMachine := He.exm_ok (cd.fact 129 (f := .exm "LimitExceeded" "InvalidMachine" false) rfl)
    x_LimitExceeded_InvalidTranslator := He.exm_ok (cd.fact 130 (f := .exm "LimitExceeded" "InvalidTranslator" false) rfl)
    x_LimitExceeded_InvalidOpponent := He.exm_ok (cd.fact 131 (f := .exm "LimitExceeded" "InvalidOpponent" false) rfl)
    x_LimitExceeded_InvalidLetters := He.exm_ok (cd.fact 132 (f := .exm "LimitExceeded" "InvalidLetters" false) rfl)
    x_LimitExceeded_LimitExceeded := He.exm_ok (cd.fact 133 (f := .exm "LimitExceeded" "LimitExceeded" true) rfl)
    x_LimitExceeded_OutOfRange := He.exm_ok (cd.fact 134 (f := .exm "LimitExceeded" "OutOfRange" false) rfl)
    x_LimitExceeded_InvalidFile := He.exm_ok (cd.fact 135 (f := .exm "LimitExceeded" "InvalidFile" false) rfl)
    x_LimitExceeded_InvalidName := He.exm_ok (cd.fact 136 (f := .exm "LimitExceeded" "InvalidName" false) rfl)
    x_LimitExceeded_DuplicateName := He.exm_ok (cd.fact 137 (f := .exm "LimitExceeded" "DuplicateName" false) rfl)
    x_LimitExceeded_UnknownName := He.exm_ok (cd.fact 138 (f := .exm "LimitExceeded" "UnknownName" false) rfl)
    x_LimitExceeded_InvalidCommand := He.exm_ok (cd.fact 139 (f := .exm "LimitExceeded" "InvalidCommand" false) rfl)
    x_LimitExceeded_UnknownLetter := He.exm_ok (cd.fact 140 (f := .exm "LimitExceeded" "UnknownLetter" false) rfl)
    x_LimitExceeded_EchoError := He.exm_ok (cd.fact 141 (f := .exm "LimitExceeded" "EchoError" true) rfl)
    x_LimitExceeded_NotFound := He.exm_ok (cd.fact 142 (f := .exm "LimitExceeded" "NotFound" false) rfl)
    m_InvalidName_init := He.meth_ok (cd.fact 143 (f := .meth "InvalidName" "__init__") rfl)
    n_InvalidName_name := He.noat_ok (cd.fact 144 (f := .noat "InvalidName" "name") rfl)
    n_InvalidName_word := He.noat_ok (cd.fact 145 (f := .noat "InvalidName" "word") rfl)
    x_InvalidName_InvalidMachine := He.exm_ok (cd.fact 146 (f := .exm "InvalidName" "InvalidMachine" false) rfl)
    x_InvalidName_InvalidTranslator := He.exm_ok (cd.fact 147 (f := .exm "InvalidName" "InvalidTranslator" false) rfl)
    x_InvalidName_InvalidOpponent := He.exm_ok (cd.fact 148 (f := .exm "InvalidName" "InvalidOpponent" false) rfl)
    x_InvalidName_InvalidLetters := He.exm_ok (cd.fact 149 (f := .exm "InvalidName" "InvalidLetters" false) rfl)
    x_InvalidName_LimitExceeded := He.exm_ok (cd.fact 150 (f := .exm "InvalidName" "LimitExceeded" false) rfl)
    x_InvalidName_OutOfRange := He.exm_ok (cd.fact 151 (f := .exm "InvalidName" "OutOfRange" false) rfl)
    x_InvalidName_InvalidFile := He.exm_ok (cd.fact 152 (f := .exm "InvalidName" "InvalidFile" false) rfl)
    x_InvalidName_InvalidName := He.exm_ok (cd.fact 153 (f := .exm "InvalidName" "InvalidName" true) rfl)
    x_InvalidName_DuplicateName := He.exm_ok (cd.fact 154 (f := .exm "InvalidName" "DuplicateName" false) rfl)
    x_InvalidName_UnknownName := He.exm_ok (cd.fact 155 (f := .exm "InvalidName" "UnknownName" false) rfl)
    x_InvalidName_InvalidCommand := He.exm_ok (cd.fact 156 (f := .exm "InvalidName" "InvalidCommand" false) rfl)
    x_InvalidName_UnknownLetter := He.exm_ok (cd.fact 157 (f := .exm "InvalidName" "UnknownLetter" false) rfl)
    x_InvalidName_EchoError := He.exm_ok (cd.fact 158 (f := .exm "InvalidName" "EchoError" true) rfl)
    x_InvalidName_NotFound := He.exm_ok (cd.fact 159 (f := .exm "InvalidName" "NotFound" false) rfl)
    m_DuplicateName_init := He.meth_ok (cd.fact 160 (f := .meth "DuplicateName" "__init__") rfl)
    n_DuplicateName_name := He.noat_ok (cd.fact 161 (f := .noat "DuplicateName" "name") rfl)
    n_DuplicateName_word := He.noat_ok (cd.fact 162 (f := .noat "DuplicateName" "word") rfl)
    x_DuplicateName_InvalidMachine := He.exm_ok (cd.fact 163 (f := .exm "DuplicateName" "InvalidMachine" false) rfl)
    x_DuplicateName_InvalidTranslator := He.exm_ok (cd.fact 164 (f := .exm "DuplicateName" "InvalidTranslator" false) rfl)
    x_DuplicateName_InvalidOpponent := He.exm_ok (cd.fact 165 (f := .exm "DuplicateName" "InvalidOpponent" false) rfl)
    x_DuplicateName_InvalidLetters := He.exm_ok (cd.fact 166 (f := .exm "DuplicateName" "InvalidLetters" false) rfl)
    x_DuplicateName_LimitExceeded := He.exm_ok (cd.fact 167 (f := .exm "DuplicateName" "LimitExceeded" false) rfl)
    x_DuplicateName_OutOfRange := He.exm_ok (cd.fact 168 (f := .exm "DuplicateName" "OutOfRange" false) rfl)
    x_DuplicateName_InvalidFile := He.exm_ok (cd.fact 169 (f := .exm "DuplicateName" "InvalidFile" false) rfl)
    x_DuplicateName_InvalidName := He.exm_ok (cd.fact 170 (f := .exm "DuplicateName" "InvalidName" false) rfl)
    x_DuplicateName_DuplicateName := He.exm_ok (cd.fact 171 (f := .exm "DuplicateName" "DuplicateName" true) rfl)
    x_DuplicateName_UnknownName := He.exm_ok (cd.fact 172 (f := .exm "DuplicateName" "UnknownName" false) rfl)
    x_DuplicateName_InvalidCommand := He.exm_ok (cd.fact 173 (f := .exm "DuplicateName" "InvalidCommand" false) rfl)
    x_DuplicateName_UnknownLetter := He.exm_ok (cd.fact 174 (f := .exm "DuplicateName" "UnknownLetter" false) rfl)
    x_DuplicateName_EchoError := He.exm_ok (cd.fact 175 (f := .exm "DuplicateName" "EchoError" true) rfl)
    x_DuplicateName_NotFound := He.exm_ok (cd.fact 176 (f := .exm "DuplicateName" "NotFound" false) rfl)
    m_NothingLeft_init := He.meth_ok (cd.fact 177 (f := .meth "NothingLeft" "__init__") rfl)
    n_NothingLeft_word := He.noat_ok (cd.fact 178 (f := .noat "NothingLeft" "word") rfl)
    x_NothingLeft_InvalidMachine := He.exm_ok (cd.fact 179 (f := .exm "NothingLeft" "InvalidMachine" false) rfl)
    x_NothingLeft_InvalidTranslator := He.exm_ok (cd.fact 180 (f := .exm "NothingLeft" "InvalidTranslator" false) rfl)
    x_NothingLeft_InvalidOpponent := He.exm_ok (cd.fact 181 (f := .exm "NothingLeft" "InvalidOpponent" false) rfl)
    x_NothingLeft_InvalidLetters := He.exm_ok (cd.fact 182 (f := .exm "NothingLeft" "InvalidLetters" false) rfl)
    x_NothingLeft_LimitExceeded := He.exm_ok (cd.fact 183 (f := .exm "NothingLeft" "LimitExceeded" false) rfl)
    x_NothingLeft_OutOfRange := He.exm_ok (cd.fact 184 (f := .exm "NothingLeft" "OutOfRange" false) rfl)
    x_NothingLeft_InvalidFile := He.exm_ok (cd.fact 185 (f := .exm "NothingLeft" "InvalidFile" false) rfl)
    x_NothingLeft_InvalidName := He.exm_ok (cd.fact 186 (f := .exm "NothingLeft" "InvalidName" false) rfl)
    x_NothingLeft_DuplicateName := He.exm_ok (cd.fact 187 (f := .exm "NothingLeft" "DuplicateName" false) rfl)
    x_NothingLeft_UnknownName := He.exm_ok (cd.fact 188 (f := .exm "NothingLeft" "UnknownName" false) rfl)
    x_NothingLeft_InvalidCommand := He.exm_ok (cd.fact 189 (f := .exm "NothingLeft" "InvalidCommand" false) rfl)
    x_NothingLeft_UnknownLetter := He.exm_ok (cd.fact 190 (f := .exm "NothingLeft" "UnknownLetter" false) rfl)
    x_NothingLeft_EchoError := He.exm_ok (cd.fact 191 (f := .exm "NothingLeft" "EchoError" true) rfl)
    x_NothingLeft_NotFound := He.exm_ok (cd.fact 192 (f := .exm "NothingLeft" "NotFound" false) rfl)
    m_UnknownName_init := He.meth_ok (cd.fact 193 (f := .meth "UnknownName" "__init__") rfl)
    n_UnknownName_name := He.noat_ok (cd.fact 194 (f := .noat "UnknownName" "name") rfl)
    n_UnknownName_word := He.noat_ok (cd.fact 195 (f := .noat "UnknownName" "word") rfl)
    x_UnknownName_InvalidMachine := He.exm_ok (cd.fact 196 (f := .exm "UnknownName" "InvalidMachine" false) rfl)
    x_UnknownName_InvalidTranslator := He.exm_ok (cd.fact 197 (f := .exm "UnknownName" "InvalidTranslator" false) rfl)
    x_UnknownName_InvalidOpponent := He.exm_ok (cd.fact 198 (f := .exm "UnknownName" "InvalidOpponent" false) rfl)
    x_UnknownName_InvalidLetters := He.exm_ok (cd.fact 199 (f := .exm "UnknownName" "InvalidLetters" false) rfl)
    x_UnknownName_LimitExceeded := He.exm_ok (cd.fact 200 (f := .exm "UnknownName" "LimitExceeded" false) rfl)
    x_UnknownName_OutOfRange := He.exm_ok (cd.fact 201 (f := .exm "UnknownName" "OutOfRange" false) rfl)
    x_UnknownName_InvalidFile := He.exm_ok (cd.fact 202 (f := .exm "UnknownName" "InvalidFile" false) rfl)
    x_UnknownName_InvalidName := He.exm_ok (cd.fact 203 (f := .exm "UnknownName" "InvalidName" false) rfl)
    x_UnknownName_DuplicateName := He.exm_ok (cd.fact 204 (f := .exm "UnknownName" "DuplicateName" false) rfl)
    x_UnknownName_UnknownName := He.exm_ok (cd.fact 205 (f := .exm "UnknownName" "UnknownName" true) rfl)
    x_UnknownName_InvalidCommand := He.exm_ok (cd.fact 206 (f := .exm "UnknownName" "InvalidCommand" false) rfl)
    x_UnknownName_UnknownLetter := He.exm_ok (cd.fact 207 (f := .exm "UnknownName" "UnknownLetter" false) rfl)
    x_UnknownName_EchoError := He.exm_ok (cd.fact 208 (f := .exm "UnknownName" "EchoError" false) rfl)
    x_UnknownName_NotFound := He.exm_ok (cd.fact 209 (f := .exm "UnknownName" "NotFound" true) rfl)
    t_COUNTS_ladder := c.t.tab 0 rfl
    v_COUNTS_ladder_add := He.valsB_ok b_vl (q := ("add", .int 3)) (by simp [vLad])
    v_COUNTS_ladder_replace := He.valsB_ok b_vl (q := ("replace", .int 3)) (by simp [vLad])
    v_COUNTS_ladder_remove := He.valsB_ok b_vl (q := ("remove", .int 2)) (by simp [vLad])
    t_COUNTS_shell := c.t.tab 1 rfl
    v_COUNTS_shell_add := He.valsB_ok b_vs (q := ("add", .int 3)) (by simp [vShl])
    v_COUNTS_shell_remove := He.valsB_ok b_vs (q := ("remove", .int 2)) (by simp [vShl])
    v_COUNTS_shell_undo := He.valsB_ok b_vs (q := ("undo", .int 1)) (by simp [vShl])
    v_COUNTS_shell_names := He.valsB_ok b_vs (q := ("names", .int 1)) (by simp [vShl])
    s_Translator := inB_ok (He.cls_ok (cd.fact 74 (f := .cls "Translator") rfl)) b_Translator
    s_Session := inB_ok (He.cls_ok (cd.fact 86 (f := .cls "Session") rfl)) b_Session
    e_LimitExceeded := b_LimitExceeded.1
    q_LimitExceeded := b_LimitExceeded.2.1
    y_LimitExceeded := b_LimitExceeded.2.2
    e_InvalidName := b_InvalidName.1
    q_InvalidName := b_InvalidName.2.1
    y_InvalidName := b_InvalidName.2.2
    e_DuplicateName := b_DuplicateName.1
    q_DuplicateName := b_DuplicateName.2.1
    y_DuplicateName := b_DuplicateName.2.2
    e_NothingLeft := b_NothingLeft.1
    q_NothingLeft := b_NothingLeft.2.1
    y_NothingLeft := b_NothingLeft.2.2
    e_UnknownName := b_UnknownName.1
    q_UnknownName := b_UnknownName.2.1
    y_UnknownName := b_UnknownName.2.2
  }
theorem law_at {w : World} {h : Heap} {mg : Str → Option Value} {K : PySem.W.Frag} {f : Addr} (X : K.In h) (G : h.Ns mainGlobals mg) (hf : mg "law" = some (.ref f)) (c : He.SaysX fa fn ts tf ex w h K) : LamX.LawAtS PySem.Challenge.rw_echoladder_k70_whole_independent_objects w K CX0 13 63 "_law_script" mg f h := by
  have T := tx_of X G c
  have e := hf.symm.trans T.g_law
  cases e
  have b := FunD.bindsA (ps := ["_law_script"]) T.F_law fun _ _ _ _ _ _ us hl => match us, hl with | [_], _ => rfl
  have mem : (("law", none) : He.Defn) ∈ tf := List.mem_singleton.mpr rfl
  have one : ∀ {p : Addr × Addr}, p ∈ [He.cT K ("law", none)] → p = He.cT K ("law", none) := fun h => List.mem_singleton.mp h
  refine ⟨fdOf K (He.fAd K d_law.at_), [He.cT K ("law", none)], sp_law K, fun p hp => ?_, fun p hp => ?_, fun p hp => ?_, fun s v => b s [v] rfl, fun H a ns hl _ ht hS => ⟨a, ns, rfl, hS, hl, ht _ (List.mem_singleton.mpr rfl), fun _ => rfl⟩, fun base _ _ TB => ok_law T (TB _ (List.mem_singleton.mpr rfl))⟩
  · rw [one hp]
    exact c.empty _ mem
  · rw [one hp]
    exact c.out _ mem
  · rw [one hp]
    exact PySem.W.codeHd_of_K X (c.hd _ mem)
end K70
set_option maxHeartbeats 0 in
theorem PySem.Challenge.cw_echoladder_k70_whole_independent_objects_holds : PySem.Challenge.rw_echoladder_k70_whole_independent_objects.Holds := by
  refine K70.row_of ?_
  refine LamX.walk_ofTsE (l := PySem.Challenge.rw_echoladder_k70_whole_independent_objects) (n := 63) (k := 13) (x := "_law_script") (CX := fun _ => L2.CX0) rfl (by decide) (by kernel_rfl) ⟨rfl, by decide, by decide⟩ ?F (fun _ _ _ _ _ z => z)
  intro w mg fa h Y G hmg0
  obtain ⟨K, KX, c⟩ := Y
  have hmg : mg ("law" : PySem.Str) = some (.ref fa) := by
    have e : (HandSHeadRun.topDef K70.R.prog 115).name = ("law" : PySem.Str) := by kernel_rfl
    rw [← e]
    exact hmg0
  exact ⟨K, KX, K70.law_at KX G hmg c⟩
