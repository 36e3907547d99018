import PyProof.Rows.All
import Wide.All
import OpenK.AllK
import Wide.FinOn
import HandS.ForMost
import HandS.Wide
import HandS.WideBits
import HandS.TupAny
import HandS.TupLe
import HandS.TupMul
import HandS.Walk
import HandS.Zip
import HandS.Style
import HandS.IsInst
import HandS.SortInts
import HandS.Star
import HandS.Conv
import HandS.Deep
import HandS.Codes
import HandS.Flow
import HandS.Small
import HandS.SetFor
import HandS.Strs
import HandS.ListItems
import HandS.SortRule
import HandS.Head0
import HandS.Head1
import HandS.Head2
import HandS.HeadEnd
import HandS.HeadHook1
import HandS.HeadHook2
import PySem.Challenge.RW_caughtbefore_k20_whole_looks_in_two_step
set_option Elab.async false
set_option linter.all false
set_option maxRecDepth 100000
set_option maxHeartbeats 4000000
namespace PL
open PySem PySem.Spec PyProof.Rows L2
/-- data without addresses -/
inductive D where
  | non | bl (b : Bool) | int (i : Int) | str (s : Str)
  | tup (ds : List D) | lst (ds : List D) | ro (ds : List D)
  | dk (kvs : List (Key × D)) | dt (kvs : List (List Key × D))
  deriving Inhabited
abbrev Leq (H H' : Hp) : Prop := ∀ a o, H a = some o → H' a = some o
mutual
def Den (K : PySem.W.Frag) (H : Hp) : D → V → Prop
  | .non, v => v = .non
  | .bl b, v => v = .bl b
  | .int i, v => v = .int i
  | .str s, v => v = .str s
  | .tup ds, v => ∃ a vs, v = .ref a ∧ SqT K H a vs ∧ DenL K H ds vs
  | .lst ds, v => ∃ a vs, v = .ref a ∧ H a = some (.lst vs) ∧ DenL K H ds vs
  | .ro ds, v => ∃ a vs, v = .ref a ∧ SqL K H a vs ∧ DenL K H ds vs
  | .dk kvs, v => ∃ a kws, v = .ref a ∧ H a = some (.dK kws) ∧ DenK K H kvs kws
  | .dt kvs, v => ∃ a kws, v = .ref a ∧ H a = some (.dT kws) ∧ DenT K H kvs kws
def DenL (K : PySem.W.Frag) (H : Hp) : List D → List V → Prop
  | [], vs => vs = []
  | d :: ds, vs => ∃ v r, vs = v :: r ∧ Den K H d v ∧ DenL K H ds r
def DenK (K : PySem.W.Frag) (H : Hp) : List (Key × D) → List (Key × V) → Prop
  | [], vs => vs = []
  | (k, d) :: ds, vs => ∃ v r, vs = (k, v) :: r ∧ Den K H d v ∧ DenK K H ds r
def DenT (K : PySem.W.Frag) (H : Hp) : List (List Key × D) → List (List Key × V) → Prop
  | [], vs => vs = []
  | (k, d) :: ds, vs => ∃ v r, vs = (k, v) :: r ∧ Den K H d v ∧ DenT K H ds r
end
theorem sqT_leq {K : PySem.W.Frag} {H H' : Hp} {a : Addr} {xs : List V} (e : Leq H H') (h : SqT K H a xs) : SqT K H' a xs := by
  rcases h with (h | ⟨o, h⟩) | h
  · exact .inl (.inl (e _ _ h))
  · exact .inl (.inr ⟨o, e _ _ h⟩)
  · exact .inr h
theorem sqL_leq {K : PySem.W.Frag} {H H' : Hp} {a : Addr} {xs : List V} (e : Leq H H') (h : SqL K H a xs) : SqL K H' a xs := by
  rcases h with (h | ⟨o, h⟩) | h
  · exact .inl (.inl (e _ _ h))
  · exact .inl (.inr ⟨o, e _ _ h⟩)
  · exact .inr h
section
variable {K : PySem.W.Frag} {H H' : Hp}
mutual
theorem Den.leq (e : Leq H H') : ∀ {d : D} {v : V}, Den K H d v → Den K H' d v
  | .non, _, h => by simpa [Den] using h
  | .bl _, _, h => by simpa [Den] using h
  | .int _, _, h => by simpa [Den] using h
  | .str _, _, h => by simpa [Den] using h
  | .tup ds, _, h => by
    rw [Den] at h ⊢
    obtain ⟨a, vs, h1, h2, h3⟩ := h
    exact ⟨a, vs, h1, sqT_leq e h2, DenL.leq e h3⟩
  | .lst ds, _, h => by
    rw [Den] at h ⊢
    obtain ⟨a, vs, h1, h2, h3⟩ := h
    exact ⟨a, vs, h1, e _ _ h2, DenL.leq e h3⟩
  | .ro ds, _, h => by
    rw [Den] at h ⊢
    obtain ⟨a, vs, h1, h2, h3⟩ := h
    exact ⟨a, vs, h1, sqL_leq e h2, DenL.leq e h3⟩
  | .dk ds, _, h => by
    rw [Den] at h ⊢
    obtain ⟨a, vs, h1, h2, h3⟩ := h
    exact ⟨a, vs, h1, e _ _ h2, DenK.leq e h3⟩
  | .dt ds, _, h => by
    rw [Den] at h ⊢
    obtain ⟨a, vs, h1, h2, h3⟩ := h
    exact ⟨a, vs, h1, e _ _ h2, DenT.leq e h3⟩
theorem DenL.leq (e : Leq H H') : ∀ {ds : List D} {vs : List V}, DenL K H ds vs → DenL K H' ds vs
  | [], _, h => by simpa [DenL] using h
  | d :: ds, _, h => by
    rw [DenL] at h ⊢
    obtain ⟨v, r, h1, h2, h3⟩ := h
    exact ⟨v, r, h1, Den.leq e h2, DenL.leq e h3⟩
theorem DenK.leq (e : Leq H H') : ∀ {ds : List (Key × D)} {vs : List (Key × V)}, DenK K H ds vs → DenK K H' ds vs
  | [], _, h => by simpa [DenK] using h
  | (k, d) :: ds, _, h => by
    rw [DenK] at h ⊢
    obtain ⟨v, r, h1, h2, h3⟩ := h
    exact ⟨v, r, h1, Den.leq e h2, DenK.leq e h3⟩
theorem DenT.leq (e : Leq H H') : ∀ {ds : List (List Key × D)} {vs : List (List Key × V)}, DenT K H ds vs → DenT K H' ds vs
  | [], _, h => by simpa [DenT] using h
  | (k, d) :: ds, _, h => by
    rw [DenT] at h ⊢
    obtain ⟨v, r, h1, h2, h3⟩ := h
    exact ⟨v, r, h1, Den.leq e h2, DenT.leq e h3⟩
end
theorem DenL.length : ∀ {ds : List D} {vs : List V}, DenL K H ds vs → vs.length = ds.length
  | [], _, h => by rw [DenL] at h; subst h; rfl
  | d :: ds, _, h => by
    rw [DenL] at h
    obtain ⟨v, r, rfl, _, h3⟩ := h
    simp [DenL.length h3]
theorem DenL.get : ∀ {ds : List D} {vs : List V} {i : Nat} {d : D}, DenL K H ds vs → ds[i]? = some d → ∃ v, vs[i]? = some v ∧ Den K H d v
  | [], _, _, _, _, e => by simp at e
  | d :: ds, _, 0, _, h, e => by
    rw [DenL] at h
    obtain ⟨v, r, rfl, h2, _⟩ := h
    simp at e; subst e
    exact ⟨v, rfl, h2⟩
  | d :: ds, _, i + 1, _, h, e => by
    rw [DenL] at h
    obtain ⟨v, r, rfl, _, h3⟩ := h
    exact DenL.get (i := i) h3 (by simpa using e)
theorem DenL.getV : ∀ {ds : List D} {vs : List V} {i : Nat} {v : V}, DenL K H ds vs → vs[i]? = some v → ∃ d, ds[i]? = some d ∧ Den K H d v
  | [], _, _, _, h, e => by rw [DenL] at h; subst h; simp at e
  | d :: ds, _, 0, _, h, e => by
    rw [DenL] at h
    obtain ⟨v, r, rfl, h2, _⟩ := h
    simp at e; subst e
    exact ⟨d, rfl, h2⟩
  | d :: ds, _, i + 1, _, h, e => by
    rw [DenL] at h
    obtain ⟨v, r, rfl, _, h3⟩ := h
    exact DenL.getV (i := i) h3 (by simpa using e)
theorem DenL.nil : DenL K H [] [] := by rw [DenL]
theorem DenL.cons {d : D} {v : V} {ds : List D} {vs : List V} (h : Den K H d v) (r : DenL K H ds vs) : DenL K H (d :: ds) (v :: vs) := by
  rw [DenL]; exact ⟨v, vs, rfl, h, r⟩
theorem DenL.append : ∀ {ds es : List D} {vs ws : List V}, DenL K H ds vs → DenL K H es ws → DenL K H (ds ++ es) (vs ++ ws)
  | [], _, _, _, h, g => by rw [DenL] at h; subst h; exact g
  | d :: ds, _, _, _, h, g => by
    rw [DenL] at h
    obtain ⟨v, r, rfl, h2, h3⟩ := h
    exact .cons h2 (DenL.append h3 g)
theorem DenL.set : ∀ {ds : List D} {vs : List V} {d : D} {v : V} (i : Nat), DenL K H ds vs → Den K H d v → DenL K H (ds.set i d) (vs.set i v)
  | [], _, _, _, _, h, _ => by rw [DenL] at h; subst h; exact .nil
  | d :: ds, _, _, _, 0, h, g => by
    rw [DenL] at h
    obtain ⟨v, r, rfl, h2, h3⟩ := h
    exact .cons g h3
  | d :: ds, _, _, _, i + 1, h, g => by
    rw [DenL] at h
    obtain ⟨v, r, rfl, h2, h3⟩ := h
    exact .cons h2 (DenL.set i h3 g)
theorem DenL.take : ∀ {ds : List D} {vs : List V} (n : Nat), DenL K H ds vs → DenL K H (ds.take n) (vs.take n)
  | _, _, 0, _ => by simp; exact .nil
  | [], _, n + 1, h => by rw [DenL] at h; subst h; exact .nil
  | d :: ds, _, n + 1, h => by
    rw [DenL] at h
    obtain ⟨v, r, rfl, h2, h3⟩ := h
    exact .cons h2 (DenL.take n h3)
theorem DenL.drop : ∀ {ds : List D} {vs : List V} (n : Nat), DenL K H ds vs → DenL K H (ds.drop n) (vs.drop n)
  | _, _, 0, h => by simpa using h
  | [], _, n + 1, h => by rw [DenL] at h; subst h; exact .nil
  | d :: ds, _, n + 1, h => by
    rw [DenL] at h
    obtain ⟨v, r, rfl, h2, h3⟩ := h
    exact DenL.drop n h3
theorem DenL.reverse : ∀ {ds : List D} {vs : List V}, DenL K H ds vs → DenL K H ds.reverse vs.reverse
  | [], _, h => by rw [DenL] at h; subst h; exact .nil
  | d :: ds, _, h => by
    rw [DenL] at h
    obtain ⟨v, r, rfl, h2, h3⟩ := h
    rw [List.reverse_cons, List.reverse_cons]
    exact DenL.append (DenL.reverse h3) (.cons h2 .nil)
theorem DenL.ints : ∀ {ns : List Int} {vs : List V}, DenL K H (ns.map D.int) vs → vs = ns.map V.int
  | [], _, h => by rw [List.map_nil, DenL] at h; exact h
  | n :: ns, _, h => by
    rw [List.map_cons, DenL] at h
    obtain ⟨v, r, rfl, h2, h3⟩ := h
    rw [Den] at h2
    rw [h2, DenL.ints h3]; rfl
theorem DenL.ofInts : ∀ {ns : List Int}, DenL K H (ns.map D.int) (ns.map V.int)
  | [] => .nil
  | n :: ns => .cons (by rw [Den]) DenL.ofInts
theorem DenL.bls : ∀ {ns : List Bool} {vs : List V}, DenL K H (ns.map D.bl) vs → vs = ns.map V.bl
  | [], _, h => by rw [List.map_nil, DenL] at h; exact h
  | n :: ns, _, h => by
    rw [List.map_cons, DenL] at h
    obtain ⟨v, r, rfl, h2, h3⟩ := h
    rw [Den] at h2
    rw [h2, DenL.bls h3]; rfl
theorem DenL.strs : ∀ {ns : List Str} {vs : List V}, DenL K H (ns.map D.str) vs → vs = ns.map V.str
  | [], _, h => by rw [List.map_nil, DenL] at h; exact h
  | n :: ns, _, h => by
    rw [List.map_cons, DenL] at h
    obtain ⟨v, r, rfl, h2, h3⟩ := h
    rw [Den] at h2
    rw [h2, DenL.strs h3]; rfl
theorem DenL.ofStrs : ∀ {ns : List Str}, DenL K H (ns.map D.str) (ns.map V.str)
  | [] => .nil
  | n :: ns => .cons (by rw [Den]) DenL.ofStrs
end
/-- no part of it is an object -/
def flat : D → Bool
  | .non => true | .bl _ => true | .int _ => true | .str _ => true | _ => false
theorem Den.flat {K : PySem.W.Frag} {H H' : Hp} {d : D} {v : V} (f : PL.flat d = true) (h : Den K H d v) : Den K H' d v := by
  cases d <;> first | (simp only [Den] at h ⊢; exact h) | (simp [PL.flat] at f)
/-- an object at a with contents c, its parts in Hs -/
def Cont (K : PySem.W.Frag) (H Hs : Hp) (a : Addr) : D → Prop
  | .lst ds => ∃ vs, H a = some (.lst vs) ∧ DenL K Hs ds vs
  | .dk kvs => ∃ kws, H a = some (.dK kws) ∧ DenK K Hs kvs kws
  | .dt kvs => ∃ kws, H a = some (.dT kws) ∧ DenT K Hs kvs kws
  | _ => False
/-- read in H, its parts in Hs -/
def Top (K : PySem.W.Frag) (H Hs : Hp) : D → V → Prop
  | .lst ds, v => ∃ a vs, v = .ref a ∧ H a = some (.lst vs) ∧ DenL K Hs ds vs
  | .dk kvs, v => ∃ a kws, v = .ref a ∧ H a = some (.dK kws) ∧ DenK K Hs kvs kws
  | .dt kvs, v => ∃ a kws, v = .ref a ∧ H a = some (.dT kws) ∧ DenT K Hs kvs kws
  | d, v => Den K Hs d v
section
variable {K : PySem.W.Frag} {H H' Hs Hs' : Hp}
theorem Top.of (s : Leq Hs H) {d : D} {v : V} (h : Den K Hs d v) : Top K H Hs d v := by
  cases d <;> simp only [Top]
  case lst => rw [Den] at h; obtain ⟨a, vs, h1, h2, h3⟩ := h; exact ⟨a, vs, h1, s _ _ h2, h3⟩
  case dk => rw [Den] at h; obtain ⟨a, vs, h1, h2, h3⟩ := h; exact ⟨a, vs, h1, s _ _ h2, h3⟩
  case dt => rw [Den] at h; obtain ⟨a, vs, h1, h2, h3⟩ := h; exact ⟨a, vs, h1, s _ _ h2, h3⟩
  all_goals exact h
theorem Top.den (s : Leq Hs H) {d : D} {v : V} (h : Top K H Hs d v) : Den K H d v := by
  cases d <;> simp only [Top] at h
  case lst => rw [Den]; obtain ⟨a, vs, h1, h2, h3⟩ := h; exact ⟨a, vs, h1, h2, h3.leq s⟩
  case dk => rw [Den]; obtain ⟨a, vs, h1, h2, h3⟩ := h; exact ⟨a, vs, h1, h2, h3.leq s⟩
  case dt => rw [Den]; obtain ⟨a, vs, h1, h2, h3⟩ := h; exact ⟨a, vs, h1, h2, h3.leq s⟩
  all_goals exact h.leq s
theorem Cont.top {a : Addr} {c : D} (h : Cont K H Hs a c) : Top K H Hs c (.ref a) := by
  cases c <;> simp only [Cont] at h
  case lst => obtain ⟨vs, h1, h2⟩ := h; exact ⟨a, vs, rfl, h1, h2⟩
  case dk => obtain ⟨vs, h1, h2⟩ := h; exact ⟨a, vs, rfl, h1, h2⟩
  case dt => obtain ⟨vs, h1, h2⟩ := h; exact ⟨a, vs, rfl, h1, h2⟩
theorem Cont.leq {a : Addr} {c : D} (h : Cont K H Hs a c) (e : H' a = H a) (s : Leq Hs Hs') : Cont K H' Hs' a c := by
  cases c <;> simp only [Cont] at h ⊢
  case lst => obtain ⟨vs, h1, h2⟩ := h; exact ⟨vs, by rw [e, h1], h2.leq s⟩
  case dk => obtain ⟨vs, h1, h2⟩ := h; exact ⟨vs, by rw [e, h1], h2.leq s⟩
  case dt => obtain ⟨vs, h1, h2⟩ := h; exact ⟨vs, by rw [e, h1], h2.leq s⟩
theorem Cont.some {a : Addr} {c : D} (h : Cont K H Hs a c) : H a ≠ none := by
  cases c <;> simp only [Cont] at h
  case lst => obtain ⟨vs, h1, h2⟩ := h; rw [h1]; simp
  case dk => obtain ⟨vs, h1, h2⟩ := h; rw [h1]; simp
  case dt => obtain ⟨vs, h1, h2⟩ := h; rw [h1]; simp
end
end PL
set_option Elab.async false
set_option linter.all false
set_option maxRecDepth 100000
set_option maxHeartbeats 1000000
namespace PL
open PySem PySem.Spec L2
theorem wp_eq {α : Type} {M : Model} {A : Around} {E : Value → Shared → Prop} {s : Shared} {t t' : Sem α} {Q : α → Shared → Prop} (e : t = t') (h : wpAny M A t' Q E s) : wpAny M A t Q E s := e ▸ h
theorem step_ite {α : Type} {M : Model} {A : Around} {E : Value → Shared → Prop} {s : Shared} {t : Sem α} {Q : α → Shared → Prop} {c : Prop} [Decidable c] {a b : Sem α} (e : t = if c then a else b) (hc : decide c = false) (h : wpAny M A b Q E s) : wpAny M A t Q E s := by
  rw [e]; exact wpAny_ite_false hc h
theorem tuple_mul1 (l : Addr) (items : Array Value) (n : Nat) (dd : Option Addr) (sl : Array (Option Value)) (x : Int) (u : Tok) (hx : (decide (x < -2 ^ 63) || decide (x ≥ 2 ^ 63)) = false) :
    Meets (Builtin.«tuple.__mul__» { pos := [Value.ref l, Value.int x u] }) fun x_1 R s =>
                s.heap.get? l = some { cls := Value.type "tuple", dict := dd, data := Data.seq items n, slots := sl } ∧
                 ((x = 1 ∧ R (Except.ok (Flow.ret (Value.ref l))) s) ∨ (x ≤ 0 ∧ items.isEmpty = false ∧ R (Except.ok (Flow.ret (Value.ref s.heap.objs.size)))
                    { heap := s.heap.push { cls := Value.type "tuple", data := Data.seq #[] }, gens := s.gens, drawn := s.drawn, toks := s.toks, os := s.os })) := by
  refine Meets.of_wp fun prog w A R s h => ?_
  obtain ⟨hp, g, d, tk, os⟩ := s
  obtain ⟨hl, h⟩ := h
  have f1 := AutoSeq1.idx_int
  have key : ∀ args : Args, args = { pos := [Value.ref l, Value.int x u] } → wpAny (model prog w) A.in1 (Builtin.«tuple.__mul__» args)
    (fun fin s' => ∃ v, fin = Fin.done (Flow.ret v) ∧ R (Except.ok (Flow.ret v)) s') (fun e s' => R (Except.error e) s')
    { heap := hp, gens := g, drawn := d, toks := tk, os := os } := by
    intro args e
    apply step_ite (c := (!args.kw.isEmpty) = true)
    · unfold Builtin.«tuple.__mul__»
      exact rfl
    · subst e; rfl
    · subst e
      dsimp only
      refine wpAny_bind ?_
      unfold asIndex
      refine wpAny_bind ?_
      unfold asInt?
      refine wpAny_pure ?_
      dsimp only
      refine wpAny_pure ?_
      refine wpAny_ite_false (by rw [hx]; rfl) ?_
      refine wpAny_bind ?_
      unfold Builtin.Tuple.tupleItemsOf
      refine wpAny_bind ?_
      unfold seqItems?
      refine wpAny_bind (wpAny_load' hl ?_)
      dsimp only
      refine wpAny_pure ?_
      dsimp only
      refine wpAny_pure ?_
      rcases h with ⟨rfl, h⟩ | ⟨hx0, hi, h⟩
      · refine wpAny_ite_true (by simp) ?_
        refine wpAny_bind ?_
        unfold Builtin.Tuple.tupleIsExact
        refine wpAny_bind ?_
        refine wpAny_typeOf ⟨_, hl, rfl⟩ ?_
        refine wpAny_pure ?_
        refine wpAny_ite_true (by rfl) ?_
        refine wpAny_bind (wpAny_rule ?_)
        exact wpAny_pure ⟨_, rfl, h⟩
      · have : (x == 1) = false := by rw [beq_eq_false_iff_ne]; omega
        refine wpAny_ite_false (by rw [hi, this]; rfl) ?_
        refine wpAny_ite_true (by simp [hx0]) ?_
        refine wpAny_bind ?_
        unfold Builtin.Tuple.tupleExact newObj
        dsimp only
        refine wpAny_ite_false (by decide +kernel) ?_
        unfold newObjAsIs
        refine wpAny_bind (wpAny_alloc' ?_)
        dsimp only
        refine wpAny_pure ?_
        exact wpAny_pure ⟨_, rfl, h⟩
  exact key _ rfl
def rRepT1 (K : PySem.W.Frag) : V → V → Hp → VK → Prop := fun x y H Q => ∃ l k xs, x = .ref l ∧ y = .int k ∧ SqT K H l xs ∧ -(2 ^ 63) ≤ k ∧ ((k = 1 ∧ Q (.ref l) H) ∨ (k ≤ 0 ∧ xs ≠ [] ∧ ∀ p, H p = none → Q (.ref p) (upd H p (.tup []))))
theorem op_repT1 {X : Cx} : OpR X (binaryOp Operator.Mult) (rRepT1 X.K) := by
  intro pins s σ H x y v u Q I rx ry h
  obtain ⟨l, k, xs, rfl, rfl, hT, hk, h⟩ := h
  have rx : v = .ref l := rx
  obtain ⟨t, ry⟩ : ∃ t, u = .int k t := ry
  subst rx; subst ry
  obtain ⟨its, r, ⟨o, ho, hc, n, hd⟩, hs⟩ := Inv.tuple I hT
  obtain ⟨cls, dd, data, sl⟩ := o
  dsimp only at hc hd
  subst hc; subst hd
  have hle : xs.length = its.length := Vals.length r
  have hx : (decide (k < -2 ^ 63) || decide (k ≥ 2 ^ 63)) = false := by
    have h1 : ¬ k < -2 ^ 63 := by omega
    have h2 : ¬ k ≥ 2 ^ 63 := by rcases h with ⟨h, _⟩ | ⟨h, _⟩ <;> omega
    rw [decide_eq_false h1, decide_eq_false h2]; rfl
  refine wpAny_binaryOp_repeat_ref (by decide) ⟨_, ho, rfl⟩ (fun s' => typeIs_int s' k t) noFill_tuple_mul F.fills_int_mul F.slot_int_rmul repeat_tuple F.slot_int_index.lookup ?_
  refine call_meets F.slot_int_rmul (typeIs_int s k t) F.entry_int_rmul (F.args_int_rmul_2 (Value.int k t) (Value.ref l)) (int_rmul_tuple k t l its.toArray n dd sl) ⟨ho, rfl, ⟨_, ho, rfl⟩, ?_⟩
  refine call_meets F.slot_tuple_mul ⟨_, ho, rfl⟩ F.entry_tuple_mul (F.args_tuple_mul_2 (Value.ref l) (Value.int k t)) (tuple_mul1 l its.toArray n dd sl k t hx) ⟨ho, ?_⟩
  rcases h with ⟨h1, q⟩ | ⟨h1, h2, q⟩
  · exact .inl ⟨h1, .ref l, H, I, rfl, q⟩
  · refine .inr ⟨h1, ?_, ?_⟩
    · cases its with
      | nil => exact absurd (List.eq_nil_of_length_eq_zero hle) h2
      | cons a b => rfl
    · refine ⟨.ref _, upd H s.heap.objs.size (.tup []), Inv.laid I (fun b ob q => Heap.get?_push_of_some _ q) (Nat.le_refl _) ⟨by simp, [], .nil, PyProof.Rows.IsTup.new s.heap #[]⟩, rfl, q _ (HOk.fresh I.hok (Nat.le_refl _))⟩
end PL
set_option Elab.async false
set_option linter.all false
set_option maxRecDepth 100000
set_option maxHeartbeats 4000000
namespace PL
open PySem PySem.Spec PyProof.Rows L2
inductive BOp where | add | sub | mul | fdiv | mod | pow
inductive COp where | eq | ne | lt | le | gt | ge | is | isn | inn | nin
inductive Ty where | int | bool | str | tuple
inductive Bi where
  | len | abs | min2 | max2 | min3 | max3 | int | sum | all | any | sorted | list | tuple | str | minL | maxL | dict
inductive SK where | seq | seqT | seqS | r1 | r2 | zip | enum
inductive Tg where | nm (i : Nat) | tp (ts : List Tg)
inductive Mt where | count | index | rindex | join | find
inductive E where
  | var (i : Nat) | int (i : Int) | bl (b : Bool) | non | str (s : Str) | glo (g : Nat)
  | bin (op : BOp) (a b : E) | neg (a : E) | not (a : E) | and (a b : E) | or (a b : E)
  | cmp (op : COp) (a b : E) | cmp2 (o1 o2 : COp) (a b c : E) | ite (c a b : E)
  | tup (es : List E) | lst (es : List E) | star (a : E) (es : List E)
  | idx (a i : E) | sl1 (a lo : E) | sl2 (a hi : E) | sl3 (a lo hi : E) | st1 (a k : E) | st2 (a lo k : E)
  | call (f : Nat) (es : List E) | callB (f : Nat) (i : Nat) (es : List E) | callN (f : Nat) (es : List E)
  | bi (b : Bi) (es : List E) | isi (a : E) (t : Ty)
  | get (a k d : E) | dgt (a k : E) | din (k a : E) | pop (i : Nat) (k : E) | popl (i : Nat)
  | lrg (a b : E) | lr1 (a : E) | sset (a : E) | dl (a : E) | sdl (a : E) | dvl (a : E)
  | edk | edt | mt (m : Mt) (o a : E)
  | comp (own : List Nat) (tg : Tg) (k : SK) (srcs : List E) (elt : E)
  | compIf (own : List Nat) (tg : Tg) (k : SK) (srcs : List E) (c elt : E)
  deriving Inhabited
inductive S where
  | set (i : Nat) (e : E) | setT (tg : Tg) (e : E) | par (is : List Nat) (es : List E)
  | put (i : Nat) (k e : E) | exp (e : E) | app (i : Nat) (e : E) | ext (i : Nat) (e : E)
  | ret (e : E) | ife (c : E) (a b : List S) | for (tg : Tg) (k : SK) (srcs : List E) (body : List S)
  | whl (c : E) (body : List S) | brk | rse | pass | retN (e : E) | put2 (i k j : Nat) (a b : E)
  deriving Inhabited
/-! ### values of names -/
inductive VE where | un | sh (d : D) | own (c : D) | bor (c : D)
  deriving Inhabited
abbrev Env := List VE
inductive RD where | val (d : D) | new (c : D) | slot (i : Nat)
@[simp] def VE.ob : VE → Option D | .own c => some c | .bor c => some c | _ => none
@[simp] def VE.d? : VE → Option D | .un => none | .sh d => some d | .own c => some c | .bor c => some c
@[simp] theorem VE.d?_sh (d : D) : (VE.sh d).d? = some d := rfl
@[simp] theorem VE.d?_own (d : D) : (VE.own d).d? = some d := rfl
@[simp] theorem VE.d?_bor (d : D) : (VE.bor d).d? = some d := rfl
@[simp] theorem VE.d?_un : (VE.un).d? = none := rfl
def obAt (ρ : Env) (i : Nat) : Bool := match ρ[i]? with | some (.own _) => true | some (.bor _) => true | _ => false
def look (ρ : Env) : RD → Option D
  | .val d => some d | .new c => some c | .slot i => (ρ[i]?).bind VE.d?
@[simp] theorem look_val (ρ : Env) (d : D) : look ρ (.val d) = some d := rfl
@[simp] theorem look_new (ρ : Env) (d : D) : look ρ (.new d) = some d := rfl
theorem look_slot (ρ : Env) (i : Nat) : look ρ (.slot i) = (ρ[i]?).bind VE.d? := rfl
/-- what may stand beside others -/
def keep : RD → RD | .new c => .val c | r => r
@[simp] theorem keep_val (d : D) : keep (.val d) = .val d := rfl
@[simp] theorem keep_new (d : D) : keep (.new d) = .val d := rfl
@[simp] theorem keep_slot (i : Nat) : keep (.slot i) = .slot i := rfl
/-- as data that stays -/
def frz (r : RD) (ρ : Env) (k : D → Env → Prop) : Prop := match r with
  | .val d => k d ρ
  | .new c => k c ρ
  | .slot i => match ρ[i]? with | some (.own c) => k c (ρ.set i (.sh c)) | some (.sh d) => k d ρ | _ => False
@[simp] theorem frz_val (d : D) (ρ : Env) (k : D → Env → Prop) : frz (.val d) ρ k = k d ρ := rfl
@[simp] theorem frz_new (d : D) (ρ : Env) (k : D → Env → Prop) : frz (.new d) ρ k = k d ρ := rfl
theorem frz_slot (i : Nat) (ρ : Env) (k : D → Env → Prop) : frz (.slot i) ρ k = (match ρ[i]? with | some (.own c) => k c (ρ.set i (.sh c)) | some (.sh d) => k d ρ | _ => False) := rfl
def lookP (ρ : Env) (r : RD) (k : D → Prop) : Prop := ∃ d, look ρ r = some d ∧ k d
@[simp] theorem lookP_val (ρ : Env) (d : D) (k : D → Prop) : lookP ρ (.val d) k ↔ k d := by simp [lookP]
@[simp] theorem lookP_new (ρ : Env) (d : D) (k : D → Prop) : lookP ρ (.new d) k ↔ k d := by simp [lookP]
theorem lookP_slot (ρ : Env) (i : Nat) (k : D → Prop) : lookP ρ (.slot i) k ↔ ∃ d, (ρ[i]?).bind VE.d? = some d ∧ k d := by simp [lookP, look_slot]
def looks (ρ : Env) : List RD → Option (List D)
  | [] => some []
  | r :: rs => (look ρ r).bind fun d => (looks ρ rs).map fun ds => d :: ds
@[simp] theorem looks_nil (ρ : Env) : looks ρ [] = some [] := rfl
@[simp] theorem looks_cons (ρ : Env) (r : RD) (rs : List RD) : looks ρ (r :: rs) = (look ρ r).bind fun d => (looks ρ rs).map fun ds => d :: ds := rfl
def looksP (ρ : Env) (rs : List RD) (k : List D → Prop) : Prop := ∃ ds, looks ρ rs = some ds ∧ k ds
/-! ### data, compared -/
mutual
@[simp] def toPD : D → PyData
  | .non => .none | .bl b => .bool b | .int i => .int i | .str s => .str s
  | .tup ds => .tuple (toPDs ds) | .lst ds => .list (toPDs ds) | .ro ds => .list (toPDs ds)
  | .dk _ => .dict [] | .dt _ => .dict []
@[simp] def toPDs : List D → List PyData
  | [] => [] | d :: ds => toPD d :: toPDs ds
end
@[simp] def okD : Nat → D → Prop
  | _, .non => True | _, .bl _ => True | _, .int _ => True
  | _, .str s => PyData.strOk s = true
  | 0, .tup _ => False | 0, .lst _ => False | 0, .ro _ => False
  | n + 1, .tup ds => ∀ x ∈ ds, okD n x
  | n + 1, .lst ds => ∀ x ∈ ds, okD n x
  | n + 1, .ro ds => ∀ x ∈ ds, okD n x
  | _, .dk _ => False | _, .dt _ => False
def deq (x y : D) : Bool := PyData.eqv (toPD x) (toPD y)
abbrev cmpOk (x : D) : Prop := okD 8 x
/-! ### numbers -/
def mulOk (i j : Int) : Prop := ∃ a b, i.natAbs < 2 ^ a ∧ j.natAbs < 2 ^ b ∧ a + b ≤ 134217728
def divOk (i j : Int) : Prop := j ≠ 0 ∧ Builtin.divisionGoesByPylong i j = false
def powOk (i j : Int) : Prop := 0 ≤ j ∧ (Builtin.Int.intBits i : Int) * j ≤ 134217728
def binW : BOp → D → D → (RD → Prop) → Prop
  | .add, .int i, .int j, k => k (.val (.int (i + j)))
  | .add, .tup xs, .tup ys, k => xs.length + ys.length ≤ sizeLine ∧ k (.val (.tup (xs ++ ys)))
  | .add, .lst xs, .lst ys, k => xs.length + ys.length ≤ sizeLine ∧ k (.new (.lst (xs ++ ys)))
  | .add, .str x, .str y, k => x.length + y.length ≤ sizeLine ∧ k (.val (.str (x ++ y)))
  | .sub, .int i, .int j, k => k (.val (.int (i - j)))
  | .mul, .int i, .int j, k => mulOk i j ∧ k (.val (.int (i * j)))
  | .mul, .lst xs, .int n, k => -(2 ^ 63) ≤ n ∧ n < 2 ^ 63 ∧ xs.length * n.toNat ≤ sizeLine ∧ k (.new (.lst (List.replicate n.toNat xs).flatten))
  | .mul, .tup xs, .int n, k => xs ≠ [] ∧ -(2 ^ 63) ≤ n ∧ n ≤ 1000 ∧ xs.length ≤ 1000 ∧ k (.val (.tup (List.replicate n.toNat xs).flatten))
  | .fdiv, .int i, .int j, k => divOk i j ∧ k (.val (.int (i.fdiv j)))
  | .mod, .int i, .int j, k => j ≠ 0 ∧ k (.val (.int (i.fmod j)))
  | .pow, .int i, .int j, k => powOk i j ∧ k (.val (.int (i ^ j.toNat)))
  | _, _, _, _ => False
def ltW : D → D → (Bool → Prop) → Prop
  | .int i, .int j, k => k (decide (i < j))
  | .str i, .str j, k => k (decide (i.cps.toList < j.cps.toList))
  | _, _, _ => False
def intW (f : Int → Int → Bool) : D → D → (Bool → Prop) → Prop
  | .int i, .int j, k => k (f i j)
  | _, _, _ => False
def isN : D → Bool | .non => true | _ => false
def isW (neg : Bool) : D → D → (Bool → Prop) → Prop
  | x, .non, k => k (isN x ^^ neg)
  | .bl a, .bl b, k => k (decide (a = b) ^^ neg)
  | _, _, _ => False
def inW (neg : Bool) : D → D → (Bool → Prop) → Prop
  | x, .lst ds, k => cmpOk x ∧ cmpOk (.lst ds) ∧ k ((ds.any fun z => deq z x) ^^ neg)
  | x, .tup ds, k => cmpOk x ∧ cmpOk (.tup ds) ∧ k ((ds.any fun z => deq z x) ^^ neg)
  | .str x, .str z, k => ∃ c, x = ⟨#[c]⟩ ∧ k (decide (c ∈ z.cps.toList) ^^ neg)
  | _, _, _ => False
def cmpW : COp → D → D → (Bool → Prop) → Prop
  | .eq, x, y, k => cmpOk x ∧ cmpOk y ∧ k (deq x y)
  | .ne, x, y, k => cmpOk x ∧ cmpOk y ∧ k (!deq x y)
  | .lt, x, y, k => ltW x y k
  | .le, x, y, k => intW (fun i j => decide (i ≤ j)) x y k
  | .gt, x, y, k => intW (fun i j => decide (j < i)) x y k
  | .ge, x, y, k => intW (fun i j => decide (j ≤ i)) x y k
  | .is, x, y, k => isW false x y k
  | .isn, x, y, k => isW true x y k
  | .inn, x, y, k => inW false x y k
  | .nin, x, y, k => inW true x y k
def isTy : Ty → D → Bool
  | .int, .int _ => true | .int, .bl _ => true | .bool, .bl _ => true | .str, .str _ => true | .tuple, .tup _ => true | _, _ => false
@[simp] def ints? : List D → Option (List Int)
  | [] => some [] | .int i :: r => (ints? r).map fun ns => i :: ns | _ :: _ => none
@[simp] def bls? : List D → Option (List Bool)
  | [] => some [] | .bl i :: r => (bls? r).map fun ns => i :: ns | _ :: _ => none
@[simp] theorem ints?_map (ns : List Int) : ints? (ns.map D.int) = some ns := by induction ns with | nil => rfl | cons a r ih => simp [ints?, ih]
@[simp] theorem bls?_map (ns : List Bool) : bls? (ns.map D.bl) = some ns := by induction ns with | nil => rfl | cons a r ih => simp [bls?, ih]
def biW : Bi → List D → (RD → Prop) → Prop
  | .len, [.tup ds], k => k (.val (.int ds.length))
  | .len, [.lst ds], k => k (.val (.int ds.length))
  | .len, [.ro ds], k => k (.val (.int ds.length))
  | .len, [.str z], k => z.length ≤ sizeLine ∧ k (.val (.int z.length))
  | .len, [.dk ds], k => k (.val (.int ds.length))
  | .abs, [.int i], k => k (.val (.int (if i < 0 then -i else i)))
  | .min2, [.int i, .int j], k => k (.val (.int (if j < i then j else i)))
  | .max2, [.int i, .int j], k => k (.val (.int (if j > i then j else i)))
  | .int, [.int i], k => k (.val (.int i))
  | .int, [.bl b], k => k (.val (.int (if b then 1 else 0)))
  | .sum, [.lst ds], k => ∃ ns, ints? ds = some ns ∧ k (.val (.int ns.sum))
  | .sum, [.ro ds], k => ∃ ns, ints? ds = some ns ∧ k (.val (.int ns.sum))
  | .all, [.lst ds], k => ∃ bs, bls? ds = some bs ∧ k (.val (.bl (bs.all id)))
  | .any, [.lst ds], k => ∃ bs, bls? ds = some bs ∧ k (.val (.bl (bs.any id)))
  | .list, [.lst ds], k => k (.new (.lst ds))
  | .list, [.tup ds], k => k (.new (.lst ds))
  | .list, [.ro ds], k => k (.new (.lst ds))
  | .tuple, [.lst ds], k => k (.val (.tup ds))
  | .tuple, [.tup ds], k => k (.val (.tup ds))
  | .sorted, [.lst ds], k => ∃ ns, ints? ds = some ns ∧ ∀ ns' : List Int, ns'.Perm ns → ns'.Pairwise (· ≤ ·) → k (.new (.lst (ns'.map D.int)))
  | .maxL, [.lst ds], k => ∃ ns, ints? ds = some ns ∧ 0 < ns.length ∧ ∀ m, m ∈ ns → (∀ y, y ∈ ns → y ≤ m) → k (.val (.int m))
  | .minL, [.lst ds], k => ∃ ns, ints? ds = some ns ∧ 0 < ns.length ∧ ∀ m, m ∈ ns → (∀ y, y ∈ ns → m ≤ y) → k (.val (.int m))
  | _, _, _ => False
/-- slices -/
def cutD {α : Type} (xs : List α) (lo hi : Option Int) : List α := (xs.drop (HT.sIx xs.length 0 lo)).take (HT.sIx xs.length xs.length hi - HT.sIx xs.length 0 lo)
def slW (a : D) (lo hi : Option Int) (k : RD → Prop) : Prop := match a with
  | .lst ds => k (.new (.lst (cutD ds lo hi)))
  | .ro ds => k (.new (.lst (cutD ds lo hi)))
  | .tup ds => k (.val (.tup (cutD ds lo hi)))
  | .str z => z.length ≤ sizeLine ∧ k (.val (.str (Txt.slice z lo hi)))
  | _ => False
/-- every so many -/
def pickL {α : Type} (xs : List α) (lo hi st : Option Int) : List α := (sliceRange (sliceBounds lo hi st xs.length).1 (sliceBounds lo hi st xs.length).2.1 (sliceBounds lo hi st xs.length).2.2).filterMap fun i => xs[i]?
def pkW (a : D) (lo : Option Int) (n : Int) (k : RD → Prop) : Prop := match a with
  | .lst ds => (pickL ds lo none (some n)).length ≤ sizeLine ∧ k (.new (.lst (pickL ds lo none (some n))))
  | .ro ds => (pickL ds lo none (some n)).length ≤ sizeLine ∧ k (.new (.lst (pickL ds lo none (some n))))
  | _ => False
def idxW (a : D) (i : Int) (k : RD → Prop) : Prop := match a with
  | .lst ds => ∃ d, atI ds i = some d ∧ k (.val d)
  | .ro ds => ∃ d, atI ds i = some d ∧ k (.val d)
  | .tup ds => ∃ d, atI ds i = some d ∧ k (.val d)
  | .str z => z.length ≤ sizeLine ∧ ∃ c, atI z.cps.toList i = some c ∧ k (.val (.str ⟨#[c]⟩))
  | _ => False
/-! ### dicts -/
def getK {κ α : Type} [DecidableEq κ] (kvs : List (κ × α)) (k : κ) : Option α := (kvs.find? fun kv => decide (kv.1 = k)).map (·.2)
def putD {κ α : Type} [DecidableEq κ] (kvs : List (κ × α)) (k : κ) (v : α) : List (κ × α) :=
  if kvs.any fun kv => decide (kv.1 = k) then kvs.map fun kv => if kv.1 = k then (kv.1, v) else kv else kvs ++ [(k, v)]
def keyD : D → Option Key
  | .int i => some (.inl i) | .str s => some (.inr s) | _ => none
def keysD : List D → Option (List Key)
  | [] => some [] | d :: ds => (keyD d).bind fun k => (keysD ds).map fun ks => k :: ks
def pairsD : List D → Option (List (Key × D))
  | [] => some []
  | .tup [a, b] :: r => (keyD a).bind fun k => (pairsD r).map fun t => (k, b) :: t
  | _ => none
def mergeD (acc kvs : List (Key × D)) : List (Key × D) := kvs.foldl (fun acc kv => putD acc kv.1 kv.2) acc
def keyV : Key → D | .inl i => .int i | .inr s => .str s
def dgetW (a kd : D) (k : Option D → Prop) : Prop := match a, kd with
  | .dk kvs, d => ∃ key, keyD d = some key ∧ k (getK kvs key)
  | _, _ => False
def putW (a kd v : D) (k : D → Prop) : Prop := match a, kd with
  | .dk kvs, d => ∃ key, keyD d = some key ∧ kvs.length < sizeLine ∧ k (.dk (putD kvs key v))
  | .lst ds, .int i => ∃ j, ixN ds.length i = some j ∧ k (.lst (ds.set j v))
  | _, _ => False
/-! ### what is walked -/
@[simp] def zipD : List D → List D → List D
  | a :: as, b :: bs => .tup [a, b] :: zipD as bs | _, _ => []
@[simp] def enumD : Nat → List D → List D
  | _, [] => [] | n, a :: as => .tup [.int n, a] :: enumD (n + 1) as
def rangeD (lo : Int) : Nat → List D
  | 0 => [] | n + 1 => .int lo :: rangeD (lo + 1) n
def small (i : Int) : Prop := -(2 ^ 62) ≤ i ∧ i < 2 ^ 62
def srcW : SK → List D → (List D → Prop) → Prop
  | .seqT, [.tup ds], k => k ds
  | .seq, [.lst ds], k => k ds
  | .seq, [.ro ds], k => k ds
  | .seqS, [.str z], k => k (z.cps.toList.map fun c => .str ⟨#[c]⟩)
  | .r1, [.int n], k => small n ∧ k (rangeD 0 n.toNat)
  | .r2, [.int a, .int b], k => small a ∧ small b ∧ k (rangeD a (b - a).toNat)
  | .zip, [.lst a, .lst b], k => k (zipD a b)
  | .zip, [.tup a, .tup b], k => k (zipD a b)
  | .enum, [.lst a], k => k (enumD 0 a)
  | _, _, _ => False
/-! ### targets -/
mutual
def tgW : Tg → D → Env → (Env → Prop) → Prop
  | .nm i, d, ρ, k => (match ρ[i]? with | some (.bor _) => False | some _ => k (ρ.set i (.sh d)) | none => False)
  | .tp ts, d, ρ, k => (match d with | .tup ds => tgsW ts ds ρ k | _ => False)
def tgsW : List Tg → List D → Env → (Env → Prop) → Prop
  | [], [], ρ, k => k ρ
  | t :: ts, d :: ds, ρ, k => tgW t d ρ fun ρ' => tgsW ts ds ρ' k
  | _, _, _, _ => False
end
/-! ### promises of defs -/
structure FSp where
  run : List D → (D → Prop) → Prop
  mono : ∀ ds (Q Q' : D → Prop), (∀ d, Q d → Q' d) → run ds Q → run ds Q'
structure BSp where
  run : D → List D → (D → D → Prop) → Prop
  mono : ∀ c ds (Q Q' : D → D → Prop), (∀ d c', Q d c' → Q' d c') → run c ds Q → run c ds Q'
structure Ctx where
  F : List (Str × FSp)
  B : List (Str × BSp)
  G : List (Str × D)
@[simp] def hasSlot : List RD → Bool
  | [] => false | .slot _ :: _ => true | _ :: rs => hasSlot rs
/-- names that a callee has read, frozen -/
def frzAll : List RD → Env → Option Env
  | [], ρ => some ρ
  | .slot i :: rs, ρ => (match ρ[i]? with | some (.own c) => frzAll rs (ρ.set i (.sh c)) | some (.sh _) => frzAll rs ρ | _ => none)
  | _ :: rs, ρ => frzAll rs ρ
@[simp] def offOwn : List RD → List Nat → Bool
  | [], _ => true | .slot i :: rs, own => !own.contains i && offOwn rs own | _ :: rs, own => offOwn rs own
def noObs (ρ : Env) : List Nat → Bool
  | [] => true | i :: is => (match ρ[i]? with | some .un => true | some (.sh _) => true | _ => false) && noObs ρ is
@[simp] def wipeE (ρ : Env) : List Nat → Env
  | [] => ρ | i :: is => (wipeE ρ is).set i .un
/-- the comprehension's own names as they were ahead of it -/
@[simp] def backE (ρ0 ρ : Env) : List Nat → Env
  | [] => ρ | i :: is => (backE ρ0 ρ is).set i (ρ0.getD i .un)
@[simp] def compW (step : D → Env → (Option D → Env → Prop) → Prop) (ok : Env → Prop) : List D → Env → List D → (List D → Env → Prop) → Prop
  | [], ρ, acc, k => ok ρ ∧ k acc ρ
  | d :: ds, ρ, acc, k => ok ρ ∧ step d ρ fun r ρ' => compW step ok ds ρ' (match r with | some x => acc ++ [x] | none => acc) k
@[simp] def forW (step : D → Env → (Env → Prop) → Prop) : List D → Env → (Env → Prop) → Prop
  | [], ρ, k => k ρ
  | d :: ds, ρ, k => step d ρ fun ρ' => forW step ds ρ' k
def Mt.W : Mt → D → D → (RD → Prop) → Prop
  | _, _, _, _ => False
/-- the parts of a list, a tuple -/
@[simp] def seq? : D → Option (List D)
  | .tup xs => some xs | .lst xs => some xs | _ => none
mutual
def wE (Φ : Ctx) : E → Env → (RD → Env → Prop) → Prop
  | .var i, ρ, Q => (match ρ[i]? with | some (.sh d) => Q (.val d) ρ | some (.own _) => Q (.slot i) ρ | some (.bor _) => Q (.slot i) ρ | _ => False)
  | .int i, ρ, Q => Q (.val (.int i)) ρ
  | .bl b, ρ, Q => Q (.val (.bl b)) ρ
  | .non, ρ, Q => Q (.val .non) ρ
  | .str s, ρ, Q => Q (.val (.str s)) ρ
  | .glo g, ρ, Q => ∃ x, Φ.G[g]? = some x ∧ Q (.val x.2) ρ
  | .bin op a b, ρ, Q => wE Φ a ρ fun ra ρ1 => wE Φ b ρ1 fun rb ρ2 => lookP ρ2 ra fun da => lookP ρ2 rb fun db => binW op da db fun r => Q r ρ2
  | .neg a, ρ, Q => wE Φ a ρ fun ra ρ1 => lookP ρ1 ra fun da => (match da with | .int i => Q (.val (.int (-i))) ρ1 | _ => False)
  | .not a, ρ, Q => wE Φ a ρ fun ra ρ1 => lookP ρ1 ra fun da => (match da with | .bl b => Q (.val (.bl (!b))) ρ1 | _ => False)
  | .and a b, ρ, Q => wE Φ a ρ fun ra ρ1 => lookP ρ1 ra fun da => (match da with | .bl c => (c = true → wE Φ b ρ1 Q) ∧ (c = false → Q (.val (.bl false)) ρ1) | _ => False)
  | .or a b, ρ, Q => wE Φ a ρ fun ra ρ1 => lookP ρ1 ra fun da => (match da with | .bl c => (c = true → Q (.val (.bl true)) ρ1) ∧ (c = false → wE Φ b ρ1 Q) | _ => False)
  | .cmp op a b, ρ, Q => wE Φ a ρ fun ra ρ1 => wE Φ b ρ1 fun rb ρ2 => lookP ρ2 ra fun da => lookP ρ2 rb fun db => cmpW op da db fun r => Q (.val (.bl r)) ρ2
  | .cmp2 o1 o2 a b c, ρ, Q => wE Φ a ρ fun ra ρ1 => wE Φ b ρ1 fun rb ρ2 => lookP ρ2 ra fun da => lookP ρ2 rb fun db => cmpW o1 da db fun r =>
      (r = true → wE Φ c ρ2 fun rc ρ3 => lookP ρ3 rb fun db' => lookP ρ3 rc fun dc => cmpW o2 db' dc fun r' => Q (.val (.bl r')) ρ3) ∧ (r = false → Q (.val (.bl false)) ρ2)
  | .ite c a b, ρ, Q => wE Φ c ρ fun rc ρ1 => lookP ρ1 rc fun dc => (match dc with | .bl t => (t = true → wE Φ a ρ1 Q) ∧ (t = false → wE Φ b ρ1 Q) | _ => False)
  | .tup es, ρ, Q => wEs Φ es ρ fun ds ρ1 => ds.length ≤ sizeLine ∧ Q (.val (.tup ds)) ρ1
  | .lst es, ρ, Q => wEs Φ es ρ fun ds ρ1 => ds.length ≤ sizeLine ∧ Q (.new (.lst ds)) ρ1
  | .star a es, ρ, Q => wE Φ a ρ fun ra ρ1 => frz ra ρ1 fun da ρ1 => ∃ xs, seq? da = some xs ∧ wEs Φ es ρ1 fun ds ρ2 => (xs ++ ds).length ≤ sizeLine ∧ Q (.new (.lst (xs ++ ds))) ρ2
  | .idx a i, ρ, Q => wE Φ a ρ fun ra ρ1 => wE Φ i ρ1 fun ri ρ2 => lookP ρ2 ra fun da => lookP ρ2 ri fun di => (match di with | .int n => idxW da n fun r => Q r ρ2 | _ => False)
  | .sl1 a lo, ρ, Q => wE Φ a ρ fun ra ρ1 => wE Φ lo ρ1 fun ri ρ2 => lookP ρ2 ra fun da => lookP ρ2 ri fun di => (match di with | .int n => slW da (some n) none fun r => Q r ρ2 | _ => False)
  | .sl2 a hi, ρ, Q => wE Φ a ρ fun ra ρ1 => wE Φ hi ρ1 fun ri ρ2 => lookP ρ2 ra fun da => lookP ρ2 ri fun di => (match di with | .int n => slW da none (some n) fun r => Q r ρ2 | _ => False)
  | .sl3 a lo hi, ρ, Q => wE Φ a ρ fun ra ρ1 => wE Φ lo ρ1 fun ri ρ2 => lookP ρ2 ri fun di => (match di with | .int n => wE Φ hi ρ2 fun rj ρ3 => lookP ρ3 ra fun da => lookP ρ3 rj fun dj => (match dj with | .int m => slW da (some n) (some m) fun r => Q r ρ3 | _ => False) | _ => False)
  | .st1 a k, ρ, Q => wE Φ a ρ fun ra ρ1 => wE Φ k ρ1 fun rk ρ2 => lookP ρ2 ra fun da => lookP ρ2 rk fun dk => (match dk with | .int n => n ≠ 0 ∧ pkW da none n fun r => Q r ρ2 | _ => False)
  | .st2 a lo k, ρ, Q => wE Φ a ρ fun ra ρ1 => wE Φ lo ρ1 fun rl ρ2 => lookP ρ2 rl fun dl => (match dl with | .int l => wE Φ k ρ2 fun rk ρ3 => lookP ρ3 ra fun da => lookP ρ3 rk fun dk => (match dk with | .int n => n ≠ 0 ∧ pkW da (some l) n fun r => Q r ρ3 | _ => False) | _ => False)
  | .call f es, ρ, Q => ∃ sp, Φ.F[f]? = some sp ∧ wRs Φ es ρ fun rs ρ1 => ∃ ds, looks ρ1 rs = some ds ∧ sp.2.run ds fun d =>
      if hasSlot rs = false ∨ flat d = true then Q (.val d) ρ1 else ∃ ρ2, frzAll rs ρ1 = some ρ2 ∧ Q (.val d) ρ2
  | .callB f i es, ρ, Q => ∃ sp, Φ.B[f]? = some sp ∧ obAt ρ i = true ∧ wRs Φ es ρ fun rs ρ1 => hasSlot rs = false ∧ ∃ ds, looks ρ1 rs = some ds ∧
      (match ρ1[i]? with | some (.own c) => sp.2.run c ds fun d c' => Q (.val d) (ρ1.set i (.own c')) | some (.bor c) => sp.2.run c ds fun d c' => Q (.val d) (ρ1.set i (.bor c')) | _ => False)
  | .bi b es, ρ, Q => wRs Φ es ρ fun rs ρ1 => ∃ ds, looks ρ1 rs = some ds ∧ biW b ds fun r => Q r ρ1
  | .isi a t, ρ, Q => wE Φ a ρ fun ra ρ1 => lookP ρ1 ra fun da => Q (.val (.bl (isTy t da))) ρ1
  | .get a k d, ρ, Q => wE Φ a ρ fun ra ρ1 => (∃ kvs, look ρ1 ra = some (.dk kvs)) ∧ wE Φ k ρ1 fun rk ρ2 => wE Φ d ρ2 fun rd ρ3 => frz rd ρ3 fun dd ρ3 => lookP ρ3 ra fun da => lookP ρ3 rk fun dk => dgetW da dk fun o => Q (.val (o.getD dd)) ρ3
  | .dgt a k, ρ, Q => wE Φ a ρ fun ra ρ1 => wE Φ k ρ1 fun rk ρ2 => lookP ρ2 ra fun da => lookP ρ2 rk fun dk => dgetW da dk fun o => ∃ d, o = some d ∧ Q (.val d) ρ2
  | .din k a, ρ, Q => wE Φ k ρ fun rk ρ1 => wE Φ a ρ1 fun ra ρ2 => lookP ρ2 ra fun da => lookP ρ2 rk fun dk => dgetW da dk fun o => Q (.val (.bl o.isSome)) ρ2
  | .pop i k, ρ, Q => (∃ ds, ρ[i]? = some (.own (.lst ds))) ∧ wE Φ k ρ fun rk ρ1 => lookP ρ1 rk fun dk => (match ρ1[i]?, dk with
      | some (.own (.lst ds)), .int n => 0 ≤ n ∧ n < 2 ^ 63 ∧ ∃ d, ds[n.toNat]? = some d ∧ Q (.val d) (ρ1.set i (.own (.lst (ds.eraseIdx n.toNat)))) | _, _ => False)
  | .popl _, _, _ => False
  | .lrg a b, ρ, Q => wE Φ a ρ fun ra ρ1 => wE Φ b ρ1 fun rb ρ2 => lookP ρ2 ra fun da => lookP ρ2 rb fun db => (match da, db with | .int i, .int j => RgOk i j ∧ Q (.new (.lst (rangeD i (j - i).toNat))) ρ2 | _, _ => False)
  | .lr1 a, ρ, Q => wE Φ a ρ fun ra ρ1 => lookP ρ1 ra fun da => (match da with | .int j => RgOk 0 j ∧ Q (.new (.lst (rangeD 0 j.toNat))) ρ1 | _ => False)
  | .sset a, ρ, Q => wE Φ a ρ fun ra ρ1 => lookP ρ1 ra fun da => (match da with | .lst ds => ∃ ns, ints? ds = some ns ∧ ns.length < 64 ∧ ∀ ns' : List Int, ns'.Pairwise (· < ·) → (∀ k, k ∈ ns' ↔ k ∈ ns) → Q (.new (.lst (ns'.map D.int))) ρ1 | _ => False)
  | .dl a, ρ, Q => wE Φ a ρ fun ra ρ1 => lookP ρ1 ra fun da => ∃ xs, seq? da = some xs ∧ ∃ kvs, pairsD xs = some kvs ∧ Q (.new (.dk (mergeD [] kvs))) ρ1
  | .sdl a, ρ, Q => wE Φ a ρ fun ra ρ1 => lookP ρ1 ra fun da => (match da with | .dk kvs => ∃ ps : List (Int × Int), kvs = ps.map (fun p => ((Sum.inl p.1 : Key), D.int p.2)) ∧ ∀ qs : List (Int × Int), qs.Perm ps → qs.Pairwise (fun x y => x.1 < y.1 ∨ x.1 = y.1 ∧ x.2 ≤ y.2) → Q (.new (.lst (qs.map fun p => .tup [.int p.1, .int p.2]))) ρ1 | _ => False)
  | .dvl _, _, _ => False
  | .edk, ρ, Q => Q (.new (.dk [])) ρ
  | .edt, ρ, Q => Q (.new (.dt [])) ρ
  | .mt m o a, ρ, Q => wE Φ o ρ fun ro ρ1 => wE Φ a ρ1 fun ra ρ2 => lookP ρ2 ro fun do' => lookP ρ2 ra fun da => m.W do' da fun r => Q r ρ2
  | .comp own tg k srcs elt, ρ, Q => wRs Φ srcs ρ fun rs ρ1 => ∃ cs, looks ρ1 rs = some cs ∧ srcW k cs fun ds => noObs ρ1 own = true ∧ offOwn rs own = true ∧ ds.length ≤ sizeLine ∧
      compW (fun d ρ' K => tgW tg d (wipeE ρ' own) fun ρ'' => wE Φ elt ρ'' fun r ρ3 => frz r ρ3 fun x ρ4 => K (some x) ρ4) (fun ρ' => looks (wipeE ρ' own) rs = some cs) ds ρ1 [] fun acc ρ' => Q (.new (.lst acc)) (backE ρ1 ρ' own)
  | .compIf own tg k srcs c elt, ρ, Q => wRs Φ srcs ρ fun rs ρ1 => ∃ cs, looks ρ1 rs = some cs ∧ srcW k cs fun ds => noObs ρ1 own = true ∧ offOwn rs own = true ∧ ds.length ≤ sizeLine ∧
      compW (fun d ρ' K => tgW tg d (wipeE ρ' own) fun ρ'' => wE Φ c ρ'' fun rc ρ3 => lookP ρ3 rc fun dc => (match dc with
        | .bl t => (t = true → wE Φ elt ρ3 fun r ρ4 => frz r ρ4 fun x ρ5 => K (some x) ρ5) ∧ (t = false → K none ρ3) | _ => False)) (fun ρ' => looks (wipeE ρ' own) rs = some cs) ds ρ1 [] fun acc ρ' => Q (.new (.lst acc)) (backE ρ1 ρ' own)
  | .callN f es, ρ, Q => ∃ sp, Φ.B[f]? = some sp ∧ wRs Φ es ρ fun rs ρ1 => hasSlot rs = false ∧ ∃ ds, looks ρ1 rs = some ds ∧ sp.2.run .non ds fun _ c => Q (.new c) ρ1
/-- as data that stay -/
def wEs (Φ : Ctx) : List E → Env → (List D → Env → Prop) → Prop
  | [], ρ, Q => Q [] ρ
  | e :: es, ρ, Q => wE Φ e ρ fun r ρ1 => frz r ρ1 fun d ρ1 => wEs Φ es ρ1 fun ds ρ2 => Q (d :: ds) ρ2
/-- as they stand -/
def wRs (Φ : Ctx) : List E → Env → (List RD → Env → Prop) → Prop
  | [], ρ, Q => Q [] ρ
  | e :: es, ρ, Q => wE Φ e ρ fun r ρ1 => wRs Φ es ρ1 fun rs ρ2 => Q (keep r :: rs) ρ2
/-- as names will hold them -/
def wNs (Φ : Ctx) : List E → Env → (List VE → Env → Prop) → Prop
  | [], ρ, Q => Q [] ρ
  | e :: es, ρ, Q => wE Φ e ρ fun r ρ1 => (match r with
    | .new c => wNs Φ es ρ1 fun ws ρ2 => Q (.own c :: ws) ρ2
    | r => frz r ρ1 fun d ρ1' => wNs Φ es ρ1' fun ws ρ2 => Q (.sh d :: ws) ρ2)
end
/-! ### statements -/
def setNs : List Nat → List VE → Env → (Env → Prop) → Prop
  | [], [], ρ, k => k ρ
  | i :: is, w :: ws, ρ, k => (match ρ[i]? with | some (.bor _) => False | some _ => setNs is ws (ρ.set i w) k | none => False)
  | _, _, _, _ => False
structure End where
  nx : Env → Prop
  rt : D → Env → Prop
  bk : Env → Prop := fun _ => False
  rn : D → Env → Prop := fun _ _ => False
def toVE : RD → Env → (VE → Env → Prop) → Prop
  | .val d, ρ, k => k (.sh d) ρ
  | .new c, ρ, k => k (.own c) ρ
  | .slot i, ρ, k => (match ρ[i]? with | some (.own c) => k (.sh c) (ρ.set i (.sh c)) | some (.sh d) => k (.sh d) ρ | _ => False)
def setE (ρ : Env) (i : Nat) (v : VE) (k : Env → Prop) : Prop := match ρ[i]? with | some (.bor _) => False | some _ => k (ρ.set i v) | none => False
mutual
def wS (Φ : Ctx) : S → Env → End → Prop
  | .set i e, ρ, D => wE Φ e ρ fun r ρ1 => toVE r ρ1 fun v ρ2 => setE ρ2 i v D.nx
  | .setT tg e, ρ, D => wE Φ e ρ fun r ρ1 => frz r ρ1 fun d ρ2 => tgW tg d ρ2 D.nx
  | .par is es, ρ, D => wNs Φ es ρ fun ws ρ1 => ws.length ≤ sizeLine ∧ setNs is ws ρ1 D.nx
  | .put i k e, ρ, D => wE Φ e ρ fun r ρ1 => frz r ρ1 fun d ρ1 => obAt ρ1 i = true ∧ wE Φ k ρ1 fun rk ρ2 => lookP ρ2 rk fun dk => (match ρ2[i]? with
      | some (.own c) => putW c dk d fun c' => D.nx (ρ2.set i (.own c')) | some (.bor c) => putW c dk d fun c' => D.nx (ρ2.set i (.bor c')) | _ => False)
  | .exp e, ρ, D => wE Φ e ρ fun _ ρ1 => D.nx ρ1
  | .app i e, ρ, D => (∃ ds, ρ[i]? = some (.own (.lst ds)) ∨ ρ[i]? = some (.bor (.lst ds))) ∧ wE Φ e ρ fun r ρ1 => frz r ρ1 fun d ρ1 => (match ρ1[i]? with
      | some (.own (.lst ds)) => ds.length < sizeLine ∧ D.nx (ρ1.set i (.own (.lst (ds ++ [d])))) | some (.bor (.lst ds)) => ds.length < sizeLine ∧ D.nx (ρ1.set i (.bor (.lst (ds ++ [d])))) | _ => False)
  | .ext _ _, _, _ => False
  | .ret e, ρ, D => wE Φ e ρ fun r ρ1 => frz r ρ1 fun d ρ2 => D.rt d ρ2
  | .ife c a b, ρ, D => wE Φ c ρ fun rc ρ1 => lookP ρ1 rc fun dc => (match dc with | .bl t => (t = true → wSs Φ a ρ1 D) ∧ (t = false → wSs Φ b ρ1 D) | _ => False)
  | .for tg k srcs body, ρ, D => wRs Φ srcs ρ fun rs ρ1 => ∃ cs ρ2, looks ρ1 rs = some cs ∧ frzAll rs ρ1 = some ρ2 ∧ srcW k cs fun ds =>
      forW (fun d ρ' K => tgW tg d ρ' fun ρ'' => wSs Φ body ρ'' { nx := K, rt := D.rt, bk := D.nx }) ds ρ2 D.nx
  | .whl c body, ρ, D => ∃ W : Nat → Env → Prop, (∃ m, W m ρ) ∧ ∀ m ρ, W m ρ → wE Φ c ρ fun rc ρ1 => lookP ρ1 rc fun dc => (match dc with
      | .bl t => (t = true → wSs Φ body ρ1 { nx := fun ρ2 => ∃ m', m' < m ∧ W m' ρ2, rt := D.rt, bk := D.nx }) ∧ (t = false → D.nx ρ1) | _ => False)
  | .brk, ρ, D => D.bk ρ
  | .rse, _, _ => False
  | .pass, ρ, D => D.nx ρ
  | .put2 i k j a b, ρ, D => wEs Φ [a, b] ρ fun ds ρ1 => (match ds with
      | [d1, d2] => 2 ≤ sizeLine ∧ (match ρ1[k]? with
        | some (.sh dk) => (match ρ1[i]? with
          | some (.own c) => putW c dk d1 fun c' => setE (ρ1.set i (.own c')) j (.sh d2) D.nx
          | _ => False)
        | _ => False)
      | _ => False)
  | .retN e, ρ, D => wE Φ e ρ fun r ρ1 => (match r with | .new c => D.rn c ρ1 | _ => False)
def wSs (Φ : Ctx) : List S → Env → End → Prop
  | [], ρ, D => D.nx ρ
  | s :: ss, ρ, D => wS Φ s ρ { D with nx := fun ρ' => wSs Φ ss ρ' D }
end
/-! ### at a known environment -/
@[simp] theorem binW_c0 (i j : Int) (k : RD → Prop) : binW .add (.int i) (.int j) k = (k (.val (.int (i + j)))) := rfl
@[simp] theorem binW_c1 (xs ys : List D) (k : RD → Prop) : binW .add (.tup xs) (.tup ys) k = (xs.length + ys.length ≤ sizeLine ∧ k (.val (.tup (xs ++ ys)))) := rfl
@[simp] theorem binW_c2 (xs ys : List D) (k : RD → Prop) : binW .add (.lst xs) (.lst ys) k = (xs.length + ys.length ≤ sizeLine ∧ k (.new (.lst (xs ++ ys)))) := rfl
@[simp] theorem binW_c3 (x y : Str) (k : RD → Prop) : binW .add (.str x) (.str y) k = (x.length + y.length ≤ sizeLine ∧ k (.val (.str (x ++ y)))) := rfl
@[simp] theorem binW_c4 (i j : Int) (k : RD → Prop) : binW .sub (.int i) (.int j) k = (k (.val (.int (i - j)))) := rfl
@[simp] theorem binW_c5 (i j : Int) (k : RD → Prop) : binW .mul (.int i) (.int j) k = (mulOk i j ∧ k (.val (.int (i * j)))) := rfl
@[simp] theorem binW_c6 (xs : List D) (n : Int) (k : RD → Prop) : binW .mul (.lst xs) (.int n) k = (-(2 ^ 63) ≤ n ∧ n < 2 ^ 63 ∧ xs.length * n.toNat ≤ sizeLine ∧ k (.new (.lst (List.replicate n.toNat xs).flatten))) := rfl
@[simp] theorem binW_c7 (xs : List D) (n : Int) (k : RD → Prop) : binW .mul (.tup xs) (.int n) k = (xs ≠ [] ∧ -(2 ^ 63) ≤ n ∧ n ≤ 1000 ∧ xs.length ≤ 1000 ∧ k (.val (.tup (List.replicate n.toNat xs).flatten))) := rfl
@[simp] theorem binW_c8 (i j : Int) (k : RD → Prop) : binW .fdiv (.int i) (.int j) k = (divOk i j ∧ k (.val (.int (i.fdiv j)))) := rfl
@[simp] theorem binW_c9 (i j : Int) (k : RD → Prop) : binW .mod (.int i) (.int j) k = (j ≠ 0 ∧ k (.val (.int (i.fmod j)))) := rfl
@[simp] theorem binW_c10 (i j : Int) (k : RD → Prop) : binW .pow (.int i) (.int j) k = (powOk i j ∧ k (.val (.int (i ^ j.toNat)))) := rfl
@[simp] theorem cmpW_c0 (x y : D) (k : Bool → Prop) : cmpW .eq x y k = (cmpOk x ∧ cmpOk y ∧ k (deq x y)) := rfl
@[simp] theorem cmpW_c1 (x y : D) (k : Bool → Prop) : cmpW .ne x y k = (cmpOk x ∧ cmpOk y ∧ k (!deq x y)) := rfl
@[simp] theorem cmpW_c2 (i j : Int) (k : Bool → Prop) : cmpW .lt (.int i) (.int j) k = (k (decide (i < j))) := rfl
@[simp] theorem cmpW_c3 (i j : Str) (k : Bool → Prop) : cmpW .lt (.str i) (.str j) k = (k (decide (i.cps.toList < j.cps.toList))) := rfl
@[simp] theorem cmpW_c4 (i j : Int) (k : Bool → Prop) : cmpW .le (.int i) (.int j) k = (k (decide (i ≤ j))) := rfl
@[simp] theorem cmpW_c5 (i j : Int) (k : Bool → Prop) : cmpW .gt (.int i) (.int j) k = (k (decide (j < i))) := rfl
@[simp] theorem cmpW_c6 (i j : Int) (k : Bool → Prop) : cmpW .ge (.int i) (.int j) k = (k (decide (j ≤ i))) := rfl
@[simp] theorem cmpW_c7 (a b : Bool) (k : Bool → Prop) : cmpW .is (.bl a) (.bl b) k = (k (decide (a = b) ^^ false)) := rfl
@[simp] theorem cmpW_c8 (a b : Bool) (k : Bool → Prop) : cmpW .isn (.bl a) (.bl b) k = (k (decide (a = b) ^^ true)) := rfl
@[simp] theorem cmpW_is_non (k : Bool → Prop) : cmpW .is .non .non k = (k true) := rfl
@[simp] theorem cmpW_is_inti (i : Int) (k : Bool → Prop) : cmpW .is (.int i) .non k = (k false) := rfl
@[simp] theorem cmpW_is_bli (i : Bool) (k : Bool → Prop) : cmpW .is (.bl i) .non k = (k false) := rfl
@[simp] theorem cmpW_is_stri (i : Str) (k : Bool → Prop) : cmpW .is (.str i) .non k = (k false) := rfl
@[simp] theorem cmpW_is_tupi (i : List D) (k : Bool → Prop) : cmpW .is (.tup i) .non k = (k false) := rfl
@[simp] theorem cmpW_is_lsti (i : List D) (k : Bool → Prop) : cmpW .is (.lst i) .non k = (k false) := rfl
@[simp] theorem cmpW_is_roi (i : List D) (k : Bool → Prop) : cmpW .is (.ro i) .non k = (k false) := rfl
@[simp] theorem cmpW_is_dki (i : List (Key × D)) (k : Bool → Prop) : cmpW .is (.dk i) .non k = (k false) := rfl
@[simp] theorem cmpW_isn_non (k : Bool → Prop) : cmpW .isn .non .non k = (k false) := rfl
@[simp] theorem cmpW_isn_inti (i : Int) (k : Bool → Prop) : cmpW .isn (.int i) .non k = (k true) := rfl
@[simp] theorem cmpW_isn_bli (i : Bool) (k : Bool → Prop) : cmpW .isn (.bl i) .non k = (k true) := rfl
@[simp] theorem cmpW_isn_stri (i : Str) (k : Bool → Prop) : cmpW .isn (.str i) .non k = (k true) := rfl
@[simp] theorem cmpW_isn_tupi (i : List D) (k : Bool → Prop) : cmpW .isn (.tup i) .non k = (k true) := rfl
@[simp] theorem cmpW_isn_lsti (i : List D) (k : Bool → Prop) : cmpW .isn (.lst i) .non k = (k true) := rfl
@[simp] theorem cmpW_isn_roi (i : List D) (k : Bool → Prop) : cmpW .isn (.ro i) .non k = (k true) := rfl
@[simp] theorem cmpW_isn_dki (i : List (Key × D)) (k : Bool → Prop) : cmpW .isn (.dk i) .non k = (k true) := rfl
@[simp] theorem cmpW_inn_l (x : D) (ds : List D) (k : Bool → Prop) : cmpW .inn x (.lst ds) k = (cmpOk x ∧ cmpOk (.lst ds) ∧ k ((ds.any fun z => deq z x) ^^ false)) := by cases x <;> rfl
@[simp] theorem cmpW_inn_t (x : D) (ds : List D) (k : Bool → Prop) : cmpW .inn x (.tup ds) k = (cmpOk x ∧ cmpOk (.tup ds) ∧ k ((ds.any fun z => deq z x) ^^ false)) := by cases x <;> rfl
@[simp] theorem cmpW_inn_s (x z : Str) (k : Bool → Prop) : cmpW .inn (.str x) (.str z) k = (∃ c, x = ⟨#[c]⟩ ∧ k (decide (c ∈ z.cps.toList) ^^ false)) := rfl
@[simp] theorem cmpW_nin_l (x : D) (ds : List D) (k : Bool → Prop) : cmpW .nin x (.lst ds) k = (cmpOk x ∧ cmpOk (.lst ds) ∧ k ((ds.any fun z => deq z x) ^^ true)) := by cases x <;> rfl
@[simp] theorem cmpW_nin_t (x : D) (ds : List D) (k : Bool → Prop) : cmpW .nin x (.tup ds) k = (cmpOk x ∧ cmpOk (.tup ds) ∧ k ((ds.any fun z => deq z x) ^^ true)) := by cases x <;> rfl
@[simp] theorem cmpW_nin_s (x z : Str) (k : Bool → Prop) : cmpW .nin (.str x) (.str z) k = (∃ c, x = ⟨#[c]⟩ ∧ k (decide (c ∈ z.cps.toList) ^^ true)) := rfl
@[simp] theorem isTy_int_non  : isTy .int .non = false := rfl
@[simp] theorem isTy_int_inti (i : Int) : isTy .int (.int i) = true := rfl
@[simp] theorem isTy_int_bli (i : Bool) : isTy .int (.bl i) = true := rfl
@[simp] theorem isTy_int_stri (i : Str) : isTy .int (.str i) = false := rfl
@[simp] theorem isTy_int_tupi (i : List D) : isTy .int (.tup i) = false := rfl
@[simp] theorem isTy_int_lsti (i : List D) : isTy .int (.lst i) = false := rfl
@[simp] theorem isTy_bool_non  : isTy .bool .non = false := rfl
@[simp] theorem isTy_bool_inti (i : Int) : isTy .bool (.int i) = false := rfl
@[simp] theorem isTy_bool_bli (i : Bool) : isTy .bool (.bl i) = true := rfl
@[simp] theorem isTy_bool_stri (i : Str) : isTy .bool (.str i) = false := rfl
@[simp] theorem isTy_bool_tupi (i : List D) : isTy .bool (.tup i) = false := rfl
@[simp] theorem isTy_bool_lsti (i : List D) : isTy .bool (.lst i) = false := rfl
@[simp] theorem isTy_str_non  : isTy .str .non = false := rfl
@[simp] theorem isTy_str_inti (i : Int) : isTy .str (.int i) = false := rfl
@[simp] theorem isTy_str_bli (i : Bool) : isTy .str (.bl i) = false := rfl
@[simp] theorem isTy_str_stri (i : Str) : isTy .str (.str i) = true := rfl
@[simp] theorem isTy_str_tupi (i : List D) : isTy .str (.tup i) = false := rfl
@[simp] theorem isTy_str_lsti (i : List D) : isTy .str (.lst i) = false := rfl
@[simp] theorem isTy_tuple_non  : isTy .tuple .non = false := rfl
@[simp] theorem isTy_tuple_inti (i : Int) : isTy .tuple (.int i) = false := rfl
@[simp] theorem isTy_tuple_bli (i : Bool) : isTy .tuple (.bl i) = false := rfl
@[simp] theorem isTy_tuple_stri (i : Str) : isTy .tuple (.str i) = false := rfl
@[simp] theorem isTy_tuple_tupi (i : List D) : isTy .tuple (.tup i) = true := rfl
@[simp] theorem isTy_tuple_lsti (i : List D) : isTy .tuple (.lst i) = false := rfl
@[simp] theorem biW_c0 (ds : List D) (k : RD → Prop) : biW .len [.tup ds] k = (k (.val (.int ds.length))) := rfl
@[simp] theorem biW_c1 (ds : List D) (k : RD → Prop) : biW .len [.lst ds] k = (k (.val (.int ds.length))) := rfl
@[simp] theorem biW_c2 (ds : List D) (k : RD → Prop) : biW .len [.ro ds] k = (k (.val (.int ds.length))) := rfl
@[simp] theorem biW_c3 (z : Str) (k : RD → Prop) : biW .len [.str z] k = (z.length ≤ sizeLine ∧ k (.val (.int z.length))) := rfl
@[simp] theorem biW_c4 (ds : List (Key × D)) (k : RD → Prop) : biW .len [.dk ds] k = (k (.val (.int ds.length))) := rfl
@[simp] theorem biW_c5 (i : Int) (k : RD → Prop) : biW .abs [.int i] k = (k (.val (.int (if i < 0 then -i else i)))) := rfl
@[simp] theorem biW_c6 (i : Int) (j : Int) (k : RD → Prop) : biW .min2 [.int i, .int j] k = (k (.val (.int (if j < i then j else i)))) := rfl
@[simp] theorem biW_c7 (i : Int) (j : Int) (k : RD → Prop) : biW .max2 [.int i, .int j] k = (k (.val (.int (if j > i then j else i)))) := rfl
@[simp] theorem biW_c8 (i : Int) (k : RD → Prop) : biW .int [.int i] k = (k (.val (.int i))) := rfl
@[simp] theorem biW_c9 (b : Bool) (k : RD → Prop) : biW .int [.bl b] k = (k (.val (.int (if b then 1 else 0)))) := rfl
@[simp] theorem biW_c10 (ds : List D) (k : RD → Prop) : biW .sum [.lst ds] k = (∃ ns, ints? ds = some ns ∧ k (.val (.int ns.sum))) := rfl
@[simp] theorem biW_c11 (ds : List D) (k : RD → Prop) : biW .sum [.ro ds] k = (∃ ns, ints? ds = some ns ∧ k (.val (.int ns.sum))) := rfl
@[simp] theorem biW_c12 (ds : List D) (k : RD → Prop) : biW .all [.lst ds] k = (∃ bs, bls? ds = some bs ∧ k (.val (.bl (bs.all id)))) := rfl
@[simp] theorem biW_c13 (ds : List D) (k : RD → Prop) : biW .any [.lst ds] k = (∃ bs, bls? ds = some bs ∧ k (.val (.bl (bs.any id)))) := rfl
@[simp] theorem biW_c14 (ds : List D) (k : RD → Prop) : biW .list [.lst ds] k = (k (.new (.lst ds))) := rfl
@[simp] theorem biW_c15 (ds : List D) (k : RD → Prop) : biW .list [.tup ds] k = (k (.new (.lst ds))) := rfl
@[simp] theorem biW_c16 (ds : List D) (k : RD → Prop) : biW .list [.ro ds] k = (k (.new (.lst ds))) := rfl
@[simp] theorem biW_c17 (ds : List D) (k : RD → Prop) : biW .tuple [.lst ds] k = (k (.val (.tup ds))) := rfl
@[simp] theorem biW_c18 (ds : List D) (k : RD → Prop) : biW .tuple [.tup ds] k = (k (.val (.tup ds))) := rfl
@[simp] theorem biW_c19 (ds : List D) (k : RD → Prop) : biW .sorted [.lst ds] k = (∃ ns, ints? ds = some ns ∧ ∀ ns' : List Int, ns'.Perm ns → ns'.Pairwise (· ≤ ·) → k (.new (.lst (ns'.map D.int)))) := rfl
@[simp] theorem biW_c20 (ds : List D) (k : RD → Prop) : biW .maxL [.lst ds] k = (∃ ns, ints? ds = some ns ∧ 0 < ns.length ∧ ∀ m, m ∈ ns → (∀ y, y ∈ ns → y ≤ m) → k (.val (.int m))) := rfl
@[simp] theorem biW_c21 (ds : List D) (k : RD → Prop) : biW .minL [.lst ds] k = (∃ ns, ints? ds = some ns ∧ 0 < ns.length ∧ ∀ m, m ∈ ns → (∀ y, y ∈ ns → m ≤ y) → k (.val (.int m))) := rfl
@[simp] theorem slW_c0 (ds : List D) (lo hi : Option Int) (k : RD → Prop) : slW (.lst ds) lo hi k = (k (.new (.lst (cutD ds lo hi)))) := rfl
@[simp] theorem slW_c1 (ds : List D) (lo hi : Option Int) (k : RD → Prop) : slW (.ro ds) lo hi k = (k (.new (.lst (cutD ds lo hi)))) := rfl
@[simp] theorem slW_c2 (ds : List D) (lo hi : Option Int) (k : RD → Prop) : slW (.tup ds) lo hi k = (k (.val (.tup (cutD ds lo hi)))) := rfl
@[simp] theorem slW_c3 (z : Str) (lo hi : Option Int) (k : RD → Prop) : slW (.str z) lo hi k = (z.length ≤ sizeLine ∧ k (.val (.str (Txt.slice z lo hi)))) := rfl
@[simp] theorem pkW_c0 (ds : List D) (lo : Option Int) (n : Int) (k : RD → Prop) : pkW (.lst ds) lo n k = ((pickL ds lo none (some n)).length ≤ sizeLine ∧ k (.new (.lst (pickL ds lo none (some n))))) := rfl
@[simp] theorem pkW_c1 (ds : List D) (lo : Option Int) (n : Int) (k : RD → Prop) : pkW (.ro ds) lo n k = ((pickL ds lo none (some n)).length ≤ sizeLine ∧ k (.new (.lst (pickL ds lo none (some n))))) := rfl
@[simp] theorem idxW_c0 (ds : List D) (i : Int) (k : RD → Prop) : idxW (.lst ds) i k = (∃ d, atI ds i = some d ∧ k (.val d)) := rfl
@[simp] theorem idxW_c1 (ds : List D) (i : Int) (k : RD → Prop) : idxW (.ro ds) i k = (∃ d, atI ds i = some d ∧ k (.val d)) := rfl
@[simp] theorem idxW_c2 (ds : List D) (i : Int) (k : RD → Prop) : idxW (.tup ds) i k = (∃ d, atI ds i = some d ∧ k (.val d)) := rfl
@[simp] theorem idxW_c3 (z : Str) (i : Int) (k : RD → Prop) : idxW (.str z) i k = (z.length ≤ sizeLine ∧ ∃ c, atI z.cps.toList i = some c ∧ k (.val (.str ⟨#[c]⟩))) := rfl
@[simp] theorem keyD_c0 (i : Int) : keyD (.int i) = (some (.inl i)) := rfl
@[simp] theorem keyD_c1 (i : Str) : keyD (.str i) = (some (.inr i)) := rfl
@[simp] theorem dgetW_i (kvs : List (Key × D)) (i : Int) (k : Option D → Prop) : dgetW (.dk kvs) (.int i) k = k (getK kvs (.inl i)) := by simp [dgetW]
@[simp] theorem dgetW_s (kvs : List (Key × D)) (i : Str) (k : Option D → Prop) : dgetW (.dk kvs) (.str i) k = k (getK kvs (.inr i)) := by simp [dgetW]
@[simp] theorem putW_i (kvs : List (Key × D)) (i : Int) (v : D) (k : D → Prop) : putW (.dk kvs) (.int i) v k = (kvs.length < sizeLine ∧ k (.dk (putD kvs (.inl i) v))) := by simp [putW]
@[simp] theorem putW_s (kvs : List (Key × D)) (i : Str) (v : D) (k : D → Prop) : putW (.dk kvs) (.str i) v k = (kvs.length < sizeLine ∧ k (.dk (putD kvs (.inr i) v))) := by simp [putW]
@[simp] theorem putW_l (ds : List D) (i : Int) (v : D) (k : D → Prop) : putW (.lst ds) (.int i) v k = (∃ j, ixN ds.length i = some j ∧ k (.lst (ds.set j v))) := rfl
@[simp] theorem srcW_c0 (ds : List D) (k : List D → Prop) : srcW .seqT [.tup ds] k = (k ds) := rfl
@[simp] theorem srcW_c1 (ds : List D) (k : List D → Prop) : srcW .seq [.lst ds] k = (k ds) := rfl
@[simp] theorem srcW_c2 (ds : List D) (k : List D → Prop) : srcW .seq [.ro ds] k = (k ds) := rfl
@[simp] theorem srcW_c3 (z : Str) (k : List D → Prop) : srcW .seqS [.str z] k = (k (z.cps.toList.map fun c => .str ⟨#[c]⟩)) := rfl
@[simp] theorem srcW_c4 (n : Int) (k : List D → Prop) : srcW .r1 [.int n] k = (small n ∧ k (rangeD 0 n.toNat)) := rfl
@[simp] theorem srcW_c5 (a b : Int) (k : List D → Prop) : srcW .r2 [.int a, .int b] k = (small a ∧ small b ∧ k (rangeD a (b - a).toNat)) := rfl
@[simp] theorem srcW_c6 (a b : List D) (k : List D → Prop) : srcW .zip [.lst a, .lst b] k = (k (zipD a b)) := rfl
@[simp] theorem srcW_c7 (a b : List D) (k : List D → Prop) : srcW .zip [.tup a, .tup b] k = (k (zipD a b)) := rfl
@[simp] theorem srcW_c8 (a : List D) (k : List D → Prop) : srcW .enum [.lst a] k = (k (enumD 0 a)) := rfl
@[simp] theorem tgW_nm (i : Nat) (d : D) (v : VE) (ρ0 : Env) (k : Env → Prop) : tgW (.nm i) d (v :: ρ0) k = (match (v :: ρ0)[i]? with | some (.bor _) => False | some _ => k ((v :: ρ0).set i (.sh d)) | none => False) := by rw [tgW]
@[simp] theorem tgW_tp (ts : List Tg) (ds : List D) (v : VE) (ρ0 : Env) (k : Env → Prop) : tgW (.tp ts) (.tup ds) (v :: ρ0) k = tgsW ts ds (v :: ρ0) k := by rw [tgW]
@[simp] theorem tgsW_nil (ρ : Env) (k : Env → Prop) : tgsW [] [] ρ k = k ρ := by rw [tgsW]
@[simp] theorem tgsW_cons (t : Tg) (ts : List Tg) (d : D) (ds : List D) (v : VE) (ρ0 : Env) (k : Env → Prop) : tgsW (t :: ts) (d :: ds) (v :: ρ0) k = tgW t d (v :: ρ0) fun ρ' => tgsW ts ds ρ' k := by rw [tgsW]
@[simp] theorem frzAll_nil (ρ : Env) : frzAll [] ρ = some ρ := rfl
@[simp] theorem frzAll_val (d : D) (rs : List RD) (ρ : Env) : frzAll (.val d :: rs) ρ = frzAll rs ρ := rfl
@[simp] theorem frzAll_new (d : D) (rs : List RD) (ρ : Env) : frzAll (.new d :: rs) ρ = frzAll rs ρ := rfl
@[simp] theorem frzAll_slot (i : Nat) (rs : List RD) (v : VE) (ρ0 : Env) : frzAll (.slot i :: rs) (v :: ρ0) = (match (v :: ρ0)[i]? with | some (.own c) => frzAll rs ((v :: ρ0).set i (.sh c)) | some (.sh _) => frzAll rs (v :: ρ0) | _ => none) := rfl
@[simp] theorem setNs_nil (ρ : Env) (k : Env → Prop) : setNs [] [] ρ k = k ρ := rfl
@[simp] theorem setNs_cons (i : Nat) (is : List Nat) (w : VE) (ws : List VE) (v : VE) (ρ0 : Env) (k : Env → Prop) : setNs (i :: is) (w :: ws) (v :: ρ0) k = (match (v :: ρ0)[i]? with | some (.bor _) => False | some _ => setNs is ws ((v :: ρ0).set i w) k | none => False) := rfl
@[simp] theorem toVE_val (d : D) (ρ : Env) (k : VE → Env → Prop) : toVE (.val d) ρ k = k (.sh d) ρ := rfl
@[simp] theorem toVE_new (d : D) (ρ : Env) (k : VE → Env → Prop) : toVE (.new d) ρ k = k (.own d) ρ := rfl
@[simp] theorem toVE_slot (i : Nat) (v : VE) (ρ0 : Env) (k : VE → Env → Prop) : toVE (.slot i) (v :: ρ0) k = (match (v :: ρ0)[i]? with | some (.own c) => k (.sh c) ((v :: ρ0).set i (.sh c)) | some (.sh d) => k (.sh d) (v :: ρ0) | _ => False) := rfl
@[simp] theorem setE_c (v : VE) (ρ0 : Env) (i : Nat) (w : VE) (k : Env → Prop) : setE (v :: ρ0) i w k = (match (v :: ρ0)[i]? with | some (.bor _) => False | some _ => k ((v :: ρ0).set i w) | none => False) := rfl
@[simp] theorem obAt_c (v : VE) (ρ0 : Env) (i : Nat) : obAt (v :: ρ0) i = (match (v :: ρ0)[i]? with | some (.own _) => true | some (.bor _) => true | _ => false) := rfl
@[simp] theorem noObs_nil (ρ : Env) : noObs ρ [] = true := rfl
@[simp] theorem noObs_c (v : VE) (ρ0 : Env) (i : Nat) (is : List Nat) : noObs (v :: ρ0) (i :: is) = ((match (v :: ρ0)[i]? with | some .un => true | some (.sh _) => true | _ => false) && noObs (v :: ρ0) is) := rfl
@[simp] theorem frz_slotc (i : Nat) (v : VE) (ρ0 : Env) (k : D → Env → Prop) : frz (.slot i) (v :: ρ0) k = (match (v :: ρ0)[i]? with | some (.own c) => k c ((v :: ρ0).set i (.sh c)) | some (.sh d) => k d (v :: ρ0) | _ => False) := rfl
@[simp] theorem look_slotc (i : Nat) (v : VE) (ρ0 : Env) : look (v :: ρ0) (.slot i) = ((v :: ρ0)[i]?).bind VE.d? := rfl
@[simp] theorem lookP_slotc (v : VE) (ρ0 : Env) (i : Nat) (k : D → Prop) : lookP (v :: ρ0) (.slot i) k ↔ ∃ d, ((v :: ρ0)[i]?).bind VE.d? = some d ∧ k d := by simp [lookP]
@[simp] theorem wE_k0 (Φ : Ctx) (i) (v : VE) (ρ0 : Env) (Q) : wE Φ (.var i) (v :: ρ0) Q = ((match (v :: ρ0)[i]? with | some (.sh d) => Q (.val d) (v :: ρ0) | some (.own _) => Q (.slot i) (v :: ρ0) | some (.bor _) => Q (.slot i) (v :: ρ0) | _ => False)) := by rw [wE]
@[simp] theorem wE_k1 (Φ : Ctx) (i) (v : VE) (ρ0 : Env) (Q) : wE Φ (.int i) (v :: ρ0) Q = (Q (.val (.int i)) (v :: ρ0)) := by rw [wE]
@[simp] theorem wE_k2 (Φ : Ctx) (b) (v : VE) (ρ0 : Env) (Q) : wE Φ (.bl b) (v :: ρ0) Q = (Q (.val (.bl b)) (v :: ρ0)) := by rw [wE]
@[simp] theorem wE_k3 (Φ : Ctx)  (v : VE) (ρ0 : Env) (Q) : wE Φ (.non) (v :: ρ0) Q = (Q (.val .non) (v :: ρ0)) := by rw [wE]
@[simp] theorem wE_k4 (Φ : Ctx) (s) (v : VE) (ρ0 : Env) (Q) : wE Φ (.str s) (v :: ρ0) Q = (Q (.val (.str s)) (v :: ρ0)) := by rw [wE]
@[simp] theorem wE_k5 (Φ : Ctx) (g) (v : VE) (ρ0 : Env) (Q) : wE Φ (.glo g) (v :: ρ0) Q = (∃ x, Φ.G[g]? = some x ∧ Q (.val x.2) (v :: ρ0)) := by rw [wE]
@[simp] theorem wE_k6 (Φ : Ctx) (op) (a) (b) (v : VE) (ρ0 : Env) (Q) : wE Φ (.bin op a b) (v :: ρ0) Q = (wE Φ a (v :: ρ0) fun ra ρ1 => wE Φ b ρ1 fun rb ρ2 => lookP ρ2 ra fun da => lookP ρ2 rb fun db => binW op da db fun r => Q r ρ2) := by rw [wE]
@[simp] theorem wE_k7 (Φ : Ctx) (a) (v : VE) (ρ0 : Env) (Q) : wE Φ (.neg a) (v :: ρ0) Q = (wE Φ a (v :: ρ0) fun ra ρ1 => lookP ρ1 ra fun da => (match da with | .int i => Q (.val (.int (-i))) ρ1 | _ => False)) := by rw [wE]
@[simp] theorem wE_k8 (Φ : Ctx) (a) (v : VE) (ρ0 : Env) (Q) : wE Φ (.not a) (v :: ρ0) Q = (wE Φ a (v :: ρ0) fun ra ρ1 => lookP ρ1 ra fun da => (match da with | .bl b => Q (.val (.bl (!b))) ρ1 | _ => False)) := by rw [wE]
@[simp] theorem wE_k9 (Φ : Ctx) (a) (b) (v : VE) (ρ0 : Env) (Q) : wE Φ (.and a b) (v :: ρ0) Q = (wE Φ a (v :: ρ0) fun ra ρ1 => lookP ρ1 ra fun da => (match da with | .bl c => (c = true → wE Φ b ρ1 Q) ∧ (c = false → Q (.val (.bl false)) ρ1) | _ => False)) := by rw [wE]
@[simp] theorem wE_k10 (Φ : Ctx) (a) (b) (v : VE) (ρ0 : Env) (Q) : wE Φ (.or a b) (v :: ρ0) Q = (wE Φ a (v :: ρ0) fun ra ρ1 => lookP ρ1 ra fun da => (match da with | .bl c => (c = true → Q (.val (.bl true)) ρ1) ∧ (c = false → wE Φ b ρ1 Q) | _ => False)) := by rw [wE]
@[simp] theorem wE_k11 (Φ : Ctx) (op) (a) (b) (v : VE) (ρ0 : Env) (Q) : wE Φ (.cmp op a b) (v :: ρ0) Q = (wE Φ a (v :: ρ0) fun ra ρ1 => wE Φ b ρ1 fun rb ρ2 => lookP ρ2 ra fun da => lookP ρ2 rb fun db => cmpW op da db fun r => Q (.val (.bl r)) ρ2) := by rw [wE]
@[simp] theorem wE_k12 (Φ : Ctx) (o1) (o2) (a) (b) (c) (v : VE) (ρ0 : Env) (Q) : wE Φ (.cmp2 o1 o2 a b c) (v :: ρ0) Q = (wE Φ a (v :: ρ0) fun ra ρ1 => wE Φ b ρ1 fun rb ρ2 => lookP ρ2 ra fun da => lookP ρ2 rb fun db => cmpW o1 da db fun r =>
      (r = true → wE Φ c ρ2 fun rc ρ3 => lookP ρ3 rb fun db' => lookP ρ3 rc fun dc => cmpW o2 db' dc fun r' => Q (.val (.bl r')) ρ3) ∧ (r = false → Q (.val (.bl false)) ρ2)) := by rw [wE]
@[simp] theorem wE_k13 (Φ : Ctx) (c) (a) (b) (v : VE) (ρ0 : Env) (Q) : wE Φ (.ite c a b) (v :: ρ0) Q = (wE Φ c (v :: ρ0) fun rc ρ1 => lookP ρ1 rc fun dc => (match dc with | .bl t => (t = true → wE Φ a ρ1 Q) ∧ (t = false → wE Φ b ρ1 Q) | _ => False)) := by rw [wE]
@[simp] theorem wE_k14 (Φ : Ctx) (es) (v : VE) (ρ0 : Env) (Q) : wE Φ (.tup es) (v :: ρ0) Q = (wEs Φ es (v :: ρ0) fun ds ρ1 => ds.length ≤ sizeLine ∧ Q (.val (.tup ds)) ρ1) := by rw [wE]
@[simp] theorem wE_k15 (Φ : Ctx) (es) (v : VE) (ρ0 : Env) (Q) : wE Φ (.lst es) (v :: ρ0) Q = (wEs Φ es (v :: ρ0) fun ds ρ1 => ds.length ≤ sizeLine ∧ Q (.new (.lst ds)) ρ1) := by rw [wE]
@[simp] theorem wE_k16 (Φ : Ctx) (a) (es) (v : VE) (ρ0 : Env) (Q) : wE Φ (.star a es) (v :: ρ0) Q = (wE Φ a (v :: ρ0) fun ra ρ1 => frz ra ρ1 fun da ρ1 => ∃ xs, seq? da = some xs ∧ wEs Φ es ρ1 fun ds ρ2 => (xs ++ ds).length ≤ sizeLine ∧ Q (.new (.lst (xs ++ ds))) ρ2) := by rw [wE]
@[simp] theorem wE_k17 (Φ : Ctx) (a) (i) (v : VE) (ρ0 : Env) (Q) : wE Φ (.idx a i) (v :: ρ0) Q = (wE Φ a (v :: ρ0) fun ra ρ1 => wE Φ i ρ1 fun ri ρ2 => lookP ρ2 ra fun da => lookP ρ2 ri fun di => (match di with | .int n => idxW da n fun r => Q r ρ2 | _ => False)) := by rw [wE]
@[simp] theorem wE_k18 (Φ : Ctx) (a) (lo) (v : VE) (ρ0 : Env) (Q) : wE Φ (.sl1 a lo) (v :: ρ0) Q = (wE Φ a (v :: ρ0) fun ra ρ1 => wE Φ lo ρ1 fun ri ρ2 => lookP ρ2 ra fun da => lookP ρ2 ri fun di => (match di with | .int n => slW da (some n) none fun r => Q r ρ2 | _ => False)) := by rw [wE]
@[simp] theorem wE_k19 (Φ : Ctx) (a) (hi) (v : VE) (ρ0 : Env) (Q) : wE Φ (.sl2 a hi) (v :: ρ0) Q = (wE Φ a (v :: ρ0) fun ra ρ1 => wE Φ hi ρ1 fun ri ρ2 => lookP ρ2 ra fun da => lookP ρ2 ri fun di => (match di with | .int n => slW da none (some n) fun r => Q r ρ2 | _ => False)) := by rw [wE]
@[simp] theorem wE_k20 (Φ : Ctx) (a) (lo) (hi) (v : VE) (ρ0 : Env) (Q) : wE Φ (.sl3 a lo hi) (v :: ρ0) Q = (wE Φ a (v :: ρ0) fun ra ρ1 => wE Φ lo ρ1 fun ri ρ2 => lookP ρ2 ri fun di => (match di with | .int n => wE Φ hi ρ2 fun rj ρ3 => lookP ρ3 ra fun da => lookP ρ3 rj fun dj => (match dj with | .int m => slW da (some n) (some m) fun r => Q r ρ3 | _ => False) | _ => False)) := by rw [wE]
@[simp] theorem wE_k21 (Φ : Ctx) (a) (k) (v : VE) (ρ0 : Env) (Q) : wE Φ (.st1 a k) (v :: ρ0) Q = (wE Φ a (v :: ρ0) fun ra ρ1 => wE Φ k ρ1 fun rk ρ2 => lookP ρ2 ra fun da => lookP ρ2 rk fun dk => (match dk with | .int n => n ≠ 0 ∧ pkW da none n fun r => Q r ρ2 | _ => False)) := by rw [wE]
@[simp] theorem wE_k22 (Φ : Ctx) (a) (lo) (k) (v : VE) (ρ0 : Env) (Q) : wE Φ (.st2 a lo k) (v :: ρ0) Q = (wE Φ a (v :: ρ0) fun ra ρ1 => wE Φ lo ρ1 fun rl ρ2 => lookP ρ2 rl fun dl => (match dl with | .int l => wE Φ k ρ2 fun rk ρ3 => lookP ρ3 ra fun da => lookP ρ3 rk fun dk => (match dk with | .int n => n ≠ 0 ∧ pkW da (some l) n fun r => Q r ρ3 | _ => False) | _ => False)) := by rw [wE]
@[simp] theorem wE_k23 (Φ : Ctx) (f) (es) (v : VE) (ρ0 : Env) (Q) : wE Φ (.call f es) (v :: ρ0) Q = (∃ sp, Φ.F[f]? = some sp ∧ wRs Φ es (v :: ρ0) fun rs ρ1 => ∃ ds, looks ρ1 rs = some ds ∧ sp.2.run ds fun d =>
      if hasSlot rs = false ∨ flat d = true then Q (.val d) ρ1 else ∃ ρ2, frzAll rs ρ1 = some ρ2 ∧ Q (.val d) ρ2) := by rw [wE]
@[simp] theorem wE_k24 (Φ : Ctx) (f) (i) (es) (v : VE) (ρ0 : Env) (Q) : wE Φ (.callB f i es) (v :: ρ0) Q = (∃ sp, Φ.B[f]? = some sp ∧ obAt (v :: ρ0) i = true ∧ wRs Φ es (v :: ρ0) fun rs ρ1 => hasSlot rs = false ∧ ∃ ds, looks ρ1 rs = some ds ∧
      (match ρ1[i]? with | some (.own c) => sp.2.run c ds fun d c' => Q (.val d) (ρ1.set i (.own c')) | some (.bor c) => sp.2.run c ds fun d c' => Q (.val d) (ρ1.set i (.bor c')) | _ => False)) := by rw [wE]
@[simp] theorem wE_k25 (Φ : Ctx) (b) (es) (v : VE) (ρ0 : Env) (Q) : wE Φ (.bi b es) (v :: ρ0) Q = (wRs Φ es (v :: ρ0) fun rs ρ1 => ∃ ds, looks ρ1 rs = some ds ∧ biW b ds fun r => Q r ρ1) := by rw [wE]
@[simp] theorem wE_k26 (Φ : Ctx) (a) (t) (v : VE) (ρ0 : Env) (Q) : wE Φ (.isi a t) (v :: ρ0) Q = (wE Φ a (v :: ρ0) fun ra ρ1 => lookP ρ1 ra fun da => Q (.val (.bl (isTy t da))) ρ1) := by rw [wE]
@[simp] theorem wE_k27 (Φ : Ctx) (a) (k) (d) (v : VE) (ρ0 : Env) (Q) : wE Φ (.get a k d) (v :: ρ0) Q = (wE Φ a (v :: ρ0) fun ra ρ1 => (∃ kvs, look ρ1 ra = some (.dk kvs)) ∧ wE Φ k ρ1 fun rk ρ2 => wE Φ d ρ2 fun rd ρ3 => frz rd ρ3 fun dd ρ3 => lookP ρ3 ra fun da => lookP ρ3 rk fun dk => dgetW da dk fun o => Q (.val (o.getD dd)) ρ3) := by rw [wE]
@[simp] theorem wE_k28 (Φ : Ctx) (a) (k) (v : VE) (ρ0 : Env) (Q) : wE Φ (.dgt a k) (v :: ρ0) Q = (wE Φ a (v :: ρ0) fun ra ρ1 => wE Φ k ρ1 fun rk ρ2 => lookP ρ2 ra fun da => lookP ρ2 rk fun dk => dgetW da dk fun o => ∃ d, o = some d ∧ Q (.val d) ρ2) := by rw [wE]
@[simp] theorem wE_k29 (Φ : Ctx) (k) (a) (v : VE) (ρ0 : Env) (Q) : wE Φ (.din k a) (v :: ρ0) Q = (wE Φ k (v :: ρ0) fun rk ρ1 => wE Φ a ρ1 fun ra ρ2 => lookP ρ2 ra fun da => lookP ρ2 rk fun dk => dgetW da dk fun o => Q (.val (.bl o.isSome)) ρ2) := by rw [wE]
@[simp] theorem wE_k30 (Φ : Ctx) (i) (k) (v : VE) (ρ0 : Env) (Q) : wE Φ (.pop i k) (v :: ρ0) Q = ((∃ ds, (v :: ρ0)[i]? = some (.own (.lst ds))) ∧ wE Φ k (v :: ρ0) fun rk ρ1 => lookP ρ1 rk fun dk => (match ρ1[i]?, dk with
      | some (.own (.lst ds)), .int n => 0 ≤ n ∧ n < 2 ^ 63 ∧ ∃ d, ds[n.toNat]? = some d ∧ Q (.val d) (ρ1.set i (.own (.lst (ds.eraseIdx n.toNat)))) | _, _ => False)) := by rw [wE]
@[simp] theorem wE_k32 (Φ : Ctx) (a) (b) (v : VE) (ρ0 : Env) (Q) : wE Φ (.lrg a b) (v :: ρ0) Q = (wE Φ a (v :: ρ0) fun ra ρ1 => wE Φ b ρ1 fun rb ρ2 => lookP ρ2 ra fun da => lookP ρ2 rb fun db => (match da, db with | .int i, .int j => RgOk i j ∧ Q (.new (.lst (rangeD i (j - i).toNat))) ρ2 | _, _ => False)) := by rw [wE]
@[simp] theorem wE_k33 (Φ : Ctx) (a) (v : VE) (ρ0 : Env) (Q) : wE Φ (.lr1 a) (v :: ρ0) Q = (wE Φ a (v :: ρ0) fun ra ρ1 => lookP ρ1 ra fun da => (match da with | .int j => RgOk 0 j ∧ Q (.new (.lst (rangeD 0 j.toNat))) ρ1 | _ => False)) := by rw [wE]
@[simp] theorem wE_k34 (Φ : Ctx) (a) (v : VE) (ρ0 : Env) (Q) : wE Φ (.sset a) (v :: ρ0) Q = (wE Φ a (v :: ρ0) fun ra ρ1 => lookP ρ1 ra fun da => (match da with | .lst ds => ∃ ns, ints? ds = some ns ∧ ns.length < 64 ∧ ∀ ns' : List Int, ns'.Pairwise (· < ·) → (∀ k, k ∈ ns' ↔ k ∈ ns) → Q (.new (.lst (ns'.map D.int))) ρ1 | _ => False)) := by rw [wE]
@[simp] theorem wE_k35 (Φ : Ctx) (a) (v : VE) (ρ0 : Env) (Q) : wE Φ (.dl a) (v :: ρ0) Q = (wE Φ a (v :: ρ0) fun ra ρ1 => lookP ρ1 ra fun da => ∃ xs, seq? da = some xs ∧ ∃ kvs, pairsD xs = some kvs ∧ Q (.new (.dk (mergeD [] kvs))) ρ1) := by rw [wE]
@[simp] theorem wE_k36 (Φ : Ctx) (a) (v : VE) (ρ0 : Env) (Q) : wE Φ (.sdl a) (v :: ρ0) Q = (wE Φ a (v :: ρ0) fun ra ρ1 => lookP ρ1 ra fun da => (match da with | .dk kvs => ∃ ps : List (Int × Int), kvs = ps.map (fun p => ((Sum.inl p.1 : Key), D.int p.2)) ∧ ∀ qs : List (Int × Int), qs.Perm ps → qs.Pairwise (fun x y => x.1 < y.1 ∨ x.1 = y.1 ∧ x.2 ≤ y.2) → Q (.new (.lst (qs.map fun p => .tup [.int p.1, .int p.2]))) ρ1 | _ => False)) := by rw [wE]
@[simp] theorem wE_k38 (Φ : Ctx)  (v : VE) (ρ0 : Env) (Q) : wE Φ (.edk) (v :: ρ0) Q = (Q (.new (.dk [])) (v :: ρ0)) := by rw [wE]
@[simp] theorem wE_k39 (Φ : Ctx)  (v : VE) (ρ0 : Env) (Q) : wE Φ (.edt) (v :: ρ0) Q = (Q (.new (.dt [])) (v :: ρ0)) := by rw [wE]
@[simp] theorem wE_k40 (Φ : Ctx) (m) (o) (a) (v : VE) (ρ0 : Env) (Q) : wE Φ (.mt m o a) (v :: ρ0) Q = (wE Φ o (v :: ρ0) fun ro ρ1 => wE Φ a ρ1 fun ra ρ2 => lookP ρ2 ro fun do' => lookP ρ2 ra fun da => m.W do' da fun r => Q r ρ2) := by rw [wE]
@[simp] theorem wE_k41 (Φ : Ctx) (own) (tg) (k) (srcs) (elt) (v : VE) (ρ0 : Env) (Q) : wE Φ (.comp own tg k srcs elt) (v :: ρ0) Q = (wRs Φ srcs (v :: ρ0) fun rs ρ1 => ∃ cs, looks ρ1 rs = some cs ∧ srcW k cs fun ds => noObs ρ1 own = true ∧ offOwn rs own = true ∧ ds.length ≤ sizeLine ∧
      compW (fun d ρ' K => tgW tg d (wipeE ρ' own) fun ρ'' => wE Φ elt ρ'' fun r ρ3 => frz r ρ3 fun x ρ4 => K (some x) ρ4) (fun ρ' => looks (wipeE ρ' own) rs = some cs) ds ρ1 [] fun acc ρ' => Q (.new (.lst acc)) (backE ρ1 ρ' own)) := by rw [wE]
@[simp] theorem wE_k42 (Φ : Ctx) (own) (tg) (k) (srcs) (c) (elt) (v : VE) (ρ0 : Env) (Q) : wE Φ (.compIf own tg k srcs c elt) (v :: ρ0) Q = (wRs Φ srcs (v :: ρ0) fun rs ρ1 => ∃ cs, looks ρ1 rs = some cs ∧ srcW k cs fun ds => noObs ρ1 own = true ∧ offOwn rs own = true ∧ ds.length ≤ sizeLine ∧
      compW (fun d ρ' K => tgW tg d (wipeE ρ' own) fun ρ'' => wE Φ c ρ'' fun rc ρ3 => lookP ρ3 rc fun dc => (match dc with
        | .bl t => (t = true → wE Φ elt ρ3 fun r ρ4 => frz r ρ4 fun x ρ5 => K (some x) ρ5) ∧ (t = false → K none ρ3) | _ => False)) (fun ρ' => looks (wipeE ρ' own) rs = some cs) ds ρ1 [] fun acc ρ' => Q (.new (.lst acc)) (backE ρ1 ρ' own)) := by rw [wE]
@[simp] theorem wE_k43 (Φ : Ctx) (f) (es) (v : VE) (ρ0 : Env) (Q) : wE Φ (.callN f es) (v :: ρ0) Q = (∃ sp, Φ.B[f]? = some sp ∧ wRs Φ es (v :: ρ0) fun rs ρ1 => hasSlot rs = false ∧ ∃ ds, looks ρ1 rs = some ds ∧ sp.2.run .non ds fun _ c => Q (.new c) ρ1) := by rw [wE]
@[simp] theorem wEs_k0 (Φ : Ctx)  (ρ : Env) (Q) : wEs Φ ([]) ρ Q = (Q [] ρ) := by rw [wEs]
@[simp] theorem wEs_k1 (Φ : Ctx) (e) (es) (v : VE) (ρ0 : Env) (Q) : wEs Φ (e :: es) (v :: ρ0) Q = (wE Φ e (v :: ρ0) fun r ρ1 => frz r ρ1 fun d ρ1 => wEs Φ es ρ1 fun ds ρ2 => Q (d :: ds) ρ2) := by rw [wEs]
@[simp] theorem wRs_k0 (Φ : Ctx)  (ρ : Env) (Q) : wRs Φ ([]) ρ Q = (Q [] ρ) := by rw [wRs]
@[simp] theorem wRs_k1 (Φ : Ctx) (e) (es) (v : VE) (ρ0 : Env) (Q) : wRs Φ (e :: es) (v :: ρ0) Q = (wE Φ e (v :: ρ0) fun r ρ1 => wRs Φ es ρ1 fun rs ρ2 => Q (keep r :: rs) ρ2) := by rw [wRs]
@[simp] theorem wNs_k0 (Φ : Ctx)  (ρ : Env) (Q) : wNs Φ ([]) ρ Q = (Q [] ρ) := by rw [wNs]
@[simp] theorem wNs_k1 (Φ : Ctx) (e) (es) (v : VE) (ρ0 : Env) (Q) : wNs Φ (e :: es) (v :: ρ0) Q = (wE Φ e (v :: ρ0) fun r ρ1 => (match r with
    | .new c => wNs Φ es ρ1 fun ws ρ2 => Q (.own c :: ws) ρ2
    | r => frz r ρ1 fun d ρ1' => wNs Φ es ρ1' fun ws ρ2 => Q (.sh d :: ws) ρ2)) := by rw [wNs]
@[simp] theorem wS_k0 (Φ : Ctx) (i) (e) (v : VE) (ρ0 : Env) (D) : wS Φ (.set i e) (v :: ρ0) D = (wE Φ e (v :: ρ0) fun r ρ1 => toVE r ρ1 fun v ρ2 => setE ρ2 i v D.nx) := by rw [wS]
@[simp] theorem wS_k1 (Φ : Ctx) (tg) (e) (v : VE) (ρ0 : Env) (D) : wS Φ (.setT tg e) (v :: ρ0) D = (wE Φ e (v :: ρ0) fun r ρ1 => frz r ρ1 fun d ρ2 => tgW tg d ρ2 D.nx) := by rw [wS]
@[simp] theorem wS_k2 (Φ : Ctx) (is) (es) (v : VE) (ρ0 : Env) (D) : wS Φ (.par is es) (v :: ρ0) D = (wNs Φ es (v :: ρ0) fun ws ρ1 => ws.length ≤ sizeLine ∧ setNs is ws ρ1 D.nx) := by rw [wS]
@[simp] theorem wS_k3 (Φ : Ctx) (i) (k) (e) (v : VE) (ρ0 : Env) (D) : wS Φ (.put i k e) (v :: ρ0) D = (wE Φ e (v :: ρ0) fun r ρ1 => frz r ρ1 fun d ρ1 => obAt ρ1 i = true ∧ wE Φ k ρ1 fun rk ρ2 => lookP ρ2 rk fun dk => (match ρ2[i]? with
      | some (.own c) => putW c dk d fun c' => D.nx (ρ2.set i (.own c')) | some (.bor c) => putW c dk d fun c' => D.nx (ρ2.set i (.bor c')) | _ => False)) := by rw [wS]
@[simp] theorem wS_k4 (Φ : Ctx) (e) (v : VE) (ρ0 : Env) (D) : wS Φ (.exp e) (v :: ρ0) D = (wE Φ e (v :: ρ0) fun _ ρ1 => D.nx ρ1) := by rw [wS]
@[simp] theorem wS_k5 (Φ : Ctx) (i) (e) (v : VE) (ρ0 : Env) (D) : wS Φ (.app i e) (v :: ρ0) D = ((∃ ds, (v :: ρ0)[i]? = some (.own (.lst ds)) ∨ (v :: ρ0)[i]? = some (.bor (.lst ds))) ∧ wE Φ e (v :: ρ0) fun r ρ1 => frz r ρ1 fun d ρ1 => (match ρ1[i]? with
      | some (.own (.lst ds)) => ds.length < sizeLine ∧ D.nx (ρ1.set i (.own (.lst (ds ++ [d])))) | some (.bor (.lst ds)) => ds.length < sizeLine ∧ D.nx (ρ1.set i (.bor (.lst (ds ++ [d])))) | _ => False)) := by rw [wS]
@[simp] theorem wS_k7 (Φ : Ctx) (e) (v : VE) (ρ0 : Env) (D) : wS Φ (.ret e) (v :: ρ0) D = (wE Φ e (v :: ρ0) fun r ρ1 => frz r ρ1 fun d ρ2 => D.rt d ρ2) := by rw [wS]
@[simp] theorem wS_k8 (Φ : Ctx) (c) (a) (b) (v : VE) (ρ0 : Env) (D) : wS Φ (.ife c a b) (v :: ρ0) D = (wE Φ c (v :: ρ0) fun rc ρ1 => lookP ρ1 rc fun dc => (match dc with | .bl t => (t = true → wSs Φ a ρ1 D) ∧ (t = false → wSs Φ b ρ1 D) | _ => False)) := by rw [wS]
@[simp] theorem wS_k9 (Φ : Ctx) (tg) (k) (srcs) (body) (v : VE) (ρ0 : Env) (D) : wS Φ (.for tg k srcs body) (v :: ρ0) D = (wRs Φ srcs (v :: ρ0) fun rs ρ1 => ∃ cs ρ2, looks ρ1 rs = some cs ∧ frzAll rs ρ1 = some ρ2 ∧ srcW k cs fun ds =>
      forW (fun d ρ' K => tgW tg d ρ' fun ρ'' => wSs Φ body ρ'' { nx := K, rt := D.rt, bk := D.nx }) ds ρ2 D.nx) := by rw [wS]
@[simp] theorem wS_k11 (Φ : Ctx)  (v : VE) (ρ0 : Env) (D) : wS Φ (.brk) (v :: ρ0) D = (D.bk (v :: ρ0)) := by rw [wS]
@[simp] theorem wS_k13 (Φ : Ctx)  (v : VE) (ρ0 : Env) (D) : wS Φ (.pass) (v :: ρ0) D = (D.nx (v :: ρ0)) := by rw [wS]
@[simp] theorem wS_k14 (Φ : Ctx) (i) (k) (j) (a) (b) (v : VE) (ρ0 : Env) (D) : wS Φ (.put2 i k j a b) (v :: ρ0) D = (wEs Φ [a, b] (v :: ρ0) fun ds ρ1 => (match ds with
      | [d1, d2] => 2 ≤ sizeLine ∧ (match ρ1[k]? with
        | some (.sh dk) => (match ρ1[i]? with
          | some (.own c) => putW c dk d1 fun c' => setE (ρ1.set i (.own c')) j (.sh d2) D.nx
          | _ => False)
        | _ => False)
      | _ => False)) := by rw [wS]
@[simp] theorem wS_k15 (Φ : Ctx) (e) (v : VE) (ρ0 : Env) (D) : wS Φ (.retN e) (v :: ρ0) D = (wE Φ e (v :: ρ0) fun r ρ1 => (match r with | .new c => D.rn c ρ1 | _ => False)) := by rw [wS]
@[simp] theorem wSs_k0 (Φ : Ctx)  (ρ : Env) (D) : wSs Φ ([]) ρ D = (D.nx ρ) := by rw [wSs]
@[simp] theorem wSs_k1 (Φ : Ctx) (s) (ss) (v : VE) (ρ0 : Env) (D) : wSs Φ (s :: ss) (v :: ρ0) D = (wS Φ s (v :: ρ0) { D with nx := fun ρ' => wSs Φ ss ρ' D }) := by rw [wSs]
end PL
set_option Elab.async false
set_option linter.all false
set_option maxRecDepth 100000
set_option maxHeartbeats 4000000
namespace PL
open PySem PySem.Spec L2
structure Fr where
  H0 : Hp
  S0 : Hp
  B : Option Addr
structure Rel (K : PySem.W.Frag) (fr : Fr) (σ : St) (H Hs : Hp) (ρ : Env) : Prop where
  sub : Leq Hs H
  len : ρ.length = σ.length
  sh : ∀ (i : Nat) (d : D), ρ[i]? = some (.sh d) → ∃ v, σ[i]? = some (some v) ∧ Den K Hs d v
  ow : ∀ (i : Nat) (c : D), ρ[i]? = some (.own c) → ∃ a, σ[i]? = some (some (.ref a)) ∧ Hs a = none ∧ fr.H0 a = none ∧ fr.B ≠ some a ∧ Cont K H Hs a c
  br : ∀ (i : Nat) (c : D), ρ[i]? = some (.bor c) → ∃ a, σ[i]? = some (some (.ref a)) ∧ Hs a = none ∧ fr.B = some a ∧ Cont K H Hs a c
  sep : ∀ (i j : Nat) (a : Addr), obAt ρ i = true → obAt ρ j = true → σ[i]? = some (some (.ref a)) → σ[j]? = some (some (.ref a)) → i = j
  fra : ∀ a o, fr.H0 a = some o → fr.B ≠ some a → H a = some o
  dom : ∀ a, fr.H0 a ≠ none → H a ≠ none
  bin : ∀ a, fr.B = some a → H a ≠ none
  s0 : Leq fr.S0 Hs
  nw : ∀ a, Hs a ≠ none → fr.S0 a ≠ none ∨ fr.H0 a = none
def OVr (K : PySem.W.Frag) (fr : Fr) (σ : St) (H Hs : Hp) (ρ : Env) (v : V) : RD → Prop
  | .val d => Den K Hs d v
  | .new c => ∃ p, v = .ref p ∧ Hs p = none ∧ fr.H0 p = none ∧ fr.B ≠ some p ∧ Cont K H Hs p c ∧ ∀ (i : Nat), obAt ρ i = true → σ[i]? ≠ some (some (.ref p))
  | .slot i => σ[i]? = some (some v)
theorem leq_upd {H : Hp} {p : Addr} {o : HO} (h : H p = none) : Leq H (upd H p o) := fun b x e => by rw [upd_ne (ne_of_none e h)]; exact e
theorem leq_upd2 {H Hs : Hp} {p : Addr} {o : HO} (h : Hs p = none) (s : Leq Hs H) : Leq Hs (upd H p o) := fun b x e => by rw [upd_ne (ne_of_none e h)]; exact s _ _ e
theorem leq_both {H Hs : Hp} {p : Addr} {o : HO} (s : Leq Hs H) : Leq (upd Hs p o) (upd H p o) := fun b x e => by
  by_cases hb : b = p
  · subst hb; rw [upd_same] at e ⊢; exact e
  · rw [upd_ne hb] at e ⊢; exact s _ _ e
theorem leq_in {H Hs : Hp} {p : Addr} {o : HO} (s : Leq Hs H) (e : H p = some o) : Leq (upd Hs p o) H := fun b x q => by
  by_cases hb : b = p
  · subst hb; rw [upd_same] at q; cases q; exact e
  · rw [upd_ne hb] at q; exact s _ _ q
theorem Leq.rfl' {H : Hp} : Leq H H := fun _ _ e => e
theorem Leq.tr {A B C : Hp} (a : Leq A B) (b : Leq B C) : Leq A C := fun c o h => b c o (a c o h)
theorem Leq.free {A B : Hp} (a : Leq A B) {p : Addr} (h : B p = none) : A p = none := by
  cases q : A p with
  | none => rfl
  | some o => rw [a _ _ q] at h; cases h
theorem obAt_own {ρ : Env} {i : Nat} {c : D} (h : ρ[i]? = some (.own c)) : obAt ρ i = true := by simp [obAt, h]
theorem obAt_bor {ρ : Env} {i : Nat} {c : D} (h : ρ[i]? = some (.bor c)) : obAt ρ i = true := by simp [obAt, h]
theorem obAt_cases {ρ : Env} {i : Nat} (h : obAt ρ i = true) : (∃ c, ρ[i]? = some (.own c)) ∨ ∃ c, ρ[i]? = some (.bor c) := by
  unfold obAt at h
  split at h
  · exact .inl ⟨_, by assumption⟩
  · exact .inr ⟨_, by assumption⟩
  · cases h
section
variable {K : PySem.W.Frag} {fr : Fr} {σ : St} {H H' Hs Hs' : Hp} {ρ : Env}
theorem Rel.addr (r : Rel K fr σ H Hs ρ) {i : Nat} (h : obAt ρ i = true) : ∃ a, σ[i]? = some (some (.ref a)) ∧ Hs a = none ∧ H a ≠ none := by
  rcases obAt_cases h with ⟨c, e⟩ | ⟨c, e⟩
  · obtain ⟨a, h1, h2, _, _, h4⟩ := r.ow i c e; exact ⟨a, h1, h2, h4.some⟩
  · obtain ⟨a, h1, h2, _, h4⟩ := r.br i c e; exact ⟨a, h1, h2, h4.some⟩
/-- the heap grows by one that nobody knows -/
theorem Rel.grow (r : Rel K fr σ H Hs ρ) {p : Addr} {o : HO} (hp : H p = none) : Rel K fr σ (upd H p o) Hs ρ where
  sub := leq_upd2 (r.sub.free hp) r.sub
  len := r.len
  sh := r.sh
  ow := fun i c e => by
    obtain ⟨a, h1, h2, h3, h5, h4⟩ := r.ow i c e
    exact ⟨a, h1, h2, h3, h5, h4.leq (upd_ne (fun z => h4.some (by rw [z]; exact hp))) .rfl'⟩
  br := fun i c e => by
    obtain ⟨a, h1, h2, h3, h4⟩ := r.br i c e
    exact ⟨a, h1, h2, h3, h4.leq (upd_ne (fun z => h4.some (by rw [z]; exact hp))) .rfl'⟩
  sep := r.sep
  fra := fun a o h1 h2 => by rw [upd_ne (ne_of_none (r.fra a o h1 h2) hp)]; exact r.fra a o h1 h2
  dom := fun a h1 => by
    by_cases ha : a = p
    · rw [ha, upd_same]; simp
    · rw [upd_ne ha]; exact r.dom a h1
  bin := fun a h1 => by
    by_cases ha : a = p
    · rw [ha, upd_same]; simp
    · rw [upd_ne ha]; exact r.bin a h1
  s0 := r.s0
  nw := r.nw
/-- the known heap grows by what is there and no name's own -/
theorem Rel.know (r : Rel K fr σ H Hs ρ) {p : Addr} {o : HO} (e : H p = some o) (h0 : Hs p = none) (hz : fr.H0 p = none) (hn : ∀ (i : Nat), obAt ρ i = true → σ[i]? ≠ some (some (.ref p))) : Rel K fr σ H (upd Hs p o) ρ where
  sub := leq_in r.sub e
  len := r.len
  sh := fun i d h => by obtain ⟨v, h1, h2⟩ := r.sh i d h; exact ⟨v, h1, h2.leq (leq_upd h0)⟩
  ow := fun i c h => by
    obtain ⟨a, h1, h2, h3, h5, h4⟩ := r.ow i c h
    refine ⟨a, h1, ?_, h3, h5, h4.leq rfl (leq_upd h0)⟩
    rw [upd_ne (fun z => hn i (obAt_own h) (by rw [h1, z]))]; exact h2
  br := fun i c h => by
    obtain ⟨a, h1, h2, h3, h4⟩ := r.br i c h
    refine ⟨a, h1, ?_, h3, h4.leq rfl (leq_upd h0)⟩
    rw [upd_ne (fun z => hn i (obAt_bor h) (by rw [h1, z]))]; exact h2
  sep := r.sep
  fra := r.fra
  dom := r.dom
  bin := r.bin
  s0 := r.s0.tr (leq_upd h0)
  nw := fun b q => by
    by_cases hb : b = p
    · rw [hb]; exact .inr hz
    · rw [upd_ne hb] at q; exact r.nw b q
/-- both at once -/
theorem Rel.h0 (r : Rel K fr σ H Hs ρ) {p : Addr} (hp : H p = none) : fr.H0 p = none := by
  cases q : fr.H0 p with
  | none => rfl
  | some o => exact absurd hp (r.dom p (by rw [q]; simp))
theorem Rel.made (r : Rel K fr σ H Hs ρ) {p : Addr} {o : HO} (hp : H p = none) : Rel K fr σ (upd H p o) (upd Hs p o) ρ :=
  (r.grow hp).know upd_same (r.sub.free hp) (r.h0 hp) fun i hi z => by
    obtain ⟨a, h1, _, h3⟩ := r.addr hi
    rw [h1] at z
    have e : a = p := by injection z with z; injection z with z; injection z
    exact h3 (by rw [e]; exact hp)
theorem Rel.new (r : Rel K fr σ H Hs ρ) {p : Addr} {o : HO} {c : D} (hp : H p = none) (hc : Cont K (upd H p o) Hs p c) : OVr K fr σ (upd H p o) Hs ρ (.ref p) (.new c) :=
  ⟨p, rfl, r.sub.free hp, r.h0 hp, fun z => r.bin p z hp, hc, fun i hi z => by
    obtain ⟨a, h1, _, h3⟩ := r.addr hi
    rw [h1] at z
    have e : a = p := by injection z with z; injection z with z; injection z
    exact h3 (by rw [e]; exact hp)⟩
theorem cont_obj {a : Addr} {c : D} (h : Cont K H Hs a c) (q : Hs a = none) : ∃ o, H a = some o ∧ Den K (upd Hs a o) c (.ref a) := by
  cases c <;> simp only [Cont] at h
  case lst =>
    obtain ⟨vs, h1, h2⟩ := h
    exact ⟨_, h1, by rw [Den]; exact ⟨a, vs, rfl, upd_same, h2.leq (leq_upd q)⟩⟩
  case dk =>
    obtain ⟨vs, h1, h2⟩ := h
    exact ⟨_, h1, by rw [Den]; exact ⟨a, vs, rfl, upd_same, h2.leq (leq_upd q)⟩⟩
  case dt =>
    obtain ⟨vs, h1, h2⟩ := h
    exact ⟨_, h1, by rw [Den]; exact ⟨a, vs, rfl, upd_same, h2.leq (leq_upd q)⟩⟩
theorem OVr.leq {v : V} {d : D} (h : OVr K fr σ H Hs ρ v (.val d)) (l : Leq Hs Hs') {H' : Hp} {ρ' : Env} : OVr K fr σ H' Hs' ρ' v (.val d) := Den.leq l h
/-- what is kept beside others stays told -/
theorem OVr.stay {v : V} {rd : RD} (h : OVr K fr σ H Hs ρ v (keep rd)) (l : Leq Hs Hs') {H' : Hp} {ρ' : Env} : OVr K fr σ H' Hs' ρ' v (keep rd) := by
  cases rd with
  | val d => exact Den.leq l h
  | new d => exact Den.leq l h
  | slot i => exact h
theorem keep_ok (r : Rel K fr σ H Hs ρ) {v : V} {rd : RD} (h : OVr K fr σ H Hs ρ v rd) : ∃ Hs', Leq Hs Hs' ∧ Rel K fr σ H Hs' ρ ∧ OVr K fr σ H Hs' ρ v (keep rd) := by
  cases rd with
  | val d => exact ⟨Hs, .rfl', r, h⟩
  | slot i => exact ⟨Hs, .rfl', r, h⟩
  | new c =>
    obtain ⟨p, rfl, h1, h2, h3, h4, h5⟩ := h
    obtain ⟨o, e, den⟩ := cont_obj h4 h1
    exact ⟨upd Hs p o, leq_upd h1, r.know e h1 h2 h5, den⟩
theorem look_keep (ρ : Env) (rd : RD) : look ρ (keep rd) = look ρ rd := by cases rd <;> rfl
theorem look_top (r : Rel K fr σ H Hs ρ) {v : V} {rd : RD} {d : D} (h : OVr K fr σ H Hs ρ v rd) (e : look ρ rd = some d) : Top K H Hs d v := by
  cases rd with
  | val d' => cases e; exact Top.of r.sub h
  | new c =>
    cases e
    obtain ⟨p, rfl, h1, h2, h3, h4, h5⟩ := h
    exact h4.top
  | slot i =>
    have h : σ[i]? = some (some v) := h
    simp only [look_slot, Option.bind_eq_some_iff] at e
    obtain ⟨w, e1, e2⟩ := e
    cases w with
    | un => cases e2
    | sh d' =>
      cases e2
      obtain ⟨v', q1, q2⟩ := r.sh i d e1
      rw [h] at q1; cases q1
      exact Top.of r.sub q2
    | own c =>
      cases e2
      obtain ⟨a, q1, _, _, _, q2⟩ := r.ow i d e1
      rw [h] at q1; cases q1
      exact q2.top
    | bor c =>
      cases e2
      obtain ⟨a, q1, _, _, q2⟩ := r.br i d e1
      rw [h] at q1; cases q1
      exact q2.top
theorem getElem?_set' {α : Type} {l : List α} {i j : Nat} {x : α} : (l.set i x)[j]? = if i = j then (if i < l.length then some x else none) else l[j]? := by
  rw [List.getElem?_set]
theorem obAt_set {ρ : Env} {i j : Nat} {w : VE} (h : obAt (ρ.set i w) j = true) : (j = i ∧ w.ob.isSome = true ∧ i < ρ.length) ∨ (j ≠ i ∧ obAt ρ j = true) := by
  unfold obAt at h
  rw [getElem?_set'] at h
  by_cases e : i = j
  · subst e
    rw [if_pos rfl] at h
    by_cases hl : i < ρ.length
    · rw [if_pos hl] at h
      cases w <;> simp_all [VE.ob]
    · rw [if_neg hl] at h; cases h
  · rw [if_neg e] at h
    exact .inr ⟨fun z => e z.symm, h⟩
/-- a name that is its object's only holder lets others hold it -/
theorem Rel.freeze (r : Rel K fr σ H Hs ρ) {i : Nat} {c : D} (e : ρ[i]? = some (.own c)) : ∃ a o, σ[i]? = some (some (.ref a)) ∧ Hs a = none ∧ H a = some o ∧ Den K (upd Hs a o) c (.ref a) ∧ Rel K fr σ H (upd Hs a o) (ρ.set i (.sh c)) := by
  obtain ⟨a, h1, h2, h3, h5, h4⟩ := r.ow i c e
  obtain ⟨o, ho, den⟩ := cont_obj h4 h2
  have hi : i < ρ.length := (List.getElem?_eq_some_iff.mp e).1
  have ne : ∀ j b, j ≠ i → obAt ρ j = true → σ[j]? = some (some (.ref b)) → b ≠ a := fun j b hj ob hb z => by
    subst z
    exact hj (r.sep j i b ob (obAt_own e) hb h1)
  refine ⟨a, o, h1, h2, ho, den, ?_⟩
  refine ⟨leq_in r.sub ho, by simp [r.len], fun j d q => ?_, fun j d q => ?_, fun j d q => ?_, fun j k b q1 q2 => ?_, r.fra, r.dom, r.bin, r.s0.tr (leq_upd h2), fun b q => by
    by_cases hb : b = a
    · rw [hb]; exact .inr h3
    · rw [upd_ne hb] at q; exact r.nw b q⟩
  · rw [getElem?_set'] at q
    by_cases hj : i = j
    · subst hj
      rw [if_pos rfl, if_pos hi] at q
      cases q
      exact ⟨_, h1, den⟩
    · rw [if_neg hj] at q
      obtain ⟨v, q1, q2⟩ := r.sh j d q
      exact ⟨v, q1, q2.leq (leq_upd h2)⟩
  · rw [getElem?_set'] at q
    by_cases hj : i = j
    · subst hj
      rw [if_pos rfl, if_pos hi] at q
      cases q
    · rw [if_neg hj] at q
      obtain ⟨b, q1, q2, q3, q4, q5⟩ := r.ow j d q
      exact ⟨b, q1, by rw [upd_ne (ne j b (fun z => hj z.symm) (obAt_own q) q1)]; exact q2, q3, q4, q5.leq rfl (leq_upd h2)⟩
  · rw [getElem?_set'] at q
    by_cases hj : i = j
    · subst hj
      rw [if_pos rfl, if_pos hi] at q
      cases q
    · rw [if_neg hj] at q
      obtain ⟨b, q1, q2, q3, q5⟩ := r.br j d q
      exact ⟨b, q1, by rw [upd_ne (ne j b (fun z => hj z.symm) (obAt_bor q) q1)]; exact q2, q3, q5.leq rfl (leq_upd h2)⟩
  · rcases obAt_set q1 with ⟨_, z, _⟩ | ⟨_, q1⟩
    · simp [VE.ob] at z
    · rcases obAt_set q2 with ⟨_, z, _⟩ | ⟨_, q2⟩
      · simp [VE.ob] at z
      · exact r.sep j k b q1 q2
theorem frz_ok (r : Rel K fr σ H Hs ρ) {v : V} {rd : RD} {k : D → Env → Prop} (h : OVr K fr σ H Hs ρ v rd) (q : frz rd ρ k) :
    ∃ Hs' d ρ', Leq Hs Hs' ∧ Rel K fr σ H Hs' ρ' ∧ Den K Hs' d v ∧ k d ρ' := by
  cases rd with
  | val d => exact ⟨Hs, d, ρ, .rfl', r, h, q⟩
  | new c =>
    obtain ⟨p, rfl, h1, h2, h3, h4, h5⟩ := h
    obtain ⟨o, e, den⟩ := cont_obj h4 h1
    exact ⟨upd Hs p o, c, ρ, leq_upd h1, r.know e h1 h2 h5, den, q⟩
  | slot i =>
    have h : σ[i]? = some (some v) := h
    rw [frz_slot] at q
    split at q
    · obtain ⟨a, o, h1, h2, h3, h4, h5⟩ := r.freeze (by assumption)
      rw [h] at h1; cases h1
      exact ⟨_, _, _, leq_upd h2, h5, h4, q⟩
    · obtain ⟨v', q1, q2⟩ := r.sh i _ (by assumption)
      rw [h] at q1; cases q1
      exact ⟨Hs, _, ρ, .rfl', r, q2, q⟩
    · cases q
/-- a name is given data -/
theorem Rel.setSh (r : Rel K fr σ H Hs ρ) {i : Nat} {d : D} {v : V} (hv : Den K Hs d v) : Rel K fr (σ.set i (some v)) H Hs (ρ.set i (.sh d)) := by
  have hl : ∀ j, j ≠ i → (σ.set i (some v))[j]? = σ[j]? := fun j hj => by rw [getElem?_set', if_neg (fun z => hj z.symm)]
  refine ⟨r.sub, by simp [r.len], fun j e q => ?_, fun j e q => ?_, fun j e q => ?_, fun j k b q1 q2 => ?_, r.fra, r.dom, r.bin, r.s0, r.nw⟩
  · rw [getElem?_set'] at q
    by_cases hj : i = j
    · subst hj
      rw [if_pos rfl] at q
      by_cases hi : i < ρ.length
      · rw [if_pos hi] at q
        cases q
        exact ⟨v, by rw [getElem?_set', if_pos rfl, if_pos (by rw [← r.len]; exact hi)], hv⟩
      · rw [if_neg hi] at q; cases q
    · rw [if_neg hj] at q
      obtain ⟨w, q1, q2⟩ := r.sh j e q
      exact ⟨w, by rw [hl j (fun z => hj z.symm)]; exact q1, q2⟩
  · rw [getElem?_set'] at q
    by_cases hj : i = j
    · subst hj
      rw [if_pos rfl] at q
      split at q <;> cases q
    · rw [if_neg hj] at q
      obtain ⟨b, q1, q2⟩ := r.ow j e q
      exact ⟨b, by rw [hl j (fun z => hj z.symm)]; exact q1, q2⟩
  · rw [getElem?_set'] at q
    by_cases hj : i = j
    · subst hj
      rw [if_pos rfl] at q
      split at q <;> cases q
    · rw [if_neg hj] at q
      obtain ⟨b, q1, q2⟩ := r.br j e q
      exact ⟨b, by rw [hl j (fun z => hj z.symm)]; exact q1, q2⟩
  · rcases obAt_set q1 with ⟨_, z, _⟩ | ⟨n1, q1⟩
    · simp [VE.ob] at z
    · rcases obAt_set q2 with ⟨_, z, _⟩ | ⟨n2, q2⟩
      · simp [VE.ob] at z
      · rw [hl j n1, hl k n2]
        exact r.sep j k b q1 q2
/-- a name is given an object that nobody else holds -/
theorem Rel.setOwn (r : Rel K fr σ H Hs ρ) {i : Nat} {c : D} {v : V} (hv : OVr K fr σ H Hs ρ v (.new c)) : Rel K fr (σ.set i (some v)) H Hs (ρ.set i (.own c)) := by
  obtain ⟨p, rfl, p1, p2, p3, p4, p5⟩ := hv
  have hl : ∀ j, j ≠ i → (σ.set i (some (.ref p)))[j]? = σ[j]? := fun j hj => by rw [getElem?_set', if_neg (fun z => hj z.symm)]
  refine ⟨r.sub, by simp [r.len], fun j e q => ?_, fun j e q => ?_, fun j e q => ?_, fun j k b q1 q2 s1 s2 => ?_, r.fra, r.dom, r.bin, r.s0, r.nw⟩
  · rw [getElem?_set'] at q
    by_cases hj : i = j
    · subst hj
      rw [if_pos rfl] at q
      split at q <;> cases q
    · rw [if_neg hj] at q
      obtain ⟨w, q1, q2⟩ := r.sh j e q
      exact ⟨w, by rw [hl j (fun z => hj z.symm)]; exact q1, q2⟩
  · rw [getElem?_set'] at q
    by_cases hj : i = j
    · subst hj
      rw [if_pos rfl] at q
      by_cases hi : i < ρ.length
      · rw [if_pos hi] at q
        cases q
        exact ⟨p, by rw [getElem?_set', if_pos rfl, if_pos (by rw [← r.len]; exact hi)], p1, p2, p3, p4⟩
      · rw [if_neg hi] at q; cases q
    · rw [if_neg hj] at q
      obtain ⟨b, q1, q2⟩ := r.ow j e q
      exact ⟨b, by rw [hl j (fun z => hj z.symm)]; exact q1, q2⟩
  · rw [getElem?_set'] at q
    by_cases hj : i = j
    · subst hj
      rw [if_pos rfl] at q
      split at q <;> cases q
    · rw [if_neg hj] at q
      obtain ⟨b, q1, q2⟩ := r.br j e q
      exact ⟨b, by rw [hl j (fun z => hj z.symm)]; exact q1, q2⟩
  · rcases obAt_set q1 with ⟨e1, _, l1⟩ | ⟨n1, q1'⟩
    · rcases obAt_set q2 with ⟨e2, _, l2⟩ | ⟨n2, q2'⟩
      · rw [e1, e2]
      · subst e1
        rw [getElem?_set', if_pos rfl, if_pos (by rw [← r.len]; exact l1)] at s1
        rw [hl k n2] at s2
        have : p = b := by injection s1 with z; injection z with z; injection z
        subst this
        exact absurd s2 (p5 k q2')
    · rcases obAt_set q2 with ⟨e2, _, l2⟩ | ⟨n2, q2'⟩
      · subst e2
        rw [getElem?_set', if_pos rfl, if_pos (by rw [← r.len]; exact l2)] at s2
        rw [hl j n1] at s1
        have : p = b := by injection s2 with z; injection z with z; injection z
        subst this
        exact absurd s1 (p5 j q1')
      · rw [hl j n1] at s1
        rw [hl k n2] at s2
        exact r.sep j k b q1' q2' s1 s2
/-- the object of a name is changed in place -/
theorem Rel.putAt (r : Rel K fr σ H Hs ρ) {i : Nat} {c c' : D} {a : Addr} {o : HO} (e : ρ[i]? = some (.own c) ∨ ρ[i]? = some (.bor c)) (hs : σ[i]? = some (some (.ref a))) (hc : Cont K (upd H a o) Hs a c') :
    Rel K fr σ (upd H a o) Hs (ρ.set i (match ρ[i]? with | some (.own _) => .own c' | _ => .bor c')) := by
  have ob : obAt ρ i = true := by rcases e with e | e; exact obAt_own e; exact obAt_bor e
  have hi : i < ρ.length := by rcases e with e | e <;> exact (List.getElem?_eq_some_iff.mp e).1
  have h2 : Hs a = none := by
    rcases e with e | e
    · obtain ⟨b, h1, h2, _⟩ := r.ow i c e; rw [hs] at h1; cases h1; exact h2
    · obtain ⟨b, h1, h2, _⟩ := r.br i c e; rw [hs] at h1; cases h1; exact h2
  have ne : ∀ j b, j ≠ i → obAt ρ j = true → σ[j]? = some (some (.ref b)) → b ≠ a := fun j b hj ob' hb z => by
    subst z
    exact hj (r.sep j i b ob' ob hb hs)
  refine ⟨leq_upd2 h2 r.sub, by simp [r.len], fun j d q => ?_, fun j d q => ?_, fun j d q => ?_, fun j k b q1 q2 => ?_, fun b x q1 q2 => ?_, fun b q => ?_, fun b q => ?_, r.s0, r.nw⟩
  · rw [getElem?_set'] at q
    by_cases hj : i = j
    · subst hj
      rw [if_pos rfl, if_pos hi] at q
      rcases e with e | e <;> (rw [e] at q; cases q)
    · rw [if_neg hj] at q
      exact r.sh j d q
  · rw [getElem?_set'] at q
    by_cases hj : i = j
    · subst hj
      rw [if_pos rfl, if_pos hi] at q
      rcases e with e | e
      · rw [e] at q; cases q
        obtain ⟨b, h1, h2, h3, h4, _⟩ := r.ow i c e
        rw [hs] at h1; cases h1
        exact ⟨a, hs, h2, h3, h4, hc⟩
      · rw [e] at q; cases q
    · rw [if_neg hj] at q
      obtain ⟨b, q1, q2, q3, q4, q5⟩ := r.ow j d q
      exact ⟨b, q1, q2, q3, q4, q5.leq (upd_ne (ne j b (fun z => hj z.symm) (obAt_own q) q1)) .rfl'⟩
  · rw [getElem?_set'] at q
    by_cases hj : i = j
    · subst hj
      rw [if_pos rfl, if_pos hi] at q
      rcases e with e | e
      · rw [e] at q; cases q
      · rw [e] at q; cases q
        obtain ⟨b, h1, h2, h3, _⟩ := r.br i c e
        rw [hs] at h1; cases h1
        exact ⟨a, hs, h2, h3, hc⟩
    · rw [if_neg hj] at q
      obtain ⟨b, q1, q2, q3, q5⟩ := r.br j d q
      exact ⟨b, q1, q2, q3, q5.leq (upd_ne (ne j b (fun z => hj z.symm) (obAt_bor q) q1)) .rfl'⟩
  · have w : ∀ j, obAt (ρ.set i (match ρ[i]? with | some (.own _) => .own c' | _ => .bor c')) j = true → obAt ρ j = true := fun j q => by
      rcases obAt_set q with ⟨e1, _, _⟩ | ⟨_, q⟩
      · rw [e1]; exact ob
      · exact q
    exact r.sep j k b (w j q1) (w k q2)
  · by_cases hb : b = a
    · subst hb
      rcases e with e | e
      · obtain ⟨b', h1, _, h3, _⟩ := r.ow i c e
        rw [hs] at h1; cases h1
        rw [h3] at q1; cases q1
      · obtain ⟨b', h1, _, h3, _⟩ := r.br i c e
        rw [hs] at h1; cases h1
        exact absurd h3 q2
    · rw [upd_ne hb]; exact r.fra b x q1 q2
  · by_cases hb : b = a
    · rw [hb, upd_same]; simp
    · rw [upd_ne hb]; exact r.dom b q
  · by_cases hb : b = a
    · rw [hb, upd_same]; simp
    · rw [upd_ne hb]; exact r.bin b q
end
end PL
set_option Elab.async false
set_option linter.all false
set_option maxRecDepth 100000
set_option maxHeartbeats 4000000
namespace PL
open PySem PySem.Spec L2
/-! ### data compared: the library's data -/
mutual
theorem okD_lay : ∀ (n : Nat) (d : D), okD n d → (toPD d).canLay0 = true ∧ (toPD d).depth ≤ n
  | _, .non, _ => ⟨rfl, Nat.zero_le _⟩
  | _, .bl _, _ => ⟨rfl, Nat.zero_le _⟩
  | _, .int _, _ => ⟨rfl, Nat.zero_le _⟩
  | _, .str s, h => ⟨by simpa [okD, toPD, PyData.canLay0] using h, Nat.zero_le _⟩
  | 0, .tup _, h => by simp [okD] at h
  | 0, .lst _, h => by simp [okD] at h
  | 0, .ro _, h => by simp [okD] at h
  | n + 1, .tup ds, h => by
    rw [okD] at h
    obtain ⟨a, b⟩ := okD_lays n ds h
    exact ⟨by simpa [toPD, PyData.canLay0] using a, by simp only [toPD, PyData.depth]; omega⟩
  | n + 1, .lst ds, h => by
    rw [okD] at h
    obtain ⟨a, b⟩ := okD_lays n ds h
    exact ⟨by simpa [toPD, PyData.canLay0] using a, by simp only [toPD, PyData.depth]; omega⟩
  | n + 1, .ro ds, h => by
    rw [okD] at h
    obtain ⟨a, b⟩ := okD_lays n ds h
    exact ⟨by simpa [toPD, PyData.canLay0] using a, by simp only [toPD, PyData.depth]; omega⟩
  | _, .dk _, h => by simp [okD] at h
  | _, .dt _, h => by simp [okD] at h
theorem okD_lays : ∀ (n : Nat) (ds : List D), (∀ x ∈ ds, okD n x) → PyData.canLayAll0 (toPDs ds) = true ∧ PyData.depthAll (toPDs ds) ≤ n
  | _, [], _ => ⟨rfl, Nat.zero_le _⟩
  | n, d :: ds, h => by
    obtain ⟨a, b⟩ := okD_lay n d (h d List.mem_cons_self)
    obtain ⟨a', b'⟩ := okD_lays n ds fun x hx => h x (List.mem_cons_of_mem _ hx)
    exact ⟨by simp [toPDs, PyData.canLayAll0, a, a'], by simp only [toPDs, PyData.depthAll]; omega⟩
end
theorem cmpOk_shaped {d : D} (h : cmpOk d) : SeqAt.shaped (toPD d) = true := by
  obtain ⟨a, b⟩ := okD_lay 8 d h
  unfold SeqAt.shaped
  rw [a, Bool.true_and]
  exact decide_eq_true (by omega)
mutual
theorem den_dp {K : PySem.W.Frag} {H : Hp} : ∀ (n : Nat) (d : D) (v : V), okD n d → Den K H d v → Dp K H v (toPD d)
  | _, .non, _, _, h => by rw [Den] at h; subst h; exact .non
  | _, .bl b, _, _, h => by rw [Den] at h; subst h; exact .bl b
  | _, .int b, _, _, h => by rw [Den] at h; subst h; exact .int b
  | _, .str b, _, _, h => by rw [Den] at h; subst h; exact .str b
  | 0, .tup _, _, o, _ => by simp [okD] at o
  | 0, .lst _, _, o, _ => by simp [okD] at o
  | 0, .ro _, _, o, _ => by simp [okD] at o
  | n + 1, .tup ds, _, o, h => by
    rw [Den] at h
    obtain ⟨a, vs, rfl, h1, h2⟩ := h
    rw [toPD]
    exact .tup h1 (denL_dp n ds vs (by rw [okD] at o; exact o) h2)
  | n + 1, .lst ds, _, o, h => by
    rw [Den] at h
    obtain ⟨a, vs, rfl, h1, h2⟩ := h
    rw [toPD]
    exact .lst (SqL.of h1) (denL_dp n ds vs (by rw [okD] at o; exact o) h2)
  | n + 1, .ro ds, _, o, h => by
    rw [Den] at h
    obtain ⟨a, vs, rfl, h1, h2⟩ := h
    rw [toPD]
    exact .lst h1 (denL_dp n ds vs (by rw [okD] at o; exact o) h2)
  | _, .dk _, _, o, _ => by simp [okD] at o
  | _, .dt _, _, o, _ => by simp [okD] at o
theorem denL_dp {K : PySem.W.Frag} {H : Hp} : ∀ (n : Nat) (ds : List D) (vs : List V), (∀ x ∈ ds, okD n x) → DenL K H ds vs → DpAll K H vs (toPDs ds)
  | _, [], _, _, h => by rw [DenL] at h; subst h; exact .nil
  | n, d :: ds, _, o, h => by
    rw [DenL] at h
    obtain ⟨v, r, rfl, h1, h2⟩ := h
    rw [toPDs]
    exact .cons (den_dp n d v (o d List.mem_cons_self) h1) (denL_dp n ds r (fun x hx => o x (List.mem_cons_of_mem _ hx)) h2)
end
/-! ### operators, by data -/
def Post (K : PySem.W.Frag) (fr : Fr) (σ : L2.St) (Hs : Hp) (ρ : Env) (Q : RD → Prop) (Q' : VK) : Prop :=
  ∀ v H' Hs' rd, Rel K fr σ H' Hs' ρ → Leq Hs Hs' → OVr K fr σ H' Hs' ρ v rd → Q rd → Q' v H'
def OpS (K : PySem.W.Frag) (r : R2) (W : D → D → (RD → Prop) → Prop) : Prop :=
  ∀ fr σ H Hs ρ x y dx dy Q Q', Rel K fr σ H Hs ρ → Top K H Hs dx x → Top K H Hs dy y → W dx dy Q → Post K fr σ Hs ρ Q Q' → r x y H Q'
section
variable {K : PySem.W.Frag} {fr : Fr} {σ : L2.St} {H Hs : Hp} {ρ : Env} {Q : RD → Prop} {Q' : VK}
theorem Post.val (p : Post K fr σ Hs ρ Q Q') (r : Rel K fr σ H Hs ρ) {v : V} {d : D} (hv : Den K Hs d v) (q : Q (.val d)) : Q' v H := p v H Hs (.val d) r .rfl' hv q
theorem Post.tup (p : Post K fr σ Hs ρ Q Q') (r : Rel K fr σ H Hs ρ) {vs : List V} {ds : List D} (hv : DenL K Hs ds vs) (q : Q (.val (.tup ds))) {a : Addr} (ha : H a = none) : Q' (.ref a) (upd H a (.tup vs)) :=
  p _ _ (upd Hs a (.tup vs)) (.val (.tup ds)) (r.made ha) (leq_upd (r.sub.free ha)) (by rw [OVr, Den]; exact ⟨a, vs, rfl, SqT.of upd_same, hv.leq (leq_upd (r.sub.free ha))⟩) q
theorem Post.lst (p : Post K fr σ Hs ρ Q Q') (r : Rel K fr σ H Hs ρ) {vs : List V} {ds : List D} (hv : DenL K Hs ds vs) (q : Q (.new (.lst ds))) {a : Addr} (ha : H a = none) : Q' (.ref a) (upd H a (.lst vs)) :=
  p _ _ Hs (.new (.lst ds)) (r.grow ha) .rfl' (r.new ha ⟨vs, upd_same, hv⟩) q
theorem Post.dk (p : Post K fr σ Hs ρ Q Q') (r : Rel K fr σ H Hs ρ) {vs : List (Key × V)} {ds : List (Key × D)} (hv : DenK K Hs ds vs) (q : Q (.new (.dk ds))) {a : Addr} (ha : H a = none) : Q' (.ref a) (upd H a (.dK vs)) :=
  p _ _ Hs (.new (.dk ds)) (r.grow ha) .rfl' (r.new ha ⟨vs, upd_same, hv⟩) q
theorem Post.dt (p : Post K fr σ Hs ρ Q Q') (r : Rel K fr σ H Hs ρ) {vs : List (List Key × V)} {ds : List (List Key × D)} (hv : DenT K Hs ds vs) (q : Q (.new (.dt ds))) {a : Addr} (ha : H a = none) : Q' (.ref a) (upd H a (.dT vs)) :=
  p _ _ Hs (.new (.dt ds)) (r.grow ha) .rfl' (r.new ha ⟨vs, upd_same, hv⟩) q
theorem Top.int {n : Int} {v : V} (h : Top K H Hs (.int n) v) : v = .int n := by simpa [Top, Den] using h
theorem Top.bl {n : Bool} {v : V} (h : Top K H Hs (.bl n) v) : v = .bl n := by simpa [Top, Den] using h
theorem Top.str {n : Str} {v : V} (h : Top K H Hs (.str n) v) : v = .str n := by simpa [Top, Den] using h
theorem Top.non {v : V} (h : Top K H Hs .non v) : v = .non := by simpa [Top, Den] using h
theorem Top.tup {ds : List D} {v : V} (h : Top K H Hs (.tup ds) v) : ∃ a vs, v = .ref a ∧ SqT K Hs a vs ∧ DenL K Hs ds vs := by simpa [Top, Den] using h
theorem Top.ro {ds : List D} {v : V} (h : Top K H Hs (.ro ds) v) : ∃ a vs, v = .ref a ∧ SqL K Hs a vs ∧ DenL K Hs ds vs := by simpa [Top, Den] using h
theorem Top.lst {ds : List D} {v : V} (h : Top K H Hs (.lst ds) v) : ∃ a vs, v = .ref a ∧ H a = some (.lst vs) ∧ DenL K Hs ds vs := by simpa [Top] using h
theorem Top.dk {ds : List (Key × D)} {v : V} (h : Top K H Hs (.dk ds) v) : ∃ a vs, v = .ref a ∧ H a = some (.dK vs) ∧ DenK K Hs ds vs := by simpa [Top] using h
theorem Top.dt {ds : List (List Key × D)} {v : V} (h : Top K H Hs (.dt ds) v) : ∃ a vs, v = .ref a ∧ H a = some (.dT vs) ∧ DenT K Hs ds vs := by simpa [Top] using h
theorem denI {H : Hp} {i : Int} : Den K H (.int i) (.int i) := by rw [Den]
theorem denB {H : Hp} {i : Bool} : Den K H (.bl i) (.bl i) := by rw [Den]
theorem denS {H : Hp} {i : Str} : Den K H (.str i) (.str i) := by rw [Den]
theorem denN {H : Hp} : Den K H .non .non := by rw [Den]
end
/-! ### arithmetic -/
section
variable {X : Cx}
theorem op_fdivG : OpR X (binaryOp .FloorDiv) (rI divOk fun i j => .int (i.fdiv j)) := opI fun i j _ _ _ _ _ hc q => PyProof.Rows.floordiv_int hc.1 q (.inl hc.2)
theorem op_modG : OpR X (binaryOp .Mod) (rI (fun _ j => j ≠ 0) fun i j => .int (i.fmod j)) := op_modN
theorem op_powG : OpR X (binaryOp .Pow) (rI powOk fun i j => .int (i ^ j.toNat)) := opI fun i j _ _ _ _ _ hc q => PyProof.Rows.pow_int hc.1 hc.2 q
theorem op_mulG : OpR X (binaryOp .Mult) (rI mulOk fun i j => .int (i * j)) := opI fun i j _ _ _ _ _ hc q => PyProof.Rows.mul_int q (by obtain ⟨a, b, h1, h2, h3⟩ := hc; exact (mulx_ok h1 h2 h3).ok)
def rB (K : PySem.W.Frag) : BOp → R2
  | .add => fun x y H Q => ((rI0 (fun i j => .int (i + j)) x y H Q ∨ rCatA K x y H Q) ∨ rCat x y H Q) ∨ ∃ i j, x = .str i ∧ y = .str j ∧ i.length + j.length ≤ sizeLine ∧ Q (.str (i ++ j)) H
  | .sub => rI0 fun i j => .int (i - j)
  | .mul => fun x y H Q => (rI mulOk (fun i j => .int (i * j)) x y H Q ∨ rRep x y H Q) ∨ rRepT K x y H Q ∨ rRepT1 K x y H Q
  | .fdiv => rI divOk fun i j => .int (i.fdiv j)
  | .mod => rI (fun _ j => j ≠ 0) fun i j => .int (i.fmod j)
  | .pow => rI powOk fun i j => .int (i ^ j.toNat)
def bOp : BOp → Operator
  | .add => .Add | .sub => .Sub | .mul => .Mult | .fdiv => .FloorDiv | .mod => .Mod | .pow => .Pow
theorem rB_ok (op : BOp) : OpR X (binaryOp (bOp op)) (rB X.K op) := by
  cases op
  · exact .or (.or (.or op_add op_catA) op_cat) op_add_str
  · exact op_sub
  · exact .or (.or op_mulG op_rep) (.or op_repT op_repT1)
  · exact op_fdivG
  · exact op_modG
  · exact op_powG
theorem sq_len {K : PySem.W.Frag} {H Hs : Hp} {ds : List D} {vs : List V} (h : DenL K Hs ds vs) : vs.length = ds.length := h.length
theorem flat_rep {K : PySem.W.Frag} {Hs : Hp} {ds : List D} {vs : List V} (h : DenL K Hs ds vs) : ∀ n, DenL K Hs (List.replicate n ds).flatten (List.replicate n vs).flatten
  | 0 => by simp; exact .nil
  | n + 1 => by
    rw [List.replicate_succ, List.replicate_succ, List.flatten_cons, List.flatten_cons]
    exact h.append (flat_rep h n)
theorem opS_bin (K : PySem.W.Frag) (op : BOp) : OpS K (rB K op) (binW op) := by
  intro fr σ H Hs ρ x y dx dy Q Q' r tx ty w p
  cases op
  · -- add
    cases dx <;> cases dy <;> simp only [binW] at w
    case int.int i j =>
      rw [tx.int, ty.int]
      exact .inl (.inl (.inl ⟨i, j, rfl, rfl, p.val r denI w⟩))
    case str.str i j =>
      rw [tx.str, ty.str]
      exact .inr ⟨i, j, rfl, rfl, w.1, p.val r denS w.2⟩
    case tup.tup xs ys =>
      obtain ⟨a, vs, rfl, h1, h2⟩ := tx.tup
      obtain ⟨b, ws, rfl, g1, g2⟩ := ty.tup
      refine .inl (.inl (.inr ⟨a, b, vs, ws, rfl, rfl, sqT_leq r.sub h1, sqT_leq r.sub g1, by rw [h2.length, g2.length]; exact w.1, fun e => ?_, fun _ e => ?_, fun _ _ c hc => ?_⟩))
      · subst e
        have e0 : xs = [] := List.eq_nil_of_length_eq_zero (by rw [← h2.length]; rfl)
        subst e0
        exact p.val r (d := .tup ([] ++ ys)) (by rw [Den]; exact ⟨b, ws, rfl, g1, g2⟩) w.2
      · subst e
        have e0 : ys = [] := List.eq_nil_of_length_eq_zero (by rw [← g2.length]; rfl)
        subst e0
        exact p.val r (d := .tup (xs ++ [])) (by rw [List.append_nil, Den]; exact ⟨a, vs, rfl, h1, h2⟩) w.2
      · exact p.tup r (h2.append g2) w.2 hc
    case lst.lst xs ys =>
      obtain ⟨a, vs, rfl, h1, h2⟩ := tx.lst
      obtain ⟨b, ws, rfl, g1, g2⟩ := ty.lst
      exact .inl (.inr ⟨a, b, vs, ws, rfl, rfl, h1, g1, by rw [h2.length, g2.length]; exact w.1, fun c hc => p.lst r (h2.append g2) w.2 hc⟩)
  · cases dx <;> cases dy <;> simp only [binW] at w
    case int.int i j =>
      rw [tx.int, ty.int]
      exact ⟨i, j, rfl, rfl, p.val r denI w⟩
  · cases dx <;> cases dy <;> simp only [binW] at w
    case int.int i j =>
      rw [tx.int, ty.int]
      exact .inl (.inl ⟨i, j, rfl, rfl, w.1, p.val r denI w.2⟩)
    case lst.int xs n =>
      obtain ⟨a, vs, rfl, h1, h2⟩ := tx.lst
      rw [ty.int]
      exact .inl (.inr ⟨a, n, vs, rfl, rfl, h1, w.1, w.2.1, by rw [h2.length]; exact w.2.2.1, fun c hc => p.lst r (flat_rep h2 _) w.2.2.2 hc⟩)
    case tup.int xs n =>
      obtain ⟨a, vs, rfl, h1, h2⟩ := tx.tup
      rw [ty.int]
      have ne : vs ≠ [] := fun e => w.1 (List.eq_nil_of_length_eq_zero (by rw [← h2.length, e]; rfl))
      by_cases h2n : 2 ≤ n
      · exact .inr (.inl ⟨a, n, vs, rfl, rfl, sqT_leq r.sub h1, ne, h2n, w.2.2.1, by rw [h2.length]; exact w.2.2.2.1, fun c hc => p.tup r (flat_rep h2 _) w.2.2.2.2 hc⟩)
      · refine .inr (.inr ⟨a, n, vs, rfl, rfl, sqT_leq r.sub h1, w.2.1, ?_⟩)
        by_cases h1n : n = 1
        · subst h1n
          refine .inl ⟨rfl, p.val r (d := .tup (List.replicate (1 : Int).toNat xs).flatten) ?_ w.2.2.2.2⟩
          have : (List.replicate (1 : Int).toNat xs).flatten = xs := by simp
          rw [this, Den]
          exact ⟨a, vs, rfl, h1, h2⟩
        · refine .inr ⟨by omega, ne, fun c hc => ?_⟩
          have e0 : n.toNat = 0 := by omega
          have q := w.2.2.2.2
          rw [e0] at q
          exact p.tup r (vs := []) (ds := (List.replicate 0 xs).flatten) (by simp; exact .nil) q hc
  · cases dx <;> cases dy <;> simp only [binW] at w
    case int.int i j =>
      rw [tx.int, ty.int]
      exact ⟨i, j, rfl, rfl, w.1, p.val r denI w.2⟩
  · cases dx <;> cases dy <;> simp only [binW] at w
    case int.int i j =>
      rw [tx.int, ty.int]
      exact ⟨i, j, rfl, rfl, w.1, p.val r denI w.2⟩
  · cases dx <;> cases dy <;> simp only [binW] at w
    case int.int i j =>
      rw [tx.int, ty.int]
      exact ⟨i, j, rfl, rfl, w.1, p.val r denI w.2⟩
end
end PL
set_option Elab.async false
set_option linter.all false
set_option maxRecDepth 100000
set_option maxHeartbeats 4000000
namespace PL
open PySem PySem.Spec L2
/-! ### comparisons -/
section
variable {X : Cx}
def rInTup (K : PySem.W.Frag) (neg : Bool) : R2 := fun x y H Q => ∃ d ds, Dp K H x d ∧ Dp K H y (.tuple ds) ∧ SeqAt.shaped d = true ∧ SeqAt.shaped (.tuple ds) = true ∧ Q (.bl (if neg then !ds.any fun z => PyData.eqv z d else ds.any fun z => PyData.eqv z d)) H
theorem room_shaped {ds : List PyData} {d : PyData} {A : Around} (sd : SeqAt.shaped d = true) (hu : A.units + 65 < cLine) : A.units + 1 + min (PyData.depthAll ds) d.depth < cLine := by
  have h1 := SeqAt.depth_of_shaped sd
  have h2 : min (PyData.depthAll ds) d.depth ≤ d.depth := Nat.min_le_right _ _
  omega
theorem op_inTup (hu : X.A.units + 65 < cLine) : OpR X (compareOp .In) (rInTup X.K false) := by
  intro pins s σ H x y v u Q I rx ry h
  obtain ⟨d, ds, hd, he, sd, se, q⟩ := h
  obtain ⟨as, r1⟩ := Dp.reads I d x v hd rx
  obtain ⟨bs, r2⟩ := Dp.reads I (.tuple ds) y u he ry
  exact SeqAt.in_tuple_reads r2 r1 (SeqAt.canLay_of_shaped se) (SeqAt.canLay_of_shaped sd) (room_shaped sd hu) ⟨.bl _, H, I, rfl, q⟩
theorem op_notInTup (hu : X.A.units + 65 < cLine) : OpR X (compareOp .NotIn) (rInTup X.K true) := by
  intro pins s σ H x y v u Q I rx ry h
  obtain ⟨d, ds, hd, he, sd, se, q⟩ := h
  obtain ⟨as, r1⟩ := Dp.reads I d x v hd rx
  obtain ⟨bs, r2⟩ := Dp.reads I (.tuple ds) y u he ry
  exact SeqAt.notIn_tuple_reads r2 r1 (SeqAt.canLay_of_shaped se) (SeqAt.canLay_of_shaped sd) (room_shaped sd hu) ⟨.bl _, H, I, rfl, q⟩
def rC (K : PySem.W.Frag) : COp → R2
  | .eq => rEqD K
  | .ne => rNeD K
  | .lt => fun x y H Q => rI0 (fun i j => .bl (decide (i < j))) x y H Q ∨ ∃ i j, x = .str i ∧ y = .str j ∧ Q (.bl (decide (i.cps.toList < j.cps.toList))) H
  | .le => rI0 fun i j => .bl (decide (i ≤ j))
  | .gt => rI0 fun i j => .bl (decide (j < i))
  | .ge => rI0 fun i j => .bl (decide (j ≤ i))
  | .is => fun x y H Q => (y = .non ∧ Q (.bl (decide (x = .non))) H) ∨ ∃ a b, x = .bl a ∧ y = .bl b ∧ Q (.bl (decide (a = b))) H
  | .isn => fun x y H Q => (y = .non ∧ Q (.bl (!decide (x = .non))) H) ∨ ∃ a b, x = .bl a ∧ y = .bl b ∧ Q (.bl (!decide (a = b))) H
  | .inn => fun x y H Q => (rInD K x y H Q ∨ rInTup K false x y H Q) ∨ ∃ (c : Nat) (z : Str), x = .str ⟨#[c]⟩ ∧ y = .str z ∧ Q (.bl (decide (c ∈ z.cps.toList))) H
  | .nin => fun x y H Q => (rNotInD K x y H Q ∨ rInTup K true x y H Q) ∨ ∃ (c : Nat) (z : Str), x = .str ⟨#[c]⟩ ∧ y = .str z ∧ Q (.bl (!decide (c ∈ z.cps.toList))) H
def cOp : COp → CmpOp
  | .eq => .Eq | .ne => .NotEq | .lt => .Lt | .le => .LtE | .gt => .Gt | .ge => .GtE | .is => .Is | .isn => .IsNot | .inn => .In | .nin => .NotIn
theorem rC_ok (hu : X.A.units + 65 < cLine) (op : COp) : OpR X (compareOp (cOp op)) (rC X.K op) := by
  cases op
  · exact op_eqD (by omega)
  · exact op_neD (by omega)
  · exact .or op_lt op_lt_str
  · exact op_le
  · exact op_gt
  · exact op_ge
  · exact .or op_isN op_is_bl
  · exact .or op_notN op_isnot_bl
  · exact .or (.or (op_inD hu) (op_inTup hu)) op_in_sign
  · exact .or (.or (op_notInD hu) (op_notInTup hu)) op_notIn_sign
end
theorem any_pds (f : PyData → Bool) : ∀ ds : List D, ((toPDs ds).any f) = ds.any fun z => f (toPD z)
  | [] => rfl
  | d :: ds => by rw [toPDs, List.any_cons, List.any_cons, any_pds f ds]
/-- a comparison's promise -/
def CmpS (K : PySem.W.Frag) (r : R2) (W : D → D → (Bool → Prop) → Prop) : Prop :=
  ∀ H Hs x y dx dy Q (Q' : VK), Leq Hs H → Top K H Hs dx x → Top K H Hs dy y → W dx dy Q → (∀ b, Q b → Q' (.bl b) H) → r x y H Q'
theorem isW_ok (K : PySem.W.Frag) {neg : Bool} {H Hs : Hp} {x y : V} {dx dy : D} {Q : Bool → Prop} {Q' : VK} (sub : Leq Hs H) (tx : Top K H Hs dx x) (ty : Top K H Hs dy y) (w : isW neg dx dy Q) (p : ∀ b, Q b → Q' (.bl b) H) :
    (y = .non ∧ Q' (.bl (decide (x = .non) ^^ neg)) H) ∨ ∃ a b, x = .bl a ∧ y = .bl b ∧ Q' (.bl (decide (a = b) ^^ neg)) H := by
  cases dy
  case non =>
    refine .inl ⟨ty.non, ?_⟩
    have w : Q (isN dx ^^ neg) := by cases dx <;> exact w
    have e : decide (x = .non) = isN dx := by
      cases dx
      case non => rw [tx.non]; rfl
      case bl => rw [tx.bl]; rfl
      case int => rw [tx.int]; rfl
      case str => rw [tx.str]; rfl
      case tup => obtain ⟨a, vs, rfl, _⟩ := tx.tup; rfl
      case lst => obtain ⟨a, vs, rfl, _⟩ := tx.lst; rfl
      case ro => obtain ⟨a, vs, rfl, _⟩ := tx.ro; rfl
      case dk => obtain ⟨a, vs, rfl, _⟩ := tx.dk; rfl
      case dt => obtain ⟨a, vs, rfl, _⟩ := tx.dt; rfl
    rw [e]
    exact p _ w
  case bl b =>
    cases dx <;> try exact w.elim
    case bl a => rw [tx.bl, ty.bl]; exact .inr ⟨a, b, rfl, rfl, p _ w⟩
  all_goals (cases dx <;> exact w.elim)
theorem intW_ok (K : PySem.W.Frag) {f : Int → Int → Bool} {H Hs : Hp} {x y : V} {dx dy : D} {Q : Bool → Prop} {Q' : VK} (tx : Top K H Hs dx x) (ty : Top K H Hs dy y) (w : intW f dx dy Q) (p : ∀ b, Q b → Q' (.bl b) H) :
    rI0 (fun i j => .bl (f i j)) x y H Q' := by
  cases dx <;> cases dy <;> try exact w.elim
  rw [tx.int, ty.int]
  exact ⟨_, _, rfl, rfl, p _ w⟩
theorem inW_ok (K : PySem.W.Frag) {neg : Bool} {H Hs : Hp} {x y : V} {dx dy : D} {Q : Bool → Prop} {Q' : VK} (sub : Leq Hs H) (tx : Top K H Hs dx x) (ty : Top K H Hs dy y) (w : inW neg dx dy Q) (p : ∀ b, Q b → Q' (.bl b) H) :
    ((∃ d ds, Dp K H x d ∧ Dp K H y (.list ds) ∧ SeqAt.shaped d = true ∧ SeqAt.shaped (.list ds) = true ∧ Q' (.bl ((ds.any fun z => PyData.eqv z d) ^^ neg)) H) ∨
      (∃ d ds, Dp K H x d ∧ Dp K H y (.tuple ds) ∧ SeqAt.shaped d = true ∧ SeqAt.shaped (.tuple ds) = true ∧ Q' (.bl ((ds.any fun z => PyData.eqv z d) ^^ neg)) H)) ∨ ∃ (c : Nat) (z : Str), x = .str ⟨#[c]⟩ ∧ y = .str z ∧ Q' (.bl (decide (c ∈ z.cps.toList) ^^ neg)) H := by
  cases dy
  case lst ds =>
    have w : cmpOk dx ∧ cmpOk (.lst ds) ∧ Q ((ds.any fun z => deq z dx) ^^ neg) := by cases dx <;> exact w
    refine .inl (.inl ⟨_, toPDs ds, den_dp _ _ _ w.1 (tx.den sub), ?_, cmpOk_shaped w.1, ?_, ?_⟩)
    · have := den_dp _ _ _ w.2.1 (ty.den sub); rw [toPD] at this; exact this
    · have := cmpOk_shaped w.2.1; rw [toPD] at this; exact this
    · rw [any_pds]; exact p _ w.2.2
  case tup ds =>
    have w : cmpOk dx ∧ cmpOk (.tup ds) ∧ Q ((ds.any fun z => deq z dx) ^^ neg) := by cases dx <;> exact w
    refine .inl (.inr ⟨_, toPDs ds, den_dp _ _ _ w.1 (tx.den sub), ?_, cmpOk_shaped w.1, ?_, ?_⟩)
    · have := den_dp _ _ _ w.2.1 (ty.den sub); rw [toPD] at this; exact this
    · have := cmpOk_shaped w.2.1; rw [toPD] at this; exact this
    · rw [any_pds]; exact p _ w.2.2
  case str z =>
    cases dx <;> try exact w.elim
    case str u =>
      obtain ⟨c, rfl, q⟩ := w
      rw [tx.str, ty.str]
      exact .inr ⟨c, z, rfl, rfl, p _ q⟩
  all_goals (cases dx <;> exact w.elim)
theorem opS_cmp (K : PySem.W.Frag) (op : COp) : CmpS K (rC K op) (cmpW op) := by
  intro H Hs x y dx dy Q Q' sub tx ty w p
  cases op
  · exact ⟨_, _, den_dp _ _ _ w.1 (tx.den sub), den_dp _ _ _ w.2.1 (ty.den sub), cmpOk_shaped w.1, cmpOk_shaped w.2.1, p _ w.2.2⟩
  · exact ⟨_, _, den_dp _ _ _ w.1 (tx.den sub), den_dp _ _ _ w.2.1 (ty.den sub), cmpOk_shaped w.1, cmpOk_shaped w.2.1, p _ w.2.2⟩
  · have w : ltW dx dy Q := w
    cases dx <;> cases dy <;> try exact w.elim
    case int.int i j => rw [tx.int, ty.int]; exact .inl ⟨_, _, rfl, rfl, p _ w⟩
    case str.str i j => rw [tx.str, ty.str]; exact .inr ⟨_, _, rfl, rfl, p _ w⟩
  · exact intW_ok K tx ty w p
  · exact intW_ok K tx ty w p
  · exact intW_ok K tx ty w p
  · have h := isW_ok K sub tx ty w p
    simp only [Bool.xor_false] at h
    exact h
  · have h := isW_ok K sub tx ty w p
    simp only [Bool.xor_true] at h
    exact h
  · have h := inW_ok K sub tx ty w p
    simp only [Bool.xor_false] at h
    exact h
  · have h := inW_ok K sub tx ty w p
    simp only [Bool.xor_true] at h
    exact h
/-! ### built-in functions -/
inductive TopL (K : PySem.W.Frag) (H Hs : Hp) : List D → List V → Prop where
  | nil : TopL K H Hs [] []
  | cons {d : D} {v : V} {ds : List D} {vs : List V} : Top K H Hs d v → TopL K H Hs ds vs → TopL K H Hs (d :: ds) (v :: vs)
def CallS (K : PySem.W.Frag) (r : List V → Hp → VK → Prop) (W : List D → (RD → Prop) → Prop) : Prop :=
  ∀ fr σ H Hs ρ vs ds Q Q', Rel K fr σ H Hs ρ → TopL K H Hs ds vs → W ds Q → Post K fr σ Hs ρ Q Q' → r vs H Q'
def rCl (K : PySem.W.Frag) : Bi → List V → Hp → VK → Prop
  | .len => fun xs H Q => (∃ x n, xs = [x] ∧ LenV K x H n ∧ Q (.int n) H) ∨ ∃ a kvs, xs = [V.ref a] ∧ H a = some (.dK kvs) ∧ Q (.int kvs.length) H
  | .abs => fun xs H Q => ∃ i, xs = [.int i] ∧ Q (.int (if i < 0 then -i else i)) H
  | .min2 => fun xs H Q => ∃ i j, xs = [.int i, .int j] ∧ Q (.int (if j < i then j else i)) H
  | .max2 => fun xs H Q => ∃ i j, xs = [.int i, .int j] ∧ Q (.int (if j > i then j else i)) H
  | .int => fun xs H Q => (∃ i, xs = [.int i] ∧ Q (.int i) H) ∨ ∃ k, xs = [.bl k] ∧ Q (.int (if k then 1 else 0)) H
  | .sum => rSum K
  | .all => rAll K
  | .any => rAny K
  | .list => fun xs H Q => ∃ p ys, xs = [.ref p] ∧ (SqL K H p ys ∨ SqT K H p ys) ∧ ∀ l, H l = none → Q (.ref l) (upd H l (.lst ys))
  | .tuple => fun xs H Q => ∃ p ys, xs = [.ref p] ∧ ((SqL K H p ys ∧ ∀ l, H l = none → Q (.ref l) (upd H l (.tup ys))) ∨ (SqT K H p ys ∧ Q (.ref p) H))
  | .sorted => rSortedI K
  | .maxL => rMax K
  | .minL => rMin K
  | _ => fun _ _ _ => False
def biNm : Bi → Str
  | .len => "len" | .abs => "abs" | .min2 => "min" | .max2 => "max" | .min3 => "min" | .max3 => "max" | .int => "int" | .sum => "sum" | .all => "all" | .any => "any" | .sorted => "sorted" | .list => "list" | .tuple => "tuple" | .str => "str" | .minL => "min" | .maxL => "max" | .dict => "dict"
def biId : Bi → String
  | .len => "len" | .abs => "abs" | .min2 => "min" | .max2 => "max" | .min3 => "min" | .max3 => "max" | .int => "int" | .sum => "sum" | .all => "all" | .any => "any" | .sorted => "sorted" | .list => "list" | .tuple => "tuple" | .str => "str" | .minL => "min" | .maxL => "max" | .dict => "dict"
def biTy : Bi → Bool
  | .int => true | .list => true | .tuple => true | .str => true | .dict => true | _ => false
def biVal (b : Bi) : Value := if biTy b then .type (biId b) else .builtin (biId b)
theorem callR_never {X : Cx} {f : Value} : CallR X f (fun _ _ _ => False) := fun _ _ _ _ _ _ _ _ _ h => h.elim
section
variable {X : Cx}
theorem rCl_ok (hc : X.calm = true) (b : Bi) : CallR X (biVal b) (rCl X.K b) := by
  cases b
  · exact .or call_len call_lenD
  · exact call_abs
  · exact call_min2 hc
  · exact call_max2 hc
  · exact callR_never
  · exact callR_never
  · exact call_int1
  · exact cr_sum hc
  · exact cr_all hc
  · exact cr_any hc
  · exact cr_sortedI
  · exact call_list_of
  · exact call_tuple_of
  · exact callR_never
  · exact cr_min hc
  · exact cr_max hc
  · exact callR_never
end
theorem ints?_some : ∀ {ds : List D} {ns : List Int}, ints? ds = some ns → ds = ns.map D.int
  | [], ns, h => by cases h; rfl
  | .int i :: r, ns, h => by
    simp only [ints?, Option.map_eq_some_iff] at h
    obtain ⟨m, h1, rfl⟩ := h
    rw [ints?_some h1]; rfl
  | .non :: _, _, h => by cases h
  | .bl _ :: _, _, h => by cases h
  | .str _ :: _, _, h => by cases h
  | .tup _ :: _, _, h => by cases h
  | .lst _ :: _, _, h => by cases h
  | .ro _ :: _, _, h => by cases h
  | .dk _ :: _, _, h => by cases h
  | .dt _ :: _, _, h => by cases h
theorem bls?_some : ∀ {ds : List D} {ns : List Bool}, bls? ds = some ns → ds = ns.map D.bl
  | [], ns, h => by cases h; rfl
  | .bl i :: r, ns, h => by
    simp only [bls?, Option.map_eq_some_iff] at h
    obtain ⟨m, h1, rfl⟩ := h
    rw [bls?_some h1]; rfl
  | .non :: _, _, h => by cases h
  | .int _ :: _, _, h => by cases h
  | .str _ :: _, _, h => by cases h
  | .tup _ :: _, _, h => by cases h
  | .lst _ :: _, _, h => by cases h
  | .ro _ :: _, _, h => by cases h
  | .dk _ :: _, _, h => by cases h
  | .dt _ :: _, _, h => by cases h
theorem DenK.length {K : PySem.W.Frag} {H : Hp} : ∀ {ds : List (Key × D)} {vs : List (Key × V)}, DenK K H ds vs → vs.length = ds.length
  | [], _, h => by rw [DenK] at h; subst h; rfl
  | (k, d) :: ds, _, h => by
    rw [DenK] at h
    obtain ⟨v, r, rfl, _, h3⟩ := h
    simp [DenK.length h3]
theorem opS_bi (K : PySem.W.Frag) (b : Bi) : CallS K (rCl K b) (biW b) := by
  intro fr σ H Hs ρ vs ds Q Q' r t w p
  cases t with
  | nil => cases b <;> exact (show False from w).elim
  | @cons d v ds' vs' t1 t2 =>
    cases t2 with
    | nil =>
      cases b
      case len =>
        cases d <;> simp only [biW] at w
        case tup xs => obtain ⟨a, ws, rfl, h1, h2⟩ := t1.tup; exact .inl ⟨_, _, rfl, .inr ⟨_, sqT_leq r.sub h1, rfl⟩, by rw [h2.length]; exact p.val r denI w⟩
        case lst xs => obtain ⟨a, ws, rfl, h1, h2⟩ := t1.lst; exact .inl ⟨_, _, rfl, .inl ⟨_, SqL.of h1, rfl⟩, by rw [h2.length]; exact p.val r denI w⟩
        case ro xs => obtain ⟨a, ws, rfl, h1, h2⟩ := t1.ro; exact .inl ⟨_, _, rfl, .inl ⟨_, sqL_leq r.sub h1, rfl⟩, by rw [h2.length]; exact p.val r denI w⟩
        case str z => rw [t1.str]; exact .inl ⟨_, _, rfl, ⟨w.1, rfl⟩, p.val r denI w.2⟩
        case dk kvs => obtain ⟨a, ws, rfl, h1, h2⟩ := t1.dk; exact .inr ⟨a, ws, rfl, h1, by rw [h2.length]; exact p.val r denI w⟩
      case abs =>
        cases d <;> simp only [biW] at w
        rw [t1.int]; exact ⟨_, rfl, p.val r denI w⟩
      case int =>
        cases d <;> simp only [biW] at w
        case int => rw [t1.int]; exact .inl ⟨_, rfl, p.val r denI w⟩
        case bl => rw [t1.bl]; exact .inr ⟨_, rfl, p.val r denI w⟩
      case sum =>
        cases d <;> simp only [biW] at w
        case lst xs =>
          obtain ⟨a, ws, rfl, h1, h2⟩ := t1.lst
          obtain ⟨ns, e, w⟩ := w
          rw [ints?_some e] at h2
          exact ⟨a, ns, rfl, by rw [← h2.ints]; exact SqL.of h1, p.val r denI w⟩
        case ro xs =>
          obtain ⟨a, ws, rfl, h1, h2⟩ := t1.ro
          obtain ⟨ns, e, w⟩ := w
          rw [ints?_some e] at h2
          exact ⟨a, ns, rfl, by rw [← h2.ints]; exact sqL_leq r.sub h1, p.val r denI w⟩
      case all =>
        cases d <;> simp only [biW] at w
        obtain ⟨a, ws, rfl, h1, h2⟩ := t1.lst
        obtain ⟨ns, e, w⟩ := w
        rw [bls?_some e] at h2
        exact ⟨a, ns, rfl, by rw [← h2.bls]; exact SqL.of h1, p.val r denB w⟩
      case any =>
        cases d <;> simp only [biW] at w
        obtain ⟨a, ws, rfl, h1, h2⟩ := t1.lst
        obtain ⟨ns, e, w⟩ := w
        rw [bls?_some e] at h2
        exact ⟨a, ns, rfl, by rw [← h2.bls]; exact SqL.of h1, p.val r denB w⟩
      case sorted =>
        cases d <;> simp only [biW] at w
        obtain ⟨a, ws, rfl, h1, h2⟩ := t1.lst
        obtain ⟨ns, e, w⟩ := w
        rw [ints?_some e] at h2
        exact ⟨a, ns, rfl, by rw [← h2.ints]; exact SqL.of h1, fun ns' q e1 e2 hq => p.lst r DenL.ofInts (w ns' e1 e2) hq⟩
      case list =>
        cases d <;> simp only [biW] at w
        case tup xs => obtain ⟨a, ws, rfl, h1, h2⟩ := t1.tup; exact ⟨a, ws, rfl, .inr (sqT_leq r.sub h1), fun q hq => p.lst r h2 w hq⟩
        case lst xs => obtain ⟨a, ws, rfl, h1, h2⟩ := t1.lst; exact ⟨a, ws, rfl, .inl (SqL.of h1), fun q hq => p.lst r h2 w hq⟩
        case ro xs => obtain ⟨a, ws, rfl, h1, h2⟩ := t1.ro; exact ⟨a, ws, rfl, .inl (sqL_leq r.sub h1), fun q hq => p.lst r h2 w hq⟩
      case tuple =>
        cases d <;> simp only [biW] at w
        case tup xs => obtain ⟨a, ws, rfl, h1, h2⟩ := t1.tup; exact ⟨a, ws, rfl, .inr ⟨sqT_leq r.sub h1, p.val r (by rw [Den]; exact ⟨a, ws, rfl, h1, h2⟩) w⟩⟩
        case lst xs => obtain ⟨a, ws, rfl, h1, h2⟩ := t1.lst; exact ⟨a, ws, rfl, .inl ⟨SqL.of h1, fun q hq => p.tup r h2 w hq⟩⟩
      case maxL =>
        cases d <;> simp only [biW] at w
        obtain ⟨a, ws, rfl, h1, h2⟩ := t1.lst
        obtain ⟨ns, e, l, w⟩ := w
        rw [ints?_some e] at h2
        exact ⟨a, ns, rfl, by rw [← h2.ints]; exact SqL.of h1, l, fun m e1 e2 => p.val r denI (w m e1 e2)⟩
      case minL =>
        cases d <;> simp only [biW] at w
        obtain ⟨a, ws, rfl, h1, h2⟩ := t1.lst
        obtain ⟨ns, e, l, w⟩ := w
        rw [ints?_some e] at h2
        exact ⟨a, ns, rfl, by rw [← h2.ints]; exact SqL.of h1, l, fun m e1 e2 => p.val r denI (w m e1 e2)⟩
      all_goals (cases d <;> exact (show False from w).elim)
    | @cons d2 v2 ds2 vs2 t3 t4 =>
      cases t4 with
      | nil =>
        cases b
        case min2 =>
          cases d <;> cases d2 <;> simp only [biW] at w
          rw [t1.int, t3.int]; exact ⟨_, _, rfl, p.val r denI w⟩
        case max2 =>
          cases d <;> cases d2 <;> simp only [biW] at w
          rw [t1.int, t3.int]; exact ⟨_, _, rfl, p.val r denI w⟩
        all_goals (cases d <;> cases d2 <;> exact (show False from w).elim)
      | cons _ _ => cases b <;> cases d <;> cases d2 <;> exact (show False from w).elim
/-! ### subscripts, slices -/
theorem atI_den {K : PySem.W.Frag} {H : Hp} {ds : List D} {vs : List V} {i : Int} {d : D} (h : DenL K H ds vs) (e : atI ds i = some d) : ∃ v, atI vs i = some v ∧ Den K H d v := by
  unfold atI at e ⊢
  rw [h.length]
  simp only [Option.bind_eq_some_iff] at e ⊢
  obtain ⟨j, e1, e2⟩ := e
  obtain ⟨v, g1, g2⟩ := h.get e2
  exact ⟨v, ⟨j, e1, g1⟩, g2⟩
theorem idx_ok {K : PySem.W.Frag} {fr : Fr} {σ : L2.St} {H Hs : Hp} {ρ : Env} {x y : V} {dx : D} {i : Int} {Q : RD → Prop} {Q' : VK} (r : Rel K fr σ H Hs ρ) (tx : Top K H Hs dx x) (ey : y = .int i) (w : idxW dx i Q) (p : Post K fr σ Hs ρ Q Q') : rIx K x y H Q' := by
  subst ey
  cases dx <;> simp only [idxW] at w
  case tup xs =>
    obtain ⟨a, ws, rfl, h1, h2⟩ := tx.tup
    obtain ⟨d, e, w⟩ := w
    obtain ⟨v, g1, g2⟩ := atI_den h2 e
    exact .inr (.inl ⟨a, ws, i, v, rfl, rfl, sqT_leq r.sub h1, g1, p.val r g2 w⟩)
  case lst xs =>
    obtain ⟨a, ws, rfl, h1, h2⟩ := tx.lst
    obtain ⟨d, e, w⟩ := w
    obtain ⟨v, g1, g2⟩ := atI_den h2 e
    exact .inl ⟨a, ws, i, v, rfl, rfl, SqL.of h1, g1, p.val r g2 w⟩
  case ro xs =>
    obtain ⟨a, ws, rfl, h1, h2⟩ := tx.ro
    obtain ⟨d, e, w⟩ := w
    obtain ⟨v, g1, g2⟩ := atI_den h2 e
    exact .inl ⟨a, ws, i, v, rfl, rfl, sqL_leq r.sub h1, g1, p.val r g2 w⟩
  case str z =>
    obtain ⟨hz, c, e, w⟩ := w
    rw [tx.str]
    exact .inr (.inr ⟨z, i, c, rfl, rfl, hz, e, p.val r denS w⟩)
def rSl (K : PySem.W.Frag) : V → Option Int → Option Int → Hp → VK → Prop := fun x lo hi H Q => (rSlL K x lo hi H Q ∨ rSlA K x lo hi H Q) ∨ C8.rSlX x lo hi H Q
theorem rSl_ok {X : Cx} : SlR X (rSl X.K) := .or (.or sl_list sl_tupA) C8.sl_txt
theorem cut_den {K : PySem.W.Frag} {H : Hp} {ds : List D} {vs : List V} {lo hi : Option Int} (h : DenL K H ds vs) : DenL K H (cutD ds lo hi) (cutV vs lo hi) := by
  unfold cutD cutV
  rw [h.length]
  exact (h.drop _).take _
theorem sl_ok {K : PySem.W.Frag} {fr : Fr} {σ : L2.St} {H Hs : Hp} {ρ : Env} {x : V} {dx : D} {lo hi : Option Int} {Q : RD → Prop} {Q' : VK} (r : Rel K fr σ H Hs ρ) (tx : Top K H Hs dx x) (w : slW dx lo hi Q) (p : Post K fr σ Hs ρ Q Q') : rSl K x lo hi H Q' := by
  cases dx <;> simp only [slW] at w
  case tup xs =>
    obtain ⟨a, ws, rfl, h1, h2⟩ := tx.tup
    refine .inl (.inr ⟨a, ws, rfl, sqT_leq r.sub h1, fun e => ?_, fun _ c hc => p.tup r (cut_den h2) w hc⟩)
    refine p.val r (d := .tup (cutD xs lo hi)) ?_ w
    rw [Den]
    refine ⟨a, ws, rfl, h1, ?_⟩
    have : cutD xs lo hi = xs := by
      unfold cutD
      rw [← h2.length, e.1, e.2, h2.length, Nat.sub_zero, List.drop_zero, List.take_length]
    rw [this]
    exact h2
  case lst xs =>
    obtain ⟨a, ws, rfl, h1, h2⟩ := tx.lst
    exact .inl (.inl ⟨a, ws, rfl, SqL.of h1, fun c hc => p.lst r (cut_den h2) w hc⟩)
  case ro xs =>
    obtain ⟨a, ws, rfl, h1, h2⟩ := tx.ro
    exact .inl (.inl ⟨a, ws, rfl, sqL_leq r.sub h1, fun c hc => p.lst r (cut_den h2) w hc⟩)
  case str z =>
    rw [tx.str]
    exact .inr ⟨z, rfl, w.1, p.val r denS w.2⟩
end PL
set_option Elab.async false
set_option linter.all false
set_option maxRecDepth 100000
set_option maxHeartbeats 4000000
namespace PL
open PySem PySem.Spec L2
/-! ### readings by data -/
def R (K : PySem.W.Frag) (Φ : Ctx) (e : E) : TE := fun σ H Q' => ∃ fr Hs ρ Q, Rel K fr σ H Hs ρ ∧ wE Φ e ρ Q ∧
  ∀ v H' Hs' rd ρ', Rel K fr σ H' Hs' ρ' → Leq Hs Hs' → OVr K fr σ H' Hs' ρ' v rd → Q rd ρ' → Q' v H'
def RT (K : PySem.W.Frag) (Φ : Ctx) (e : E) : TT := fun σ H Q' => R K Φ e σ H fun v H' => ∃ b, v = .bl b ∧ Q' b H'
/-- several, as data that stay -/
def RA (K : PySem.W.Frag) (Φ : Ctx) (es : List E) : TA := fun σ H Q' => ∃ fr Hs ρ Q, Rel K fr σ H Hs ρ ∧ wEs Φ es ρ Q ∧
  ∀ vs H' Hs' ds ρ', Rel K fr σ H' Hs' ρ' → Leq Hs Hs' → DenL K Hs' ds vs → Q ds ρ' → Q' vs H'
inductive OVs (K : PySem.W.Frag) (fr : Fr) (σ : L2.St) (H Hs : Hp) (ρ : Env) : List V → List RD → Prop where
  | nil : OVs K fr σ H Hs ρ [] []
  | cons {v : V} {rd : RD} {vs : List V} {rds : List RD} : OVr K fr σ H Hs ρ v (keep rd) → OVs K fr σ H Hs ρ vs rds → OVs K fr σ H Hs ρ (v :: vs) (keep rd :: rds)
/-- several, as they stand -/
def RR (K : PySem.W.Frag) (Φ : Ctx) (es : List E) : TA := fun σ H Q' => ∃ fr Hs ρ Q, Rel K fr σ H Hs ρ ∧ wRs Φ es ρ Q ∧
  ∀ vs H' Hs' rds ρ', Rel K fr σ H' Hs' ρ' → Leq Hs Hs' → OVs K fr σ H' Hs' ρ' vs rds → Q rds ρ' → Q' vs H'
section
variable {X : Cx} {K : PySem.W.Frag} {Φ : Ctx}
theorem _root_.L2.PE.wk {x : Expr} {t t' : TE} (p : PE X x t) (h : ∀ σ H Q, t' σ H Q → t σ H Q) : PE X x t' := ⟨fun pins s σ H Q I q => p.run pins s σ H Q I (h _ _ _ q)⟩
theorem _root_.L2.PT.wk {x : Expr} {t t' : TT} (p : PT X x t) (h : ∀ σ H Q, t' σ H Q → t σ H Q) : PT X x t' := ⟨fun pins s σ H Q I q => p.run pins s σ H Q I (h _ _ _ q)⟩
theorem _root_.L2.PA.wk {x : List Expr} {t t' : TA} (p : PA X x t) (h : ∀ σ H Q, t' σ H Q → t σ H Q) : PA X x t' := ⟨fun pos pins s σ H Q I q => p.run pos pins s σ H Q I (h _ _ _ q)⟩
theorem _root_.L2.PS.wk {x : Stmt} {t t' : TS} (p : PS X x t) (h : ∀ D σ H, t' D σ H → t D σ H) : PS X x t' := ⟨fun pins s σ H D I q => p.run pins s σ H D I (h _ _ _ q)⟩
theorem _root_.L2.PSs.wk {x : List Stmt} {t t' : TS} (p : PSs X x t) (h : ∀ D σ H, t' D σ H → t D σ H) : PSs X x t' := ⟨fun pins s σ H D I q => p.run pins s σ H D I (h _ _ _ q)⟩
theorem ovB {fr : Fr} {σ : L2.St} {H Hs : Hp} {ρ : Env} {b : Bool} : OVr K fr σ H Hs ρ (.bl b) (.val (.bl b)) := by show Den K Hs _ _; rw [Den]
theorem ovI {fr : Fr} {σ : L2.St} {H Hs : Hp} {ρ : Env} {b : Int} : OVr K fr σ H Hs ρ (.int b) (.val (.int b)) := by show Den K Hs _ _; rw [Den]
theorem Rel.env {fr : Fr} {σ : L2.St} {H Hs : Hp} {ρ : Env} (r : Rel K fr σ H Hs ρ) {i : Nat} {w : VE} (e : ρ[i]? = some w) (h : w ≠ .un) : ∃ v, σ[i]? = some (some v) ∧ OVr K fr σ H Hs ρ v (match w with | .sh d => .val d | _ => .slot i) := by
  cases w with
  | un => exact absurd rfl h
  | sh d => obtain ⟨v, h1, h2⟩ := r.sh i d e; exact ⟨v, h1, h2⟩
  | own c => obtain ⟨a, h1, _⟩ := r.ow i c e; exact ⟨_, h1, h1⟩
  | bor c => obtain ⟨a, h1, _⟩ := r.br i c e; exact ⟨_, h1, h1⟩
theorem se_var {i : Nat} {x : Str} {pos : Pos} (h : PE X (.Name x pos) (tVar i)) : PE X (.Name x pos) (R K Φ (.var i)) := by
  refine h.wk fun σ H Q' ⟨fr, Hs, ρ, Q, r, w, p⟩ => ?_
  rw [wE] at w
  split at w
  · obtain ⟨v, h1, h2⟩ := r.env (by assumption) (by simp)
    exact ⟨v, h1, p v H Hs _ ρ r .rfl' h2 w⟩
  · obtain ⟨v, h1, h2⟩ := r.env (by assumption) (by simp)
    exact ⟨v, h1, p v H Hs _ ρ r .rfl' h2 w⟩
  · obtain ⟨v, h1, h2⟩ := r.env (by assumption) (by simp)
    exact ⟨v, h1, p v H Hs _ ρ r .rfl' h2 w⟩
  · exact w.elim
theorem se_const {x : Expr} {v : V} {e : E} {d : D} (h : PE X x (tC v)) (hd : ∀ H, Den K H d v) (hw : ∀ ρ Q, wE Φ e ρ Q → Q (.val d) ρ) : PE X x (R K Φ e) := by
  refine h.wk fun σ H Q' ⟨fr, Hs, ρ, Q, r, w, p⟩ => ?_
  exact p v H Hs (.val d) ρ r .rfl' (hd _) (hw ρ Q w)
/-- one after another -/
theorem R.two {a b : E} {σ : L2.St} {H : Hp} {fr : Fr} {Hs : Hp} {ρ : Env} {Q : RD → RD → Env → Prop} {G : V → V → Hp → Prop} (r : Rel K fr σ H Hs ρ)
    (w : wE Φ a ρ fun ra ρ1 => wE Φ b ρ1 fun rb ρ2 => Q ra rb ρ2)
    (p : ∀ x y H2 Hs2 ra rb ρ2, Rel K fr σ H2 Hs2 ρ2 → Leq Hs Hs2 → OVr K fr σ H2 Hs2 ρ2 x (keep ra) → OVr K fr σ H2 Hs2 ρ2 y rb → Q ra rb ρ2 → G x y H2) :
    R K Φ a σ H fun x H1 => R K Φ b σ H1 fun y H2 => G x y H2 := by
  refine ⟨fr, Hs, ρ, _, r, w, fun x H1 Hs1 ra ρ1 r1 l1 o1 q1 => ?_⟩
  obtain ⟨Hs1', l1', r1', o1'⟩ := keep_ok r1 o1
  refine ⟨fr, Hs1', ρ1, _, r1', q1, fun y H2 Hs2 rb ρ2 r2 l2 o2 q2 => ?_⟩
  exact p x y H2 Hs2 ra rb ρ2 r2 ((l1.tr l1').tr l2) (o1'.stay l2) o2 q2
theorem R.one {a : E} {σ : L2.St} {H : Hp} {fr : Fr} {Hs : Hp} {ρ : Env} {Q : RD → Env → Prop} {G : V → Hp → Prop} (r : Rel K fr σ H Hs ρ) (w : wE Φ a ρ Q)
    (p : ∀ x H1 Hs1 ra ρ1, Rel K fr σ H1 Hs1 ρ1 → Leq Hs Hs1 → OVr K fr σ H1 Hs1 ρ1 x ra → Q ra ρ1 → G x H1) : R K Φ a σ H fun x H1 => G x H1 :=
  ⟨fr, Hs, ρ, Q, r, w, fun x H1 Hs1 ra ρ1 r1 l1 o1 q1 => p x H1 Hs1 ra ρ1 r1 l1 o1 q1⟩
theorem se_bin {a b : Expr} {ea eb : E} {op : BOp} {pos : Pos} (ha : PE X a (R X.K Φ ea)) (hb : PE X b (R X.K Φ eb)) : PE X (.BinOp a (bOp op) b pos) (R X.K Φ (.bin op ea eb)) := by
  refine (pe_op (rB_ok op) ha hb).wk fun σ H Q' ⟨fr, Hs, ρ, Q, r, w, p⟩ => ?_
  rw [wE] at w
  refine R.two r w fun x y H2 Hs2 ra rb ρ2 r2 l2 o1 o2 q => ?_
  obtain ⟨da, e1, db, e2, q⟩ := q
  exact opS_bin X.K op fr σ H2 Hs2 ρ2 x y da db _ Q' r2 (look_top r2 o1 (by rw [look_keep]; exact e1)) (look_top r2 o2 e2) q fun v H' Hs' rd r3 l3 o3 q3 => p v H' Hs' rd ρ2 r3 (l2.tr l3) o3 q3
theorem se_cmp (hu : X.A.units + 65 < cLine) {a b : Expr} {ea eb : E} {op : COp} {pos : Pos} (ha : PE X a (R X.K Φ ea)) (hb : PE X b (R X.K Φ eb)) (hm : behindInMarks (cOp op) b = false) : PE X (.Compare a [cOp op] [b] pos) (R X.K Φ (.cmp op ea eb)) := by
  refine (pe_cmpR (rC_ok hu op) ha hb hm).wk fun σ H Q' ⟨fr, Hs, ρ, Q, r, w, p⟩ => ?_
  rw [wE] at w
  refine R.two r w fun x y H2 Hs2 ra rb ρ2 r2 l2 o1 o2 q => ?_
  obtain ⟨da, e1, db, e2, q⟩ := q
  exact opS_cmp X.K op H2 Hs2 x y da db _ Q' r2.sub (look_top r2 o1 (by rw [look_keep]; exact e1)) (look_top r2 o2 e2) q fun b q3 => p (.bl b) H2 Hs2 (.val (.bl b)) ρ2 r2 l2 ovB q3
theorem st_cmp (hu : X.A.units + 65 < cLine) {a b : Expr} {ea eb : E} {op : COp} {pos : Pos} (ha : PE X a (R X.K Φ ea)) (hb : PE X b (R X.K Φ eb)) (hm : behindInMarks (cOp op) b = false) : PT X (.Compare a [cOp op] [b] pos) (RT X.K Φ (.cmp op ea eb)) := by
  refine (pt_cmpR (rC_ok hu op) ha hb hm).wk fun σ H Q' ⟨fr, Hs, ρ, Q, r, w, p⟩ => ?_
  rw [wE] at w
  refine R.two r w fun x y H2 Hs2 ra rb ρ2 r2 l2 o1 o2 q => ?_
  obtain ⟨da, e1, db, e2, q⟩ := q
  exact opS_cmp X.K op H2 Hs2 x y da db _ _ r2.sub (look_top r2 o1 (by rw [look_keep]; exact e1)) (look_top r2 o2 e2) q fun b q3 => p (.bl b) H2 Hs2 (.val (.bl b)) ρ2 r2 l2 ovB q3
theorem chain_tr (hu : X.A.units + 65 < cLine) {ea eb ec : E} {o1 o2 : COp} {σ : L2.St} {H : Hp} {Q' : VK} (h : R X.K Φ (.cmp2 o1 o2 ea eb ec) σ H Q') : tChain (rC X.K o1) (rC X.K o2) (R X.K Φ ea) (R X.K Φ eb) (R X.K Φ ec) σ H Q' := by
  obtain ⟨fr, Hs, ρ, Q, r, w, p⟩ := h
  rw [wE] at w
  refine R.two r w fun x y H2 Hs2 ra rb ρ2 r2 l2 oa ob q => ?_
  obtain ⟨da, e1, db, e2, q⟩ := q
  refine opS_cmp X.K o1 H2 Hs2 x y da db _ _ r2.sub (look_top r2 oa (by rw [look_keep]; exact e1)) (look_top r2 ob e2) q fun b q3 => ?_
  refine ⟨b, rfl, ?_⟩
  by_cases hb : b = true
  · subst hb
    rw [if_pos rfl]
    obtain ⟨Hs2', l2', r2', ob'⟩ := keep_ok r2 ob
    refine R.one r2' (q3.1 rfl) fun z H3 Hs3 rc ρ3 r3 l3 oc q4 => ?_
    obtain ⟨db', e3, dc, e4, q4⟩ := q4
    exact opS_cmp X.K o2 H3 Hs3 y z db' dc _ _ r3.sub (look_top r3 (ob'.stay l3) (by rw [look_keep]; exact e3)) (look_top r3 oc e4) q4 fun b' q5 => p (.bl b') H3 Hs3 (.val (.bl b')) ρ3 r3 ((l2.tr l2').tr l3) ovB q5
  · have hb : b = false := by simpa using hb
    subst hb
    rw [if_neg (by simp)]
    exact p (.bl false) H2 Hs2 (.val (.bl false)) ρ2 r2 l2 ovB (q3.2 rfl)
theorem se_cmp2 (hu : X.A.units + 65 < cLine) {a b c : Expr} {ea eb ec : E} {o1 o2 : COp} {pos : Pos} (ha : PE X a (R X.K Φ ea)) (hb : PE X b (R X.K Φ eb)) (hc : PE X c (R X.K Φ ec)) (hm : lastMarks [cOp o1, cOp o2] [b, c] = false) : PE X (.Compare a [cOp o1, cOp o2] [b, c] pos) (R X.K Φ (.cmp2 o1 o2 ea eb ec)) :=
  (pe_chain (rC_ok hu o1) (rC_ok hu o2) ha hb hc hm).wk fun σ H Q' h => chain_tr hu h
theorem st_cmp2 (hu : X.A.units + 65 < cLine) {a b c : Expr} {ea eb ec : E} {o1 o2 : COp} {pos : Pos} (ha : PE X a (R X.K Φ ea)) (hb : PE X b (R X.K Φ eb)) (hc : PE X c (R X.K Φ ec)) (hm : lastMarks [cOp o1, cOp o2] [b, c] = false) : PT X (.Compare a [cOp o1, cOp o2] [b, c] pos) (RT X.K Φ (.cmp2 o1 o2 ea eb ec)) :=
  (pt_chain (rC_ok hu o1) (rC_ok hu o2) ha hb hc hm).wk fun σ H Q' h => chain_tr hu h
theorem se_neg {a : Expr} {ea : E} {pos : Pos} (ha : PE X a (R X.K Φ ea)) : PE X (.UnaryOp .USub a pos) (R X.K Φ (.neg ea)) := by
  refine (pe_un un_neg ha).wk fun σ H Q' ⟨fr, Hs, ρ, Q, r, w, p⟩ => ?_
  rw [wE] at w
  refine R.one r w fun x H1 Hs1 ra ρ1 r1 l1 o1 q => ?_
  obtain ⟨da, e1, q⟩ := q
  have t := look_top r1 o1 e1
  cases da <;> try exact q.elim
  exact ⟨_, t.int, p _ H1 Hs1 (.val _) ρ1 r1 l1 ovI q⟩
theorem se_not {a : Expr} {ea : E} {pos : Pos} (ha : PE X a (R X.K Φ ea)) : PE X (.UnaryOp .Not a pos) (R X.K Φ (.not ea)) := by
  refine (pe_not ha).wk fun σ H Q' ⟨fr, Hs, ρ, Q, r, w, p⟩ => ?_
  rw [wE] at w
  refine R.one r w fun x H1 Hs1 ra ρ1 r1 l1 o1 q => ?_
  obtain ⟨da, e1, q⟩ := q
  have t := look_top r1 o1 e1
  cases da <;> try exact q.elim
  exact ⟨_, t.bl, p _ H1 Hs1 (.val _) ρ1 r1 l1 ovB q⟩
theorem st_not {a : Expr} {ea : E} {pos : Pos} (ha : PT X a (RT X.K Φ ea)) : PT X (.UnaryOp .Not a pos) (RT X.K Φ (.not ea)) := by
  refine (pt_not ha).wk fun σ H Q' ⟨fr, Hs, ρ, Q, r, w, p⟩ => ?_
  rw [wE] at w
  refine R.one r w fun x H1 Hs1 ra ρ1 r1 l1 o1 q => ?_
  obtain ⟨da, e1, q⟩ := q
  have t := look_top r1 o1 e1
  cases da <;> try exact q.elim
  refine ⟨_, t.bl, ?_⟩
  obtain ⟨b, eb, q'⟩ := p _ H1 Hs1 (.val _) ρ1 r1 l1 ovB q
  cases eb
  exact q'
theorem se_and {a b : Expr} {rest : List Expr} {ea eb : E} {pos : Pos} (ha : PE X a (R X.K Φ ea)) (hb : PE X (.BoolOp .And (b :: rest) pos) (R X.K Φ eb)) : PE X (.BoolOp .And (a :: b :: rest) pos) (R X.K Φ (.and ea eb)) := by
  refine (pe_and ha hb).wk fun σ H Q' ⟨fr, Hs, ρ, Q, r, w, p⟩ => ?_
  rw [wE] at w
  refine R.one r w fun x H1 Hs1 ra ρ1 r1 l1 o1 q => ?_
  obtain ⟨da, e1, q⟩ := q
  have t := look_top r1 o1 e1
  cases da <;> try exact q.elim
  rename_i c
  refine ⟨c, t.bl, ?_⟩
  cases c
  · rw [if_neg (by simp)]; exact p _ H1 Hs1 (.val _) ρ1 r1 l1 ovB (q.2 rfl)
  · rw [if_pos rfl]; exact R.one r1 (q.1 rfl) fun y H2 Hs2 rb ρ2 r2 l2 o2 q2 => p y H2 Hs2 rb ρ2 r2 (l1.tr l2) o2 q2
theorem se_or {a b : Expr} {rest : List Expr} {ea eb : E} {pos : Pos} (ha : PE X a (R X.K Φ ea)) (hb : PE X (.BoolOp .Or (b :: rest) pos) (R X.K Φ eb)) : PE X (.BoolOp .Or (a :: b :: rest) pos) (R X.K Φ (.or ea eb)) := by
  refine (pe_or ha hb).wk fun σ H Q' ⟨fr, Hs, ρ, Q, r, w, p⟩ => ?_
  rw [wE] at w
  refine R.one r w fun x H1 Hs1 ra ρ1 r1 l1 o1 q => ?_
  obtain ⟨da, e1, q⟩ := q
  have t := look_top r1 o1 e1
  cases da <;> try exact q.elim
  rename_i c
  refine ⟨c, t.bl, ?_⟩
  cases c
  · rw [if_neg (by simp)]; exact R.one r1 (q.2 rfl) fun y H2 Hs2 rb ρ2 r2 l2 o2 q2 => p y H2 Hs2 rb ρ2 r2 (l1.tr l2) o2 q2
  · rw [if_pos rfl]; exact p _ H1 Hs1 (.val _) ρ1 r1 l1 ovB (q.1 rfl)
theorem st_and {a b : Expr} {rest : List Expr} {ea eb : E} {pos : Pos} (ha : PT X a (RT X.K Φ ea)) (hb : PW X (.BoolOp .And (b :: rest) pos) (RT X.K Φ eb)) : PW X (.BoolOp .And (a :: b :: rest) pos) (RT X.K Φ (.and ea eb)) := by
  refine ⟨fun wh pins s σ H Q' I ⟨fr, Hs, ρ, Q, r, w, p⟩ => (pw_and ha hb).run wh pins s σ H Q' I ?_⟩
  rw [wE] at w
  refine R.one r w fun x H1 Hs1 ra ρ1 r1 l1 o1 q => ?_
  obtain ⟨da, e1, q⟩ := q
  have t := look_top r1 o1 e1
  cases da <;> try exact q.elim
  rename_i c
  refine ⟨c, t.bl, ?_⟩
  cases c
  · rw [if_neg (by simp)]
    obtain ⟨b, eb, q'⟩ := p _ H1 Hs1 (.val _) ρ1 r1 l1 ovB (q.2 rfl)
    cases eb
    exact q'
  · rw [if_pos rfl]; exact R.one r1 (q.1 rfl) fun y H2 Hs2 rb ρ2 r2 l2 o2 q2 => p y H2 Hs2 rb ρ2 r2 (l1.tr l2) o2 q2
theorem st_or {a b : Expr} {rest : List Expr} {ea eb : E} {pos : Pos} (ha : PT X a (RT X.K Φ ea)) (hb : PW X (.BoolOp .Or (b :: rest) pos) (RT X.K Φ eb)) : PW X (.BoolOp .Or (a :: b :: rest) pos) (RT X.K Φ (.or ea eb)) := by
  refine ⟨fun wh pins s σ H Q' I ⟨fr, Hs, ρ, Q, r, w, p⟩ => (pw_or ha hb).run wh pins s σ H Q' I ?_⟩
  rw [wE] at w
  refine R.one r w fun x H1 Hs1 ra ρ1 r1 l1 o1 q => ?_
  obtain ⟨da, e1, q⟩ := q
  have t := look_top r1 o1 e1
  cases da <;> try exact q.elim
  rename_i c
  refine ⟨c, t.bl, ?_⟩
  cases c
  · rw [if_neg (by simp)]; exact R.one r1 (q.2 rfl) fun y H2 Hs2 rb ρ2 r2 l2 o2 q2 => p y H2 Hs2 rb ρ2 r2 (l1.tr l2) o2 q2
  · rw [if_pos rfl]
    obtain ⟨b, eb, q'⟩ := p _ H1 Hs1 (.val _) ρ1 r1 l1 ovB (q.1 rfl)
    cases eb
    exact q'
theorem se_ite {c a b : Expr} {ec ea eb : E} {pos : Pos} (hc : PT X c (RT X.K Φ ec)) (ha : PE X a (R X.K Φ ea)) (hb : PE X b (R X.K Φ eb)) : PE X (.IfExp c a b pos) (R X.K Φ (.ite ec ea eb)) := by
  refine (pe_ifExp hc ha hb).wk fun σ H Q' ⟨fr, Hs, ρ, Q, r, w, p⟩ => ?_
  rw [wE] at w
  refine R.one r w fun x H1 Hs1 ra ρ1 r1 l1 o1 q => ?_
  obtain ⟨da, e1, q⟩ := q
  have t := look_top r1 o1 e1
  cases da <;> try exact q.elim
  rename_i k
  refine ⟨k, t.bl, ?_⟩
  cases k
  · rw [if_neg (by simp)]; exact R.one r1 (q.2 rfl) fun y H2 Hs2 rb ρ2 r2 l2 o2 q2 => p y H2 Hs2 rb ρ2 r2 (l1.tr l2) o2 q2
  · rw [if_pos rfl]; exact R.one r1 (q.1 rfl) fun y H2 Hs2 rb ρ2 r2 l2 o2 q2 => p y H2 Hs2 rb ρ2 r2 (l1.tr l2) o2 q2
/-! ### rows of expressions -/
def notStar : Expr → Bool | .Starred .. => false | _ => true
theorem starEach_plain {e : Expr} {es : List Expr} {env : PySem.Env} (h : notStar e = true) : starEach (e :: es) env = (false, eval e env) :: starEach es env := by
  cases e <;> first | rfl | (simp [notStar] at h)
theorem plain_any {pos : Pos} {env : PySem.Env} : ∀ {es : List Expr}, es.all notStar = true → (backTo pos (starEach es env)).any (·.1) = false
  | [], _ => rfl
  | e :: es, h => by
    rw [List.all_cons, Bool.and_eq_true] at h
    rw [starEach_plain h.1]
    show (false || (backTo pos (starEach es env)).any (·.1)) = false
    rw [plain_any h.2, Bool.false_or]
theorem sa_nil : PA X [] (RA X.K Φ []) := pa_nil.wk fun σ H Q' ⟨fr, Hs, ρ, Q, r, w, p⟩ => p [] H Hs [] ρ r .rfl' .nil (by rw [wEs] at w; exact w)
theorem sa_cons {e : Expr} {es : List Expr} {c : E} {cs : List E} (h : PE X e (R X.K Φ c)) (hs : PA X es (RA X.K Φ cs)) (n : notStar e = true) : PA X (e :: es) (RA X.K Φ (c :: cs)) := by
  refine (pa_cons h hs (starEach_plain n)).wk fun σ H Q' ⟨fr, Hs, ρ, Q, r, w, p⟩ => ?_
  rw [wEs] at w
  refine R.one r w fun x H1 Hs1 ra ρ1 r1 l1 o1 q => ?_
  obtain ⟨Hs1', d, ρ1', l1', r1', den, q⟩ := frz_ok r1 o1 q
  exact ⟨fr, Hs1', ρ1', _, r1', q, fun vs H2 Hs2 ds ρ2 r2 l2 o2 q2 => p (x :: vs) H2 Hs2 (d :: ds) ρ2 r2 ((l1.tr l1').tr l2) (.cons (den.leq l2) o2) q2⟩
theorem sr_nil : PA X [] (RR X.K Φ []) := pa_nil.wk fun σ H Q' ⟨fr, Hs, ρ, Q, r, w, p⟩ => p [] H Hs [] ρ r .rfl' .nil (by rw [wRs] at w; exact w)
theorem sr_cons {e : Expr} {es : List Expr} {c : E} {cs : List E} (h : PE X e (R X.K Φ c)) (hs : PA X es (RR X.K Φ cs)) (n : notStar e = true) : PA X (e :: es) (RR X.K Φ (c :: cs)) := by
  refine (pa_cons h hs (starEach_plain n)).wk fun σ H Q' ⟨fr, Hs, ρ, Q, r, w, p⟩ => ?_
  rw [wRs] at w
  refine R.one r w fun x H1 Hs1 ra ρ1 r1 l1 o1 q => ?_
  obtain ⟨Hs1', l1', r1', o1'⟩ := keep_ok r1 o1
  exact ⟨fr, Hs1', ρ1, _, r1', q, fun vs H2 Hs2 rds ρ2 r2 l2 o2 q2 => p (x :: vs) H2 Hs2 (keep ra :: rds) ρ2 r2 ((l1.tr l1').tr l2) (.cons (o1'.stay l2) o2) q2⟩
theorem looks_top {fr : Fr} {σ : L2.St} {H Hs : Hp} {ρ : Env} (r : Rel K fr σ H Hs ρ) : ∀ {vs : List V} {rds : List RD} {ds : List D}, OVs K fr σ H Hs ρ vs rds → looks ρ rds = some ds → TopL K H Hs ds vs
  | _, _, ds, .nil, e => by cases e; exact .nil
  | _, _, ds, .cons h t, e => by
    simp only [looks, Option.bind_eq_some_iff, Option.map_eq_some_iff] at e
    obtain ⟨d, e1, ds', e2, rfl⟩ := e
    exact .cons (look_top r h e1) (looks_top r t e2)
theorem se_tup {es : List Expr} {cs : List E} {k : Nat} {pos : Pos} (h : PA X es (RA X.K Φ cs)) : PE X (.Tuple es k pos) (R X.K Φ (.tup cs)) := by
  refine (pe_tup h).wk fun σ H Q' ⟨fr, Hs, ρ, Q, r, w, p⟩ => ?_
  rw [wE] at w
  refine ⟨fr, Hs, ρ, _, r, w, fun vs H1 Hs1 ds ρ1 r1 l1 den q => ?_⟩
  exact ⟨by rw [den.length]; exact q.1, fun a ha => Post.tup (fun v H' Hs' rd r3 l3 o3 q3 => p v H' Hs' rd ρ1 r3 (l1.tr l3) o3 q3) r1 den q.2 ha⟩
theorem se_lst {es : List Expr} {cs : List E} {pos : Pos} (h : PA X es (RA X.K Φ cs)) : PE X (.List es pos) (R X.K Φ (.lst cs)) := by
  refine (pe_lst h).wk fun σ H Q' ⟨fr, Hs, ρ, Q, r, w, p⟩ => ?_
  rw [wE] at w
  refine ⟨fr, Hs, ρ, _, r, w, fun vs H1 Hs1 ds ρ1 r1 l1 den q => ?_⟩
  exact ⟨by rw [den.length]; exact q.1, fun a ha => Post.lst (fun v H' Hs' rd r3 l3 o3 q3 => p v H' Hs' rd ρ1 r3 (l1.tr l3) o3 q3) r1 den q.2 ha⟩
theorem se_star {e : Expr} {es : List Expr} {c : E} {cs : List E} {pos p1 : Pos} (h : PE X e (R X.K Φ c)) (hs : PA X es (RA X.K Φ cs)) : PE X (.List (.Starred e p1 :: es) pos) (R X.K Φ (.star c cs)) := by
  refine (pe_lst (StX.pa_star h hs rfl)).wk fun σ H Q' ⟨fr, Hs, ρ, Q, r, w, p⟩ => ?_
  rw [wE] at w
  refine R.one r w fun x H1 Hs1 ra ρ1 r1 l1 o1 q => ?_
  obtain ⟨Hs1', d, ρ1', l1', r1', den, xs, e, q⟩ := frz_ok r1 o1 q
  have go : ∃ a ws, x = .ref a ∧ (SqT X.K H1 a ws ∨ SqL X.K H1 a ws) ∧ DenL X.K Hs1' xs ws := by
    cases d <;> simp only [seq?, Option.some.injEq, reduceCtorEq] at e
    case tup =>
      subst e
      rw [Den] at den
      obtain ⟨a, ws, rfl, h1, h2⟩ := den
      exact ⟨a, ws, rfl, .inl (sqT_leq r1'.sub h1), h2⟩
    case lst =>
      subst e
      rw [Den] at den
      obtain ⟨a, ws, rfl, h1, h2⟩ := den
      exact ⟨a, ws, rfl, .inr (SqL.of (r1'.sub _ _ h1)), h2⟩
  obtain ⟨a, ws, rfl, h1, h2⟩ := go
  refine ⟨a, ws, rfl, h1, ⟨fr, Hs1', ρ1', _, r1', q, fun vs H2 Hs2 ds ρ2 r2 l2 o2 q2 => ?_⟩⟩
  have dl := (h2.leq l2).append o2
  exact ⟨by rw [dl.length]; exact q2.1, fun a ha => Post.lst (fun v H' Hs' rd r3 l3 o3 q3 => p v H' Hs' rd ρ2 r3 (((l1.tr l1').tr l2).tr l3) o3 q3) r2 dl q2.2 ha⟩
end
end PL
set_option Elab.async false
set_option linter.all false
set_option maxRecDepth 100000
set_option maxHeartbeats 4000000
namespace PL
open PySem PySem.Spec L2
section
variable {X : Cx} {Φ : Ctx}
/-! ### subscripts -/
def plainIx : Expr → Bool | .Slice .. => false | _ => true
theorem plainIx_ok {b : Expr} (h : plainIx b = true) : PlainIx b := by
  intro o i
  cases b <;> first | rfl | (simp [plainIx] at h)
theorem noSl_ok {b : Expr} (h : plainIx b = true) : NoSl b := by
  intro o i
  cases b <;> first | rfl | (simp [plainIx] at h)
theorem se_idx {a b : Expr} {ea eb : E} {pos : Pos} (ha : PE X a (R X.K Φ ea)) (hb : PE X b (R X.K Φ eb)) (hs : plainIx b = true) : PE X (.Subscript a b pos) (R X.K Φ (.idx ea eb)) := by
  refine (pe_ix ix_seq ha hb (plainIx_ok hs)).wk fun σ H Q' ⟨fr, Hs, ρ, Q, r, w, p⟩ => ?_
  rw [wE] at w
  refine R.two r w fun x y H2 Hs2 ra rb ρ2 r2 l2 o1 o2 q => ?_
  obtain ⟨da, e1, db, e2, q⟩ := q
  have ty := look_top r2 o2 e2
  cases db <;> try exact q.elim
  exact idx_ok r2 (look_top r2 o1 (by rw [look_keep]; exact e1)) ty.int q fun v H' Hs' rd r3 l3 o3 q3 => p v H' Hs' rd ρ2 r3 (l2.tr l3) o3 q3
theorem se_sl1 {a b : Expr} {ea eb : E} {pos p2 : Pos} (ha : PE X a (R X.K Φ ea)) (hb : PE X b (R X.K Φ eb)) : PE X (.Subscript a (.Slice (some b) none none p2) pos) (R X.K Φ (.sl1 ea eb)) := by
  refine (pe_slice rSl_ok ha (po_some hb) po_none).wk fun σ H Q' ⟨fr, Hs, ρ, Q, r, w, p⟩ => ?_
  rw [wE] at w
  refine R.two r w fun x y H2 Hs2 ra rb ρ2 r2 l2 o1 o2 q => ?_
  obtain ⟨da, e1, db, e2, q⟩ := q
  have ty := look_top r2 o2 e2
  cases db <;> try exact q.elim
  exact ⟨_, ty.int, sl_ok r2 (look_top r2 o1 (by rw [look_keep]; exact e1)) q fun v H' Hs' rd r3 l3 o3 q3 => p v H' Hs' rd ρ2 r3 (l2.tr l3) o3 q3⟩
theorem se_sl2 {a b : Expr} {ea eb : E} {pos p2 : Pos} (ha : PE X a (R X.K Φ ea)) (hb : PE X b (R X.K Φ eb)) : PE X (.Subscript a (.Slice none (some b) none p2) pos) (R X.K Φ (.sl2 ea eb)) := by
  refine (pe_slice rSl_ok ha po_none (po_some hb)).wk fun σ H Q' ⟨fr, Hs, ρ, Q, r, w, p⟩ => ?_
  rw [wE] at w
  refine R.two r w fun x y H2 Hs2 ra rb ρ2 r2 l2 o1 o2 q => ?_
  obtain ⟨da, e1, db, e2, q⟩ := q
  have ty := look_top r2 o2 e2
  cases db <;> try exact q.elim
  exact ⟨_, ty.int, sl_ok r2 (look_top r2 o1 (by rw [look_keep]; exact e1)) q fun v H' Hs' rd r3 l3 o3 q3 => p v H' Hs' rd ρ2 r3 (l2.tr l3) o3 q3⟩
theorem se_sl3 {a b c : Expr} {ea eb ec : E} {pos p2 : Pos} (ha : PE X a (R X.K Φ ea)) (hb : PE X b (R X.K Φ eb)) (hc : PE X c (R X.K Φ ec)) : PE X (.Subscript a (.Slice (some b) (some c) none p2) pos) (R X.K Φ (.sl3 ea eb ec)) := by
  refine (pe_slice rSl_ok ha (po_some hb) (po_some hc)).wk fun σ H Q' ⟨fr, Hs, ρ, Q, r, w, p⟩ => ?_
  rw [wE] at w
  refine R.two r w fun x y H2 Hs2 ra rb ρ2 r2 l2 o1 o2 q => ?_
  obtain ⟨di, e2, q⟩ := q
  have ty := look_top r2 o2 e2
  cases di <;> try exact q.elim
  refine ⟨_, ty.int, ?_⟩
  refine R.one r2 q fun z H3 Hs3 rc ρ3 r3 l3 o3 q => ?_
  obtain ⟨da, e1, dj, e3, q⟩ := q
  have tz := look_top r3 o3 e3
  cases dj <;> try exact q.elim
  exact ⟨_, tz.int, sl_ok r3 (look_top r3 (o1.stay l3) (by rw [look_keep]; exact e1)) q fun v H' Hs' rd r4 l4 o4 q4 => p v H' Hs' rd ρ3 r4 ((l2.tr l3).tr l4) o4 q4⟩
/-! ### calls -/
def spF (K : PySem.W.Frag) (sp : FSp) : Sp := fun vs H Q' _ => ∃ Hs ds Q, Leq Hs H ∧ DenL K Hs ds vs ∧ sp.run ds Q ∧
  ∀ v H' Hs' d, Leq H H' → Leq Hs Hs' → Leq Hs' H' → (∀ a, Hs' a ≠ none → Hs a ≠ none ∨ H a = none) → Den K Hs' d v → Q d → Q' v H'
def spB (K : PySem.W.Frag) (sp : BSp) : Sp := fun vs H Q' _ => (∃ a rest Hs c ds Q, vs = .ref a :: rest ∧ Leq Hs H ∧ Hs a = none ∧ Cont K H Hs a c ∧ DenL K Hs ds rest ∧ sp.run c ds Q ∧
  ∀ v H' Hs' d c', (∀ b o, b ≠ a → H b = some o → H' b = some o) → Leq Hs Hs' → Leq Hs' H' → (∀ b, Hs' b ≠ none → Hs b ≠ none ∨ H b = none) → Hs' a = none → Cont K H' Hs' a c' → Den K Hs' d v → Q d c' → Q' v H') ∨
  (∃ Hs ds Q, Leq Hs H ∧ DenL K Hs ds vs ∧ sp.run .non ds Q ∧ ∀ p H' Hs' c', Leq H H' → Leq Hs Hs' → Leq Hs' H' → (∀ b, Hs' b ≠ none → Hs b ≠ none ∨ H b = none) → H p = none → Hs' p = none → Cont K H' Hs' p c' → Q .non c' → Q' (.ref p) H')
/-- a def of the text that keeps a promise -/
structure Has (P : Program) (w : World) (K : PySem.W.Frag) (mg : Str → Option Value) (base : Heap) (lv : Nat) (f : Str) (sp : Sp) : Prop where
  ex : ∃ (a : Addr) (fd : FuncData) (ps : List Str) (k : Nat), k ≤ lv ∧ mg f = some (.ref a) ∧ PySem.W.keepIn K (.ref a) = true ∧ Binds K fd ps [] ∧ FnOk P w K mg base CX0 k a fd ps sp
def bnames : List Str := ["len", "abs", "min", "max", "int", "sum", "all", "any", "sorted", "list", "tuple", "str", "dict", "range", "zip", "enumerate", "isinstance", "bool", "set", "reversed"]
structure Good (X : Cx) (Φ : Ctx) (lv : Nat) : Prop where
  calm : X.calm = true
  nd : X.N.Nodup
  room : Room lv X.A
  F : ∀ (i : Nat) (x : Str × FSp), Φ.F[i]? = some x → Has X.prog X.w X.K X.mg X.base lv x.1 (spF X.K x.2)
  B : ∀ (i : Nat) (x : Str × BSp), Φ.B[i]? = some x → Has X.prog X.w X.K X.mg X.base lv x.1 (spB X.K x.2)
  G : ∀ (i : Nat) (x : Str × D), Φ.G[i]? = some x → ∃ u v, X.mg x.1 = some u ∧ RelV v u ∧ ∀ H, Den X.K H x.2 v
  bn : ∀ x, x ∈ bnames → X.mg x = none
theorem ovs_plain {K : PySem.W.Frag} {fr : Fr} {σ : L2.St} {H Hs : Hp} {ρ : Env} : ∀ {vs : List V} {rds : List RD} {ds : List D}, OVs K fr σ H Hs ρ vs rds → hasSlot rds = false → looks ρ rds = some ds → DenL K Hs ds vs
  | _, _, ds, .nil, _, e => by cases e; exact .nil
  | _, _, ds, .cons (rd := rd) h t, n, e => by
    simp only [looks, Option.bind_eq_some_iff, Option.map_eq_some_iff] at e
    obtain ⟨d, e1, ds', e2, rfl⟩ := e
    cases rd with
    | val d' => cases e1; exact .cons h (ovs_plain t n e2)
    | new d' => cases e1; exact .cons h (ovs_plain t n e2)
    | slot i => cases n
theorem topL_den {K : PySem.W.Frag} {H Hs : Hp} (s : Leq Hs H) : ∀ {ds : List D} {vs : List V}, TopL K H Hs ds vs → DenL K H ds vs
  | _, _, .nil => .nil
  | _, _, .cons h t => .cons (h.den s) (topL_den s t)
theorem look_frz {ρ : Env} {i : Nat} {c : D} (e : ρ[i]? = some (.own c)) (r : RD) : look (ρ.set i (.sh c)) r = look ρ r := by
  cases r with
  | val d => rfl
  | new d => rfl
  | slot j =>
    have hi : i < ρ.length := (List.getElem?_eq_some_iff.mp e).1
    rw [look_slot, look_slot, getElem?_set']
    by_cases h : i = j
    · subst h; rw [if_pos rfl, if_pos hi, e]; rfl
    · rw [if_neg h]
theorem looks_frz {ρ : Env} {i : Nat} {c : D} (e : ρ[i]? = some (.own c)) : ∀ rs : List RD, looks (ρ.set i (.sh c)) rs = looks ρ rs
  | [] => rfl
  | r :: rs => by rw [looks_cons, looks_cons, look_frz e, looks_frz e rs]
theorem ovs_env {K : PySem.W.Frag} {fr : Fr} {σ : L2.St} {H H' Hs Hs' : Hp} {ρ ρ' : Env} (l : Leq Hs Hs') : ∀ {vs : List V} {rds : List RD}, OVs K fr σ H Hs ρ vs rds → OVs K fr σ H' Hs' ρ' vs rds
  | _, _, .nil => .nil
  | _, _, .cons h t => .cons (h.stay l) (ovs_env l t)
theorem frzAll_ok {K : PySem.W.Frag} {fr : Fr} {σ : L2.St} {H : Hp} : ∀ {rds : List RD} {vs : List V} {ds : List D} {Hs : Hp} {ρ ρ2 : Env}, Rel K fr σ H Hs ρ → OVs K fr σ H Hs ρ vs rds → looks ρ rds = some ds → frzAll rds ρ = some ρ2 →
    ∃ Hs2, Leq Hs Hs2 ∧ Rel K fr σ H Hs2 ρ2 ∧ DenL K Hs2 ds vs
  | [], _, ds, Hs, ρ, ρ2, r, .nil, e, f => by cases e; cases f; exact ⟨Hs, .rfl', r, .nil⟩
  | _ :: rds, _, ds, Hs, ρ, ρ2, r, .cons (rd := rd) h t, e, f => by
    simp only [looks, Option.bind_eq_some_iff, Option.map_eq_some_iff] at e
    obtain ⟨d, e1, ds', e2, rfl⟩ := e
    cases rd with
    | val d' =>
      cases e1
      obtain ⟨Hs2, l2, r2, t2⟩ := frzAll_ok r t e2 f
      exact ⟨Hs2, l2, r2, .cons (Den.leq l2 h) t2⟩
    | new d' =>
      cases e1
      obtain ⟨Hs2, l2, r2, t2⟩ := frzAll_ok r t e2 f
      exact ⟨Hs2, l2, r2, .cons (Den.leq l2 h) t2⟩
    | slot i =>
      simp only [keep, frzAll] at f
      have h : σ[i]? = some (some _) := h
      have e1 : (ρ[i]?).bind VE.d? = some d := e1
      split at f
      · rename_i c hc
        rw [hc] at e1
        cases e1
        obtain ⟨a, o, g1, g2, g3, g4, g5⟩ := r.freeze hc
        rw [h] at g1; cases g1
        have l1 : Leq Hs (upd Hs a o) := leq_upd g2
        obtain ⟨Hs2, l2, r2, t2⟩ := frzAll_ok g5 (ovs_env l1 t) (by rw [looks_frz hc]; exact e2) f
        exact ⟨Hs2, l1.tr l2, r2, .cons (g4.leq l2) t2⟩
      · rename_i c hc
        rw [hc] at e1
        cases e1
        obtain ⟨v, g1, g2⟩ := r.sh i d hc
        rw [h] at g1; cases g1
        obtain ⟨Hs2, l2, r2, t2⟩ := frzAll_ok r t e2 f
        exact ⟨Hs2, l2, r2, .cons (g2.leq l2) t2⟩
      · cases f
/-- behind a callee that changed nothing -/
theorem Rel.after {K : PySem.W.Frag} {fr : Fr} {σ : L2.St} {H H' Hs Hs' : Hp} {ρ : Env} (r : Rel K fr σ H Hs ρ) (g : Leq H H') (l : Leq Hs Hs') (s : Leq Hs' H') (n : ∀ a, Hs' a ≠ none → Hs a ≠ none ∨ H a = none) : Rel K fr σ H' Hs' ρ where
  sub := s
  len := r.len
  sh := fun i d e => by obtain ⟨v, h1, h2⟩ := r.sh i d e; exact ⟨v, h1, h2.leq l⟩
  ow := fun i c e => by
    obtain ⟨a, h1, h2, h3, h5, h4⟩ := r.ow i c e
    refine ⟨a, h1, ?_, h3, h5, ?_⟩
    · cases q : Hs' a with
      | none => rfl
      | some o =>
        rcases n a (by rw [q]; simp) with z | z
        · exact absurd h2 z
        · exact absurd z h4.some
    · cases q : H a with
      | none => exact absurd q h4.some
      | some o => exact h4.leq (by rw [q]; exact g _ _ q) l
  br := fun i c e => by
    obtain ⟨a, h1, h2, h3, h4⟩ := r.br i c e
    refine ⟨a, h1, ?_, h3, ?_⟩
    · cases q : Hs' a with
      | none => rfl
      | some o =>
        rcases n a (by rw [q]; simp) with z | z
        · exact absurd h2 z
        · exact absurd z h4.some
    · cases q : H a with
      | none => exact absurd q h4.some
      | some o => exact h4.leq (by rw [q]; exact g _ _ q) l
  sep := r.sep
  fra := fun a o h1 h2 => g _ _ (r.fra a o h1 h2)
  dom := fun a h => by
    cases q : H a with
    | none => exact absurd q (r.dom a h)
    | some o => rw [g _ _ q]; simp
  bin := fun a h => by
    cases q : H a with
    | none => exact absurd q (r.bin a h)
    | some o => rw [g _ _ q]; simp
  s0 := r.s0.tr l
  nw := fun a q => by
    rcases n a q with z | z
    · exact r.nw a z
    · exact .inr (r.h0 z)
theorem run_F {K : PySem.W.Frag} {sp : FSp} {fr : Fr} {σ : L2.St} {H Hs : Hp} {ρ : Env} {vs : List V} {rds : List RD} {ds : List D} {Q : RD → Env → Prop} {Q' : VK} {E0' : XK} (r : Rel K fr σ H Hs ρ) (o : OVs K fr σ H Hs ρ vs rds) (e : looks ρ rds = some ds)
    (w : sp.run ds fun d => if hasSlot rds = false ∨ flat d = true then Q (.val d) ρ else ∃ ρ2, frzAll rds ρ = some ρ2 ∧ Q (.val d) ρ2)
    (p : ∀ v H' Hs' rd ρ', Rel K fr σ H' Hs' ρ' → Leq Hs Hs' → OVr K fr σ H' Hs' ρ' v rd → Q rd ρ' → Q' v H') : spF K sp vs H Q' E0' := by
  by_cases hs : hasSlot rds = false
  · refine ⟨Hs, ds, _, r.sub, ovs_plain o hs e, w, fun v H' Hs' d g l s n den q => ?_⟩
    rw [if_pos (.inl hs)] at q
    exact p v H' Hs' (.val d) ρ (r.after g l s n) l den q
  · cases hf : frzAll rds ρ with
    | none =>
      refine ⟨H, ds, _, .rfl', topL_den r.sub (looks_top r o e), w, fun v H' Hs' d g l s n den q => ?_⟩
      by_cases hfl : flat d = true
      · rw [if_pos (.inr hfl)] at q
        exact p v H' Hs (.val d) ρ (r.after g .rfl' (r.sub.tr g) (fun a z => .inl z)) .rfl' (Den.flat hfl den) q
      · rw [if_neg (by simp [hs, hfl])] at q
        obtain ⟨ρ2, z, _⟩ := q
        rw [hf] at z; cases z
    | some ρ2 =>
      obtain ⟨Hs2, l2, r2, den2⟩ := frzAll_ok r o e hf
      refine ⟨Hs2, ds, _, r2.sub, den2, w, fun v H' Hs' d g l s n den q => ?_⟩
      by_cases hfl : flat d = true
      · rw [if_pos (.inr hfl)] at q
        exact p v H' Hs (.val d) ρ (r.after g .rfl' (r.sub.tr g) (fun a z => .inl z)) .rfl' (Den.flat hfl den) q
      · rw [if_neg (by simp [hs, hfl])] at q
        obtain ⟨ρ2', z, q⟩ := q
        rw [hf] at z; cases z
        exact p v H' Hs' (.val d) ρ2 (r2.after g l s n) (l2.tr l) den q
theorem se_call {lv : Nat} (G : Good X Φ lv) {i : Nat} {f : Str} {e : Expr} {es : List Expr} {cs : List E} {p1 pos : Pos} (hf : (Φ.F.map (·.1))[i]? = some f) (hg : Gl X f) (hd : (f == ("__debug__" : Str)) = false) (h : PA X (e :: es) (RR X.K Φ cs)) (ns : (e :: es).all notStar = true) : PE X (.Call (.Name f p1) (e :: es) [] pos) (R X.K Φ (.call i cs)) := by
  rw [List.getElem?_map] at hf
  simp only [Option.map_eq_some_iff] at hf
  obtain ⟨⟨x, sp⟩, hF, rfl⟩ := hf
  obtain ⟨a, fd, ps, k, hk, hm, hkp, hb, ok⟩ := (G.F i _ hF).ex
  rw [List.all_cons, Bool.and_eq_true] at ns
  refine (pe_call ok (G.room.mono hk) hg hm hkp hb .nil pass0 h hd (starEach_plain ns.1) (plain_any ns.2)).wk fun σ H Q' ⟨fr, Hs, ρ, Q, r, w, p⟩ => ?_
  rw [wE] at w
  obtain ⟨sp', e0, w⟩ := w
  rw [hF] at e0; cases e0
  refine ⟨fr, Hs, ρ, _, r, w, fun vs H1 Hs1 rds ρ1 r1 l1 o1 q => ?_⟩
  obtain ⟨ds, e1, q⟩ := q
  rw [List.append_nil]
  exact run_F r1 o1 e1 q fun v H' Hs' rd ρ' r3 l3 o3 q3 => p v H' Hs' rd ρ' r3 (l1.tr l3) o3 q3
/-- behind a callee that changed the object of one name -/
theorem Rel.afterB {K : PySem.W.Frag} {fr : Fr} {σ : L2.St} {H H' Hs Hs' : Hp} {ρ : Env} {i : Nat} {c c' : D} {a : Addr} (r : Rel K fr σ H Hs ρ) (e : ρ[i]? = some (.own c) ∨ ρ[i]? = some (.bor c)) (hs : σ[i]? = some (some (.ref a)))
    (g : ∀ b o, b ≠ a → H b = some o → H' b = some o) (l : Leq Hs Hs') (s : Leq Hs' H') (n : ∀ b, Hs' b ≠ none → Hs b ≠ none ∨ H b = none) (z : Hs' a = none) (hc : Cont K H' Hs' a c') :
    Rel K fr σ H' Hs' (ρ.set i (match ρ[i]? with | some (.own _) => .own c' | _ => .bor c')) := by
  have hi : i < ρ.length := by rcases e with e | e <;> exact (List.getElem?_eq_some_iff.mp e).1
  have ob : obAt ρ i = true := by rcases e with e | e; exact obAt_own e; exact obAt_bor e
  have ha : H a ≠ none := by
    rcases e with e | e
    · obtain ⟨b, h1, _, _, _, h2⟩ := r.ow i c e; rw [hs] at h1; cases h1; exact h2.some
    · obtain ⟨b, h1, _, _, h2⟩ := r.br i c e; rw [hs] at h1; cases h1; exact h2.some
  have ne : ∀ (j : Nat) (b : Addr), j ≠ i → obAt ρ j = true → σ[j]? = some (some (.ref b)) → b ≠ a := fun j b hj ob' hb z => by
    subst z
    exact hj (r.sep j i b ob' ob hb hs)
  have keepN : ∀ b, Hs b = none → H b ≠ none → Hs' b = none := fun b h1 h2 => by
    cases q : Hs' b with
    | none => rfl
    | some o =>
      rcases n b (by rw [q]; simp) with z | z
      · exact absurd h1 z
      · exact absurd z h2
  have same : ∀ b, b ≠ a → H b ≠ none → H' b = H b := fun b h1 h2 => by
    cases q : H b with
    | none => exact absurd q h2
    | some o => exact g b o h1 q
  refine ⟨s, by simp [r.len], fun j d q => ?_, fun j d q => ?_, fun j d q => ?_, fun j k b q1 q2 => ?_, fun b x q1 q2 => ?_, fun b q => ?_, fun b q => ?_, r.s0.tr l, fun b q => ?_⟩
  · rw [getElem?_set'] at q
    by_cases hj : i = j
    · subst hj
      rw [if_pos rfl, if_pos hi] at q
      rcases e with e | e <;> (rw [e] at q; cases q)
    · rw [if_neg hj] at q
      obtain ⟨v, h1, h2⟩ := r.sh j d q
      exact ⟨v, h1, h2.leq l⟩
  · rw [getElem?_set'] at q
    by_cases hj : i = j
    · subst hj
      rw [if_pos rfl, if_pos hi] at q
      rcases e with e | e
      · rw [e] at q; cases q
        obtain ⟨b, h1, h2, h3, h4, _⟩ := r.ow i c e
        rw [hs] at h1; cases h1
        exact ⟨a, hs, z, h3, h4, hc⟩
      · rw [e] at q; cases q
    · rw [if_neg hj] at q
      obtain ⟨b, q1, q2, q3, q4, q5⟩ := r.ow j d q
      exact ⟨b, q1, keepN b q2 q5.some, q3, q4, q5.leq (same b (ne j b (fun z => hj z.symm) (obAt_own q) q1) q5.some) l⟩
  · rw [getElem?_set'] at q
    by_cases hj : i = j
    · subst hj
      rw [if_pos rfl, if_pos hi] at q
      rcases e with e | e
      · rw [e] at q; cases q
      · rw [e] at q; cases q
        obtain ⟨b, h1, h2, h3, _⟩ := r.br i c e
        rw [hs] at h1; cases h1
        exact ⟨a, hs, z, h3, hc⟩
    · rw [if_neg hj] at q
      obtain ⟨b, q1, q2, q3, q5⟩ := r.br j d q
      exact ⟨b, q1, keepN b q2 q5.some, q3, q5.leq (same b (ne j b (fun z => hj z.symm) (obAt_bor q) q1) q5.some) l⟩
  · have w : ∀ j, obAt (ρ.set i (match ρ[i]? with | some (.own _) => .own c' | _ => .bor c')) j = true → obAt ρ j = true := fun j q => by
      rcases obAt_set q with ⟨e1, _, _⟩ | ⟨_, q⟩
      · rw [e1]; exact ob
      · exact q
    exact r.sep j k b (w j q1) (w k q2)
  · by_cases hb : b = a
    · subst hb
      rcases e with e | e
      · obtain ⟨b', h1, _, h3, _⟩ := r.ow i c e
        rw [hs] at h1; cases h1
        rw [h3] at q1; cases q1
      · obtain ⟨b', h1, _, h3, _⟩ := r.br i c e
        rw [hs] at h1; cases h1
        exact absurd h3 q2
    · exact g b x hb (r.fra b x q1 q2)
  · by_cases hb : b = a
    · rw [hb]; exact hc.some
    · rw [same b hb (r.dom b q)]; exact r.dom b q
  · by_cases hb : b = a
    · rw [hb]; exact hc.some
    · rw [same b hb (r.bin b q)]; exact r.bin b q
  · rcases n b q with z | z
    · exact r.nw b z
    · exact .inr (r.h0 z)
theorem se_callB {lv : Nat} (G : Good X Φ lv) {i j : Nat} {f x : Str} {es : List Expr} {cs : List E} {p1 p2 pos : Pos} (hf : (Φ.B.map (·.1))[i]? = some f) (hg : Gl X f) (hd : (f == ("__debug__" : Str)) = false) (hx : PE X (.Name x p2) (tVar j)) (h : PA X es (RR X.K Φ cs)) (ns : es.all notStar = true) :
    PE X (.Call (.Name f p1) (.Name x p2 :: es) [] pos) (R X.K Φ (.callB i j cs)) := by
  rw [List.getElem?_map] at hf
  simp only [Option.map_eq_some_iff] at hf
  obtain ⟨⟨y, sp⟩, hF, rfl⟩ := hf
  obtain ⟨a, fd, ps, k, hk, hm, hkp, hb, ok⟩ := (G.B i _ hF).ex
  refine (pe_call ok (G.room.mono hk) hg hm hkp hb .nil pass0 (pa_cons hx h rfl) hd rfl (plain_any ns)).wk fun σ H Q' ⟨fr, Hs, ρ, Q, r, w, p⟩ => ?_
  rw [wE] at w
  obtain ⟨sp', e0, ho, w⟩ := w
  rw [hF] at e0; cases e0
  obtain ⟨b, hσ, _, _⟩ := r.addr ho
  refine ⟨_, hσ, fr, Hs, ρ, _, r, w, fun vs H1 Hs1 rds ρ1 r1 l1 o1 q => ?_⟩
  obtain ⟨hns, ds, e1, q⟩ := q
  rw [List.append_nil]
  split at q
  · rename_i c hc
    obtain ⟨b', g1, g2, _, _, g3⟩ := r1.ow j c hc
    rw [hσ] at g1; cases g1
    refine .inl ⟨b, vs, Hs1, c, ds, _, rfl, r1.sub, g2, g3, ovs_plain o1 hns e1, q, fun v H' Hs' d c' g l s n z hc' den q3 => ?_⟩
    have r3 := r1.afterB (.inl hc) hσ g l s n z hc'
    rw [hc] at r3
    exact p v H' Hs' (.val d) _ r3 (l1.tr l) den q3
  · rename_i c hc
    obtain ⟨b', g1, g2, _, g3⟩ := r1.br j c hc
    rw [hσ] at g1; cases g1
    refine .inl ⟨b, vs, Hs1, c, ds, _, rfl, r1.sub, g2, g3, ovs_plain o1 hns e1, q, fun v H' Hs' d c' g l s n z hc' den q3 => ?_⟩
    have r3 := r1.afterB (.inr hc) hσ g l s n z hc'
    rw [hc] at r3
    exact p v H' Hs' (.val d) _ r3 (l1.tr l) den q3
  · exact q.elim
theorem se_callN {lv : Nat} (G : Good X Φ lv) {i : Nat} {f : Str} {e : Expr} {es : List Expr} {cs : List E} {p1 pos : Pos} (hf : (Φ.B.map (·.1))[i]? = some f) (hg : Gl X f) (hd : (f == ("__debug__" : Str)) = false) (h : PA X (e :: es) (RR X.K Φ cs)) (ns : (e :: es).all notStar = true) : PE X (.Call (.Name f p1) (e :: es) [] pos) (R X.K Φ (.callN i cs)) := by
  rw [List.getElem?_map] at hf
  simp only [Option.map_eq_some_iff] at hf
  obtain ⟨⟨x, sp⟩, hF, rfl⟩ := hf
  obtain ⟨a, fd, ps, k, hk, hm, hkp, hb, ok⟩ := (G.B i _ hF).ex
  rw [List.all_cons, Bool.and_eq_true] at ns
  refine (pe_call ok (G.room.mono hk) hg hm hkp hb .nil pass0 h hd (starEach_plain ns.1) (plain_any ns.2)).wk fun σ H Q' ⟨fr, Hs, ρ, Q, r, w, p⟩ => ?_
  rw [wE] at w
  obtain ⟨sp', e0, w⟩ := w
  rw [hF] at e0; cases e0
  refine ⟨fr, Hs, ρ, _, r, w, fun vs H1 Hs1 rds ρ1 r1 l1 o1 q => ?_⟩
  obtain ⟨hns, ds, e1, q⟩ := q
  rw [List.append_nil]
  refine .inr ⟨Hs1, ds, _, r1.sub, ovs_plain o1 hns e1, q, fun b H' Hs' c' g l s n z hz hc' q3 => ?_⟩
  refine p (.ref b) H' Hs' (.new c') ρ1 (r1.after g l s n) (l1.tr l) ⟨b, rfl, hz, r1.h0 z, fun e => r1.bin b e z, hc', fun j hj e => ?_⟩ q3
  rcases obAt_cases hj with ⟨c2, e2⟩ | ⟨c2, e2⟩
  · obtain ⟨b', h1, _, _, _, h5⟩ := r1.ow j c2 e2
    rw [e] at h1; cases h1
    exact h5.some z
  · obtain ⟨b', h1, _, _, h5⟩ := r1.br j c2 e2
    rw [e] at h1; cases h1
    exact h5.some z
theorem biNm_ok (b : Bi) : biNm b ∈ bnames ∧ bootBuiltins (biNm b) = some (biVal b) := by
  cases b <;> exact ⟨by decide +kernel, by decide +kernel⟩
theorem nm_ok (b : Bi) : biNm b ≠ "__name__" ∧ (biNm b == ("__debug__" : Str)) = false := by
  cases b <;> exact ⟨by decide +kernel, by decide +kernel⟩
theorem se_bi {lv : Nat} (G : Good X Φ lv) {b : Bi} {e : Expr} {es : List Expr} {cs : List E} {p1 pos : Pos} (hg : Gl X (biNm b)) (h : PA X (e :: es) (RR X.K Φ cs)) (ns : (e :: es).all notStar = true) : PE X (.Call (.Name (biNm b) p1) (e :: es) [] pos) (R X.K Φ (.bi b cs)) := by
  obtain ⟨n1, n2⟩ := biNm_ok b
  obtain ⟨n3, n4⟩ := nm_ok b
  rw [List.all_cons, Bool.and_eq_true] at ns
  have core : ∀ σ H Q', R X.K Φ (.bi b cs) σ H Q' → tCB (rCl X.K b) (RR X.K Φ cs) σ H Q' := fun σ H Q' ⟨fr, Hs, ρ, Q, r, w, p⟩ => by
    rw [wE] at w
    refine ⟨fr, Hs, ρ, _, r, w, fun vs H1 Hs1 rds ρ1 r1 l1 o1 q => ?_⟩
    obtain ⟨ds, e1, q⟩ := q
    exact opS_bi X.K b fr σ H1 Hs1 ρ1 vs ds _ Q' r1 (looks_top r1 o1 e1) q fun v H' Hs' rd r3 l3 o3 q3 => p v H' Hs' rd ρ1 r3 (l1.tr l3) o3 q3
  have hc := rCl_ok (X := X) G.calm b
  unfold biVal at hc n2
  by_cases ht : biTy b = true
  · rw [if_pos ht] at hc n2
    exact (pe_callTy hc hg (G.bn _ n1) n2 h n3 n4 (starEach_plain ns.1) (plain_any ns.2)).wk core
  · rw [if_neg ht] at hc n2
    exact (pe_callB hc hg (G.bn _ n1) n2 h n3 n4 (starEach_plain ns.1) (plain_any ns.2)).wk core
theorem se_glo {lv : Nat} (G : Good X Φ lv) {i : Nat} {x : Str} {pos : Pos} (hf : (Φ.G.map (·.1))[i]? = some x) (hg : Gl X x) (hd : (x == ("__debug__" : Str)) = false) : PE X (.Name x pos) (R X.K Φ (.glo i)) := by
  rw [List.getElem?_map] at hf
  simp only [Option.map_eq_some_iff] at hf
  obtain ⟨⟨y, d⟩, hF, rfl⟩ := hf
  obtain ⟨u, v, hm, rv, den⟩ := G.G i _ hF
  refine (pe_glob hg hm rv hd).wk fun σ H Q' ⟨fr, Hs, ρ, Q, r, w, p⟩ => ?_
  rw [wE] at w
  obtain ⟨z, e0, w⟩ := w
  rw [hF] at e0; cases e0
  exact p v H Hs (.val d) ρ r .rfl' (den Hs) w
end
end PL
set_option Elab.async false
set_option linter.all false
set_option maxRecDepth 100000
set_option maxHeartbeats 4000000
namespace PL
open PySem PySem.Spec L2
theorem _root_.L2.PI.wk {X : Cx} {tg it : Expr} {t t' : TI} (p : PI X tg it t) (h : ∀ σ H Q, t' σ H Q → t σ H Q) : PI X tg it t' := ⟨fun pins s σ H Q I q => p.run pins s σ H Q I (h _ _ _ q)⟩
theorem _root_.L2.PG.wk {X : Cx} {tg : Expr} {t t' : TG} (p : PG X tg t) (h : ∀ v σ H Q, t' v σ H Q → t v σ H Q) : PG X tg t' := ⟨fun pins s σ H v u Q I rv q => p.run pins s σ H v u Q I rv (h _ _ _ _ q)⟩
theorem _root_.L2.PTs.wk {X : Cx} {ifs : List Expr} {t t' : TT} (p : PTs X ifs t) (h : ∀ σ H Q, t' σ H Q → t σ H Q) : PTs X ifs t' := ⟨fun pins s σ H Q I q => p.run pins s σ H Q I (h _ _ _ q)⟩
/-! ### what is walked -/
structure WalkD (K : PySem.W.Frag) (J : It) (vs : List V) (cs ds : List D) : Prop where
  stop : ∀ (H Hs : Hp) (i : Nat), Leq Hs H → TopL K H Hs cs vs → ds.length ≤ i → J.stop i H
  go : ∀ (H Hs : Hp) (i : Nat) (d : D), Leq Hs H → TopL K H Hs cs vs → ds[i]? = some d → J.go i H ∧
    ∀ x H', J.yld i H x H' → (H' = H ∧ Den K Hs d x) ∨ (∃ T o, x = .ref T ∧ H T = none ∧ H' = upd H T o ∧ Den K (upd Hs T o) d (.ref T))
def tSrc (K : PySem.W.Frag) (Φ : Ctx) (k : SK) (srcs : List E) : TI := fun σ H Rk => ∃ fr Hs ρ Q, Rel K fr σ H Hs ρ ∧ wRs Φ srcs ρ Q ∧
  ∀ vs H1 Hs1 rs ρ1, Rel K fr σ H1 Hs1 ρ1 → Leq Hs Hs1 → OVs K fr σ H1 Hs1 ρ1 vs rs → Q rs ρ1 → ∃ cs, looks ρ1 rs = some cs ∧ srcW k cs fun ds => ∀ J, WalkD K J vs cs ds → Rk J H1
section
variable {X : Cx} {Φ : Ctx}
theorem TopL.one {K : PySem.W.Frag} {H Hs : Hp} {d : D} {vs : List V} (h : TopL K H Hs [d] vs) : ∃ v, vs = [v] ∧ Top K H Hs d v := by
  cases h with | cons a t => cases t; exact ⟨_, rfl, a⟩
theorem TopL.two {K : PySem.W.Frag} {H Hs : Hp} {d e : D} {vs : List V} (h : TopL K H Hs [d, e] vs) : ∃ v w, vs = [v, w] ∧ Top K H Hs d v ∧ Top K H Hs e w := by
  cases h with | cons a t => cases t with | cons b t => cases t; exact ⟨_, _, rfl, a, b⟩
/-- the sources' reading, as rows of values -/
theorem src_row {K : PySem.W.Frag} {k : SK} {srcs : List E} {σ : L2.St} {H : Hp} {Rk : It → Hp → Prop} (h : tSrc K Φ k srcs σ H Rk) :
    RR K Φ srcs σ H fun vs H1 => ∃ Hs cs, Leq Hs H1 ∧ TopL K H1 Hs cs vs ∧ srcW k cs fun ds => ∀ J, WalkD K J vs cs ds → Rk J H1 := by
  obtain ⟨fr, Hs, ρ, Q, r, w, p⟩ := h
  refine ⟨fr, Hs, ρ, Q, r, w, fun vs H1 Hs1 rs ρ1 r1 l1 o1 q => ?_⟩
  obtain ⟨cs, e, q⟩ := p vs H1 Hs1 rs ρ1 r1 l1 o1 q
  exact ⟨Hs1, cs, r1.sub, looks_top r1 o1 e, q⟩
theorem src_one {K : PySem.W.Frag} {k : SK} {e : E} {σ : L2.St} {H : Hp} {Rk : It → Hp → Prop} (h : tSrc K Φ k [e] σ H Rk) :
    R K Φ e σ H fun v H1 => ∃ Hs c, Leq Hs H1 ∧ Top K H1 Hs c v ∧ srcW k [c] fun ds => ∀ J, WalkD K J [v] [c] ds → Rk J H1 := by
  obtain ⟨fr, Hs, ρ, Q, r, w, p⟩ := h
  rw [wRs] at w
  refine R.one r w fun v H1 Hs1 ra ρ1 r1 l1 o1 q => ?_
  rw [wRs] at q
  obtain ⟨Hs1', l1', r1', o1'⟩ := keep_ok r1 o1
  obtain ⟨cs, e, q⟩ := p [v] H1 Hs1' _ ρ1 r1' (l1.tr l1') (.cons o1' .nil) q
  simp only [looks_cons, looks_nil, Option.bind_eq_some_iff, Option.map_some, Option.some.injEq] at e
  obtain ⟨c, e, rfl⟩ := e
  exact ⟨Hs1', c, r1'.sub, look_top r1' o1' e, q⟩
theorem walk_list {K : PySem.W.Frag} {a : Addr} {c : D} {ds : List D} (h : c = .lst ds ∨ c = .ro ds) : WalkD K (Itl K a) [.ref a] [c] ds := by
  have key : ∀ H Hs, Leq Hs H → TopL K H Hs [c] [.ref a] → ∃ vs, SqL K H a vs ∧ DenL K Hs ds vs := fun H Hs s t => by
    obtain ⟨v, e, t⟩ := t.one
    cases e
    rcases h with rfl | rfl
    · obtain ⟨b, vs, e, h1, h2⟩ := t.lst; cases e; exact ⟨vs, SqL.of h1, h2⟩
    · obtain ⟨b, vs, e, h1, h2⟩ := t.ro; cases e; exact ⟨vs, sqL_leq s h1, h2⟩
  refine ⟨fun H Hs i s t hi => ?_, fun H Hs i d s t hd => ?_⟩
  · obtain ⟨vs, h1, h2⟩ := key H Hs s t
    exact ⟨vs, h1, by rw [h2.length]; exact hi⟩
  · obtain ⟨vs, h1, h2⟩ := key H Hs s t
    obtain ⟨v, e1, e2⟩ := h2.get hd
    refine ⟨⟨vs, v, h1, e1⟩, fun x H' y => .inl ⟨y.1, ?_⟩⟩
    have := y.2 vs h1
    rw [e1] at this; cases this; exact e2
theorem walk_tup {K : PySem.W.Frag} {a : Addr} {ds : List D} : WalkD K (Itt K a) [.ref a] [.tup ds] ds := by
  have key : ∀ H Hs, Leq Hs H → TopL K H Hs [.tup ds] [.ref a] → ∃ vs, SqT K H a vs ∧ DenL K Hs ds vs := fun H Hs s t => by
    obtain ⟨v, e, t⟩ := t.one
    cases e
    obtain ⟨b, vs, e, h1, h2⟩ := t.tup; cases e; exact ⟨vs, sqT_leq s h1, h2⟩
  refine ⟨fun H Hs i s t hi => ?_, fun H Hs i d s t hd => ?_⟩
  · obtain ⟨vs, h1, h2⟩ := key H Hs s t
    exact ⟨vs, h1, by rw [h2.length]; exact hi⟩
  · obtain ⟨vs, h1, h2⟩ := key H Hs s t
    obtain ⟨v, e1, e2⟩ := h2.get hd
    refine ⟨⟨vs, v, h1, e1⟩, fun x H' y => .inl ⟨y.1, ?_⟩⟩
    have := y.2 vs h1
    rw [e1] at this; cases this; exact e2
theorem si_list {tg l : Expr} {e : E} (h : PE X l (R X.K Φ e)) : PI X tg l (tSrc X.K Φ .seq [e]) := by
  refine (pi_list h).wk fun σ H Rk h => ?_
  obtain ⟨fr, Hs, ρ, Q, r, w, p⟩ := src_one h
  refine ⟨fr, Hs, ρ, Q, r, w, fun v H' Hs' rd ρ' r1 l1 o1 q => ?_⟩
  obtain ⟨Hs2, c, s, t, q⟩ := p v H' Hs' rd ρ' r1 l1 o1 q
  cases c <;> simp only [srcW] at q
  case lst ds =>
    obtain ⟨a, vs, rfl, h1, h2⟩ := t.lst
    exact ⟨a, rfl, ⟨vs, SqL.of h1⟩, q _ (walk_list (.inl rfl))⟩
  case ro ds =>
    obtain ⟨a, vs, rfl, h1, h2⟩ := t.ro
    exact ⟨a, rfl, ⟨vs, sqL_leq s h1⟩, q _ (walk_list (.inr rfl))⟩
theorem si_tup {tg l : Expr} {e : E} (h : PE X l (R X.K Φ e)) : PI X tg l (tSrc X.K Φ .seqT [e]) := by
  refine (pi_tup h).wk fun σ H Rk h => ?_
  obtain ⟨fr, Hs, ρ, Q, r, w, p⟩ := src_one h
  refine ⟨fr, Hs, ρ, Q, r, w, fun v H' Hs' rd ρ' r1 l1 o1 q => ?_⟩
  obtain ⟨Hs2, c, s, t, q⟩ := p v H' Hs' rd ρ' r1 l1 o1 q
  cases c <;> simp only [srcW] at q
  case tup ds =>
    obtain ⟨a, vs, rfl, h1, h2⟩ := t.tup
    exact ⟨a, rfl, ⟨vs, sqT_leq s h1⟩, q _ walk_tup⟩
theorem walk_str {K : PySem.W.Frag} {z : Str} : WalkD K (Its z) [.str z] [.str z] (z.cps.toList.map fun c => .str ⟨#[c]⟩) := by
  refine ⟨fun H Hs i s t hi => ?_, fun H Hs i d s t hd => ?_⟩
  · show z.cps.size ≤ i
    simpa using hi
  · rw [List.getElem?_map, Option.map_eq_some_iff] at hd
    obtain ⟨c, hc, rfl⟩ := hd
    have hi : i < z.cps.size := by have := (List.getElem?_eq_some_iff.mp hc).1; simpa using this
    refine ⟨hi, fun x H' y => .inl ⟨y.1, ?_⟩⟩
    obtain ⟨_, c', e1, rfl⟩ := y
    have : c' = c := by
      rw [Array.getElem?_toList] at hc
      rw [hc] at e1; exact (Option.some.inj e1).symm
    subst this
    rw [Den]
theorem si_str {tg l : Expr} {e : E} (h : PE X l (R X.K Φ e)) : PI X tg l (tSrc X.K Φ .seqS [e]) := by
  refine (pi_str h).wk fun σ H Rk h => ?_
  obtain ⟨fr, Hs, ρ, Q, r, w, p⟩ := src_one h
  refine ⟨fr, Hs, ρ, Q, r, w, fun v H' Hs' rd ρ' r1 l1 o1 q => ?_⟩
  obtain ⟨Hs2, c, s, t, q⟩ := p v H' Hs' rd ρ' r1 l1 o1 q
  cases c <;> simp only [srcW] at q
  case str z =>
    have := t.str; subst this
    exact ⟨z, rfl, q _ walk_str⟩
theorem rangeD_get : ∀ (n : Nat) (lo : Int) (i : Nat), (rangeD lo n)[i]? = if i < n then some (.int (lo + i)) else none
  | 0, lo, i => by simp [rangeD]
  | n + 1, lo, 0 => by simp [rangeD]
  | n + 1, lo, i + 1 => by
    rw [rangeD, List.getElem?_cons_succ, rangeD_get n]
    by_cases h : i < n
    · rw [if_pos h, if_pos (by omega)]; congr 2; omega
    · rw [if_neg h, if_neg (by omega)]
theorem rangeD_len : ∀ (n : Nat) (lo : Int), (rangeD lo n).length = n
  | 0, _ => rfl
  | n + 1, lo => by rw [rangeD, List.length_cons, rangeD_len n]
theorem walk_rg {K : PySem.W.Frag} {lo : Int} {n : Nat} {vs : List V} {cs : List D} : WalkD K (Itr lo n) vs cs (rangeD lo n) := by
  refine ⟨fun H Hs i s t hi => ?_, fun H Hs i d s t hd => ?_⟩
  · show n ≤ i
    rwa [rangeD_len] at hi
  · rw [rangeD_get] at hd
    split at hd
    · cases hd
      refine ⟨by assumption, fun x H' y => .inl ⟨y.1, ?_⟩⟩
      rw [y.2]; exact denI
    · cases hd
theorem si_r1 {tg l : Expr} {p pos : Pos} {e : E} (hg : Gl X "range") (hm : X.mg "range" = none) (h : PA X [l] (RR X.K Φ [e])) (n : notStar l = true) : PI X tg (.Call (.Name "range" p) [l] [] pos) (tSrc X.K Φ .r1 [e]) := by
  refine (pi_range1 hg hm h (starEach_plain n)).wk fun σ H Rk h => ?_
  obtain ⟨fr, Hs, ρ, Q, r, w, p⟩ := src_row h
  refine ⟨fr, Hs, ρ, Q, r, w, fun vs H' Hs' rd ρ' r1 l1 o1 q => ?_⟩
  obtain ⟨Hs2, cs, s, t, q⟩ := p vs H' Hs' rd ρ' r1 l1 o1 q
  obtain _ | ⟨c, _ | ⟨c2, cs⟩⟩ := cs <;> try exact q.elim
  · obtain ⟨v, rfl, t1⟩ := t.one
    cases c <;> simp only [srcW] at q
    rename_i i
    have := t1.int; subst this
    exact ⟨i, rfl, q.1.1, q.1.2, q.2 _ walk_rg⟩
  · cases c <;> simp only [srcW] at q
theorem si_r2 {tg l m : Expr} {p pos : Pos} {e f : E} (hg : Gl X "range") (hm : X.mg "range" = none) (h : PA X [l, m] (RR X.K Φ [e, f])) (n : notStar l = true) (n2 : notStar m = true) : PI X tg (.Call (.Name "range" p) [l, m] [] pos) (tSrc X.K Φ .r2 [e, f]) := by
  refine (pi_range2 hg hm h (by rw [starEach_plain n, starEach_plain n2]; rfl) (by rw [starEach_plain n2]; rfl)).wk fun σ H Rk h => ?_
  obtain ⟨fr, Hs, ρ, Q, r, w, p⟩ := src_row h
  refine ⟨fr, Hs, ρ, Q, r, w, fun vs H' Hs' rd ρ' r1 l1 o1 q => ?_⟩
  obtain ⟨Hs2, cs, s, t, q⟩ := p vs H' Hs' rd ρ' r1 l1 o1 q
  obtain _ | ⟨c, _ | ⟨c2, _ | ⟨c3, cs⟩⟩⟩ := cs <;> try exact q.elim
  · cases c <;> simp only [srcW] at q
  · obtain ⟨v, w, rfl, t1, t2⟩ := t.two
    cases c <;> simp only [srcW] at q
    cases c2 <;> simp only [srcW] at q
    rename_i i j
    have := t1.int; subst this
    have := t2.int; subst this
    exact ⟨i, j, rfl, ⟨q.1.1, q.1.2, q.2.1.1, q.2.1.2⟩, q.2.2 _ walk_rg⟩
  · cases c <;> simp only [srcW] at q
theorem zipD_get : ∀ (xs ys : List D) (i : Nat) (d : D), (zipD xs ys)[i]? = some d → ∃ a b, xs[i]? = some a ∧ ys[i]? = some b ∧ d = .tup [a, b]
  | [], _, i, d, h => by simp [zipD] at h
  | _ :: _, [], i, d, h => by simp [zipD] at h
  | a :: as, b :: bs, 0, d, h => by simp [zipD] at h; exact ⟨a, b, rfl, rfl, h.symm⟩
  | a :: as, b :: bs, i + 1, d, h => by
    rw [zipD, List.getElem?_cons_succ] at h
    obtain ⟨x, y, h1, h2, h3⟩ := zipD_get as bs i d h
    exact ⟨x, y, by simpa using h1, by simpa using h2, h3⟩
theorem zipD_len : ∀ (xs ys : List D), (zipD xs ys).length = min xs.length ys.length
  | [], _ => by simp [zipD]
  | _ :: _, [] => by simp [zipD]
  | a :: as, b :: bs => by rw [zipD, List.length_cons, zipD_len as bs]; simp
theorem pair_den {K : PySem.W.Frag} {Hs : Hp} {T : Addr} {x y : V} {a b : D} (hT : Hs T = none) (h1 : Den K Hs a x) (h2 : Den K Hs b y) : Den K (upd Hs T (.tup [x, y])) (.tup [a, b]) (.ref T) := by
  rw [Den]
  exact ⟨T, [x, y], rfl, SqT.of upd_same, .cons (h1.leq (leq_upd hT)) (.cons (h2.leq (leq_upd hT)) .nil)⟩
theorem walk_zipL {K : PySem.W.Frag} {a b : Addr} {xs ys : List D} : WalkD K (Itz K a b) [.ref a, .ref b] [.lst xs, .lst ys] (zipD xs ys) := by
  have key : ∀ H Hs, TopL K H Hs [.lst xs, .lst ys] [.ref a, .ref b] → ∃ vs ws, SqL K H a vs ∧ SqL K H b ws ∧ DenL K Hs xs vs ∧ DenL K Hs ys ws := fun H Hs t => by
    obtain ⟨v, w, e, t1, t2⟩ := t.two
    cases e
    obtain ⟨_, vs, e, h1, h2⟩ := t1.lst; cases e
    obtain ⟨_, ws, e, g1, g2⟩ := t2.lst; cases e
    exact ⟨vs, ws, SqL.of h1, SqL.of g1, h2, g2⟩
  refine ⟨fun H Hs i s t hi => ?_, fun H Hs i d s t hd => ?_⟩
  · obtain ⟨vs, ws, h1, h2, h3, h4⟩ := key H Hs t
    rw [zipD_len] at hi
    exact ⟨vs, ws, h1, h2, by rw [h3.length, h4.length]; omega⟩
  · obtain ⟨vs, ws, h1, h2, h3, h4⟩ := key H Hs t
    obtain ⟨p, q, e1, e2, rfl⟩ := zipD_get _ _ _ _ hd
    obtain ⟨v, f1, f2⟩ := h3.get e1
    obtain ⟨w, g1, g2⟩ := h4.get e2
    refine ⟨⟨vs, ws, v, w, h1, h2, f1, g1⟩, fun x H' y => .inr ?_⟩
    obtain ⟨T, x', y', rfl, hT, rfl, k1, k2⟩ := y
    have := k1 vs h1; rw [f1] at this; cases this
    have := k2 ws h2; rw [g1] at this; cases this
    exact ⟨T, _, rfl, hT, rfl, pair_den (s.free hT) f2 g2⟩
theorem walk_zipT {K : PySem.W.Frag} {a b : Addr} {xs ys : List D} : WalkD K (RZ.ItzT K a b) [.ref a, .ref b] [.tup xs, .tup ys] (zipD xs ys) := by
  have key : ∀ H Hs, Leq Hs H → TopL K H Hs [.tup xs, .tup ys] [.ref a, .ref b] → ∃ vs ws, SqT K H a vs ∧ SqT K H b ws ∧ DenL K Hs xs vs ∧ DenL K Hs ys ws := fun H Hs s t => by
    obtain ⟨v, w, e, t1, t2⟩ := t.two
    cases e
    obtain ⟨_, vs, e, h1, h2⟩ := t1.tup; cases e
    obtain ⟨_, ws, e, g1, g2⟩ := t2.tup; cases e
    exact ⟨vs, ws, sqT_leq s h1, sqT_leq s g1, h2, g2⟩
  refine ⟨fun H Hs i s t hi => ?_, fun H Hs i d s t hd => ?_⟩
  · obtain ⟨vs, ws, h1, h2, h3, h4⟩ := key H Hs s t
    rw [zipD_len] at hi
    exact ⟨vs, ws, h1, h2, by rw [h3.length, h4.length]; omega⟩
  · obtain ⟨vs, ws, h1, h2, h3, h4⟩ := key H Hs s t
    obtain ⟨p, q, e1, e2, rfl⟩ := zipD_get _ _ _ _ hd
    obtain ⟨v, f1, f2⟩ := h3.get e1
    obtain ⟨w, g1, g2⟩ := h4.get e2
    refine ⟨⟨vs, ws, v, w, h1, h2, f1, g1⟩, fun x H' y => .inr ?_⟩
    obtain ⟨T, x', y', rfl, hT, rfl, k1, k2⟩ := y
    have := k1 vs h1; rw [f1] at this; cases this
    have := k2 ws h2; rw [g1] at this; cases this
    exact ⟨T, _, rfl, hT, rfl, pair_den (s.free hT) f2 g2⟩
theorem si_zip {l m : Expr} {elts : List Expr} {kk : Nat} {p pos tpos : Pos} {e f : E} (hg : Gl X "zip") (hm : X.mg "zip" = none) (h : PA X [l, m] (RR X.K Φ [e, f])) (n : notStar l = true) (n2 : notStar m = true) : PI X (.Tuple elts kk tpos) (.Call (.Name "zip" p) [l, m] [] pos) (tSrc X.K Φ .zip [e, f]) := by
  refine (RZ.pi_zipA hg hm h (starEach_plain n) (plain_any (by simp [n2]))).wk fun σ H Rk h => ?_
  obtain ⟨fr, Hs, ρ, Q, r, w, p⟩ := src_row h
  refine ⟨fr, Hs, ρ, Q, r, w, fun vs H' Hs' rd ρ' r1 l1 o1 q => ?_⟩
  obtain ⟨Hs2, cs, s, t, q⟩ := p vs H' Hs' rd ρ' r1 l1 o1 q
  obtain _ | ⟨c, _ | ⟨c2, _ | ⟨c3, cs⟩⟩⟩ := cs <;> try exact q.elim
  · cases c <;> simp only [srcW] at q
  · obtain ⟨v, w, rfl, t1, t2⟩ := t.two
    cases c <;> simp only [srcW] at q
    case tup =>
      cases c2 <;> simp only [srcW] at q
      obtain ⟨a, vs, rfl, h1, h2⟩ := t1.tup
      obtain ⟨b, ws, rfl, g1, g2⟩ := t2.tup
      exact ⟨a, b, vs, ws, rfl, .inr ⟨sqT_leq s h1, sqT_leq s g1, q _ walk_zipT⟩⟩
    case lst =>
      cases c2 <;> simp only [srcW] at q
      obtain ⟨a, vs, rfl, h1, h2⟩ := t1.lst
      obtain ⟨b, ws, rfl, g1, g2⟩ := t2.lst
      exact ⟨a, b, vs, ws, rfl, .inl ⟨SqL.of h1, SqL.of g1, q _ walk_zipL⟩⟩
  · cases c <;> simp only [srcW] at q
theorem enumD_get : ∀ (xs : List D) (n i : Nat) (d : D), (enumD n xs)[i]? = some d → ∃ a, xs[i]? = some a ∧ d = .tup [.int ((n + i : Nat)), a]
  | [], _, i, d, h => by simp [enumD] at h
  | a :: as, n, 0, d, h => by simp [enumD] at h; exact ⟨a, rfl, by simpa using h.symm⟩
  | a :: as, n, i + 1, d, h => by
    rw [enumD, List.getElem?_cons_succ] at h
    obtain ⟨x, h1, h3⟩ := enumD_get as (n + 1) i d h
    exact ⟨x, by simpa using h1, by rw [h3]; congr 4; omega⟩
theorem enumD_len : ∀ (xs : List D) (n : Nat), (enumD n xs).length = xs.length
  | [], _ => rfl
  | a :: as, n => by rw [enumD, List.length_cons, enumD_len as]; rfl
theorem walk_enum {K : PySem.W.Frag} {a : Addr} {xs : List D} : WalkD K (Ite K a) [.ref a] [.lst xs] (enumD 0 xs) := by
  have key : ∀ H Hs, TopL K H Hs [.lst xs] [.ref a] → ∃ vs, SqL K H a vs ∧ DenL K Hs xs vs := fun H Hs t => by
    obtain ⟨v, e, t1⟩ := t.one
    cases e
    obtain ⟨_, vs, e, h1, h2⟩ := t1.lst; cases e
    exact ⟨vs, SqL.of h1, h2⟩
  refine ⟨fun H Hs i s t hi => ?_, fun H Hs i d s t hd => ?_⟩
  · obtain ⟨vs, h1, h3⟩ := key H Hs t
    rw [enumD_len] at hi
    exact ⟨vs, h1, by rw [h3.length]; omega⟩
  · obtain ⟨vs, h1, h3⟩ := key H Hs t
    obtain ⟨p, e1, rfl⟩ := enumD_get _ _ _ _ hd
    obtain ⟨v, f1, f2⟩ := h3.get e1
    refine ⟨⟨vs, v, h1, f1⟩, fun x H' y => .inr ?_⟩
    obtain ⟨T, x', rfl, hT, rfl, k1⟩ := y
    have := k1 vs h1; rw [f1] at this; cases this
    refine ⟨T, _, rfl, hT, rfl, ?_⟩
    have := pair_den (T := T) (a := .int ((0 + i : Nat))) (x := .int ((0 + i : Nat))) (s.free hT) denI f2
    simpa using this
theorem si_enum {l : Expr} {elts : List Expr} {kk : Nat} {p pos tpos : Pos} {e : E} (hg : Gl X "enumerate") (hm : X.mg "enumerate" = none) (h : PA X [l] (RR X.K Φ [e])) (n : notStar l = true) : PI X (.Tuple elts kk tpos) (.Call (.Name "enumerate" p) [l] [] pos) (tSrc X.K Φ .enum [e]) := by
  refine (pi_enum hg hm h (starEach_plain n)).wk fun σ H Rk h => ?_
  obtain ⟨fr, Hs, ρ, Q, r, w, p⟩ := src_row h
  refine ⟨fr, Hs, ρ, Q, r, w, fun vs H' Hs' rd ρ' r1 l1 o1 q => ?_⟩
  obtain ⟨Hs2, cs, s, t, q⟩ := p vs H' Hs' rd ρ' r1 l1 o1 q
  obtain _ | ⟨c, _ | ⟨c2, cs⟩⟩ := cs <;> try exact q.elim
  · obtain ⟨v, rfl, t1⟩ := t.one
    cases c <;> simp only [srcW] at q
    obtain ⟨a, vs, rfl, h1, h2⟩ := t1.lst
    exact ⟨a, vs, rfl, SqL.of h1, q _ walk_enum⟩
  · cases c <;> simp only [srcW] at q
end
end PL
set_option Elab.async false
set_option linter.all false
set_option maxRecDepth 100000
set_option maxHeartbeats 4000000
namespace PL
open PySem PySem.Spec L2
section
variable {K : PySem.W.Frag} {fr : Fr} {σ σ' : L2.St} {H H' Hs Hs' : Hp} {ρ ρ' : Env}
/-- names forgotten or given data -/
theorem Rel.mix (r : Rel K fr σ H Hs ρ) (hl : ρ'.length = σ'.length) (h : ∀ j : Nat, (ρ'[j]? = ρ[j]? ∧ σ'[j]? = σ[j]?) ∨ ρ'[j]? = some .un ∨ ρ'[j]? = none ∨ (∃ d v, ρ'[j]? = some (.sh d) ∧ σ'[j]? = some (some v) ∧ Den K Hs d v)) : Rel K fr σ' H Hs ρ' := by
  have ob : ∀ j, obAt ρ' j = true → ρ'[j]? = ρ[j]? ∧ σ'[j]? = σ[j]? := fun j q => by
    rcases h j with a | a | a | ⟨d, v, a, _⟩
    · exact a
    · simp [obAt, a] at q
    · simp [obAt, a] at q
    · simp [obAt, a] at q
  refine ⟨r.sub, hl, fun i d e => ?_, fun i c e => ?_, fun i c e => ?_, fun i j a q1 q2 e1 e2 => ?_, r.fra, r.dom, r.bin, r.s0, r.nw⟩
  · rcases h i with a | a | a | ⟨d', v, a, b, c⟩
    · rw [a.1] at e; rw [a.2]; exact r.sh i d e
    · rw [a] at e; cases e
    · rw [a] at e; cases e
    · rw [a] at e; cases e; exact ⟨v, b, c⟩
  · obtain ⟨a1, a2⟩ := ob i (obAt_own e)
    rw [a1] at e; rw [a2]; exact r.ow i c e
  · obtain ⟨a1, a2⟩ := ob i (obAt_bor e)
    rw [a1] at e; rw [a2]; exact r.br i c e
  · obtain ⟨a1, a2⟩ := ob i q1
    obtain ⟨b1, b2⟩ := ob j q2
    rw [a2] at e1; rw [b2] at e2
    refine r.sep i j a ?_ ?_ e1 e2
    · unfold obAt at q1 ⊢; rw [← a1]; exact q1
    · unfold obAt at q2 ⊢; rw [← b1]; exact q2
theorem wipe_len (σ : L2.St) : ∀ own, (wipe σ own).length = σ.length
  | [] => rfl
  | i :: own => by show ((wipe σ own).set i none).length = _; rw [List.length_set, wipe_len σ own]
theorem wipe_get (σ : L2.St) (j : Nat) : ∀ own, (wipe σ own)[j]? = if j ∈ own then (σ[j]?).map (fun _ => none) else σ[j]?
  | [] => by simp only [List.not_mem_nil, if_false]; rfl
  | i :: own => by
    show ((wipe σ own).set i none)[j]? = _
    rw [getElem?_set', wipe_len]
    by_cases h : i = j
    · subst h
      by_cases hl : i < σ.length
      · simp [hl]
      · simp [hl]
    · have h' : ¬ j = i := fun e => h e.symm
      rw [if_neg h, wipe_get σ j own]
      simp [h']
theorem wipe_set {i : Nat} {x : Option V} {own : List Nat} (h : i ∈ own) : wipe (σ.set i x) own = wipe σ own := by
  apply List.ext_getElem?
  intro j
  rw [wipe_get, wipe_get]
  by_cases hj : j ∈ own
  · rw [if_pos hj, if_pos hj, getElem?_set']
    by_cases e : i = j
    · subst e
      rw [if_pos rfl]
      by_cases hl : i < σ.length
      · rw [if_pos hl, List.getElem?_eq_getElem hl]; rfl
      · rw [if_neg hl, List.getElem?_eq_none (by omega)]
    · rw [if_neg e]
  · rw [if_neg hj, if_neg hj, getElem?_set', if_neg (fun e => hj (by rw [← e]; exact h))]
theorem wipeE_len (ρ : Env) : ∀ own, (wipeE ρ own).length = ρ.length
  | [] => rfl
  | i :: own => by rw [wipeE, List.length_set, wipeE_len ρ own]
theorem wipeE_get (ρ : Env) (j : Nat) : ∀ own, (wipeE ρ own)[j]? = if j ∈ own then (ρ[j]?).map (fun _ => .un) else ρ[j]?
  | [] => by simp [wipeE]
  | i :: own => by
    rw [wipeE, getElem?_set', wipeE_len]
    by_cases h : i = j
    · subst h
      by_cases hl : i < ρ.length
      · simp [hl]
      · simp [hl]
    · have h' : ¬ j = i := fun e => h e.symm
      rw [if_neg h, wipeE_get ρ j own]
      simp [h']
theorem backE_len (ρ0 ρ : Env) : ∀ own, (backE ρ0 ρ own).length = ρ.length
  | [] => rfl
  | i :: own => by rw [backE, List.length_set, backE_len ρ0 ρ own]
theorem backE_get (ρ0 ρ : Env) (j : Nat) : ∀ own, (backE ρ0 ρ own)[j]? = if j ∈ own then (ρ[j]?).map (fun _ => ρ0.getD j .un) else ρ[j]?
  | [] => by simp [backE]
  | i :: own => by
    rw [backE, getElem?_set', backE_len]
    by_cases h : i = j
    · subst h
      by_cases hl : i < ρ.length
      · simp [hl]
      · simp [hl]
    · have h' : ¬ j = i := fun e => h e.symm
      rw [if_neg h, backE_get ρ0 ρ j own]
      simp [h']
theorem Rel.wipe (r : Rel K fr σ H Hs ρ) (own : List Nat) : Rel K fr (wipe σ own) H Hs (wipeE ρ own) :=
  r.mix (by rw [wipeE_len, wipe_len, r.len]) fun j => by
    by_cases h : j ∈ own
    · rw [wipeE_get, if_pos h]
      cases ρ[j]? with
      | none => exact .inr (.inr (.inl rfl))
      | some w => exact .inr (.inl rfl)
    · rw [wipeE_get, wipe_get, if_neg h, if_neg h]; exact .inl ⟨rfl, rfl⟩
theorem noObs_get : ∀ {own : List Nat} {j : Nat}, noObs ρ own = true → j ∈ own → ρ[j]? = some .un ∨ ∃ d, ρ[j]? = some (.sh d)
  | [], j, _, m => by cases m
  | i :: own, j, h, m => by
    rw [noObs, Bool.and_eq_true] at h
    rcases List.mem_cons.mp m with rfl | m
    · have h := h.1
      split at h
      · exact .inl (by assumption)
      · exact .inr ⟨_, by assumption⟩
      · cases h
    · exact noObs_get h.2 m
theorem Rel.back {ρ0 : Env} {H0 Hs0 : Hp} {own : List Nat} (r : Rel K fr (L2.wipe σ own) H Hs (wipeE ρ own)) (r0 : Rel K fr σ H0 Hs0 ρ0) (l : Leq Hs0 Hs) (n : noObs ρ0 own = true) : Rel K fr σ H Hs (backE ρ0 ρ own) := by
  have hl : ρ.length = σ.length := by have := r.len; rwa [wipeE_len, wipe_len] at this
  refine r.mix (by rw [backE_len, hl]) fun j => ?_
  by_cases h : j ∈ own
  · rw [backE_get, if_pos h]
    cases e : ρ[j]? with
    | none => exact .inr (.inr (.inl rfl))
    | some w =>
      rcases noObs_get n h with q | ⟨d, q⟩
      · refine .inr (.inl ?_)
        simp [List.getD_eq_getElem?_getD, q]
      · obtain ⟨v, h1, h2⟩ := r0.sh j d q
        exact .inr (.inr (.inr ⟨d, v, by simp [List.getD_eq_getElem?_getD, q], h1, h2.leq l⟩))
  · rw [backE_get, wipeE_get, wipe_get, if_neg h, if_neg h, if_neg h]; exact .inl ⟨rfl, rfl⟩
/-! ### a cell that nobody knows, held still -/
def Fr.pin (fr : Fr) (D : Addr) (o : HO) : Fr := { fr with H0 := upd fr.H0 D o }
structure Hid (fr : Fr) (σ : L2.St) (H Hs : Hp) (ρ : Env) (D : Addr) : Prop where
  s : Hs D = none
  z : fr.H0 D = none
  b : fr.B ≠ some D
  n : ∀ (i : Nat), obAt ρ i = true → σ[i]? ≠ some (some (.ref D))
theorem Rel.pin (r : Rel K fr σ H Hs ρ) {D : Addr} {o : HO} (h : Hid fr σ H Hs ρ D) (e : H D = some o) : Rel K (fr.pin D o) σ H Hs ρ where
  sub := r.sub
  len := r.len
  sh := r.sh
  ow := fun i c q => by
    obtain ⟨a, h1, h2, h3, h5, h4⟩ := r.ow i c q
    refine ⟨a, h1, h2, ?_, h5, h4⟩
    show upd fr.H0 D o a = none
    rw [upd_ne (fun z => h.n i (obAt_own q) (by rw [h1, z]))]; exact h3
  br := r.br
  sep := r.sep
  fra := fun a x h1 h2 => by
    by_cases ha : a = D
    · subst ha
      have h1 : upd fr.H0 a o a = some x := h1
      rw [upd_same] at h1; cases h1; exact e
    · have h1 : upd fr.H0 D o a = some x := h1
      rw [upd_ne ha] at h1; exact r.fra a x h1 h2
  dom := fun a h1 => by
    by_cases ha : a = D
    · subst ha; rw [e]; simp
    · have h1 : upd fr.H0 D o a ≠ none := h1
      rw [upd_ne ha] at h1; exact r.dom a h1
  bin := r.bin
  s0 := r.s0
  nw := fun a q => by
    have ha : a ≠ D := fun z => q (by rw [z]; exact h.s)
    rcases r.nw a q with z | z
    · exact .inl z
    · refine .inr ?_
      show upd fr.H0 D o a = none
      rw [upd_ne ha]; exact z
theorem Rel.unpin {D : Addr} {o : HO} (r : Rel K (fr.pin D o) σ H Hs ρ) (z : fr.H0 D = none) (hs : fr.S0 D = none) (hb : fr.B ≠ some D) : Rel K fr σ H Hs ρ ∧ H D = some o ∧ Hid fr σ H Hs ρ D := by
  have hD : (fr.pin D o).H0 D = some o := upd_same
  refine ⟨⟨r.sub, r.len, r.sh, fun i c q => ?_, r.br, r.sep, fun a x h1 h2 => ?_, fun a h1 => ?_, r.bin, r.s0, fun a q => ?_⟩, r.fra D o hD hb, ?_, z, hb, fun i q e => ?_⟩
  · obtain ⟨a, h1, h2, h3, h5, h4⟩ := r.ow i c q
    refine ⟨a, h1, h2, ?_, h5, h4⟩
    have h3 : upd fr.H0 D o a = none := h3
    by_cases ha : a = D
    · rw [ha, upd_same] at h3; cases h3
    · rwa [upd_ne ha] at h3
  · refine r.fra a x ?_ h2
    show upd fr.H0 D o a = some x
    rw [upd_ne (fun e => by rw [e, z] at h1; cases h1)]; exact h1
  · refine r.dom a ?_
    show upd fr.H0 D o a ≠ none
    rw [upd_ne (fun e => h1 (by rw [e]; exact z))]; exact h1
  · rcases r.nw a q with y | y
    · exact .inl y
    · have y : upd fr.H0 D o a = none := y
      by_cases ha : a = D
      · rw [ha, upd_same] at y; cases y
      · rw [upd_ne ha] at y; exact .inr y
  · cases q : Hs D with
    | none => rfl
    | some x =>
      rcases r.nw D (by rw [q]; simp) with y | y
      · exact absurd hs y
      · rw [hD] at y; cases y
  · rcases obAt_cases q with ⟨c, w⟩ | ⟨c, w⟩
    · obtain ⟨a, h1, h2, h3, _⟩ := r.ow i c w
      rw [e] at h1
      cases h1
      rw [hD] at h3; cases h3
    · obtain ⟨a, h1, h2, h3, _⟩ := r.br i c w
      rw [e] at h1
      cases h1
      exact hb h3
theorem Rel.chg (r : Rel K fr σ H Hs ρ) {D : Addr} {o : HO} (h : Hid fr σ H Hs ρ D) : Rel K fr σ (upd H D o) Hs ρ where
  sub := leq_upd2 h.s r.sub
  len := r.len
  sh := r.sh
  ow := fun i c e => by
    obtain ⟨a, h1, h2, h3, h5, h4⟩ := r.ow i c e
    exact ⟨a, h1, h2, h3, h5, h4.leq (upd_ne (fun z => h.n i (obAt_own e) (by rw [h1, z]))) .rfl'⟩
  br := fun i c e => by
    obtain ⟨a, h1, h2, h3, h4⟩ := r.br i c e
    exact ⟨a, h1, h2, h3, h4.leq (upd_ne (fun z => h.n i (obAt_bor e) (by rw [h1, z]))) .rfl'⟩
  sep := r.sep
  fra := fun a x h1 h2 => by rw [upd_ne (fun z => by rw [z, h.z] at h1; cases h1)]; exact r.fra a x h1 h2
  dom := fun a h1 => by
    by_cases ha : a = D
    · rw [ha, upd_same]; simp
    · rw [upd_ne ha]; exact r.dom a h1
  bin := fun a h1 => by
    by_cases ha : a = D
    · rw [ha, upd_same]; simp
    · rw [upd_ne ha]; exact r.bin a h1
  s0 := r.s0
  nw := r.nw
theorem Rel.hid (r : Rel K fr σ H Hs ρ) {D : Addr} (hD : H D = none) (H' : Hp) : Hid fr σ H' Hs ρ D :=
  ⟨r.sub.free hD, r.h0 hD, fun z => r.bin D z hD, fun i hi z => by
    obtain ⟨a, h1, _, h3⟩ := r.addr hi
    rw [h1] at z
    cases z
    exact h3 hD⟩
end
/-! ### targets -/
mutual
def tgNs : Tg → List Nat
  | .nm i => [i] | .tp ts => tgNss ts
def tgNss : List Tg → List Nat
  | [] => [] | t :: ts => tgNs t ++ tgNss ts
end
def tgR (K : PySem.W.Frag) (tg : Tg) : TG := fun v σ H Q' => ∃ fr Hs ρ d Q, Rel K fr σ H Hs ρ ∧ Den K Hs d v ∧ tgW tg d ρ Q ∧
  ∀ σ' ρ', Rel K fr σ' H Hs ρ' → (∀ own, (∀ i ∈ tgNs tg, i ∈ own) → wipe σ' own = wipe σ own) → Q ρ' → Q' σ' H
def tgsR (K : PySem.W.Frag) (tg : List Tg) : TGs := fun vs σ H Q' => ∃ fr Hs ρ ds Q, Rel K fr σ H Hs ρ ∧ DenL K Hs ds vs ∧ tgsW tg ds ρ Q ∧
  ∀ σ' ρ', Rel K fr σ' H Hs ρ' → (∀ own, (∀ i ∈ tgNss tg, i ∈ own) → wipe σ' own = wipe σ own) → Q ρ' → Q' σ' H
section
variable {X : Cx} {Φ : Ctx}
theorem sg_nm {i : Nat} {x : Str} {pos : Pos} (h : PG X (.Name x pos) (gName i)) : PG X (.Name x pos) (tgR X.K (.nm i)) := by
  refine h.wk fun v σ H Q' ⟨fr, Hs, ρ, d, Q, r, den, w, p⟩ => ?_
  rw [tgW] at w
  refine p _ (ρ.set i (.sh d)) (r.setSh den) (fun own hi => wipe_set (hi i (by simp [tgNs]))) ?_
  split at w
  · exact w.elim
  · exact w
  · exact w.elim
theorem tgsW_len : ∀ (ts : List Tg) (ds : List D) (ρ : Env) (Q : Env → Prop), tgsW ts ds ρ Q → (∀ d ρ t k, tgW t d ρ k → ∃ ρ', k ρ') → ds.length = ts.length
  | [], [], _, _, _, _ => rfl
  | [], _ :: _, _, _, h, _ => by rw [tgsW] at h; exact h.elim; all_goals simp
  | _ :: _, [], _, _, h, _ => by rw [tgsW] at h; exact h.elim; all_goals simp
  | t :: ts, d :: ds, ρ, Q, h, g => by
    rw [tgsW] at h
    obtain ⟨ρ', h'⟩ := g _ _ _ _ h
    rw [List.length_cons, List.length_cons, tgsW_len ts ds ρ' Q h' g]
mutual
theorem tgW_ex : ∀ (t : Tg) (d : D) (ρ : Env) (k : Env → Prop), tgW t d ρ k → ∃ ρ', k ρ'
  | .nm i, d, ρ, k, h => by
    rw [tgW] at h
    split at h
    · exact h.elim
    · exact ⟨_, h⟩
    · exact h.elim
  | .tp ts, d, ρ, k, h => by
    cases d <;> simp only [tgW] at h
    exact tgsW_ex ts _ ρ k h
theorem tgsW_ex : ∀ (ts : List Tg) (ds : List D) (ρ : Env) (k : Env → Prop), tgsW ts ds ρ k → ∃ ρ', k ρ'
  | [], [], ρ, k, h => ⟨ρ, by rw [tgsW] at h; exact h⟩
  | [], _ :: _, ρ, k, h => by rw [tgsW] at h; exact h.elim; all_goals simp
  | _ :: _, [], ρ, k, h => by rw [tgsW] at h; exact h.elim; all_goals simp
  | t :: ts, d :: ds, ρ, k, h => by
    rw [tgsW] at h
    obtain ⟨ρ', h'⟩ := tgW_ex t d ρ _ h
    exact tgsW_ex ts ds ρ' k h'
end
theorem sgs_nil : PGs X [] (tgsR X.K []) := by
  refine ⟨fun pins s σ H vs us Q' I rv q => (pgs_nil (X := X)).run pins s σ H vs us Q' I rv ?_⟩
  obtain ⟨fr, Hs, ρ, ds, Q, r, den, w, p⟩ := q
  cases ds with
  | nil =>
    rw [tgsW] at w
    have := den.length
    cases vs with
    | nil => exact ⟨rfl, p σ ρ r (fun _ _ => rfl) w⟩
    | cons a b => simp at this
  | cons d ds => rw [tgsW] at w; exact w.elim; all_goals simp
theorem sgs_cons {e : Expr} {es : List Expr} {t : Tg} {ts : List Tg} (h : PG X e (tgR X.K t)) (hs : PGs X es (tgsR X.K ts)) (n : notStar e = true) : PGs X (e :: es) (tgsR X.K (t :: ts)) := by
  have st : List.map (fun x => x.snd) (assignEach (e :: es) X.env) = assign e X.env :: List.map (fun x => x.snd) (assignEach es X.env) := by
    cases e <;> first | rfl | (simp [notStar] at n)
  refine ⟨fun pins s σ H vs us Q' I rv q => (pgs_cons h hs st).run pins s σ H vs us Q' I rv ?_⟩
  obtain ⟨fr, Hs, ρ, ds, Q, r, den, w, p⟩ := q
  cases ds with
  | nil => rw [tgsW] at w; exact w.elim; all_goals simp
  | cons d ds =>
    cases vs with
    | nil => have := den.length; simp at this
    | cons v vs =>
      rw [DenL] at den
      obtain ⟨v', vs', e', den1, den2⟩ := den
      cases e'
      rw [tgsW] at w
      refine ⟨v, vs, rfl, fr, Hs, ρ, d, _, r, den1, w, fun σ1 ρ1 r1 k1 q1 => ?_⟩
      refine ⟨fr, Hs, ρ1, ds, _, r1, den2, q1, fun σ2 ρ2 r2 k2 q2 => ?_⟩
      refine p σ2 ρ2 r2 (fun own ho => ?_) q2
      rw [k2 own (fun i hi => ho i (by rw [tgNss]; exact List.mem_append_right _ hi)), k1 own (fun i hi => ho i (by rw [tgNss]; exact List.mem_append_left _ hi))]
theorem assign_len : ∀ {es : List Expr} {env : PySem.Env}, es.all notStar = true → (assignEach es env).length = es.length ∧ List.findIdx? (fun x => x.fst) (assignEach es env) = none
  | [], _, _ => ⟨rfl, rfl⟩
  | e :: es, env, h => by
    rw [List.all_cons, Bool.and_eq_true] at h
    have st : assignEach (e :: es) env = (false, assign e env) :: assignEach es env := by
      have h1 := h.1
      cases e <;> first | rfl | (simp [notStar] at h1)
    obtain ⟨h1, h2⟩ := assign_len (env := env) h.2
    rw [st]
    exact ⟨by rw [List.length_cons, h1, List.length_cons], by simp [List.findIdx?_cons, h2]⟩
theorem sg_tp (hc : X.calm = true) {es : List Expr} {ts : List Tg} {k : Nat} {pos : Pos} (h : PGs X es (tgsR X.K ts)) (n : es.all notStar = true) (hl : es.length = ts.length) : PG X (.Tuple es k pos) (tgR X.K (.tp ts)) := by
  obtain ⟨h1, h2⟩ := assign_len (env := X.env) n
  refine (pg_tup hc h h1 h2).wk fun v σ H Q' ⟨fr, Hs, ρ, d, Q, r, den, w, p⟩ => ?_
  cases d <;> simp only [tgW] at w
  · rename_i ds
    rw [Den] at den
    obtain ⟨a, vs, rfl, g1, g2⟩ := den
    have := tgsW_len ts ds ρ Q w fun d ρ t k h => tgW_ex t d ρ k h
    exact ⟨a, vs, rfl, sqT_leq r.sub g1, by rw [g2.length, this, hl], fr, Hs, ρ, ds, Q, r, g2, w, fun σ' ρ' r' k q => p σ' ρ' r' (fun own ho => k own fun i hi => ho i (by rw [tgNs]; exact hi)) q⟩
end
end PL
set_option Elab.async false
set_option linter.all false
set_option maxRecDepth 100000
set_option maxHeartbeats 4000000
namespace PL
open PySem PySem.Spec L2
section
variable {X : Cx} {Φ : Ctx}
theorem ovs_wipe {K : PySem.W.Frag} {fr : Fr} {σ : L2.St} {H H' Hs Hs' : Hp} {ρ ρ' : Env} {own : List Nat} (l : Leq Hs Hs') : ∀ {vs : List V} {rds : List RD}, OVs K fr σ H Hs ρ vs rds → offOwn rds own = true → OVs K fr (wipe σ own) H' Hs' ρ' vs rds
  | _, _, .nil, _ => .nil
  | _, _, .cons (rd := rd) h t, n => by
    cases rd with
    | val d => exact .cons (rd := .val d) (Den.leq l h) (ovs_wipe l t n)
    | new d => exact .cons (rd := .new d) (Den.leq l h) (ovs_wipe l t n)
    | slot i =>
      have n : (!own.contains i && offOwn _ own) = true := n
      rw [Bool.and_eq_true] at n
      refine .cons (rd := .slot i) ?_ (ovs_wipe l t n.2)
      show (wipe σ own)[i]? = _
      rw [wipe_get, if_neg (by simpa using n.1)]
      exact h
def BodyOk (K : PySem.W.Frag) (g : TG) (tt : TT) (te : TE) (own : List Nat) (step : D → Env → (Option D → Env → Prop) → Prop) : Prop :=
  ∀ (fr : Fr) (σ : L2.St) (H Hs : Hp) (ρ : Env) (x : V) (d : D) (Kc : Option D → Env → Prop) (K2 : Option V → Hp → Prop), Rel K fr (wipe σ own) H Hs (wipeE ρ own) → Den K Hs d x → step d ρ Kc →
    (∀ H' Hs' ρ' σ', Rel K fr σ' H' Hs' ρ' → wipe σ' own = wipe σ own → Leq Hs Hs' → (Kc none ρ' → K2 none H') ∧ ∀ y v, Den K Hs' y v → Kc (some y) ρ' → K2 (some v) H') →
    g x (wipe σ own) H fun σ2 H2 => wipe σ2 own = wipe σ own ∧ tt σ2 H2 fun b H3 => if b = true then te σ2 H3 (fun y H4 => K2 (some y) H4) else K2 none H3
theorem TEmono {K : PySem.W.Frag} {e : E} {σ : L2.St} {H : Hp} {Q Q' : VK} (h : R K Φ e σ H Q) (i : ∀ v H, Q v H → Q' v H) : R K Φ e σ H Q' := by
  obtain ⟨fr, Hs, ρ, q, r, w, p⟩ := h
  exact ⟨fr, Hs, ρ, q, r, w, fun v H' Hs' rd ρ' r1 l1 o1 q1 => i _ _ (p v H' Hs' rd ρ' r1 l1 o1 q1)⟩
theorem lc_core {K : PySem.W.Frag} {g : TG} {tt : TT} {te : TE} {own : List Nat} {step : D → Env → (Option D → Env → Prop) → Prop} {k : SK} {srcs : List E} (B : BodyOk K g tt te own step)
    {σ : L2.St} {H : Hp} {Q' : VK} {fr : Fr} {Hs : Hp} {ρ : Env} {Q : RD → Env → Prop} (r : Rel K fr σ H Hs ρ)
    (w : wRs Φ srcs ρ fun rs ρ1 => ∃ cs, looks ρ1 rs = some cs ∧ srcW k cs fun ds => noObs ρ1 own = true ∧ offOwn rs own = true ∧ ds.length ≤ sizeLine ∧
      compW step (fun ρ' => looks (wipeE ρ' own) rs = some cs) ds ρ1 [] fun acc ρ' => Q (.new (.lst acc)) (backE ρ1 ρ' own))
    (p : ∀ v H' Hs' rd ρ', Rel K fr σ H' Hs' ρ' → Leq Hs Hs' → OVr K fr σ H' Hs' ρ' v rd → Q rd ρ' → Q' v H') (mono : ∀ k cs (P P' : List D → Prop), (∀ ds, P ds → P' ds) → srcW k cs P → srcW k cs P') :
    tLc (tSrc K Φ k srcs) g tt te own σ H Q' := by
  refine ⟨fr, Hs, ρ, _, r, w, fun vs H1 Hs1 rs ρ1 r1 l1 o1 q => ?_⟩
  obtain ⟨cs, e, q⟩ := q
  refine ⟨cs, e, mono _ _ _ _ (fun ds q J wk => ?_) q⟩
  obtain ⟨q1, q2, q3, q4⟩ := q
  intro D hD
  let W : Nat → Nat → Hp → Prop := fun i m H => m = ds.length - i ∧ ∃ acc accV ρ' Hs', i ≤ ds.length ∧ acc.length ≤ i ∧ Leq Hs1 Hs' ∧ Rel K fr (wipe σ own) H Hs' (wipeE ρ' own) ∧ Hid fr (wipe σ own) H Hs' (wipeE ρ' own) D ∧ H D = some (.lst accV) ∧ DenL K Hs' acc accV ∧
    compW step (fun ρ' => looks (wipeE ρ' own) rs = some cs) (ds.drop i) ρ' acc fun acc ρ' => Q (.new (.lst acc)) (backE ρ1 ρ' own)
  have hk : fr.H0 D = none := r1.h0 hD
  have hb : fr.B ≠ some D := fun z => r1.bin D z hD
  refine ⟨W, ⟨_, rfl, [], [], ρ1, Hs1, by omega, by simp, .rfl', (r1.grow hD).wipe own, ?_, upd_same, .nil, q4⟩, fun i m H hW => ?_⟩
  · exact ((r1.wipe own).hid hD _)
  obtain ⟨rfl, acc, accV, ρ', Hs', hi, ha, l2, r2, hid, hDv, den, cw⟩ := hW
  have top : looks (wipeE ρ' own) rs = some cs → TopL K H Hs' cs vs := fun e => looks_top r2 (ovs_wipe l2 o1 q2) e
  by_cases hlt : i < ds.length
  · have hd : ds[i]? = some ds[i] := List.getElem?_eq_getElem hlt
    rw [List.drop_eq_getElem_cons hlt, compW] at cw
    obtain ⟨ok, cw⟩ := cw
    obtain ⟨hgo, hy⟩ := wk.go H Hs' i ds[i] r2.sub (top ok) hd
    refine .inr ⟨hgo, W (i + 1) (ds.length - (i + 1)), fun H' hN => ⟨_, by omega, hN⟩, fun x H' yl => ?_⟩
    have step1 : ∃ H2 Hs2, H' = H2 ∧ Rel K (fr.pin D (.lst accV)) (wipe σ own) H2 Hs2 (wipeE ρ' own) ∧ Leq Hs' Hs2 ∧ Den K Hs2 ds[i] x := by
      rcases hy x H' yl with ⟨rfl, dn⟩ | ⟨T, o, rfl, hT, rfl, dn⟩
      · exact ⟨H', Hs', rfl, r2.pin hid hDv, .rfl', dn⟩
      · exact ⟨_, _, rfl, (r2.pin hid hDv).made hT, leq_upd (r2.sub.free hT), dn⟩
    obtain ⟨H2, Hs2, rfl, r3, l3, dn⟩ := step1
    have base := B (fr.pin D (.lst accV)) σ H' Hs2 ρ' x ds[i] _ (fun o H4 => (o = none → W (i + 1) (ds.length - (i + 1)) H4) ∧ ∀ y, o = some y → ∃ acc, H4 D = some (.lst acc) ∧ acc.length < sizeLine ∧ W (i + 1) (ds.length - (i + 1)) (upd H4 D (.lst (acc ++ [y])))) r3 dn cw ?_
    · refine cast ?_ base
      congr 1
      funext σ2 H2
      congr 2
      funext b H3
      cases b
      · simp
      · simp
    · intro H4 Hs4 ρ4 σ4 r4 ws l4
      have un := (r4.wipe own)
      rw [ws] at un
      have hS : fr.S0 D = none := by
        cases z : fr.S0 D with
        | none => rfl
        | some o => have := r2.s0 D o z; rw [hid.s] at this; cases this
      obtain ⟨u1, u2, u3⟩ := un.unpin hk hS hb
      refine ⟨fun kc => ⟨fun _ => ?_, fun y e => by cases e⟩, fun y v dn4 kc => ⟨fun e => by (cases e), fun y' e => ?_⟩⟩
      · exact ⟨rfl, acc, accV, ρ4, Hs4, by omega, by omega, (l2.tr l3).tr l4, u1, u3, u2, (den.leq l3).leq l4, kc⟩
      · cases e
        refine ⟨accV, u2, by rw [den.length]; omega, rfl, acc ++ [y], accV ++ [v], ρ4, Hs4, by omega, by simp; omega, (l2.tr l3).tr l4, u1.chg u3, ⟨u3.s, u3.z, u3.b, u3.n⟩, upd_same, ((den.leq l3).leq l4).append (.cons dn4 .nil), kc⟩
  · have : ds.drop i = [] := List.drop_eq_nil_of_le (by omega)
    rw [this, compW] at cw
    obtain ⟨ok, cw⟩ := cw
    refine .inl ⟨wk.stop H Hs' i r2.sub (top ok) (by omega), ?_⟩
    have rb := r2.back r1 l2 q1
    refine p (.ref D) H Hs' (.new (.lst acc)) _ rb (l1.tr l2) ⟨D, rfl, hid.s, hk, hb, ⟨accV, hDv, den⟩, fun j hj e => ?_⟩ cw
    have : H D ≠ none := by rw [hDv]; simp
    obtain ⟨a, h1, h2, h3⟩ := rb.addr hj
    rw [e] at h1; cases h1
    by_cases ho : j ∈ own
    · rcases obAt_cases hj with ⟨c, z⟩ | ⟨c, z⟩ <;>
      · rw [backE_get, if_pos ho, Option.map_eq_some_iff] at z
        obtain ⟨_, _, z⟩ := z
        rcases noObs_get q1 ho with y | ⟨d, y⟩ <;> simp [List.getD_eq_getElem?_getD, y] at z
    · refine hid.n j ?_ (by rw [wipe_get, if_neg ho]; exact e)
      unfold obAt at hj ⊢
      rw [backE_get, if_neg ho] at hj
      rw [wipeE_get, if_neg ho]; exact hj
theorem srcW_mono : ∀ (k : SK) (cs : List D) (P P' : List D → Prop), (∀ ds, P ds → P' ds) → srcW k cs P → srcW k cs P' := by
  intro k cs P P' h w
  unfold srcW at w ⊢
  split at w <;> first | exact h _ w | exact ⟨w.1, h _ w.2⟩ | exact ⟨w.1, w.2.1, h _ w.2.2⟩ | exact w.elim
end
end PL
set_option Elab.async false
set_option linter.all false
set_option maxRecDepth 100000
set_option maxHeartbeats 4000000
namespace PL
open PySem PySem.Spec L2
section
variable {X : Cx} {Φ : Ctx}
/-! ### comprehensions -/
def stC (Φ : Ctx) (own : List Nat) (tg : Tg) (elt : E) : D → Env → (Option D → Env → Prop) → Prop := fun d ρ' K => tgW tg d (wipeE ρ' own) fun ρ'' => wE Φ elt ρ'' fun r ρ3 => frz r ρ3 fun x ρ4 => K (some x) ρ4
def stI (Φ : Ctx) (own : List Nat) (tg : Tg) (c elt : E) : D → Env → (Option D → Env → Prop) → Prop := fun d ρ' K => tgW tg d (wipeE ρ' own) fun ρ'' => wE Φ c ρ'' fun rc ρ3 => lookP ρ3 rc fun dc => (match dc with
        | .bl t => (t = true → wE Φ elt ρ3 fun r ρ4 => frz r ρ4 fun x ρ5 => K (some x) ρ5) ∧ (t = false → K none ρ3) | _ => False)
theorem wipe_wipe (σ : L2.St) (own : List Nat) : wipe (wipe σ own) own = wipe σ own := by
  apply List.ext_getElem?
  intro j
  rw [wipe_get, wipe_get]
  by_cases hj : j ∈ own
  · simp only [hj, if_true, Option.map_map]; rfl
  · simp only [hj, if_false]
theorem bodyC {K : PySem.W.Frag} {own : List Nat} {tg : Tg} {elt : E} (hn : ∀ i ∈ tgNs tg, i ∈ own) : BodyOk K (tgR K tg) tYes (R K Φ elt) own (stC Φ own tg elt) := by
  intro fr σ H Hs ρ x d Kc K2 r den w p
  refine ⟨fr, Hs, _, d, _, r, den, w, fun σ' ρ' r' ws q => ⟨?_, ?_⟩⟩
  · rw [ws own hn, wipe_wipe]
  · show (if true = true then R K Φ elt σ' H (fun y H4 => K2 (some y) H4) else K2 none H)
    rw [if_pos rfl]
    refine R.one r' q fun y H1 Hs1 ra ρ1 r1 l1 o1 q1 => ?_
    obtain ⟨Hs2, z, ρ2, l2, r2, den2, q2⟩ := frz_ok r1 o1 q1
    refine (p H1 Hs2 ρ2 σ' r2 ?_ (l1.tr l2)).2 z y den2 q2
    rw [ws own hn, wipe_wipe]
theorem bodyI {K : PySem.W.Frag} {own : List Nat} {tg : Tg} {c elt : E} (hn : ∀ i ∈ tgNs tg, i ∈ own) : BodyOk K (tgR K tg) (RT K Φ c) (R K Φ elt) own (stI Φ own tg c elt) := by
  intro fr σ H Hs ρ x d Kc K2 r den w p
  have hw : ∀ σ', (∀ own, (∀ i ∈ tgNs tg, i ∈ own) → wipe σ' own = wipe (wipe σ own) own) → wipe σ' own = wipe σ own := fun σ' ws => by
    rw [ws own hn, wipe_wipe]
  refine ⟨fr, Hs, _, d, _, r, den, w, fun σ' ρ' r' ws q => ⟨?_, ?_⟩⟩
  · rw [ws own hn, wipe_wipe]
  · have hw' : wipe σ' own = wipe σ own := by
      rw [ws own hn, wipe_wipe]
    refine R.one r' q fun y H1 Hs1 ra ρ1 r1 l1 o1 q1 => ?_
    obtain ⟨da, e1, q1⟩ := q1
    have t := look_top r1 o1 e1
    cases da <;> try exact q1.elim
    rename_i b
    refine ⟨b, t.bl, ?_⟩
    cases b
    · rw [if_neg (by simp)]
      exact (p H1 Hs1 ρ1 σ' r1 hw' l1).1 (q1.2 rfl)
    · rw [if_pos rfl]
      refine R.one r1 (q1.1 rfl) fun y' H2 Hs2 rb ρ2 r2 l2 o2 q2 => ?_
      obtain ⟨Hs3, z, ρ3, l3, r3, den3, q3⟩ := frz_ok r2 o2 q2
      exact (p H2 Hs3 ρ3 σ' r3 hw' ((l1.tr l2).tr l3)).2 z y' den3 q3
theorem lc_comp {K : PySem.W.Frag} {own : List Nat} {tg : Tg} {k : SK} {srcs : List E} {elt : E} (hn : ∀ i ∈ tgNs tg, i ∈ own) {σ : L2.St} {H : Hp} {Q' : VK} (h : R K Φ (.comp own tg k srcs elt) σ H Q') :
    tLc (tSrc K Φ k srcs) (tgR K tg) tYes (R K Φ elt) own σ H Q' := by
  obtain ⟨fr, Hs, ρ, Q, r, w, p⟩ := h
  rw [wE] at w
  exact lc_core (bodyC hn) r w p srcW_mono
theorem lc_compIf {K : PySem.W.Frag} {own : List Nat} {tg : Tg} {k : SK} {srcs : List E} {c elt : E} (hn : ∀ i ∈ tgNs tg, i ∈ own) {σ : L2.St} {H : Hp} {Q' : VK} (h : R K Φ (.compIf own tg k srcs c elt) σ H Q') :
    tLc (tSrc K Φ k srcs) (tgR K tg) (RT K Φ c) (R K Φ elt) own σ H Q' := by
  obtain ⟨fr, Hs, ρ, Q, r, w, p⟩ := h
  rw [wE] at w
  exact lc_core (bodyI hn) r w p srcW_mono
def notSet : Expr → Bool | .Set .. => false | _ => true
theorem notSet_ok {e : Expr} (h : notSet e = true) (env : PySem.Env) (x : Value) : foldedSetIterable e env x = pure x := by
  cases e <;> first | rfl | (simp [notSet] at h)
/-! ### small ones -/
def tyNm : Ty → String | .int => "int" | .bool => "bool" | .str => "str" | .tuple => "tuple"
def tyS : Ty → Str | .int => "int" | .bool => "bool" | .str => "str" | .tuple => "tuple"
theorem tyS_ok (t : Ty) : tyS t ∈ bnames ∧ bootBuiltins (tyS t) = some (.type (tyNm t)) ∧ tyS t ≠ "__name__" ∧ (tyS t == ("__debug__" : Str)) = false := by
  cases t <;> exact ⟨by decide +kernel, by decide +kernel, by decide +kernel, by decide +kernel⟩
def tyD : D → String | .non => "NoneType" | .bl _ => "bool" | .int _ => "int" | .str _ => "str" | .tup _ => "tuple" | .lst _ => "list" | .ro _ => "list" | .dk _ => "dict" | .dt _ => "dict"
theorem kitB_ty (t : Ty) (d : D) : kitB (tyD d) (tyNm t) = some (isTy t d) := by
  cases t <;> cases d <;> (simp only [tyD, tyNm, isTy]; decide +kernel)
theorem sqT_ty {K : PySem.W.Frag} {H : Hp} {a : Addr} {xs : List V} (h : SqT K H a xs) : TyX K H (.ref a) (.type "tuple") := by
  rcases h with (h | ⟨o, h⟩) | ⟨o, its, n, h1, h2, _⟩
  · exact .base (.tup h)
  · exact .fTuple h
  · exact .kTuple h1 h2
theorem sqL_ty {K : PySem.W.Frag} {H : Hp} {a : Addr} {xs : List V} (h : SqL K H a xs) : TyX K H (.ref a) (.type "list") := by
  rcases h with (h | ⟨o, h⟩) | ⟨o, its, n, h1, h2, _⟩
  · exact .base (.lst h)
  · exact .base (.frz h)
  · exact .kList h1 h2
theorem top_ty {K : PySem.W.Frag} {H Hs : Hp} {d : D} {v : V} (s : Leq Hs H) (t : Top K H Hs d v) : TyX K H v (.type (tyD d)) := by
  cases d with
  | non => rw [t.non]; exact .base .non
  | bl b => rw [t.bl]; exact .base (.bl b)
  | int b => rw [t.int]; exact .base (.int b)
  | str b => rw [t.str]; exact .base (.str b)
  | tup ds => obtain ⟨a, vs, rfl, h, _⟩ := t.tup; exact sqT_ty (sqT_leq s h)
  | lst ds => obtain ⟨a, vs, rfl, h, _⟩ := t.lst; exact .base (.lst h)
  | ro ds => obtain ⟨a, vs, rfl, h, _⟩ := t.ro; exact sqL_ty (sqL_leq s h)
  | dk ds => obtain ⟨a, vs, rfl, h, _⟩ := t.dk; exact .base (.dK h)
  | dt ds => obtain ⟨a, vs, rfl, h, _⟩ := t.dt; exact .base (.dT h)
theorem se_isi {lv : Nat} (G : Good X Φ lv) {a : Expr} {ea : E} {t : Ty} {p1 p2 pos : Pos} (hg : Gl X "isinstance") (hg2 : Gl X (tyS t)) (ha : PE X a (R X.K Φ ea)) (ns : notStar a = true) : PE X (.Call (.Name "isinstance" p1) [a, .Name (tyS t) p2] [] pos) (R X.K Φ (.isi ea t)) := by
  obtain ⟨n1, n2, n3, n4⟩ := tyS_ok t
  have hT : PE X (.Name (tyS t) p2) (tC (.ty (tyNm t))) := pe_bltn hg2 (G.bn _ n1) n2 (by first | rfl | exact .ty _ | constructor) n3 n4
  refine (pe_callB call_isi hg (G.bn _ (by decide +kernel)) (by decide +kernel) (pa_cons ha (pa_cons hT pa_nil rfl) (starEach_plain ns)) (by decide +kernel) (by decide +kernel) (starEach_plain ns) rfl).wk fun σ H Q' ⟨fr, Hs, ρ, Q, r, w, p⟩ => ?_
  rw [wE] at w
  refine R.one r w fun x H1 Hs1 ra ρ1 r1 l1 o1 q => ?_
  obtain ⟨da, e1, q⟩ := q
  have t' := look_top r1 o1 e1
  exact ⟨x, .ty (tyNm t), .type (tyD da), .type (tyNm t), isTy t da, rfl, .ty _, top_ty r1.sub t', kit_ty (kitB_ty t da), p _ H1 Hs1 (.val _) ρ1 r1 l1 ovB q⟩
/-! ### dicts by numbers and texts -/
theorem keyD_den {K : PySem.W.Frag} {H Hs : Hp} {d : D} {k : Key} {v : V} (e : keyD d = some k) (t : Top K H Hs d v) : v = kV k := by
  cases d <;> simp only [keyD, Option.some.injEq, reduceCtorEq] at e
  · subst e; exact t.int
  · subst e; exact t.str
theorem getK_den {K : PySem.W.Frag} {H : Hp} {k : Key} : ∀ {ds : List (Key × D)} {vs : List (Key × V)}, DenK K H ds vs → (getK ds k = none ∧ valV vs k = none) ∨ ∃ d v, getK ds k = some d ∧ valV vs k = some v ∧ Den K H d v
  | [], vs, h => by rw [DenK] at h; subst h; exact .inl ⟨rfl, rfl⟩
  | (k', d) :: ds, vs, h => by
    rw [DenK] at h
    obtain ⟨v, vs', rfl, h1, h2⟩ := h
    by_cases e : k' = k
    · exact .inr ⟨d, v, by simp [getK, e], by simp [valV, e], h1⟩
    · rcases getK_den (k := k) h2 with ⟨a, b⟩ | ⟨a, b, c1, c2, c3⟩
      · refine .inl ⟨?_, ?_⟩
        · simpa [getK, List.find?_cons, e] using a
        · simpa [valV, List.find?_cons, e] using b
      · refine .inr ⟨a, b, ?_, ?_, c3⟩
        · simpa [getK, List.find?_cons, e] using c1
        · simpa [valV, List.find?_cons, e] using c2
theorem dget_ok {K : PySem.W.Frag} {H Hs : Hp} {x y : V} {da dk : D} {k : Option D → Prop} (tx : Top K H Hs da x) (ty : Top K H Hs dk y) (w : dgetW da dk k) : ∃ a o o', x = .ref a ∧ DGet H a y o' ∧ k o ∧ (o = none ∧ o' = none ∨ ∃ d v, o = some d ∧ o' = some v ∧ Den K Hs d v) := by
  cases da <;> simp only [dgetW] at w
  rename_i kvs
  obtain ⟨key, ek, w⟩ := w
  obtain ⟨a, vs, rfl, h1, h2⟩ := tx.dk
  have := keyD_den ek ty; subst this
  rcases getK_den (k := key) h2 with ⟨a1, a2⟩ | ⟨d, v, c1, c2, c3⟩
  · exact ⟨a, _, _, rfl, .inl ⟨vs, key, .inl h1, rfl, rfl⟩, w, .inl ⟨a1, a2⟩⟩
  · exact ⟨a, _, _, rfl, .inl ⟨vs, key, .inl h1, rfl, rfl⟩, w, .inr ⟨d, v, c1, c2, c3⟩⟩
theorem se_dgt (hu : X.A.units + 65 < cLine) {a b : Expr} {ea eb : E} {pos : Pos} (ha : PE X a (R X.K Φ ea)) (hb : PE X b (R X.K Φ eb)) (hs : plainIx b = true) : PE X (.Subscript a b pos) (R X.K Φ (.dgt ea eb)) := by
  refine (pe_dget (by omega) ha hb (noSl_ok hs)).wk fun σ H Q' ⟨fr, Hs, ρ, Q, r, w, p⟩ => ?_
  rw [wE] at w
  refine R.two r w fun x y H2 Hs2 ra rb ρ2 r2 l2 o1 o2 q => ?_
  obtain ⟨da, e1, db, e2, q⟩ := q
  obtain ⟨a, o, o', rfl, g, ⟨d, rfl, q⟩, h | ⟨d', v, e, rfl, den⟩⟩ := dget_ok (look_top r2 o1 (by rw [look_keep]; exact e1)) (look_top r2 o2 e2) q
  · cases h.1
  · cases e
    exact ⟨a, v, rfl, g, p v H2 Hs2 (.val d) ρ2 r2 l2 den q⟩
theorem se_din (hu : X.A.units + 65 < cLine) {a b : Expr} {ea eb : E} {pos : Pos} (ha : PE X a (R X.K Φ ea)) (hb : PE X b (R X.K Φ eb)) (hm : behindInMarks .In b = false) : PE X (.Compare a [.In] [b] pos) (R X.K Φ (.din ea eb)) ∧ PT X (.Compare a [.In] [b] pos) (RT X.K Φ (.din ea eb)) := by
  have core : ∀ σ H Q', R X.K Φ (.din ea eb) σ H Q' → tDIn (R X.K Φ ea) (R X.K Φ eb) σ H fun x H1 => ∃ c, x = .bl c ∧ Q' (.bl c) H1 := fun σ H Q' ⟨fr, Hs, ρ, Q, r, w, p⟩ => by
    rw [wE] at w
    refine R.two r w fun x y H2 Hs2 ra rb ρ2 r2 l2 o1 o2 q => ?_
    obtain ⟨da, e1, db, e2, q⟩ := q
    obtain ⟨a, o, o', rfl, g, q, h⟩ := dget_ok (look_top r2 o2 e1) (look_top r2 o1 (by rw [look_keep]; exact e2)) q
    have : o'.isSome = o.isSome := by rcases h with ⟨rfl, rfl⟩ | ⟨d, v, rfl, rfl, _⟩ <;> rfl
    refine ⟨a, o', rfl, g, _, rfl, ?_⟩
    rw [this]
    exact p _ H2 Hs2 (.val _) ρ2 r2 l2 ovB q
  have mono : ∀ {σ H} {Q Q' : VK}, tDIn (R X.K Φ ea) (R X.K Φ eb) σ H Q → (∀ v H, Q v H → Q' v H) → tDIn (R X.K Φ ea) (R X.K Φ eb) σ H Q' := fun h i =>
    TEmono h fun _ _ h => TEmono h fun _ _ ⟨a, o, e, g, q⟩ => ⟨a, o, e, g, i _ _ q⟩
  refine ⟨(pe_cmp (pc_din (by omega) ha hb) hm).wk fun σ H Q' h => mono (core σ H Q' h) fun v H ⟨c, e, q⟩ => by rw [e]; exact q, (pt_cmp (pc_din (by omega) ha hb) hm).wk fun σ H Q' h => mono (core σ H _ h) fun v H ⟨c, e, b, e2, q⟩ => by
    cases e2; exact ⟨c, e, q⟩⟩
theorem se_get (hu : X.A.units + 65 < cLine) {a k d : Expr} {ea ek ed : E} {apos cpos : Pos} (ha : PE X a (R X.K Φ ea)) (hk : PE X k (R X.K Φ ek)) (hd : PE X d (R X.K Φ ed)) (m : M2 X a "get" apos k d cpos) :
    PE X (.Call (.Attribute a "get" apos) [k, d] [] cpos) (R X.K Φ (.get ea ek ed)) := by
  refine (pe_dget2 (by omega) ha hk hd m).wk fun σ H Q' ⟨fr, Hs, ρ, Q, r, w, p⟩ => ?_
  rw [wE] at w
  refine R.one r w fun x H1 Hs1 ra ρ1 r1 l1 o1 q => ?_
  obtain ⟨⟨kvs, e0⟩, q⟩ := q
  obtain ⟨Hs1', l1', r1', o1'⟩ := keep_ok r1 o1
  obtain ⟨b, vs, rfl, hb, _⟩ := (look_top r1 o1 e0).dk
  refine ⟨b, rfl, .inl ⟨vs, .inl hb⟩, ?_⟩
  refine R.two r1' q fun y z H3 Hs3 rk rd ρ3 r3 l3 o2 o3 q => ?_
  obtain ⟨Hs4, dd, ρ4, l4, r4, den4, da, e1, dk, e2, q⟩ := frz_ok r3 o3 q
  obtain ⟨a', o, o', ea', g, q, h⟩ := dget_ok (look_top r4 (o1'.stay (l3.tr l4)) (by rw [look_keep]; exact e1)) (look_top r4 (o2.stay l4) (by rw [look_keep]; exact e2)) q
  cases ea'
  refine ⟨o', g, ?_⟩
  rcases h with ⟨rfl, rfl⟩ | ⟨d', v, rfl, rfl, den⟩
  · exact p z H3 Hs4 (.val dd) ρ4 r4 (((l1.tr l1').tr l3).tr l4) den4 q
  · exact p v H3 Hs4 (.val d') ρ4 r4 (((l1.tr l1').tr l3).tr l4) den q
theorem se_edk {pos : Pos} : PE X (.Dict [] [] pos) (R X.K Φ .edk) := by
  refine pe_dnewK.wk fun σ H Q' ⟨fr, Hs, ρ, Q, r, w, p⟩ => ?_
  rw [wE] at w
  intro a ha
  exact Post.dk (fun v H' Hs' rd r3 l3 o3 q3 => p v H' Hs' rd ρ r3 l3 o3 q3) r (by rw [DenK]) w ha
theorem DenL.erase {K : PySem.W.Frag} {H : Hp} : ∀ {ds : List D} {vs : List V} (n : Nat), DenL K H ds vs → DenL K H (ds.eraseIdx n) (vs.eraseIdx n)
  | [], vs, n, h => by rw [DenL] at h; subst h; exact .nil
  | d :: ds, vs, n, h => by
    rw [DenL] at h
    obtain ⟨v, vs', rfl, h1, h2⟩ := h
    cases n with
    | zero => exact h2
    | succ n => exact .cons h1 (DenL.erase n h2)
theorem se_pop {i : Nat} {x : Str} {k : Expr} {ek : E} {p1 apos cpos : Pos} (hx : PE X (.Name x p1) (tVar i)) (hk : PE X k (R X.K Φ ek)) (ns : notStar k = true) (hl : (apos.endLine == cpos.line) = true) :
    PE X (.Call (.Attribute (.Name x p1) "pop" apos) [k] [] cpos) (R X.K Φ (.pop i ek)) := by
  refine (pe_bm PySem.F.plainAttrs_list PySem.F.slot_list_pop PySem.F.type_list_pop mt_popAt hx (pa_cons hk pa_nil (starEach_plain ns)) rfl ?_ hl (starEach_plain ns) rfl).wk fun σ H Q' ⟨fr, Hs, ρ, Q, r, w, p⟩ => ?_
  · rw [starEach_plain ns]; rfl
  rw [wE] at w
  obtain ⟨⟨ds, e0⟩, w⟩ := w
  obtain ⟨a, h1, h2, h3, h5, vs, hv, _⟩ := r.ow i _ e0
  refine ⟨.ref a, h1, .inl ⟨rfl, vs, SqL.of hv⟩, ?_⟩
  refine R.one r w fun y H1 Hs1 ra ρ1 r1 l1 o1 q => ?_
  obtain ⟨dk, e1, q⟩ := q
  have ty := look_top r1 o1 e1
  split at q
  · rename_i ds' n hn
    obtain ⟨q1, q2, d, q3, q4⟩ := q
    obtain ⟨a', g1, g2, g3, g5, vs', gv, gd⟩ := r1.ow i _ hn
    rw [h1] at g1; cases g1
    obtain ⟨v, f1, f2⟩ := gd.get q3
    have hlt : n.toNat < ds'.length := (List.getElem?_eq_some_iff.mp q3).1
    refine ⟨a, vs', n, n.toNat, v, rfl, by rw [ty.int], gv, by omega, q2, ?_, f1, ?_⟩
    · have := gd.length
      have h0 : ¬ (n < 0) := by omega
      simp only [seqIndex?, h0, if_false]
      rw [if_pos (by simp; omega)]
    · have den := DenL.erase n.toNat gd
      have rr := r1.putAt (c' := .lst (ds'.eraseIdx n.toNat)) (o := .lst (vs'.eraseIdx n.toNat)) (.inl hn) h1 ⟨_, upd_same, den⟩
      rw [hn] at rr
      exact p v _ Hs1 (.val d) _ rr l1 f2 q4
  · exact q.elim
end
end PL
set_option Elab.async false
set_option linter.all false
set_option maxRecDepth 100000
set_option maxHeartbeats 1000000
namespace PL
open PySem PySem.Spec L2
def setNew (w : World) (h : Heap) : Heap := h.push { cls := Value.type "set", data := Data.set #[] 0 (SetTable.fresh 0 0 !w.params.followText "set-order") }
theorem set_init_listI {P : Program} {w : World} {A : Around} {E : Value → Shared → Prop} {s : Shared} {l : Addr} {items : Array Value} (ns : List Int) {Q : PySem.Fin → Shared → Prop}
    (hh : A.handled = none) (hl : s.heap.IsList l items) (hit : PyProof.Rows.IntsAre items.toList ns) (hb : ns.length + 1 < scanBound)
    (h : ∀ (h' : Heap) (tk c : Nat), SetR w h' s.heap.objs.size (fun j => decide (j ∈ ns)) c → c ≤ ns.length → (∀ (b : Addr) (o : Obj), s.heap.get? b = some o → h'.get? b = some o) → Q (Fin.done (Flow.ret .none)) { heap := h', gens := s.gens, drawn := s.drawn, toks := tk, os := s.os }) :
    wpAny (model P w) A (Builtin.«set.__init__» { pos := [Value.ref s.heap.objs.size] ++ [Value.ref l] }) Q E { heap := s.heap.push { cls := Value.type "set", data := Data.set #[] 0 (SetTable.fresh 0 0 !w.params.followText "set-order") }, gens := s.gens, drawn := s.drawn, toks := s.toks, os := s.os } := by
  have hisz : items.size = ns.length := by
    have q := PyProof.Rows.IntsAre.length hit
    rwa [Array.length_toList] at q
  obtain ⟨ol, hol, hcl, nl, hdl⟩ := hl
  obtain ⟨ocls, odict, odata, oslots⟩ := ol
  dsimp only at hcl hdl
  subst hcl; subst hdl
  have hT : Shared.TypeIs { heap := s.heap.push { cls := Value.type "set", data := Data.set #[] 0 (SetTable.fresh 0 0 !w.params.followText "set-order") }, gens := s.gens, drawn := s.drawn, toks := s.toks, os := s.os } (Value.ref s.heap.objs.size) "set" := ⟨_, Heap.get?_push_size _ rfl, rfl⟩
  have hget : (s.heap.push { cls := Value.type "set", data := Data.set #[] 0 (SetTable.fresh 0 0 !w.params.followText "set-order") }).get? s.heap.objs.size = some { cls := Value.type "set", data := Data.set #[] 0 (SetTable.fresh 0 0 !w.params.followText "set-order") } := Heap.get?_push_size _ rfl
  have hol' := Heap.get?_push_of_some { cls := Value.type "set", data := Data.set #[] 0 (SetTable.fresh 0 0 !w.params.followText "set-order") } hol
  have hsls := F.sub_list_set
  have hslf := F.sub_list_frozenset
  unfold Builtin.«set.__init__»
  dsimp only
  refine wpAny_bind ?_
  unfold noKeywords
  refine wpAny_ite_true (by rfl) (wpAny_pure ?_)
  dsimp only [List.cons_append, List.nil_append]
  refine wpAny_bind ?_
  unfold typeNameOfCut
  refine wpAny_bind ?_
  unfold shownTypeOf
  refine wpAny_bind (wpAny_typeOf hT ?_)
  dsimp only
  refine wpAny_ite_false (by rfl) (wpAny_pure ?_)
  unfold typeNameCut
  dsimp only
  refine wpAny_pure ?_
  refine wpAny_bind ?_
  unfold checkCount
  dsimp only
  refine wpAny_ite_false (by rfl) ?_
  refine wpAny_ite_false (by rfl) ?_
  refine wpAny_ite_false (by rfl) (wpAny_pure ?_)
  refine wpAny_bind ?_
  unfold Builtin.Frozenset.addrOf
  refine wpAny_pure ?_
  refine wpAny_bind ?_
  unfold setUsed
  refine wpAny_bind ?_
  unfold setState
  refine wpAny_bind (wpAny_load' hget ?_)
  dsimp only
  refine wpAny_ite_false (by rfl) (wpAny_pure (wpAny_pure ?_))
  refine wpAny_ite_false (by rfl) ?_
  refine wpAny_bind ?_
  unfold Builtin.Frozenset.updateFrom
  have hTl : Shared.TypeIs { heap := s.heap.push { cls := Value.type "set", data := Data.set #[] 0 (SetTable.fresh 0 0 !w.params.followText "set-order") }, gens := s.gens, drawn := s.drawn, toks := s.toks, os := s.os } (Value.ref l) "list" := ⟨_, hol', rfl⟩
  have hl1 : Heap.IsList (s.heap.push { cls := Value.type "set", data := Data.set #[] 0 (SetTable.fresh 0 0 !w.params.followText "set-order") }) l items := ⟨_, hol', rfl, nl, rfl⟩
  refine wpAny_bind ?_
  unfold Builtin.Frozenset.isAnySet
  unfold orM
  refine wpAny_bind (wpAny_isInstance hTl hsls ?_)
  dsimp only [toBool]
  refine wpAny_isInstance hTl hslf ?_
  refine wpAny_ite_false (by rfl) ?_
  refine wpAny_bind (wpAny_typeOf hTl ?_)
  refine wpAny_ite_false (by rfl) ?_
  refine wpAny_bind (wpAny_pyIter_list hl1 ?_)
  refine wpAny_bind (wpAny_runValue ?_)
  have hlS := Heap.lt_size hol
  have hneI : l ≠ (s.heap.push { cls := Value.type "set", data := Data.set #[] 0 (SetTable.fresh 0 0 !w.params.followText "set-order") }).objs.size := by
    rw [Heap.size_push]; exact Nat.ne_of_lt (Nat.lt_succ_of_lt hlS)
  have hSf : ¬ s.heap.objs.size ∈ [(s.heap.push { cls := Value.type "set", data := Data.set #[] 0 (SetTable.fresh 0 0 !w.params.followText "set-order") }).objs.size, l] := by
    rw [Heap.size_push]
    intro hm
    rcases List.mem_cons.mp hm with e | e
    · exact absurd e (Nat.ne_of_lt (Nat.lt_succ_self _))
    · have e := List.mem_singleton.mp e
      rw [← e] at hlS; exact Nat.lt_irrefl _ hlS
  have hval : ∀ (i : Nat) (v : Value), items[i]? = some v → ∃ k t, ns[i]? = some k ∧ v = Value.int k t := by
    intro i v hv
    obtain ⟨t, e⟩ := PyProof.Rows.IntsAre.int_at hit i v (by rw [Array.getElem?_toList]; exact hv)
    have hi : i < ns.length := by
      rw [← hisz]
      exact (Array.getElem?_eq_some_iff.mp hv).1
    exact ⟨ns[i], t, List.getElem?_eq_getElem hi, by rw [e, List.getD_eq_getElem?_getD, List.getElem?_eq_getElem hi]; rfl⟩
  have hh3 : A.in1.handled = none := by simpa using hh
  refine set_update_ints (Walks.toS (Walks.list hh3 _ l hneI items)) s.heap.objs.size hSf ns hisz hb hval (items.size - 0) 0 _ rfl (by omega) ?_ ⟨0, by omega, ?_⟩ fun s' c' hm hc' hS' => ?_
  · exact ⟨⟨_, Heap.get?_push_size _ rfl, rfl, rfl⟩, ⟨_, Heap.get?_push_of_some _ hol', rfl, nl, rfl⟩⟩
  · exact setR_new_at (Heap.get?_push_of_some _ hget)
  · obtain ⟨hp, g, d, tk, os⟩ := s'
    have e1 := hm.gens
    have e2 := hm.drawn
    have e3 := hm.os
    dsimp only at e1 e2 e3
    subst e1; subst e2; subst e3
    refine wpAny_pure (wpAny_pure (h hp tk c' hS' (by rw [← hisz]; exact hc') fun b o hb' => ?_))
    have lb := Heap.lt_size hb'
    refine hm.heap b o (fun z => ?_) (Heap.get?_push_of_some _ (Heap.get?_push_of_some _ hb'))
    rcases List.mem_cons.mp z with e | e
    · rw [e] at lb; exact Nat.lt_irrefl _ lb
    · have e := List.mem_singleton.mp e
      rw [e, Heap.size_push] at lb
      exact absurd lb (Nat.not_lt_of_lt (Nat.lt_succ_self _))
theorem call_set_listI {P : Program} {w : World} {A : Around} {E : Value → Shared → Prop} {s : Shared} {l : Addr} {items : Array Value} (ns : List Int) {Q : Value → Shared → Prop}
    (hh : A.handled = none) (hl : s.heap.IsList l items) (hit : PyProof.Rows.IntsAre items.toList ns) (hb : ns.length + 1 < scanBound)
    (h : ∀ (h' : Heap) (tk c : Nat), SetR w h' s.heap.objs.size (fun j => decide (j ∈ ns)) c → c ≤ ns.length → (∀ (b : Addr) (o : Obj), s.heap.get? b = some o → h'.get? b = some o) → Q (Value.ref s.heap.objs.size) { heap := h', gens := s.gens, drawn := s.drawn, toks := tk, os := s.os }) :
    wpAny (model P w) A (call (Value.type "set") [Value.ref l]) Q E s := by
  have hisz : items.size = ns.length := by
    have q := PyProof.Rows.IntsAre.length hit
    rwa [Array.length_toList] at q
  obtain ⟨c, tl, hmro⟩ := F.called_set.mro
  have hmade := F.called_set.made
  have hsub := F.called_set.sub
  refine wpAny_call (codeAny_of_tree ?_)
  show wpAny _ _ (pure _) _ _ _
  refine wpAny_pure ⟨Code.quiet_builtin _ (by decide +kernel), codeAny_builtin F.entry_type_call ?_⟩
  rw [Around.under_plain (weight_type_call_type "set" [Value.ref l] []) rfl]
  have h1 := F.called_set.notType
  have h2 := F.called_set.canCreate
  have hct := F.typeCall_set_1 (Value.ref l)
  unfold Builtin.«type.__call__»
  dsimp only
  refine wpAny_ite_false (by rfl) ?_
  refine wpAny_ite_false (by rfl) ?_
  refine wpAny_bind (wpAny_of_eq hct ?_)
  refine wpAny_bind (wpAny_of_eq hmro ?_)
  refine wpAny_ite_false (by rfl) ?_
  refine wpAny_bind (wpAny_of_eq hmade ?_)
  dsimp only
  refine wpAny_bind (wpAny_pure ?_)
  refine wpAny_bind (wpAny_holding ?_)
  refine wpAny_call (codeAny_mono (code_set_led1 (E := E) (Q₁ := fun v s' => v = Value.ref s.heap.objs.size ∧ s' = { heap := s.heap.push { cls := Value.type "set", data := Data.set #[] 0 (SetTable.fresh 0 0 !w.params.followText "set-order") }, gens := s.gens, drawn := s.drawn, toks := s.toks, os := s.os }) (Value.ref l) ⟨rfl, rfl⟩) fun r s₁ hr => ?_)
  rcases r with e | f
  · exact hr
  cases f <;> try exact hr.elim
  obtain ⟨rfl, rfl⟩ := hr
  dsimp only
  have hT : Shared.TypeIs { heap := s.heap.push { cls := Value.type "set", data := Data.set #[] 0 (SetTable.fresh 0 0 !w.params.followText "set-order") }, gens := s.gens, drawn := s.drawn, toks := s.toks, os := s.os } (Value.ref s.heap.objs.size) "set" := ⟨_, Heap.get?_push_size _ rfl, rfl⟩
  have hli := F.called_set.init.lookup
  have hbi := F.called_set.init.bind
  refine wpAny_bind (wpAny_isInstance hT hsub ?_)
  refine wpAny_ite_false (by rfl) ?_
  refine wpAny_bind (wpAny_holding ?_)
  unfold callSpecial?
  refine wpAny_bind (wpAny_specialOf hT hli ?_)
  dsimp only
  refine wpAny_holding ?_
  refine wpAny_bind (wpAny_of_eq (hbi _) ?_)
  dsimp only
  refine wpAny_bind ?_
  refine wpAny_call (codeAny_mono (codeAny_call_builtin (R := wants (fun v s' => ∃ tk h' c, v = .none ∧ s' = { heap := h', gens := s.gens, drawn := s.drawn, toks := tk, os := s.os } ∧ SetR w h' s.heap.objs.size (fun j => decide (j ∈ ns)) c ∧ c ≤ ns.length ∧ (∀ (b : Addr) (o : Obj), s.heap.get? b = some o → h'.get? b = some o)) E) F.called_set.init.plain F.entry_set_init (check_set_init_1 hT ?_)) fun r s₁ hr => ?_)
  case refine_2 =>
    rcases r with e | f
    · exact hr
    cases f <;> try exact hr.elim
    obtain ⟨tk, h', c, rfl, rfl, q1, q2, q3⟩ := hr
    refine wpAny_pure ?_
    dsimp only
    refine wpAny_ite_false (by rfl) ?_
    exact wpAny_pure (h h' tk c q1 q2 q3)
  refine set_init_listI ns (by first | exact hh | simpa using hh) hl hit hb fun h' tk c q1 q2 q3 => ?_
  exact ⟨tk, h', c, rfl, rfl, q1, q2, q3⟩
def rSetI (K : PySem.W.Frag) (w : World) : List V → Hp → VK → Prop := fun xs H Q => ∃ (a : Addr) (ns : List Int), xs = [.ref a] ∧ SqL K H a (ns.map V.int) ∧ ns.length < 64 ∧ ∀ p c, H p = none → c ≤ ns.length → Q (.ref p) (upd H p (SetO w p (fun j => decide (j ∈ ns)) c))
theorem call_setI {X : Cx} (hc : X.calm = true) : CallR X (.type "set") (rSetI X.K X.w) := by
  intro pins s σ H xs us Q I rv h
  obtain ⟨a, ns, rfl, hs, hl, q⟩ := h
  cases rv with
  | cons r t =>
    cases t
    have r : _ = Value.ref a := r
    subst r
    obtain ⟨its, rr, ht, hz⟩ := Inv.list I hs
    refine call_set_listI ns (I.ok.hd hc) (PlainL.isList ht) (by simpa using Vals.ints rr) (Nat.lt_of_lt_of_le (by omega : ns.length + 1 < 66) (by decide +kernel)) fun h' tk c hS hcl hk => ?_
    exact ⟨.ref _, _, Inv.laid I hk (Nat.le_refl _) (setO_new hS), rfl, q _ c (HOk.fresh I.hok (Nat.le_refl _)) hcl⟩
end PL
set_option Elab.async false
set_option linter.all false
set_option maxRecDepth 100000
set_option maxHeartbeats 4000000
namespace PL
open PySem PySem.Spec L2
section
variable {X : Cx} {Φ : Ctx}
/-! ### every so many -/
theorem pick_vals {idx : List Nat} {xs : List V} {us : List Value} (h : Vals xs us) : Vals (idx.filterMap fun i => xs[i]?) (idx.filterMap fun i => us[i]?) := by
  have get : ∀ {xs : List V} {us : List Value}, Vals xs us → ∀ i : Nat, (xs[i]? = none ∧ us[i]? = none) ∨ ∃ x u, xs[i]? = some x ∧ us[i]? = some u ∧ RelV x u := by
    intro xs us h
    induction h with
    | nil => intro i; exact .inl ⟨rfl, rfl⟩
    | cons r t ih =>
      intro i
      cases i with
      | zero => exact .inr ⟨_, _, rfl, rfl, r⟩
      | succ i => simpa using ih i
  induction idx with
  | nil => exact .nil
  | cons i idx ih =>
    rcases get h i with ⟨a, b⟩ | ⟨x, u, a, b, r⟩
    · rw [List.filterMap_cons_none (by simpa using a), List.filterMap_cons_none (by simpa using b)]; exact ih
    · rw [List.filterMap_cons_some (by simpa using a), List.filterMap_cons_some (by simpa using b)]; exact .cons r ih
theorem pick_den {K : PySem.W.Frag} {H : Hp} {idx : List Nat} {ds : List D} {vs : List V} (h : DenL K H ds vs) : DenL K H (idx.filterMap fun i => ds[i]?) (idx.filterMap fun i => vs[i]?) := by
  induction idx with
  | nil => exact .nil
  | cons i idx ih =>
    cases e : ds[i]? with
    | none =>
      have : vs[i]? = none := by
        rw [List.getElem?_eq_none_iff] at e ⊢
        rw [h.length]; exact e
      rw [List.filterMap_cons_none (by simpa using e), List.filterMap_cons_none (by simpa using this)]; exact ih
    | some d =>
      obtain ⟨v, e1, e2⟩ := h.get e
      rw [List.filterMap_cons_some (by simpa using e), List.filterMap_cons_some (by simpa using e1)]; exact .cons e2 ih
def rPk (K : PySem.W.Frag) : V → Option Int → Option Int → Hp → VK → Prop := fun x lo st H Q => ∃ a xs n, x = .ref a ∧ SqL K H a xs ∧ st = some n ∧ n ≠ 0 ∧ (pickL xs lo none st).length ≤ sizeLine ∧ ∀ p, H p = none → Q (.ref p) (upd H p (.lst (pickL xs lo none st)))
theorem pe_step {e kx : Expr} {te : TE} {lo : Option Expr} {tl ts : TO} {p3 pos : Pos} (he : PE X e te) (hl : PO X lo tl) (hst : PO X (some kx) ts) :
    PE X (.Subscript e (.Slice lo none (some kx) p3) pos) (fun σ H Q => te σ H fun x H1 => tl σ H1 fun l H2 => ts σ H2 fun k H3 => rPk X.K x l k H3 Q) := by
  refine ⟨fun pins s σ H Q I h => PyProof.Rows.Subscript_ (thn (he.run pins s σ H _ I h) ?_)⟩
  rintro v s1 ⟨x, H1, I1, r1, q1⟩
  refine PySem.wpAny_Slice (thn (hl.run pins s1 σ H1 _ I1 q1) ?_)
  rintro vl s2 ⟨l, H2, I2, pl, q2⟩
  refine thn (po_none.run pins s2 σ H2 (fun o H3 => o = none ∧ H3 = H2) I2 ⟨rfl, rfl⟩) ?_
  rintro vu s3 ⟨u, H3, I3, pu, rfl, rfl⟩
  refine thn (hst.run pins s3 σ H3 _ I3 q2) ?_
  rintro vs s4 ⟨k, H4, I4, ps, a, xs, n, rfl, hx, rfl, hn, hz, q⟩
  have r1 : v = .ref a := r1
  subst r1
  have I5 := Inv.kept (t' := s4.toks) I4 (h' := s4.heap.push { cls := .type "slice", data := .fields #[vl, vu, vs] }) fun b ob q => PySem.Heap.get?_push_of_some _ q
  obtain ⟨its, r, ht, hz2⟩ := Inv.list I5 hx
  have hlen := PySem.Paired.length r
  refine PyProof.Rows.tail_any (PySem.Heap.IsList.typeIs (PlainL.isList ht)) PySem.slot_list_getitem.lookup ?_ (by cases lo <;> rfl)
  refine PySem.wpAny_getItem_list_slice (PlainL.isList ht) (PySem.Heap.IsSliceOf.new s4.heap vl vu vs) pl pu ps (by simpa using hn) ?_ (by simpa using (by omega : its.length ≤ sizeLine))
  have e2 : PySem.slicePick its.toArray l none (some n) = (pickL its l none (some n)).toArray := by
    simp [PySem.slicePick, pickL]
  have e3 : Vals (pickL xs l none (some n)) (pickL its l none (some n)) := by
    unfold pickL
    rw [← hlen]
    exact pick_vals r
  rw [e2]
  refine ⟨.ref _, _, Inv.laid (o := .lst (pickL xs l none (some n))) I5 (fun b ob q => PySem.Heap.get?_push_of_some _ q) (Nat.le_refl _) ⟨hz, _, 0, e3, PySem.Heap.get?_push_size _ rfl⟩, rfl, q _ (HOk.fresh I5.hok (Nat.le_refl _))⟩
theorem pk_ok {K : PySem.W.Frag} {fr : Fr} {σ : L2.St} {H Hs : Hp} {ρ : Env} {x : V} {dx : D} {lo : Option Int} {n : Int} {Q : RD → Prop} {Q' : VK} (r : Rel K fr σ H Hs ρ) (tx : Top K H Hs dx x) (hn : n ≠ 0) (w : pkW dx lo n Q) (p : Post K fr σ Hs ρ Q Q') : rPk K x lo (some n) H Q' := by
  have key : ∀ ds vs a, SqL K H a vs → DenL K Hs ds vs → (pickL ds lo none (some n)).length ≤ sizeLine ∧ Q (.new (.lst (pickL ds lo none (some n)))) → rPk K (.ref a) lo (some n) H Q' := fun ds vs a h1 h2 w => by
    have hl := h2.length
    have d : DenL K Hs (pickL ds lo none (some n)) (pickL vs lo none (some n)) := by
      unfold pickL
      rw [hl]
      exact pick_den h2
    exact ⟨a, vs, n, rfl, h1, rfl, hn, by rw [d.length]; exact w.1, fun b hb => Post.lst p r d w.2 hb⟩
  cases dx <;> simp only [pkW] at w
  · obtain ⟨a, vs, rfl, h1, h2⟩ := tx.lst
    exact key _ vs a (SqL.of h1) h2 w
  · obtain ⟨a, vs, rfl, h1, h2⟩ := tx.ro
    exact key _ vs a (sqL_leq r.sub h1) h2 w
theorem se_st1 {a b : Expr} {ea eb : E} {pos p2 : Pos} (ha : PE X a (R X.K Φ ea)) (hb : PE X b (R X.K Φ eb)) : PE X (.Subscript a (.Slice none none (some b) p2) pos) (R X.K Φ (.st1 ea eb)) := by
  refine (pe_step ha po_none (po_some hb)).wk fun σ H Q' ⟨fr, Hs, ρ, Q, r, w, p⟩ => ?_
  rw [wE] at w
  refine R.two r w fun x y H2 Hs2 ra rb ρ2 r2 l2 o1 o2 q => ?_
  obtain ⟨da, e1, db, e2, q⟩ := q
  have ty := look_top r2 o2 e2
  cases db <;> try exact q.elim
  exact ⟨_, ty.int, pk_ok r2 (look_top r2 o1 (by rw [look_keep]; exact e1)) q.1 q.2 fun v H' Hs' rd r3 l3 o3 q3 => p v H' Hs' rd ρ2 r3 (l2.tr l3) o3 q3⟩
theorem se_st2 {a b c : Expr} {ea eb ec : E} {pos p2 : Pos} (ha : PE X a (R X.K Φ ea)) (hb : PE X b (R X.K Φ eb)) (hc : PE X c (R X.K Φ ec)) : PE X (.Subscript a (.Slice (some b) none (some c) p2) pos) (R X.K Φ (.st2 ea eb ec)) := by
  refine (pe_step ha (po_some hb) (po_some hc)).wk fun σ H Q' ⟨fr, Hs, ρ, Q, r, w, p⟩ => ?_
  rw [wE] at w
  refine R.two r w fun x y H2 Hs2 ra rb ρ2 r2 l2 o1 o2 q => ?_
  obtain ⟨dl, e2, q⟩ := q
  have ty := look_top r2 o2 e2
  cases dl <;> try exact q.elim
  refine ⟨_, ty.int, ?_⟩
  refine R.one r2 q fun z H3 Hs3 rc ρ3 r3 l3 o3 q => ?_
  obtain ⟨da, e1, dk, e3, q⟩ := q
  have tz := look_top r3 o3 e3
  cases dk <;> try exact q.elim
  exact ⟨_, tz.int, pk_ok r3 (look_top r3 (o1.stay l3) (by rw [look_keep]; exact e1)) q.1 q.2 fun v H' Hs' rd r4 l4 o4 q4 => p v H' Hs' rd ρ3 r4 ((l2.tr l3).tr l4) o4 q4⟩
theorem rgD : ∀ (n : Nat) (a : Int), rangeD a n = (List.range n).map fun i : Nat => D.int (a + i)
  | 0, a => rfl
  | n + 1, a => by
    rw [rangeD, rgD n, List.range_succ_eq_map, List.map_cons, List.map_map]
    congr 1
    · simp
    · apply List.map_congr_left
      intro i _
      simp; omega
theorem rg_den {K : PySem.W.Frag} {H : Hp} (a b : Int) : DenL K H (rangeD a (b - a).toNat) (rgV a b) := by
  rw [rgD, rgV]
  have := @DenL.ofInts K H ((List.range (b - a).toNat).map fun i : Nat => a + i)
  simpa [List.map_map, Function.comp_def] using this
theorem se_lrg (G : X.calm = true) {a b : Expr} {ea eb : E} {p1 p2 pos pos2 : Pos} (hg : Gl X "list") (hm : X.mg "list" = none) (hg2 : Gl X "range") (hm2 : X.mg "range" = none) (ha : PE X a (R X.K Φ ea)) (hb : PE X b (R X.K Φ eb)) (n1 : notStar a = true) (n2 : notStar b = true) :
    PE X (.Call (.Name "list" p1) [.Call (.Name "range" p2) [a, b] [] pos2] [] pos) (R X.K Φ (.lrg ea eb)) := by
  refine (pe_listRg G hg hm (prg_2 hg2 hm2 ha hb (starEach_plain n1) (starEach_plain n2) (by rw [starEach_plain n2]; rfl)) rfl).wk fun σ H Q' ⟨fr, Hs, ρ, Q, r, w, p⟩ => ?_
  rw [wE] at w
  refine R.two r w fun x y H2 Hs2 ra rb ρ2 r2 l2 o1 o2 q => ?_
  obtain ⟨da, e1, db, e2, q⟩ := q
  have tx := look_top r2 o1 (by rw [look_keep]; exact e1)
  have ty := look_top r2 o2 e2
  split at q
  · exact ⟨_, _, tx.int, ty.int, q.1, fun a ha => Post.lst (fun v H' Hs' rd r4 l4 o4 q4 => p v H' Hs' rd ρ2 r4 (l2.tr l4) o4 q4) r2 (rg_den _ _) q.2 ha⟩
  · exact q.elim
theorem se_lr1 (G : X.calm = true) {a : Expr} {ea : E} {p1 p2 pos pos2 : Pos} (hg : Gl X "list") (hm : X.mg "list" = none) (hg2 : Gl X "range") (hm2 : X.mg "range" = none) (ha : PE X a (R X.K Φ ea)) (n1 : notStar a = true) :
    PE X (.Call (.Name "list" p1) [.Call (.Name "range" p2) [a] [] pos2] [] pos) (R X.K Φ (.lr1 ea)) := by
  refine (pe_listRg G hg hm (prg_1 hg2 hm2 ha (starEach_plain n1)) rfl).wk fun σ H Q' ⟨fr, Hs, ρ, Q, r, w, p⟩ => ?_
  rw [wE] at w
  refine R.one r w fun x H1 Hs1 ra ρ1 r1 l1 o1 q => ?_
  obtain ⟨da, e1, q⟩ := q
  have tx := look_top r1 o1 e1
  cases da <;> try exact q.elim
  refine ⟨_, tx.int, q.1, fun a ha => Post.lst (fun v H' Hs' rd r4 l4 o4 q4 => p v H' Hs' rd ρ1 r4 (l1.tr l4) o4 q4) r1 (rg_den _ _) ?_ ha⟩
  simpa using q.2
theorem se_sset {lv : Nat} (G : Good X Φ lv) {a : Expr} {ea : E} {p1 p2 pos pos2 : Pos} (hg : Gl X "sorted") (hg2 : Gl X "set") (ha : PE X a (R X.K Φ ea)) (n1 : notStar a = true) :
    PE X (.Call (.Name "sorted" p1) [.Call (.Name "set" p2) [a] [] pos2] [] pos) (R X.K Φ (.sset ea)) := by
  have inner := pe_callTy (p := p2) (pos := pos2) (call_setI (X := X) G.calm) hg2 (G.bn _ (by decide +kernel)) (by decide +kernel) (pa_cons ha pa_nil (starEach_plain n1)) (by decide +kernel) (by decide +kernel) (starEach_plain n1) rfl
  refine (pe_callB (cr_sortedSet G.calm) hg (G.bn _ (by decide +kernel)) (by decide +kernel) (pa_cons inner pa_nil rfl) (by decide +kernel) (by decide +kernel) rfl rfl).wk fun σ H Q' ⟨fr, Hs, ρ, Q, r, w, p⟩ => ?_
  rw [wE] at w
  refine R.one r w fun x H1 Hs1 ra ρ1 r1 l1 o1 q => ?_
  obtain ⟨da, e1, q⟩ := q
  have tx := look_top r1 o1 e1
  cases da <;> try exact q.elim
  rename_i ds
  obtain ⟨ns, en, hl, q⟩ := q
  have := ints?_some en; subst this
  obtain ⟨b, vs, rfl, h1, h2⟩ := tx.lst
  have := h2.ints; subst this
  refine ⟨b, ns, rfl, SqL.of h1, hl, fun p' c hp hc => ?_⟩
  refine ⟨p', _, c, rfl, upd_same, by omega, fun ns' p2 hs hm _ hp2 => ?_⟩
  have r2 := r1.grow (o := SetO X.w p' (fun j => decide (j ∈ ns)) c) hp
  refine Post.lst (fun v H' Hs' rd r4 l4 o4 q4 => p v H' Hs' rd ρ1 r4 (l1.tr l4) o4 q4) r2 DenL.ofInts (q ns' hs fun k => by rw [hm k]; simp) hp2
/-! ### rows that names will hold -/
inductive OVns (K : PySem.W.Frag) : Fr → L2.St → Hp → Hp → Env → List V → List VE → Prop where
  | nil {fr : Fr} {σ : L2.St} {H Hs : Hp} {ρ : Env} : OVns K fr σ H Hs ρ [] []
  | sh {fr : Fr} {σ : L2.St} {H Hs : Hp} {ρ : Env} {d : D} {v : V} {vs : List V} {ws : List VE} : Den K Hs d v → OVns K fr σ H Hs ρ vs ws → OVns K fr σ H Hs ρ (v :: vs) (.sh d :: ws)
  | own {fr : Fr} {σ : L2.St} {H Hs : Hp} {ρ : Env} {c : D} {p : Addr} {o : HO} {vs : List V} {ws : List VE} : H p = some o → Hid fr σ H Hs ρ p → Cont K H Hs p c → OVns K (fr.pin p o) σ H Hs ρ vs ws → OVns K fr σ H Hs ρ (.ref p :: vs) (.own c :: ws)
def RN (K : PySem.W.Frag) (Φ : Ctx) (es : List E) : TA := fun σ H Q' => ∃ fr Hs ρ Q, Rel K fr σ H Hs ρ ∧ wNs Φ es ρ Q ∧
  ∀ vs H' Hs' ws ρ', Rel K fr σ H' Hs' ρ' → Leq Hs Hs' → OVns K fr σ H' Hs' ρ' vs ws → Q ws ρ' → Q' vs H'
theorem sn_nil : PA X [] (RN X.K Φ []) := pa_nil.wk fun σ H Q' ⟨fr, Hs, ρ, Q, r, w, p⟩ => p [] H Hs [] ρ r .rfl' .nil (by rw [wNs] at w; exact w)
theorem sn_cons {e : Expr} {es : List Expr} {c : E} {cs : List E} (h : PE X e (R X.K Φ c)) (hs : PA X es (RN X.K Φ cs)) (n : notStar e = true) : PA X (e :: es) (RN X.K Φ (c :: cs)) := by
  refine (pa_cons h hs (starEach_plain n)).wk fun σ H Q' ⟨fr, Hs, ρ, Q, r, w, p⟩ => ?_
  rw [wNs] at w
  refine R.one r w fun x H1 Hs1 ra ρ1 r1 l1 o1 q => ?_
  have old : (frz ra ρ1 fun d ρ1' => wNs Φ cs ρ1' fun ws ρ2 => Q (.sh d :: ws) ρ2) → RN X.K Φ cs σ H1 fun xs H2 => Q' (x :: xs) H2 := fun q => by
    obtain ⟨Hs1', d, ρ1', l1', r1', den, q⟩ := frz_ok r1 o1 q
    exact ⟨fr, Hs1', ρ1', _, r1', q, fun vs H2 Hs2 ds ρ2 r2 l2 o2 q2 => p (x :: vs) H2 Hs2 (.sh d :: ds) ρ2 r2 ((l1.tr l1').tr l2) (.sh (den.leq l2) o2) q2⟩
  cases ra with
  | val d => exact old q
  | slot i => exact old q
  | new c =>
    obtain ⟨a, rfl, h1, h2, h3, h4, h5⟩ := o1
    have hid : Hid fr σ H1 Hs1 ρ1 a := ⟨h1, h2, h3, h5⟩
    cases ho : H1 a with
    | none => exact absurd ho h4.some
    | some o =>
      have hS : fr.S0 a = none := by
        cases z : fr.S0 a with
        | none => rfl
        | some o' => have := r1.s0 a o' z; rw [h1] at this; cases this
      refine ⟨fr.pin a o, Hs1, ρ1, _, r1.pin hid ho, q, fun vs H2 Hs2 ws ρ2 r2 l2 o2 q2 => ?_⟩
      obtain ⟨u1, u2, u3⟩ := r2.unpin h2 hS h3
      exact p _ H2 Hs2 (.own c :: ws) ρ2 u1 (l1.tr l2) (.own u2 u3 (h4.leq (by rw [u2, ho]) l2) o2) q2
end
end PL
set_option Elab.async false
set_option linter.all false
set_option maxRecDepth 100000
set_option maxHeartbeats 4000000
namespace PL
open PySem PySem.Spec L2
structure EndOk (K : PySem.W.Frag) (fr : Fr) (Hs : Hp) (DD : End) (D : Ends) : Prop where
  nx : ∀ σ' H' Hs' ρ', Rel K fr σ' H' Hs' ρ' → Leq Hs Hs' → DD.nx ρ' → D.nx σ' H'
  bk : ∀ σ' H' Hs' ρ', Rel K fr σ' H' Hs' ρ' → Leq Hs Hs' → DD.bk ρ' → D.bk σ' H'
  rt : ∀ v σ' H' Hs' ρ' d, Rel K fr σ' H' Hs' ρ' → Leq Hs Hs' → Den K Hs' d v → DD.rt d ρ' → D.rt v H'
  rn : ∀ v σ' H' Hs' ρ' c, Rel K fr σ' H' Hs' ρ' → Leq Hs Hs' → OVr K fr σ' H' Hs' ρ' v (.new c) → DD.rn c ρ' → D.rt v H'
theorem EndOk.leq {K : PySem.W.Frag} {fr : Fr} {Hs Hs1 : Hp} {DD : End} {D : Ends} (e : EndOk K fr Hs DD D) (l : Leq Hs Hs1) : EndOk K fr Hs1 DD D :=
  ⟨fun _ _ _ _ r l' q => e.nx _ _ _ _ r (l.tr l') q, fun _ _ _ _ r l' q => e.bk _ _ _ _ r (l.tr l') q, fun _ _ _ _ _ _ r l' dn q => e.rt _ _ _ _ _ _ r (l.tr l') dn q, fun _ _ _ _ _ _ r l' o q => e.rn _ _ _ _ _ _ r (l.tr l') o q⟩
def RS1 (K : PySem.W.Frag) (Φ : Ctx) (s : S) : TS := fun D σ H => ∃ fr Hs ρ DD, Rel K fr σ H Hs ρ ∧ wS Φ s ρ DD ∧ EndOk K fr Hs DD D
def RS (K : PySem.W.Frag) (Φ : Ctx) (s : List S) : TS := fun D σ H => ∃ fr Hs ρ DD, Rel K fr σ H Hs ρ ∧ wSs Φ s ρ DD ∧ EndOk K fr Hs DD D
section
variable {X : Cx} {Φ : Ctx}
theorem assign_ok {K : PySem.W.Frag} {fr : Fr} {σ : L2.St} {H Hs : Hp} {ρ : Env} {v : V} {rd : RD} {i : Nat} {k : Env → Prop} (r : Rel K fr σ H Hs ρ) (o : OVr K fr σ H Hs ρ v rd) (w : toVE rd ρ fun w ρ2 => setE ρ2 i w k) :
    ∃ Hs' ρ', Leq Hs Hs' ∧ Rel K fr (σ.set i (some v)) H Hs' ρ' ∧ k ρ' := by
  have fin : ∀ {ρ : Env} {w : VE}, setE ρ i w k → k (ρ.set i w) := fun {ρ w} h => by
    unfold setE at h
    split at h
    · exact h.elim
    · exact h
    · exact h.elim
  cases rd with
  | val d => exact ⟨Hs, _, .rfl', r.setSh o, fin w⟩
  | new c => exact ⟨Hs, _, .rfl', r.setOwn o, fin w⟩
  | slot j =>
    have o : σ[j]? = some (some v) := o
    simp only [toVE] at w
    split at w
    · obtain ⟨a, x, h1, h2, h3, h4, h5⟩ := r.freeze (by assumption)
      rw [o] at h1; cases h1
      exact ⟨_, _, leq_upd h2, h5.setSh h4, fin w⟩
    · obtain ⟨v', h1, h2⟩ := r.sh j _ (by assumption)
      rw [o] at h1; cases h1
      exact ⟨Hs, _, .rfl', r.setSh h2, fin w⟩
    · exact w.elim
theorem asg_core {K : PySem.W.Frag} {i : Nat} {e : E} {D : Ends} {σ : L2.St} {H : Hp} (h : RS1 K Φ (.set i e) D σ H) : R K Φ e σ H fun x H1 => D.nx (σ.set i (some x)) H1 := by
  obtain ⟨fr, Hs, ρ, DD, r, w, eo⟩ := h
  rw [wS] at w
  refine R.one r w fun x H1 Hs1 ra ρ1 r1 l1 o1 q => ?_
  obtain ⟨Hs', ρ', l', r', k⟩ := assign_ok r1 o1 q
  exact eo.nx _ _ _ _ r' (l1.tr l') k
theorem ss_set (nd : X.N.Nodup) {i : Nat} {x : Str} {e : Expr} {c : E} {p' pos : Pos} (hx : X.N[i]? = some x) (hl : Loc X.env.scope x) (he : PE X e (R X.K Φ c)) (hs : swapsWith e (some (.Name x p')) pos.line X.env = pure false) (hf : X.fn x = true ∨ X.env.scope.names.lookup x = some .local) :
    PS X (.Assign [.Name x p'] e pos) (RS1 X.K Φ (.set i c)) :=
  (ps_set nd hx hl he hs hf).wk fun D σ H h => asg_core h
theorem ss_setT {tg e : Expr} {t : Tg} {c : E} {pos : Pos} (he : PE X e (R X.K Φ c)) (hg : PG X tg (tgR X.K t)) (h1 : swapsWithSole [tg] e pos.line X.env = pure false) (h2 : swappedStores [tg] e X.env = pure none) (h3 : List.map (fun x => x.snd) (assignEach [tg] X.env) = [assign tg X.env]) :
    PS X (.Assign [tg] e pos) (RS1 X.K Φ (.setT t c)) := by
  refine (ps_asg he hg h1 h2 h3).wk fun D σ H h => ?_
  obtain ⟨fr, Hs, ρ, DD, r, w, eo⟩ := h
  rw [wS] at w
  refine R.one r w fun x H1 Hs1 ra ρ1 r1 l1 o1 q => ?_
  obtain ⟨Hs', d, ρ', l', r', den, q⟩ := frz_ok r1 o1 q
  exact ⟨fr, Hs', ρ', d, _, r', den, q, fun σ2 ρ2 r2 _ q2 => eo.nx _ _ _ _ r2 (l1.tr l') q2⟩
/-- several at once -/
theorem ovns_set {K : PySem.W.Frag} {fr : Fr} {σ σ' : L2.St} {H Hs : Hp} {ρ ρ' : Env} {vs : List V} {ws : List VE} (h : OVns K fr σ H Hs ρ vs ws) (hh : ∀ D, Hid fr σ H Hs ρ D → Hid fr σ' H Hs ρ' D) : OVns K fr σ' H Hs ρ' vs ws := by
  induction h generalizing σ' ρ' with
  | nil => exact .nil
  | sh den t ih => exact .sh den (ih hh)
  | own e hid c t ih =>
    refine .own e (hh _ hid) c (ih fun D hD => ?_)
    rename_i fr σ H Hs ρ c p o vs ws
    have ne : D ≠ p := fun z => by
      have : (fr.pin p o).H0 D = none := hD.z
      rw [z] at this
      have : upd fr.H0 p o p = none := this
      rw [upd_same] at this; cases this
    have hz : fr.H0 D = none := by
      have : upd fr.H0 p o D = none := hD.z
      rwa [upd_ne ne] at this
    have := hh D ⟨hD.s, hz, hD.b, hD.n⟩
    exact ⟨this.s, hD.z, hD.b, this.n⟩
theorem ovns_own {K : PySem.W.Frag} {fr' : Fr} {σ : L2.St} {H Hs : Hp} {ρ : Env} {i : Nat} {c : D} {p : Addr} {vs : List V} {ws : List VE} (h : OVns K fr' σ H Hs ρ vs ws) (hl : ρ.length = σ.length) (a : fr'.H0 p ≠ none) (fr2 : Fr) (d : fr2.B = fr'.B) (e2 : ∀ D, D ≠ p → fr'.H0 D = fr2.H0 D) :
    OVns K fr2 (σ.set i (some (.ref p))) H Hs (ρ.set i (.own c)) vs ws := by
  induction h generalizing fr2 with
  | nil => exact .nil
  | sh den t ih => exact .sh den (ih hl a fr2 d e2)
  | own e' hid' hc' t ih =>
    rename_i frx σx Hx Hsx ρx cx q ox vsx wsx
    have nq : q ≠ p := fun z => a (by rw [← z]; exact hid'.z)
    refine .own e' ⟨hid'.s, by rw [← e2 q nq]; exact hid'.z, by rw [d]; exact hid'.b, fun j hj ee => ?_⟩ hc' (ih hl ?_ _ d fun D hD => ?_)
    · rcases obAt_set hj with ⟨n, z, l⟩ | ⟨n, hj⟩
      · rw [getElem?_set', if_pos n.symm, if_pos (by rw [← hl]; exact l)] at ee
        have : p = q := by injection ee with ee; injection ee with ee; injection ee
        exact nq this.symm
      · rw [getElem?_set', if_neg (fun z => n z.symm)] at ee
        exact hid'.n j hj ee
    · show upd frx.H0 q ox p ≠ none
      rw [upd_ne (fun z => nq z.symm)]; exact a
    · show upd frx.H0 q ox D = upd fr2.H0 q ox D
      by_cases h : D = q
      · rw [h, upd_same, upd_same]
      · rw [upd_ne h, upd_ne h]; exact e2 D hD
theorem setNs_ok {K : PySem.W.Frag} : ∀ {is : List Nat} {ws : List VE} {vs : List V} {fr : Fr} {σ : L2.St} {H Hs : Hp} {ρ : Env} {k : Env → Prop}, Rel K fr σ H Hs ρ → OVns K fr σ H Hs ρ vs ws → setNs is ws ρ k →
    ∃ ρ', vs.length = is.length ∧ Rel K fr ((is.zip vs).foldl (fun s p => s.set p.1 (some p.2)) σ) H Hs ρ' ∧ k ρ'
  | [], [], _, fr, σ, H, Hs, ρ, k, r, .nil, w => ⟨ρ, rfl, r, w⟩
  | [], _ :: _, _, fr, σ, H, Hs, ρ, k, r, _, w => w.elim
  | _ :: _, [], _, fr, σ, H, Hs, ρ, k, r, _, w => w.elim
  | i :: is, .sh d :: ws, _, fr, σ, H, Hs, ρ, k, r, .sh (v := v) (vs := vs) den t, w => by
    simp only [setNs] at w
    have w : setNs is ws (ρ.set i (.sh d)) k := by
      split at w
      · exact w.elim
      · exact w
      · exact w.elim
    obtain ⟨ρ', h1, h2, h3⟩ := setNs_ok (r.setSh (i := i) den) (ovns_set t fun D hD => ⟨hD.s, hD.z, hD.b, fun j hj e => by
      rcases obAt_set hj with ⟨_, z, _⟩ | ⟨n, hj⟩
      · simp [VE.ob] at z
      · rw [getElem?_set', if_neg (fun z => n z.symm)] at e
        exact hD.n j hj e⟩) w
    exact ⟨ρ', by simp [h1], h2, h3⟩
  | i :: is, .own c :: ws, _, fr, σ, H, Hs, ρ, k, r, .own (p := p) (o := o) (vs := vs) e hid hc t, w => by
    simp only [setNs] at w
    have w : setNs is ws (ρ.set i (.own c)) k := by
      split at w
      · exact w.elim
      · exact w
      · exact w.elim
    have r1 := r.setOwn (i := i) (v := .ref p) (c := c) ⟨p, rfl, hid.s, hid.z, hid.b, hc, hid.n⟩
    have t1 : OVns K fr (σ.set i (some (.ref p))) H Hs (ρ.set i (.own c)) vs ws := by
      refine ovns_own t r.len ?_ fr rfl fun D hD => ?_
      · show upd fr.H0 p o p ≠ none
        rw [upd_same]; simp
      · show upd fr.H0 p o D = fr.H0 D
        rw [upd_ne hD]
    obtain ⟨ρ', h1, h2, h3⟩ := setNs_ok r1 t1 w
    exact ⟨ρ', by simp [h1], h2, h3⟩
end
end PL
set_option Elab.async false
set_option linter.all false
set_option maxRecDepth 100000
set_option maxHeartbeats 4000000
namespace PL
open PySem PySem.Spec L2
section
variable {X : Cx} {Φ : Ctx}
theorem ss_par2 (hc : X.calm = true) (nd : X.N.Nodup) {i j : Nat} {x y : Str} {a b : Expr} {ea eb : E} {px py pt pos pt2 : Pos} {kt k2 : Nat} (hi : X.N[i]? = some x) (hj : X.N[j]? = some y) (ij : i ≠ j)
    (lx : X.env.scope.names.lookup x = some .local) (ly : X.env.scope.names.lookup y = some .local) (h : PA X [a, b] (RN X.K Φ [ea, eb]))
    (hw : swappedStores [.Tuple [.Name x px, .Name y py] kt pt] (.Tuple [a, b] k2 pt2) X.env = pure (some [x, y])) :
    PS X (.Assign [.Tuple [.Name x px, .Name y py] kt pt] (.Tuple [a, b] k2 pt2) pos) (RS1 X.K Φ (.par [i, j] [ea, eb])) := by
  refine (ps_par hc nd hi hj ij lx ly h hw rfl).wk fun D σ H h => ?_
  obtain ⟨fr, Hs, ρ, DD, r, w, eo⟩ := h
  rw [wS] at w
  refine ⟨fr, Hs, ρ, _, r, w, fun vs H1 Hs1 ws ρ1 r1 l1 o1 q => ?_⟩
  obtain ⟨ρ', hl, r', k⟩ := setNs_ok r1 o1 q.2
  match vs, hl with
  | [v, w], _ => exact ⟨v, w, rfl, eo.nx _ _ _ _ r' l1 k⟩
theorem ss_par3 (hc : X.calm = true) (nd : X.N.Nodup) {i j l : Nat} {x y z : Str} {a b c : Expr} {ea eb ec : E} {px py pz pt pos pt2 : Pos} {kt k2 : Nat} (hi : X.N[i]? = some x) (hj : X.N[j]? = some y) (hl : X.N[l]? = some z) (ij : i ≠ j) (il : i ≠ l) (jl : j ≠ l)
    (lx : X.env.scope.names.lookup x = some .local) (ly : X.env.scope.names.lookup y = some .local) (lz : X.env.scope.names.lookup z = some .local) (h : PA X [a, b, c] (RN X.K Φ [ea, eb, ec]))
    (hw : swappedStores [.Tuple [.Name x px, .Name y py, .Name z pz] kt pt] (.Tuple [a, b, c] k2 pt2) X.env = pure (some [x, y, z])) :
    PS X (.Assign [.Tuple [.Name x px, .Name y py, .Name z pz] kt pt] (.Tuple [a, b, c] k2 pt2) pos) (RS1 X.K Φ (.par [i, j, l] [ea, eb, ec])) := by
  refine (ps_par3 hc nd hi hj hl ij il jl lx ly lz h hw rfl).wk fun D σ H h => ?_
  obtain ⟨fr, Hs, ρ, DD, r, w, eo⟩ := h
  rw [wS] at w
  refine ⟨fr, Hs, ρ, _, r, w, fun vs H1 Hs1 ws ρ1 r1 l1 o1 q => ?_⟩
  obtain ⟨ρ', hl, r', k⟩ := setNs_ok r1 o1 q.2
  match vs, hl with
  | [u, v, w], _ => exact ⟨u, v, w, rfl, eo.nx _ _ _ _ r' l1 k⟩
def gNames : List Nat → TGs
  | [] => gNil
  | i :: is => gCons (gName i) (gNames is)
theorem gNames_ok : ∀ {is : List Nat} {vs : List V} {σ : L2.St} {H : Hp} {Q : L2.St → Hp → Prop}, vs.length = is.length → Q ((is.zip vs).foldl (fun s p => s.set p.1 (some p.2)) σ) H → gNames is vs σ H Q
  | [], [], σ, H, Q, _, q => ⟨rfl, q⟩
  | [], _ :: _, σ, H, Q, h, _ => by simp at h
  | _ :: _, [], σ, H, Q, h, _ => by simp at h
  | i :: is, v :: vs, σ, H, Q, h, q => ⟨v, vs, rfl, gNames_ok (by simpa using h) q⟩
theorem ovns_grow {K : PySem.W.Frag} {fr : Fr} {σ : L2.St} {H Hs : Hp} {ρ : Env} {vs : List V} {ws : List VE} {a : Addr} {o : HO} (ha : H a = none) (h : OVns K fr σ H Hs ρ vs ws) : OVns K fr σ (upd H a o) Hs ρ vs ws := by
  induction h with
  | nil => exact .nil
  | sh den t ih => exact .sh den (ih ha)
  | own e hid c t ih =>
    have n : ∀ {p : Addr} {x : HO} {H : Hp}, H a = none → H p = some x → p ≠ a := fun h1 h2 z => by rw [z, h1] at h2; cases h2
    exact .own (by rw [upd_ne (n ha e)]; exact e) ⟨hid.s, hid.z, hid.b, hid.n⟩ (c.leq (upd_ne (n ha e)) .rfl') (ih ha)
theorem ovns_len {K : PySem.W.Frag} {fr : Fr} {σ : L2.St} {H Hs : Hp} {ρ : Env} {vs : List V} {ws : List VE} (h : OVns K fr σ H Hs ρ vs ws) : vs.length = ws.length := by
  induction h with
  | nil => rfl
  | sh den t ih => simp [ih]
  | own e hid c t ih => simp [ih]
theorem setNs_len : ∀ {is : List Nat} {ws : List VE} {ρ : Env} {k : Env → Prop}, setNs is ws ρ k → ws.length = is.length
  | [], [], _, _, _ => rfl
  | [], _ :: _, _, _, w => w.elim
  | _ :: _, [], _, _, w => w.elim
  | i :: is, w' :: ws, ρ, k, w => by
    simp only [setNs] at w
    split at w
    · exact w.elim
    · rw [List.length_cons, List.length_cons, setNs_len w]
    · exact w.elim
theorem ss_parN (hc : X.calm = true) {is : List Nat} {ts es : List Expr} {cs : List E} {kt k2 : Nat} {pt pt2 pos : Pos} (hg : PGs X ts (gNames is)) (hn : ts.all notStar = true) (hl : ts.length = is.length) (hl2 : is.length = cs.length) (h : PA X es (RN X.K Φ cs))
    (hw : swappedStores [.Tuple ts kt pt] (.Tuple es k2 pt2) X.env = pure none) : PS X (.Assign [.Tuple ts kt pt] (.Tuple es k2 pt2) pos) (RS1 X.K Φ (.par is cs)) := by
  obtain ⟨h1, h2⟩ := assign_len (env := X.env) hn
  refine (ps_asg (pe_tup h) (pg_tup hc hg h1 h2) rfl hw rfl).wk fun D σ H h => ?_
  obtain ⟨fr, Hs, ρ, DD, r, w, eo⟩ := h
  rw [wS] at w
  refine ⟨fr, Hs, ρ, _, r, w, fun vs H1 Hs1 ws ρ1 r1 l1 o1 q => ?_⟩
  obtain ⟨q0, q⟩ := q
  have e1 := ovns_len o1
  have e2 := setNs_len q
  refine ⟨by rw [e1]; exact q0, fun a ha => ?_⟩
  obtain ⟨ρ', hl', r', k⟩ := setNs_ok (r1.grow (o := .tup vs) ha) (ovns_grow ha o1) q
  exact ⟨a, vs, rfl, SqT.of upd_same, by rw [hl', hl], gNames_ok hl' (eo.nx _ _ _ _ r' l1 k)⟩
/-! ### stores into lists and dicts -/
def rSet : V → V → V → Hp → (Hp → Prop) → Prop := fun o i v H Q => rSetL o i v H Q ∨ rSetD o i v H Q
theorem rSet_ok (hu : X.A.units + 1 < cLine) : PSet X rSet := fun pins s σ H o i v ov iv u Q I r1 r2 r3 h => by
  rcases h with h | h
  · exact set_list pins s σ H o i v ov iv u Q I r1 r2 r3 h
  · exact set_dict hu pins s σ H o i v ov iv u Q I r1 r2 r3 h
theorem putD_den {K : PySem.W.Frag} {H : Hp} {k : Key} {d : D} {v : V} {ds : List (Key × D)} {vs : List (Key × V)} (h : DenK K H ds vs) (hv : Den K H d v) : DenK K H (putD ds k d) (putK vs k v) := by
  have any : ∀ {ds : List (Key × D)} {vs : List (Key × V)}, DenK K H ds vs → (ds.any fun kv => decide (kv.1 = k)) = vs.any fun kv => decide (kv.1 = k) := by
    intro ds
    induction ds with
    | nil => intro vs h; rw [DenK] at h; subst h; rfl
    | cons p ds ih =>
      intro vs h
      obtain ⟨k', d'⟩ := p
      rw [DenK] at h
      obtain ⟨v', vs', rfl, h1, h2⟩ := h
      rw [List.any_cons, List.any_cons, ih h2]
  have mp : ∀ {ds : List (Key × D)} {vs : List (Key × V)}, DenK K H ds vs → DenK K H (ds.map fun kv => if kv.1 = k then (kv.1, d) else kv) (vs.map fun kv => if kv.1 = k then (kv.1, v) else kv) := by
    intro ds
    induction ds with
    | nil => intro vs h; rw [DenK] at h; subst h; rw [List.map_nil, List.map_nil, DenK]
    | cons p ds ih =>
      intro vs h
      obtain ⟨k', d'⟩ := p
      rw [DenK] at h
      obtain ⟨v', vs', rfl, h1, h2⟩ := h
      rw [List.map_cons, List.map_cons]
      by_cases e : k' = k
      · simp only [e, if_true]
        rw [DenK]; exact ⟨_, _, rfl, hv, ih h2⟩
      · simp only [e, if_false]
        rw [DenK]; exact ⟨_, _, rfl, h1, ih h2⟩
  have ap : ∀ {ds : List (Key × D)} {vs : List (Key × V)}, DenK K H ds vs → DenK K H (ds ++ [(k, d)]) (vs ++ [(k, v)]) := by
    intro ds
    induction ds with
    | nil => intro vs h; rw [DenK] at h; subst h; rw [List.nil_append, List.nil_append, DenK]; exact ⟨_, _, rfl, hv, by rw [DenK]⟩
    | cons p ds ih =>
      intro vs h
      obtain ⟨k', d'⟩ := p
      rw [DenK] at h
      obtain ⟨v', vs', rfl, h1, h2⟩ := h
      rw [List.cons_append, List.cons_append, DenK]; exact ⟨_, _, rfl, h1, ih h2⟩
  unfold putD putK
  rw [any h]
  split
  · exact mp h
  · exact ap h
theorem put_ok {K : PySem.W.Frag} {fr : Fr} {σ : L2.St} {H Hs : Hp} {ρ : Env} {i : Nat} {c dk d : D} {a : Addr} {y v : V} {k : D → Prop} (r : Rel K fr σ H Hs ρ) (e : ρ[i]? = some (.own c) ∨ ρ[i]? = some (.bor c)) (hs : σ[i]? = some (some (.ref a))) (hc : Cont K H Hs a c)
    (ty : Top K H Hs dk y) (hv : Den K Hs d v) (w : putW c dk d k) : rSet (.ref a) y v H fun H' => ∃ c', k c' ∧ Rel K fr σ H' Hs (ρ.set i (match ρ[i]? with | some (.own _) => .own c' | _ => .bor c')) := by
  cases c <;> simp only [putW] at w
  · cases dk <;> simp only at w
    rename_i ds n
    obtain ⟨j, hj, w⟩ := w
    obtain ⟨vs, hv', hd⟩ := hc
    refine .inl ⟨a, vs, n, j, rfl, ty.int, hv', by rw [hd.length]; exact hj, _, w, r.putAt e hs ⟨_, upd_same, hd.set j hv⟩⟩
  · rename_i kvs
    obtain ⟨key, ek, hl, w⟩ := w
    obtain ⟨vs, hv', hd⟩ := hc
    have := keyD_den ek ty; subst this
    refine .inr ⟨a, _, rfl, .inl ⟨vs, key, hv', rfl, by rw [hd.length]; exact hl, rfl⟩, _, w, r.putAt e hs ⟨_, upd_same, putD_den hd hv⟩⟩
theorem ss_put (hu : X.A.units + 65 < cLine) {i : Nat} {x : Str} {k e : Expr} {ck ce : E} {p1 p2 pos : Pos} (hx : PE X (.Name x p1) (tVar i)) (hk : PE X k (R X.K Φ ck)) (he : PE X e (R X.K Φ ce)) (h1 : swapsWithSole [.Subscript (.Name x p1) k p2] e pos.line X.env = pure false) (h2 : swappedStores [.Subscript (.Name x p1) k p2] e X.env = pure none) (hp : plainIx k = true) :
    PS X (.Assign [.Subscript (.Name x p1) k p2] e pos) (RS1 X.K Φ (.put i ck ce)) := by
  refine (ps_asg he (pg_sub hx hk (rSet_ok (X := X) (by omega)) (ha := fun v => by cases k <;> first | rfl | (simp [plainIx] at hp))) h1 h2 rfl).wk fun D σ H h => ?_
  obtain ⟨fr, Hs, ρ, DD, r, w, eo⟩ := h
  rw [wS] at w
  refine R.one r w fun v H1 Hs1 ra ρ1 r1 l1 o1 q => ?_
  obtain ⟨Hs', d, ρ', l', r', den, ho, q⟩ := frz_ok r1 o1 q
  obtain ⟨a, s1, _, _⟩ := r'.addr ho
  refine ⟨.ref a, s1, ?_⟩
  refine R.one r' q fun y H2 Hs2 rb ρ2 r2 l2 o2 q2 => ?_
  obtain ⟨dk, e2, q2⟩ := q2
  have ty := look_top r2 o2 e2
  have mono : ∀ {a : Addr} {Q Q' : Hp → Prop}, rSet (.ref a) y v H2 Q → (∀ H, Q H → Q' H) → rSet (.ref a) y v H2 Q' := fun h i => by
    rcases h with ⟨p, xs, k, j, a1, a2, a3, a4, a5⟩ | ⟨p, H', a1, a2, a3⟩
    · exact .inl ⟨p, xs, k, j, a1, a2, a3, a4, i _ a5⟩
    · exact .inr ⟨p, H', a1, a2, i _ a3⟩
  split at q2
  · rename_i c hc
    obtain ⟨a', s1', s2, s3, s4, s5⟩ := r2.ow i c hc
    rw [s1] at s1'; cases s1'
    refine mono (put_ok r2 (.inl hc) s1 s5 ty (den.leq l2) q2) fun H3 ⟨c', kc, r3⟩ => ?_
    rw [hc] at r3
    exact eo.nx _ _ _ _ r3 ((l1.tr l').tr l2) kc
  · rename_i c hc
    obtain ⟨a', s1', s2, s3, s5⟩ := r2.br i c hc
    rw [s1] at s1'; cases s1'
    refine mono (put_ok r2 (.inr hc) s1 s5 ty (den.leq l2) q2) fun H3 ⟨c', kc, r3⟩ => ?_
    rw [hc] at r3
    exact eo.nx _ _ _ _ r3 ((l1.tr l').tr l2) kc
  · exact q2.elim
theorem ss_exp {e : Expr} {c : E} {pos : Pos} (he : PE X e (R X.K Φ c)) (hs : swapsWith e none pos.line X.env = pure false) : PS X (.Expr e pos) (RS1 X.K Φ (.exp c)) := by
  refine (ps_expr he hs).wk fun D σ H ⟨fr, Hs, ρ, DD, r, w, eo⟩ => ?_
  rw [wS] at w
  exact R.one r w fun v H1 Hs1 ra ρ1 r1 l1 o1 q => eo.nx _ _ _ _ r1 l1 q
theorem ss_app {i : Nat} {x : Str} {k : Expr} {ek : E} {p1 apos cpos pos : Pos} (hx : PE X (.Name x p1) (tVar i)) (hk : PE X k (R X.K Φ ek)) (ns : notStar k = true) (hl : (apos.endLine == cpos.line) = true) :
    PS X (.Expr (.Call (.Attribute (.Name x p1) "append" apos) [k] [] cpos) pos) (RS1 X.K Φ (.app i ek)) := by
  refine (ps_expr (pe_bm PySem.F.plainAttrs_list PySem.F.slot_list_append PySem.F.type_list_append mt_append hx (pa_cons hk pa_nil (starEach_plain ns)) rfl (by rw [starEach_plain ns]; rfl) hl (starEach_plain ns) rfl) rfl).wk fun D σ H ⟨fr, Hs, ρ, DD, r, w, eo⟩ => ?_
  rw [wS] at w
  obtain ⟨⟨ds, e0⟩, w⟩ := w
  have ob : obAt ρ i = true := by rcases e0 with e | e; exact obAt_own e; exact obAt_bor e
  obtain ⟨a, h1, _, _⟩ := r.addr ob
  have tv : ∃ vs, H a = some (.lst vs) := by
    rcases e0 with e | e
    · obtain ⟨a', g1, _, _, _, vs, g2, _⟩ := r.ow i _ e
      rw [h1] at g1; cases g1; exact ⟨vs, g2⟩
    · obtain ⟨a', g1, _, _, vs, g2, _⟩ := r.br i _ e
      rw [h1] at g1; cases g1; exact ⟨vs, g2⟩
  obtain ⟨vs, hv⟩ := tv
  refine ⟨.ref a, h1, .inl ⟨rfl, vs, SqL.of hv⟩, ?_⟩
  refine R.one r w fun y H1 Hs1 ra ρ1 r1 l1 o1 q => ?_
  obtain ⟨Hs', d, ρ', l', r', den, q⟩ := frz_ok r1 o1 q
  split at q
  · rename_i ds' hn
    obtain ⟨a', g1, g2, g3, g5, vs', gv, gd⟩ := r'.ow i _ hn
    rw [h1] at g1; cases g1
    have rr := r'.putAt (c' := .lst (ds' ++ [d])) (o := .lst (vs' ++ [y])) (.inl hn) h1 ⟨_, upd_same, gd.append (.cons den .nil)⟩
    rw [hn] at rr
    exact ⟨a, vs', y, rfl, rfl, gv, by rw [gd.length]; exact q.1, eo.nx _ _ _ _ rr (l1.tr l') q.2⟩
  · rename_i ds' hn
    obtain ⟨a', g1, g2, g3, vs', gv, gd⟩ := r'.br i _ hn
    rw [h1] at g1; cases g1
    have rr := r'.putAt (c' := .lst (ds' ++ [d])) (o := .lst (vs' ++ [y])) (.inr hn) h1 ⟨_, upd_same, gd.append (.cons den .nil)⟩
    rw [hn] at rr
    exact ⟨a, vs', y, rfl, rfl, gv, by rw [gd.length]; exact q.1, eo.nx _ _ _ _ rr (l1.tr l') q.2⟩
  · exact q.elim
theorem ss_ret {e : Expr} {c : E} {pos : Pos} (he : PE X e (R X.K Φ c)) : PS X (.Return (some e) pos) (RS1 X.K Φ (.ret c)) := by
  refine (ps_ret he).wk fun D σ H ⟨fr, Hs, ρ, DD, r, w, eo⟩ => ?_
  rw [wS] at w
  refine R.one r w fun v H1 Hs1 ra ρ1 r1 l1 o1 q => ?_
  obtain ⟨Hs', d, ρ', l', r', den, q⟩ := frz_ok r1 o1 q
  exact eo.rt _ _ _ _ _ _ r' (l1.tr l') den q
theorem ss_retN {e : Expr} {c : E} {pos : Pos} (he : PE X e (R X.K Φ c)) : PS X (.Return (some e) pos) (RS1 X.K Φ (.retN c)) := by
  refine (ps_ret he).wk fun D σ H ⟨fr, Hs, ρ, DD, r, w, eo⟩ => ?_
  rw [wS] at w
  refine R.one r w fun v H1 Hs1 ra ρ1 r1 l1 o1 q => ?_
  cases ra with
  | new c => exact eo.rn _ _ _ _ _ _ r1 l1 o1 q
  | val d => exact q.elim
  | slot i => exact q.elim
theorem ss_ife {c : Expr} {a b : List Stmt} {ec : E} {sa sb : List S} {pos : Pos} (hc : PT X c (RT X.K Φ ec)) (ha : PSs X a (RS X.K Φ sa)) (hb : PSs X b (RS X.K Φ sb)) : PS X (.If c a b pos) (RS1 X.K Φ (.ife ec sa sb)) := by
  refine (ps_if hc ha hb).wk fun D σ H ⟨fr, Hs, ρ, DD, r, w, eo⟩ => ?_
  rw [wS] at w
  refine R.one r w fun v H1 Hs1 ra ρ1 r1 l1 o1 q => ?_
  obtain ⟨dc, e1, q⟩ := q
  have t := look_top r1 o1 e1
  cases dc <;> try exact q.elim
  rename_i k
  refine ⟨k, t.bl, ?_⟩
  cases k
  · rw [if_neg (by simp)]; exact ⟨fr, Hs1, ρ1, DD, r1, q.2 rfl, eo.leq l1⟩
  · rw [if_pos rfl]; exact ⟨fr, Hs1, ρ1, DD, r1, q.1 rfl, eo.leq l1⟩
theorem ss_brk {pos : Pos} : PS X (.Break pos) (RS1 X.K Φ .brk) := ps_break.wk fun D σ H ⟨fr, Hs, ρ, DD, r, w, eo⟩ => by
  rw [wS] at w
  exact eo.bk _ _ _ _ r .rfl' w
theorem ss_pass {pos : Pos} : PS X (.Pass pos) (RS1 X.K Φ .pass) := ps_pass.wk fun D σ H ⟨fr, Hs, ρ, DD, r, w, eo⟩ => by
  rw [wS] at w
  exact eo.nx _ _ _ _ r .rfl' w
theorem ss_rse {st : Stmt} : PS X st (RS1 X.K Φ .rse) := (ps_never (X := X)).wk fun D σ H ⟨fr, Hs, ρ, DD, r, w, eo⟩ => by
  rw [wS] at w
  exact w
theorem ss_nil : PSs X [] (RS X.K Φ []) := pss_nil.wk fun D σ H ⟨fr, Hs, ρ, DD, r, w, eo⟩ => by
  rw [wSs] at w
  exact eo.nx _ _ _ _ r .rfl' w
theorem ss_cons {st : Stmt} {sts : List Stmt} {s : S} {ss : List S} (h : PS X st (RS1 X.K Φ s)) (hs : PSs X sts (RS X.K Φ ss)) : PSs X (st :: sts) (RS X.K Φ (s :: ss)) := by
  refine (pss_cons h hs).wk fun D σ H ⟨fr, Hs, ρ, DD, r, w, eo⟩ => ?_
  rw [wSs] at w
  exact ⟨fr, Hs, ρ, _, r, w, fun σ' H' Hs' ρ' r' l' q => ⟨fr, Hs', ρ', DD, r', q, eo.leq l'⟩, eo.bk, eo.rt, eo.rn⟩
theorem ss_whl (hp : PassesOwn (model X.prog X.w) X.A X.env X.xe) {c : Expr} {body : List Stmt} {ec : E} {sb : List S} {pos : Pos} (hc : PT X c (RT X.K Φ ec)) (hb : PSs X body (RS X.K Φ sb)) : PS X (.While c body [] pos) (RS1 X.K Φ (.whl ec sb)) := by
  refine (ps_while hp hc hb).wk fun D σ H ⟨fr, Hs, ρ, DD, r, w, eo⟩ => ?_
  rw [wS] at w
  obtain ⟨W, ⟨m, hm⟩, step⟩ := w
  refine ⟨fun m σ H => ∃ Hs' ρ', Leq Hs Hs' ∧ Rel X.K fr σ H Hs' ρ' ∧ W m ρ', ⟨m, Hs, ρ, .rfl', r, hm⟩, fun m σ H ⟨Hs0, ρ0, l0, r0, w0⟩ => ?_⟩
  refine R.one r0 (step m ρ0 w0) fun v H1 Hs1 ra ρ1 r1 l1 o1 q => ?_
  obtain ⟨dc, e1, q⟩ := q
  have t := look_top r1 o1 e1
  cases dc <;> try exact q.elim
  rename_i k
  refine ⟨k, t.bl, ?_⟩
  cases k
  · rw [if_neg (by simp)]
    exact eo.nx _ _ _ _ r1 (l0.tr l1) (q.2 rfl)
  · rw [if_pos rfl]
    refine ⟨fun σ' H' => ∃ m' Hs' ρ', m' < m ∧ Leq Hs Hs' ∧ Rel X.K fr σ' H' Hs' ρ' ∧ W m' ρ', fun σ' H' ⟨m', Hs', ρ', a, b, c, d⟩ => ⟨m', a, Hs', ρ', b, c, d⟩, fr, Hs1, ρ1, _, r1, q.1 rfl, ?_⟩
    exact ⟨fun σ' H' Hs' ρ' r' l' ⟨m', a, b⟩ => ⟨m', Hs', ρ', a, (l0.tr l1).tr l', r', b⟩, fun σ' H' Hs' ρ' r' l' q => eo.nx _ _ _ _ r' ((l0.tr l1).tr l') q, fun v σ' H' Hs' ρ' d r' l' dn q => eo.rt _ _ _ _ _ _ r' ((l0.tr l1).tr l') dn q, fun _ _ _ _ _ _ _ _ _ q => q.elim⟩
theorem topL_of {K : PySem.W.Frag} {H Hs : Hp} (s : Leq Hs H) : ∀ {ds : List D} {vs : List V}, DenL K Hs ds vs → TopL K H Hs ds vs
  | [], vs, h => by rw [DenL] at h; subst h; exact .nil
  | d :: ds, vs, h => by
    rw [DenL] at h
    obtain ⟨v, r, rfl, h1, h2⟩ := h
    exact .cons (Top.of s h1) (topL_of s h2)
theorem ss_for (hp : PassesOwn (model X.prog X.w) X.A X.env X.xe) (hc : X.calm = true) {tg it : Expr} {t : Tg} {k : SK} {srcs : List E} {body : List Stmt} {sb : List S} {pos : Pos} (hi : PI X tg it (tSrc X.K Φ k srcs)) (hg : PG X tg (tgR X.K t)) (hb : PSs X body (RS X.K Φ sb)) (ns : notSet it = true) :
    PS X (.For tg it body [] pos) (RS1 X.K Φ (.for t k srcs sb)) := by
  refine (ps_for hp hc hi hg hb (notSet_ok ns X.env)).wk fun D σ H ⟨fr, Hs, ρ, DD, r, w, eo⟩ => ?_
  rw [wS] at w
  refine ⟨fr, Hs, ρ, _, r, w, fun vs H1 Hs1 rs ρ1 r1 l1 o1 q => ?_⟩
  obtain ⟨cs, ρ2, e, hf, q⟩ := q
  refine ⟨cs, e, srcW_mono _ _ _ _ (fun ds q J wk => ?_) q⟩
  obtain ⟨Hs2, l2, r2, den⟩ := frzAll_ok r1 o1 e hf
  refine ⟨fun i m σ H => m = ds.length - i ∧ ∃ Hs' ρ', i ≤ ds.length ∧ Leq Hs2 Hs' ∧ Rel X.K fr σ H Hs' ρ' ∧ forW (fun d ρ' K => tgW t d ρ' fun ρ'' => wSs Φ sb ρ'' { nx := K, rt := DD.rt, bk := DD.nx }) (ds.drop i) ρ' DD.nx, ⟨_, rfl, Hs2, ρ2, by omega, .rfl', r2, q⟩, fun i m σ H ⟨hm, Hs', ρ', hi, l', r', fw⟩ => ?_⟩
  subst hm
  have top := topL_of r'.sub (den.leq l')
  by_cases hlt : i < ds.length
  · have hd : ds[i]? = some ds[i] := List.getElem?_eq_getElem hlt
    rw [List.drop_eq_getElem_cons hlt, forW] at fw
    obtain ⟨hgo, hy⟩ := wk.go H Hs' i ds[i] r'.sub top hd
    refine .inr ⟨hgo, fun σ' H' => ∃ Hs' ρ', i + 1 ≤ ds.length ∧ Leq Hs2 Hs' ∧ Rel X.K fr σ' H' Hs' ρ' ∧ forW (fun d ρ' K => tgW t d ρ' fun ρ'' => wSs Φ sb ρ'' { nx := K, rt := DD.rt, bk := DD.nx }) (ds.drop (i + 1)) ρ' DD.nx,
      fun σ' H' hN => ⟨ds.length - (i + 1), by omega, rfl, hN⟩, fun x H' yl => ?_⟩
    have step1 : ∃ Hs3, Rel X.K fr σ H' Hs3 ρ' ∧ Leq Hs' Hs3 ∧ Den X.K Hs3 ds[i] x := by
      rcases hy x H' yl with ⟨rfl, dn⟩ | ⟨T, o, rfl, hT, rfl, dn⟩
      · exact ⟨Hs', r', .rfl', dn⟩
      · exact ⟨_, r'.made hT, leq_upd (r'.sub.free hT), dn⟩
    obtain ⟨Hs3, r3, l3, dn⟩ := step1
    refine ⟨fr, Hs3, ρ', ds[i], _, r3, dn, fw, fun σ4 ρ4 r4 _ q4 => ?_⟩
    refine ⟨fr, Hs3, ρ4, _, r4, q4, ?_⟩
    exact ⟨fun σ' H' Hs' ρ' r' l'' q => ⟨Hs', ρ', by omega, (l'.tr l3).tr l'', r', q⟩, fun σ' H' Hs' ρ' r' l'' q => eo.nx _ _ _ _ r' ((l1.tr l2).tr ((l'.tr l3).tr l'')) q, fun v σ' H' Hs' ρ' d r' l'' dn q => eo.rt _ _ _ _ _ _ r' ((l1.tr l2).tr ((l'.tr l3).tr l'')) dn q, fun _ _ _ _ _ _ _ _ _ q => q.elim⟩
  · have : ds.drop i = [] := List.drop_eq_nil_of_le (by omega)
    rw [this, forW] at fw
    exact .inl ⟨wk.stop H Hs' i r'.sub top (by omega), eo.nx _ _ _ _ r' ((l1.tr l2).tr l') fw⟩
end
end PL
set_option Elab.async false
set_option linter.all false
set_option maxRecDepth 100000
set_option maxHeartbeats 4000000
namespace PL
open PySem PySem.Spec L2
section
variable {X : Cx} {Φ : Ctx}
theorem pairs_den {K : PySem.W.Frag} {H : Hp} : ∀ {ds : List D} {ws : List V} {kvs : List (Key × D)}, pairsD ds = some kvs → DenL K H ds ws →
    ∃ (ps : List Addr) (kws : List (Key × V)), ws = ps.map V.ref ∧ Paired (fun p (kv : Key × V) => SqT K H p [kV kv.1, kv.2]) ps kws ∧ DenK K H kvs kws
  | [], ws, kvs, e, h => by
    cases e
    rw [DenL] at h; subst h
    exact ⟨[], [], rfl, .nil, by rw [DenK]⟩
  | .tup [a, b] :: r, ws, kvs, e, h => by
    simp only [pairsD, Option.bind_eq_some_iff, Option.map_eq_some_iff] at e
    obtain ⟨k, ek, t, et, rfl⟩ := e
    rw [DenL] at h
    obtain ⟨v, ws', rfl, h1, h2⟩ := h
    obtain ⟨ps, kws, rfl, hp, hd⟩ := pairs_den et h2
    rw [Den] at h1
    obtain ⟨q, vs, rfl, hs, dl⟩ := h1
    rw [DenL] at dl
    obtain ⟨x, vs', rfl, d1, dl⟩ := dl
    rw [DenL] at dl
    obtain ⟨y, vs'', rfl, d2, dl⟩ := dl
    rw [DenL] at dl; subst dl
    have := keyD_den (K := K) (H := H) (Hs := H) ek (Top.of (fun _ _ h => h) d1)
    subst this
    exact ⟨q :: ps, (k, y) :: kws, rfl, .cons hs hp, by rw [DenK]; exact ⟨y, kws, rfl, d2, hd⟩⟩
  | .non :: _, _, _, e, _ => by cases e
  | .bl _ :: _, _, _, e, _ => by cases e
  | .int _ :: _, _, _, e, _ => by cases e
  | .str _ :: _, _, _, e, _ => by cases e
  | .lst _ :: _, _, _, e, _ => by cases e
  | .ro _ :: _, _, _, e, _ => by cases e
  | .dk _ :: _, _, _, e, _ => by cases e
  | .dt _ :: _, _, _, e, _ => by cases e
  | .tup [] :: _, _, _, e, _ => by cases e
  | .tup [_] :: _, _, _, e, _ => by cases e
  | .tup (_ :: _ :: _ :: _) :: _, _, _, e, _ => by cases e
theorem merge_den {K : PySem.W.Frag} {H : Hp} : ∀ {kvs acc : List (Key × D)} {kws acw : List (Key × V)}, DenK K H kvs kws → DenK K H acc acw → DenK K H (mergeD acc kvs) (mergeK acw kws)
  | [], acc, kws, acw, h, ha => by rw [DenK] at h; subst h; exact ha
  | (k, d) :: kvs, acc, kws, acw, h, ha => by
    rw [DenK] at h
    obtain ⟨v, r, rfl, h1, h2⟩ := h
    exact merge_den (acc := putD acc k d) (acw := putK acw k v) h2 (putD_den ha h1)
theorem se_dl {lv : Nat} (G : Good X Φ lv) {a : Expr} {ea : E} {p1 p2 pos pos2 : Pos} (hg : Gl X "dict") (hg2 : Gl X "list") (ha : PE X a (R X.K Φ ea)) (n1 : notStar a = true) :
    PE X (.Call (.Name "dict" p1) [.Call (.Name "list" p2) [a] [] pos2] [] pos) (R X.K Φ (.dl ea)) := by
  have inner := pe_callTy (p := p2) (pos := pos2) (call_list_of (X := X)) hg2 (G.bn _ (by decide +kernel)) (by decide +kernel) (pa_cons ha pa_nil (starEach_plain n1)) (by decide +kernel) (by decide +kernel) (starEach_plain n1) rfl
  refine (pe_callTy (p := p1) (pos := pos) (call_dictP (X := X) G.calm) hg (G.bn _ (by decide +kernel)) (by decide +kernel) (pa_cons inner pa_nil rfl) (by decide +kernel) (by decide +kernel) rfl rfl).wk fun σ H Q' ⟨fr, Hs, ρ, Q, r, w, p⟩ => ?_
  rw [wE] at w
  refine R.one r w fun x H1 Hs1 ra ρ1 r1 l1 o1 q => ?_
  obtain ⟨da, e1, xs, es, kvs, ek, q⟩ := q
  have tx := look_top r1 o1 e1
  obtain ⟨b, ws, rfl, hs, den⟩ : ∃ b ws, x = .ref b ∧ (SqL X.K H1 b ws ∨ SqT X.K H1 b ws) ∧ DenL X.K Hs1 xs ws := by
    cases da <;> simp [seq?] at es <;> subst es
    · obtain ⟨a, ws, rfl, h1, h2⟩ := tx.tup; exact ⟨a, ws, rfl, .inr (sqT_leq r1.sub h1), h2⟩
    · obtain ⟨a, ws, rfl, h1, h2⟩ := tx.lst; exact ⟨a, ws, rfl, .inl (SqL.of h1), h2⟩
  refine ⟨b, ws, rfl, hs, fun l hl => ?_⟩
  obtain ⟨ps, kws, rfl, hp, hd⟩ := pairs_den ek den
  have r2 := r1.grow (o := .lst (ps.map V.ref)) hl
  refine ⟨l, ps, kws, rfl, SqL.of upd_same, L2.Paired.mapP hp fun a kv h => sqT_leq r2.sub h, fun q' hq' => ?_⟩
  exact Post.dk (fun v H' Hs' rd r4 l4 o4 q4 => p v H' Hs' rd ρ1 r4 (l1.tr l4) o4 q4) r2 (merge_den hd (by rw [DenK])) q hq'
theorem denK_ints {K : PySem.W.Frag} {H : Hp} : ∀ {ps : List (Int × Int)} {kws : List (Key × V)}, DenK K H (ps.map fun p => ((Sum.inl p.1 : Key), D.int p.2)) kws → kws = ps.map fun p => ((Sum.inl p.1 : Key), V.int p.2)
  | [], kws, h => by rw [List.map_nil, DenK] at h; subst h; rfl
  | p :: ps, kws, h => by
    rw [List.map_cons, DenK] at h
    obtain ⟨v, r, rfl, h1, h2⟩ := h
    rw [denK_ints h2, List.map_cons]
    have : v = .int p.2 := by simpa [Den] using h1
    rw [this]
theorem se_sdl {lv : Nat} (G : Good X Φ lv) {x : Str} {ea : E} {p0 p1 p2 pos pos2 apos cpos : Pos} (hg : Gl X "sorted") (hg2 : Gl X "list") (ha : PE X (.Name x p0) (R X.K Φ ea)) (hl : (apos.endLine == cpos.line) = true) :
    PE X (.Call (.Name "sorted" p1) [.Call (.Name "list" p2) [.Call (.Attribute (.Name x p0) "items" apos) [] [] cpos] [] pos2] [] pos) (R X.K Φ (.sdl ea)) := by
  have inner := LiI.pe_listItems (p := p2) (pos := pos2) G.calm ha hg2 (G.bn _ (by decide +kernel)) (by decide +kernel) rfl hl rfl
  refine (pe_callB cr_sortedPO hg (G.bn _ (by decide +kernel)) (by decide +kernel) (pa_cons inner pa_nil rfl) (by decide +kernel) (by decide +kernel) rfl rfl).wk fun σ H Q' ⟨fr, Hs, ρ, Q, r, w, p⟩ => ?_
  rw [wE] at w
  refine R.one r w fun x H1 Hs1 ra ρ1 r1 l1 o1 q => ?_
  obtain ⟨da, e1, q⟩ := q
  have tx := look_top r1 o1 e1
  cases da <;> try exact q.elim
  obtain ⟨ps, rfl, q⟩ := q
  obtain ⟨d, kws, rfl, hd, den⟩ := tx.dk
  have := denK_ints den
  subst this
  refine ⟨d, _, rfl, hd, fun H' pl ts keep hp hts hpt hlst prd => ?_⟩
  let k : V → Int × Int := fun v => match v with
    | .ref t => (match H' t with
      | some (.tup [.int i, .int j]) => (i, j)
      | _ => (0, 0))
    | _ => (0, 0)
  have kt : ∀ (ts : List Addr) (qs : List (Int × Int)), Paired (fun (t : Addr) (q : Key × V) => H' t = some (.tup [kV q.1, q.2])) ts (qs.map fun p => ((Sum.inl p.1 : Key), V.int p.2)) →
      ts.map (fun t => k (.ref t)) = qs ∧ ∀ t ∈ ts, H' t = some (.tup [.int (k (.ref t)).1, .int (k (.ref t)).2]) := by
    intro ts
    induction ts with
    | nil => intro qs h; cases qs with | nil => exact ⟨rfl, by simp⟩ | cons q qs => rw [List.map_cons] at h; cases h
    | cons t ts ih =>
      intro qs h
      cases qs with
      | nil => cases h
      | cons q qs =>
        rw [List.map_cons] at h
        cases h with
        | cons h1 h2 =>
          obtain ⟨e, f⟩ := ih qs h2
          have h1 : H' t = some (.tup [.int q.1, .int q.2]) := h1
          have ek : k (.ref t) = q := by show (match H' t with | some (.tup [.int i, .int j]) => (i, j) | _ => (0, 0)) = q; rw [h1]
          refine ⟨by rw [List.map_cons, ek, e], fun z hz => ?_⟩
          rcases List.mem_cons.mp hz with rfl | hz
          · rw [ek]; exact h1
          · exact f z hz
  obtain ⟨ke, kf⟩ := kt ts ps prd
  refine ⟨pl, ts.map V.ref, k, rfl, SqL.of hlst, fun x hx => ?_, fun ys p2 hsort hstb hp2 => ?_⟩
  · rw [List.mem_map] at hx
    obtain ⟨t, ht, rfl⟩ := hx
    exact ⟨t, rfl, kf t ht⟩
  · let Hs2 : Hp := fun b => if b ∈ ts then H' b else Hs1 b
    have lh : Leq Hs1 Hs2 := fun b o e => by
      show (if b ∈ ts then H' b else Hs1 b) = some o
      rw [if_neg (fun z => by have := r1.sub b o e; rw [hts b z] at this; cases this)]; exact e
    have sh : Leq Hs2 H' := fun b o e => by
      have e : (if b ∈ ts then H' b else Hs1 b) = some o := e
      split at e
      · exact e
      · exact keep b o (r1.sub b o e)
    have nh : ∀ b, Hs2 b ≠ none → Hs1 b ≠ none ∨ H1 b = none := fun b hb => by
      have hb : (if b ∈ ts then H' b else Hs1 b) ≠ none := hb
      by_cases z : b ∈ ts
      · exact .inr (hts b z)
      · rw [if_neg z] at hb; exact .inl hb
    have r2 := r1.after keep lh sh nh
    have perm : ys.Perm (ts.map V.ref) := hstb.perm
    have memY : ∀ y ∈ ys, ∃ t ∈ ts, y = .ref t := fun y hy => by
      have := perm.mem_iff.1 hy
      rw [List.mem_map] at this
      obtain ⟨t, ht, e⟩ := this
      exact ⟨t, ht, e.symm⟩
    have denY : ∀ zs : List V, (∀ y ∈ zs, ∃ t ∈ ts, y = .ref t) → DenL X.K Hs2 ((zs.map k).map fun p => D.tup [.int p.1, .int p.2]) zs := by
      intro zs
      induction zs with
      | nil => intro _; exact .nil
      | cons z zs ih =>
        intro hz
        obtain ⟨t, ht, rfl⟩ := hz z (by simp)
        refine .cons ?_ (ih fun y hy => hz y (by simp [hy]))
        rw [Den]
        refine ⟨t, _, rfl, SqT.of ?_, .cons (by rw [Den]) (.cons (by rw [Den]) .nil)⟩
        show (if t ∈ ts then H' t else Hs1 t) = _
        rw [if_pos ht]; exact kf t ht
    have qperm : (ys.map k).Perm ps := by
      have := perm.map k
      rw [List.map_map] at this
      have e : (ts.map (k ∘ V.ref)) = ps := ke
      rwa [e] at this
    have qsort : (ys.map k).Pairwise fun x y => x.1 < y.1 ∨ x.1 = y.1 ∧ x.2 ≤ y.2 := by
      rw [List.pairwise_map]
      refine List.Pairwise.imp (fun {x y} h => ?_) hsort
      have := SrtO.lexB_no.mp (show SrtO.lexB (k y) (k x) = false from h)
      omega
    exact Post.lst (fun v H' Hs' rd r4 l4 o4 q4 => p v H' Hs' rd ρ1 r4 ((l1.tr lh).tr l4) o4 q4) r2 (denY ys memY) (q _ qperm qsort) hp2
/-- x[y], z = a, b -/
theorem ss_put2 (hc : X.calm = true) (hu : X.A.units + 65 < cLine) (nd : X.N.Nodup) {i k j : Nat} {x y z : Str} {a b : Expr} {ea eb : E} {p1 p2 p3 p4 pt pos pt2 : Pos} {kt k2 : Nat} (hx : PE X (.Name x p1) (tVar i)) (hk : PE X (.Name y p2) (tVar k)) (hj : X.N[j]? = some z)
    (lz : Loc X.env.scope z) (hf : X.fn z = true ∨ X.env.scope.names.lookup z = some .local) (h : PA X [a, b] (RA X.K Φ [ea, eb]))
    (hw : swappedStores [.Tuple [.Subscript (.Name x p1) (.Name y p2) p3, .Name z p4] kt pt] (.Tuple [a, b] k2 pt2) X.env = pure none) :
    PS X (.Assign [.Tuple [.Subscript (.Name x p1) (.Name y p2) p3, .Name z p4] kt pt] (.Tuple [a, b] k2 pt2) pos) (RS1 X.K Φ (.put2 i k j ea eb)) := by
  obtain ⟨h1, h2⟩ := assign_len (es := [.Subscript (.Name x p1) (.Name y p2) p3, .Name z p4]) (env := X.env) (by rfl)
  have hg := pgs_cons (pg_sub (pos := p3) hx hk (rSet_ok (X := X) (by omega))) (pgs_cons (pg_name (pos := p4) nd hj lz hf) pgs_nil)
  refine (ps_asg (pe_tup h) (pg_tup hc hg h1 h2) rfl hw rfl).wk fun D σ H h => ?_
  obtain ⟨fr, Hs, ρ, DD, r, w, eo⟩ := h
  rw [wS] at w
  refine ⟨fr, Hs, ρ, _, r, w, fun vs H1 Hs1 ds ρ1 r1 l1 den q => ?_⟩
  split at q
  case h_2 => exact q.elim
  rename_i d1 d2
  obtain ⟨q0, q⟩ := q
  rw [DenL] at den
  obtain ⟨v1, vs', rfl, den1, den⟩ := den
  rw [DenL] at den
  obtain ⟨v2, vs'', rfl, den2, den⟩ := den
  rw [DenL] at den; subst den
  refine ⟨q0, fun p hp => ?_⟩
  have r2 := r1.grow (o := .tup [v1, v2]) hp
  split at q
  case h_2 => exact q.elim
  rename_i dk hdk
  split at q
  case h_2 => exact q.elim
  rename_i c hci
  obtain ⟨vk, s2, dnk⟩ := r2.sh k dk hdk
  obtain ⟨ad, s1, t2, t3, t4, t5⟩ := r2.ow i c hci
  refine ⟨p, [v1, v2], rfl, SqT.of upd_same, rfl, v1, [v2], rfl, .ref ad, s1, vk, s2, ?_⟩
  have mono : ∀ {a : Addr} {H2 : Hp} {Q Q' : Hp → Prop}, rSet (.ref a) vk v1 H2 Q → (∀ H, Q H → Q' H) → rSet (.ref a) vk v1 H2 Q' := fun h i => by
    rcases h with ⟨p, xs, k, j, a1, a2, a3, a4, a5⟩ | ⟨p, H', a1, a2, a3⟩
    · exact .inl ⟨p, xs, k, j, a1, a2, a3, a4, i _ a5⟩
    · exact .inr ⟨p, H', a1, a2, i _ a3⟩
  refine mono (put_ok r2 (.inl hci) s1 t5 (Top.of r2.sub dnk) den1 q) fun H3 ⟨c', kc, r3⟩ => ?_
  rw [hci] at r3
  refine ⟨v2, [], rfl, rfl, ?_⟩
  have kc : DD.nx ((ρ1.set i (.own c')).set j (.sh d2)) := by
    unfold setE at kc
    split at kc
    · exact kc.elim
    · exact kc
    · exact kc.elim
  exact eo.nx _ _ _ _ (r3.setSh den2) l1 kc
end
end PL
set_option Elab.async false
set_option linter.all false
set_option maxRecDepth 100000
set_option maxHeartbeats 4000000
namespace PL
open PySem PySem.Spec L2
structure MC where
  N : List Str
  F : List Str
  B : List Str
  G : List Str
def visB (sc : Scope) (x : Str) : Bool := (match sc.names.lookup x with | some .local => true | some .cell => true | some .free => true | _ => false) && !(x == "__debug__") && !(x == "__classdict__")
def glB (sc : Scope) (x : Str) : Bool := (match sc.names.lookup x with | some .globalImplicit => true | _ => false) && !(x == "__debug__")
def ownOf (N : List Str) (own : List Nat) : List (Str × Nat) := own.map fun i => ((N[i]?).getD "", i)
def fnB (sc : Scope) : Str → Bool := fun x => sc.names.lookup x == some .cell
/-- shapes whose truth is that of their value -/
def tst : Expr → Bool | .Compare .. => true | .BoolOp .. => true | .UnaryOp .Not .. => true | .Name .. => true | .Call .. => true | .Subscript .. => true | _ => false
def isBo : Expr → Bool | .BoolOp .. => true | _ => false
def mTg (c : MC) (sc : Scope) (fn : Str → Bool) : Nat → Tg → Expr → Bool
  | 0, _, _ => false
  | n + 1, .nm i, .Name x _ => decide (c.N[i]? = some x) && (sc.names.lookup x == some .local || (sc.names.lookup x == some .cell && fn x))
  | n + 1, .tp ts, .Tuple es _ _ => decide (es.length = ts.length) && es.all notStar && (ts.zip es).all fun p => mTg c sc fn n p.1 p.2
  | _ + 1, _, _ => false
def all2 {α β : Type} (f : α → β → Bool) : List α → List β → Bool
  | [], [] => true | a :: as, b :: bs => f a b && all2 f as bs | _, _ => false
def mSrc (rec : List E → List Expr → Bool) (sc : Scope) (k : SK) (srcs : List E) (tg it : Expr) : Bool := notSet it && match k with
  | .seq => rec srcs [it]
  | .seqT => rec srcs [it]
  | .seqS => rec srcs [it]
  | .r1 => (match it with | .Call (.Name f _) [l] [] _ => f == ("range" : Str) && glB sc f && notStar l && rec srcs [l] | _ => false)
  | .r2 => (match it with | .Call (.Name f _) [l, m] [] _ => f == ("range" : Str) && glB sc f && notStar l && notStar m && rec srcs [l, m] | _ => false)
  | .zip => (match it, tg with | .Call (.Name f _) [l, m] [] _, .Tuple _ _ _ => f == ("zip" : Str) && glB sc f && notStar l && notStar m && rec srcs [l, m] | _, _ => false)
  | .enum => (match it, tg with | .Call (.Name f _) [l] [] _, .Tuple _ _ _ => f == ("enumerate" : Str) && glB sc f && notStar l && rec srcs [l] | _, _ => false)
/-- an attribute of it is read plainly -/
def baseB : Expr → Bool | .Name _ _ => true | .Call (.Name _ _) (_ :: _) [] _ => true | _ => false
theorem baseB_ok {o : Expr} {m : Str} {env : PySem.Env} {w : Sem Value} (h : baseB o = true) : attributeBase o m env w = w := by
  unfold baseB at h
  split at h
  · rfl
  · rfl
  · cases h
def mE (c : MC) : Nat → Scope → (Str → Bool) → E → Expr → Bool
  | 0, _, _, _, _ => false
  | n + 1, sc, fn, .var i, x => (match x with | .Name s _ => decide (c.N[i]? = some s) && visB sc s | _ => false)
  | n + 1, sc, fn, .int i, x => (match x with | .Constant (.int j) _ _ => decide (i = j) | _ => false)
  | n + 1, sc, fn, .bl b, x => (match x with | .Constant (.bool j) _ _ => decide (b = j) | _ => false)
  | n + 1, sc, fn, .non, x => (match x with | .Constant .none _ _ => true | _ => false)
  | n + 1, sc, fn, .str z, x => (match x with | .Constant (.str j) _ _ => decide (z = j) | _ => false)
  | n + 1, sc, fn, .glo g, x => (match x with | .Name s _ => decide (c.G[g]? = some s) && glB sc s | _ => false)
  | n + 1, sc, fn, .bin op a b, x => (match x with | .BinOp l o r _ => decide (o = bOp op) && mE c n sc fn a l && mE c n sc fn b r | _ => false)
  | n + 1, sc, fn, .neg a, x => (match x with | .UnaryOp .USub l _ => mE c n sc fn a l | _ => false)
  | n + 1, sc, fn, .not a, x => (match x with | .UnaryOp .Not l _ => tst l && mE c n sc fn a l | _ => false)
  | n + 1, sc, fn, .and a b, x => (match x with
    | .BoolOp .And [l, r] _ => tst l && tst r && mE c n sc fn a l && mE c n sc fn b r
    | .BoolOp .And (l :: r :: r2 :: rs) p => tst l && mE c n sc fn a l && mE c n sc fn b (.BoolOp .And (r :: r2 :: rs) p)
    | _ => false)
  | n + 1, sc, fn, .or a b, x => (match x with
    | .BoolOp .Or [l, r] _ => tst l && tst r && mE c n sc fn a l && mE c n sc fn b r
    | .BoolOp .Or (l :: r :: r2 :: rs) p => tst l && mE c n sc fn a l && mE c n sc fn b (.BoolOp .Or (r :: r2 :: rs) p)
    | _ => false)
  | n + 1, sc, fn, .cmp op a b, x => (match x with | .Compare l [o] [r] _ => decide (o = cOp op) && !behindInMarks (cOp op) r && mE c n sc fn a l && mE c n sc fn b r | _ => false)
  | n + 1, sc, fn, .cmp2 o1 o2 a b d, x => (match x with | .Compare l [p, q] [r, s] _ => decide (p = cOp o1) && decide (q = cOp o2) && !lastMarks [cOp o1, cOp o2] [r, s] && mE c n sc fn a l && mE c n sc fn b r && mE c n sc fn d s | _ => false)
  | n + 1, sc, fn, .ite d a b, x => (match x with | .IfExp t l r _ => tst t && mE c n sc fn d t && mE c n sc fn a l && mE c n sc fn b r | _ => false)
  | n + 1, sc, fn, .tup es, x => (match x with | .Tuple xs _ _ => xs.all notStar && all2 (mE c n sc fn) es xs | _ => false)
  | n + 1, sc, fn, .lst es, x => (match x with | .List xs _ => xs.all notStar && all2 (mE c n sc fn) es xs | _ => false)
  | n + 1, sc, fn, .star a es, x => (match x with | .List (.Starred l _ :: xs) _ => xs.all notStar && mE c n sc fn a l && all2 (mE c n sc fn) es xs | _ => false)
  | n + 1, sc, fn, .idx a i, x => (match x with | .Subscript l r _ => plainIx r && mE c n sc fn a l && mE c n sc fn i r | _ => false)
  | n + 1, sc, fn, .dgt a i, x => (match x with | .Subscript l r _ => plainIx r && mE c n sc fn a l && mE c n sc fn i r | _ => false)
  | n + 1, sc, fn, .sl1 a lo, x => (match x with | .Subscript l (.Slice (some r) none none _) _ => mE c n sc fn a l && mE c n sc fn lo r | _ => false)
  | n + 1, sc, fn, .sl2 a hi, x => (match x with | .Subscript l (.Slice none (some r) none _) _ => mE c n sc fn a l && mE c n sc fn hi r | _ => false)
  | n + 1, sc, fn, .sl3 a lo hi, x => (match x with | .Subscript l (.Slice (some r) (some s) none _) _ => mE c n sc fn a l && mE c n sc fn lo r && mE c n sc fn hi s | _ => false)
  | n + 1, sc, fn, .st1 a k, x => (match x with | .Subscript l (.Slice none none (some r) _) _ => mE c n sc fn a l && mE c n sc fn k r | _ => false)
  | n + 1, sc, fn, .st2 a lo k, x => (match x with | .Subscript l (.Slice (some r) none (some s) _) _ => mE c n sc fn a l && mE c n sc fn lo r && mE c n sc fn k s | _ => false)
  | n + 1, sc, fn, .call f es, x => (match x with | .Call (.Name s _) (a :: as) [] _ => decide (c.F[f]? = some s) && glB sc s && (a :: as).all notStar && all2 (mE c n sc fn) es (a :: as) | _ => false)
  | n + 1, sc, fn, .callN f es, x => (match x with | .Call (.Name s _) (a :: as) [] _ => decide (c.B[f]? = some s) && glB sc s && (a :: as).all notStar && all2 (mE c n sc fn) es (a :: as) | _ => false)
  | n + 1, sc, fn, .callB f i es, x => (match x with | .Call (.Name s _) (.Name y _ :: as) [] _ => decide (c.B[f]? = some s) && glB sc s && decide (c.N[i]? = some y) && visB sc y && as.all notStar && all2 (mE c n sc fn) es as | _ => false)
  | n + 1, sc, fn, .bi b es, x => (match x with | .Call (.Name s _) (a :: as) [] _ => decide (s = biNm b) && glB sc s && (a :: as).all notStar && all2 (mE c n sc fn) es (a :: as) | _ => false)
  | n + 1, sc, fn, .isi a t, x => (match x with | .Call (.Name s _) [l, .Name y _] [] _ => decide (s = ("isinstance" : Str)) && decide (y = tyS t) && glB sc s && glB sc y && notStar l && mE c n sc fn a l | _ => false)
  | n + 1, sc, fn, .get a k d, x => (match x with | .Call (.Attribute o s ap) [l, r] [] cp => decide (s = ("get" : Str)) && (ap.endLine == cp.line) && notStar l && notStar r && baseB o && mE c n sc fn a o && mE c n sc fn k l && mE c n sc fn d r | _ => false)
  | n + 1, sc, fn, .din k a, x => (match x with | .Compare l [.In] [r] _ => !behindInMarks .In r && mE c n sc fn k l && mE c n sc fn a r | _ => false)
  | n + 1, sc, fn, .pop i k, x => (match x with | .Call (.Attribute (.Name o _) s ap) [l] [] cp => decide (s = ("pop" : Str)) && (ap.endLine == cp.line) && decide (c.N[i]? = some o) && visB sc o && notStar l && mE c n sc fn k l | _ => false)
  | n + 1, sc, fn, .lrg a b, x => (match x with | .Call (.Name s _) [.Call (.Name y _) [l, r] [] _] [] _ => decide (s = ("list" : Str)) && decide (y = ("range" : Str)) && glB sc s && glB sc y && notStar l && notStar r && mE c n sc fn a l && mE c n sc fn b r | _ => false)
  | n + 1, sc, fn, .lr1 a, x => (match x with | .Call (.Name s _) [.Call (.Name y _) [l] [] _] [] _ => decide (s = ("list" : Str)) && decide (y = ("range" : Str)) && glB sc s && glB sc y && notStar l && mE c n sc fn a l | _ => false)
  | n + 1, sc, fn, .dl a, x => (match x with | .Call (.Name s _) [.Call (.Name y _) [l] [] _] [] _ => decide (s = ("dict" : Str)) && decide (y = ("list" : Str)) && glB sc s && glB sc y && notStar l && mE c n sc fn a l | _ => false)
  | n + 1, sc, fn, .sdl a, x => (match x with | .Call (.Name s _) [.Call (.Name y _) [.Call (.Attribute (.Name o op) m ap) [] [] cp] [] _] [] _ => decide (s = ("sorted" : Str)) && decide (y = ("list" : Str)) && decide (m = ("items" : Str)) && (ap.endLine == cp.line) && glB sc s && glB sc y && mE c n sc fn a (.Name o op) | _ => false)
  | n + 1, sc, fn, .sset a, x => (match x with | .Call (.Name s _) [.Call (.Name y _) [l] [] _] [] _ => decide (s = ("sorted" : Str)) && decide (y = ("set" : Str)) && glB sc s && glB sc y && notStar l && mE c n sc fn a l | _ => false)
  | n + 1, sc, fn, .edk, x => (match x with | .Dict [] [] _ => true | _ => false)
  | n + 1, sc, fn, .comp own tg k srcs elt, x => (match x with
    | .ListComp el [⟨t, it, [], z⟩] scope _ => decide (z = 0) && blkC c.N sc scope (ownOf c.N own) && (tgNs tg).all (own.contains ·) && mTg c (relS scope sc) (fnB scope) n tg t && mSrc (all2 (mE c n sc fn)) sc k srcs t it && mE c n (relS scope sc) (fnB scope) elt el
    | _ => false)
  | n + 1, sc, fn, .compIf own tg k srcs d elt, x => (match x with
    | .ListComp el [⟨t, it, [q], z⟩] scope _ => decide (z = 0) && blkC c.N sc scope (ownOf c.N own) && (tgNs tg).all (own.contains ·) && mTg c (relS scope sc) (fnB scope) n tg t && mSrc (all2 (mE c n sc fn)) sc k srcs t it && tst q && mE c n (relS scope sc) (fnB scope) d q && mE c n (relS scope sc) (fnB scope) elt el
    | _ => false)
  | _ + 1, _, _, _, _ => false
/-! ### what the check proves -/
structure Ok (X : Cx) (Φ : Ctx) (lv : Nat) (c : MC) (sc : Scope) (fn : Str → Bool) : Prop where
  good : Good X Φ lv
  N : X.N = c.N
  sc : X.env.scope = sc
  fn : ∀ y, fn y = true → X.fn y = true
  F : Φ.F.map (·.1) = c.F
  B : Φ.B.map (·.1) = c.B
  G : Φ.G.map (·.1) = c.G
structure Snd (X : Cx) (Φ : Ctx) (e : E) (x : Expr) : Prop where
  pe : PE X x (R X.K Φ e)
  pt : tst x = true → PT X x (RT X.K Φ e)
  pw : isBo x = true → PW X x (RT X.K Φ e)
section
variable {X : Cx} {Φ : Ctx} {lv : Nat} {c : MC} {sc : Scope} {fn : Str → Bool}
theorem Ok.hu (O : Ok X Φ lv c sc fn) : X.A.units + 65 < cLine := by have := O.good.room.un; omega
theorem Ok.vis (O : Ok X Φ lv c sc fn) {i : Nat} {x : Str} {pos : Pos} (h1 : c.N[i]? = some x) (h2 : visB sc x = true) : PE X (.Name x pos) (tVar i) := by
  unfold visB at h2
  rw [Bool.and_eq_true, Bool.and_eq_true] at h2
  obtain ⟨⟨a, b⟩, d⟩ := h2
  refine pv i (by rw [O.N]; exact h1) ?_ (by simpa using b) (by simpa using d)
  unfold Vis
  rw [O.sc]
  split at a
  · exact .inl (by assumption)
  · exact .inr (.inl (by assumption))
  · exact .inr (.inr (by assumption))
  · cases a
theorem Ok.gl (O : Ok X Φ lv c sc fn) {x : Str} (h : glB sc x = true) : Gl X x ∧ (x == ("__debug__" : Str)) = false := by
  unfold glB at h
  rw [Bool.and_eq_true] at h
  obtain ⟨a, b⟩ := h
  refine ⟨?_, by simpa using b⟩
  unfold Gl Env.kindOf
  rw [O.sc]
  split at a
  · assumption
  · cases a
theorem Snd.of {e : E} {x : Expr} (h : PE X x (R X.K Φ e)) (ht : tst x = true → ∀ w : Sem Value, isTrue x X.env w = (do let v ← w; standAt x.pos; holding [v] (truthy v))) (hb : isBo x = false) : Snd X Φ e x :=
  ⟨h, fun t => pt_val h (ht t), fun t => by rw [hb] at t; cases t⟩
theorem Ok.blk (O : Ok X Φ lv c sc fn) (scope : Scope) (s : Shared) (H : Hp) (C : Addr) (cl : List (Str × Addr)) (fp : List Addr) : Ok (X.blk s H scope (compEnvC scope cl C X.env) fp) Φ lv c (relS scope sc) (fnB scope) where
  good := ⟨O.good.calm, O.good.nd, O.good.room, O.good.F, O.good.B, O.good.G, O.good.bn⟩
  N := O.N
  sc := by
    show relabel scope X.env = _
    rw [← O.sc]; rfl
  fn := fun y h => h
  F := O.F
  B := O.B
  G := O.G
end
end PL
set_option Elab.async false
set_option linter.all false
set_option maxRecDepth 100000
set_option maxHeartbeats 4000000
namespace PL
open PySem PySem.Spec L2
section
variable {X : Cx} {Φ : Ctx} {lv : Nat} {c : MC} {sc : Scope} {fn : Str → Bool}
inductive Snds (X : Cx) (Φ : Ctx) : List E → List Expr → Prop where
  | nil : Snds X Φ [] []
  | cons {e : E} {x : Expr} {es : List E} {xs : List Expr} : Snd X Φ e x → Snds X Φ es xs → Snds X Φ (e :: es) (x :: xs)
theorem Snds.of {f : E → Expr → Bool} (h : ∀ e x, f e x = true → Snd X Φ e x) : ∀ {es : List E} {xs : List Expr}, all2 f es xs = true → Snds X Φ es xs
  | [], [], _ => .nil
  | [], _ :: _, q => by cases q
  | _ :: _, [], q => by cases q
  | e :: es, x :: xs, q => by
    rw [all2, Bool.and_eq_true] at q
    exact .cons (h e x q.1) (Snds.of h q.2)
theorem Snds.ra : ∀ {es : List E} {xs : List Expr}, Snds X Φ es xs → xs.all notStar = true → PA X xs (RA X.K Φ es)
  | _, _, .nil, _ => sa_nil
  | _, _, .cons h t, n => by
    rw [List.all_cons, Bool.and_eq_true] at n
    exact sa_cons h.pe (t.ra n.2) n.1
theorem Snds.rr : ∀ {es : List E} {xs : List Expr}, Snds X Φ es xs → xs.all notStar = true → PA X xs (RR X.K Φ es)
  | _, _, .nil, _ => sr_nil
  | _, _, .cons h t, n => by
    rw [List.all_cons, Bool.and_eq_true] at n
    exact sr_cons h.pe (t.rr n.2) n.1
theorem Snds.rn : ∀ {es : List E} {xs : List Expr}, Snds X Φ es xs → xs.all notStar = true → PA X xs (RN X.K Φ es)
  | _, _, .nil, _ => sn_nil
  | _, _, .cons h t, n => by
    rw [List.all_cons, Bool.and_eq_true] at n
    exact sn_cons h.pe (t.rn n.2) n.1
theorem Snds.one {es : List E} {x : Expr} (h : Snds X Φ es [x]) : ∃ e, es = [e] ∧ Snd X Φ e x := by
  cases h with | cons a t => cases t; exact ⟨_, rfl, a⟩
theorem Snds.two {es : List E} {x y : Expr} (h : Snds X Φ es [x, y]) : ∃ e f, es = [e, f] ∧ Snd X Φ e x ∧ Snd X Φ f y := by
  cases h with | cons a t => cases t with | cons b t => cases t; exact ⟨_, _, rfl, a, b⟩
theorem tg_ok (O : Ok X Φ lv c sc fn) : ∀ (n : Nat) (t : Tg) (x : Expr), mTg c sc fn n t x = true → PG X x (tgR X.K t)
  | 0, t, x, h => by rw [mTg] at h; cases h
  | n + 1, .nm i, x, h => by
    cases x <;> simp only [mTg, Bool.false_eq_true] at h
    rw [Bool.and_eq_true, decide_eq_true_eq] at h
    obtain ⟨h1, h2⟩ := h
    refine sg_nm (pg_name O.good.nd (by rw [O.N]; exact h1) ?_ ?_)
    · unfold L2.Loc
      rw [O.sc]
      simp only [Bool.or_eq_true, Bool.and_eq_true, beq_iff_eq] at h2
      rcases h2 with h2 | h2
      · exact .inl h2
      · exact .inr h2.1
    · rw [O.sc]
      simp only [Bool.or_eq_true, Bool.and_eq_true, beq_iff_eq] at h2
      rcases h2 with h2 | h2
      · exact .inr h2
      · exact .inl (O.fn _ h2.2)
  | n + 1, .tp ts, x, h => by
    cases x <;> simp only [mTg, Bool.false_eq_true] at h
    rename_i es k pos
    simp only [Bool.and_eq_true, decide_eq_true_eq] at h
    obtain ⟨⟨h1, h2⟩, h3⟩ := h
    refine sg_tp O.good.calm ?_ h2 h1
    have go : ∀ (ts : List Tg) (es : List Expr), es.length = ts.length → es.all notStar = true → ((ts.zip es).all fun p => mTg c sc fn n p.1 p.2) = true → PGs X es (tgsR X.K ts) := by
      intro ts
      induction ts with
      | nil => intro es a _ _; cases es with | nil => exact sgs_nil | cons _ _ => simp at a
      | cons t ts ih =>
        intro es a b d
        cases es with
        | nil => simp at a
        | cons e es =>
          rw [List.all_cons, Bool.and_eq_true] at b
          rw [List.zip_cons_cons, List.all_cons, Bool.and_eq_true] at d
          exact sgs_cons (tg_ok O n t e d.1) (ih es (by simpa using a) b.2 d.2) b.1
    exact go ts es h1 h2 h3
theorem src_ok (O : Ok X Φ lv c sc fn) {rec : List E → List Expr → Bool} (hr : ∀ es xs, rec es xs = true → Snds X Φ es xs) {k : SK} {srcs : List E} {tg it : Expr}
    (h : mSrc rec sc k srcs tg it = true) : PI X tg it (tSrc X.K Φ k srcs) ∧ notSet it = true := by
  unfold mSrc at h
  rw [Bool.and_eq_true] at h
  obtain ⟨h0, h⟩ := h
  refine ⟨?_, h0⟩
  cases k
  · obtain ⟨e, rfl, a⟩ := (hr _ _ h).one
    exact si_list a.pe
  · obtain ⟨e, rfl, a⟩ := (hr _ _ h).one
    exact si_tup a.pe
  · obtain ⟨e, rfl, a⟩ := (hr _ _ h).one
    exact si_str a.pe
  · simp only at h
    split at h
    · simp only [Bool.and_eq_true, beq_iff_eq] at h
      obtain ⟨⟨⟨rfl, h1⟩, h2⟩, h3⟩ := h
      obtain ⟨e, rfl, a⟩ := (hr _ _ h3).one
      exact si_r1 (O.gl h1).1 (O.good.bn _ (by decide +kernel)) ((hr _ _ h3).rr (by simp [h2])) h2
    · cases h
  · simp only at h
    split at h
    · simp only [Bool.and_eq_true, beq_iff_eq] at h
      obtain ⟨⟨⟨⟨rfl, h1⟩, h2⟩, h4⟩, h3⟩ := h
      obtain ⟨e, f, rfl, a, b⟩ := (hr _ _ h3).two
      exact si_r2 (O.gl h1).1 (O.good.bn _ (by decide +kernel)) ((hr _ _ h3).rr (by simp [h2, h4])) h2 h4
    · cases h
  · simp only at h
    split at h
    · simp only [Bool.and_eq_true, beq_iff_eq] at h
      obtain ⟨⟨⟨⟨rfl, h1⟩, h2⟩, h4⟩, h3⟩ := h
      obtain ⟨e, f, rfl, a, b⟩ := (hr _ _ h3).two
      exact si_zip (O.gl h1).1 (O.good.bn _ (by decide +kernel)) ((hr _ _ h3).rr (by simp [h2, h4])) h2 h4
    · cases h
  · simp only at h
    split at h
    · simp only [Bool.and_eq_true, beq_iff_eq] at h
      obtain ⟨⟨⟨rfl, h1⟩, h2⟩, h3⟩ := h
      obtain ⟨e, rfl, a⟩ := (hr _ _ h3).one
      exact si_enum (O.gl h1).1 (O.good.bn _ (by decide +kernel)) ((hr _ _ h3).rr (by simp [h2])) h2
    · cases h
theorem ownOf_map (N : List Str) (own : List Nat) : (ownOf N own).map (·.2) = own := by
  simp [ownOf, List.map_map, Function.comp_def]
theorem se_ok : ∀ (n : Nat) {X : Cx} {sc : Scope} {fn : Str → Bool} (O : Ok X Φ lv c sc fn) (e : E) (x : Expr), mE c n sc fn e x = true → Snd X Φ e x
  | 0, X, sc, fn, O, e, x, h => by rw [mE] at h; cases h
  | n + 1, X, sc, fn, O, e, x, h => by
    have ih := @se_ok n X sc fn O
    have ihs : ∀ (es : List E) (xs : List Expr), all2 (mE c n sc fn) es xs = true → Snds X Φ es xs := fun es xs q => Snds.of ih q
    cases e <;> simp only [mE, Bool.false_eq_true] at h
    case var i =>
      split at h
      · rw [Bool.and_eq_true, decide_eq_true_eq] at h
        exact .of (se_var (O.vis h.1 h.2)) (fun _ _ => rfl) rfl
      · cases h
    case int i =>
      split at h
      · rw [decide_eq_true_eq] at h; subst h
        exact .of (se_const pe_int (fun H => denI) fun ρ Q w => by rwa [wE] at w) (fun t => by cases t) rfl
      · cases h
    case bl i =>
      split at h
      · rw [decide_eq_true_eq] at h; subst h
        exact .of (se_const pe_bl (fun H => denB) fun ρ Q w => by rwa [wE] at w) (fun t => by cases t) rfl
      · cases h
    case non =>
      split at h
      · exact .of (se_const pe_non (fun H => denN) fun ρ Q w => by rwa [wE] at w) (fun t => by cases t) rfl
      · cases h
    case str i =>
      split at h
      · rw [decide_eq_true_eq] at h; subst h
        exact .of (se_const pe_str (fun H => denS) fun ρ Q w => by rwa [wE] at w) (fun t => by cases t) rfl
      · cases h
    case glo i =>
      split at h
      · rw [Bool.and_eq_true, decide_eq_true_eq] at h
        exact .of (se_glo O.good (by rw [O.G]; exact h.1) (O.gl h.2).1 (O.gl h.2).2) (fun _ _ => rfl) rfl
      · cases h
    case bin op a b =>
      split at h
      · simp only [Bool.and_eq_true, decide_eq_true_eq] at h
        obtain ⟨⟨rfl, h1⟩, h2⟩ := h
        exact .of (se_bin (ih _ _ h1).pe (ih _ _ h2).pe) (fun t => by cases t) rfl
      · cases h
    case neg a =>
      split at h
      · exact .of (se_neg (ih _ _ h).pe) (fun t => by cases t) rfl
      · cases h
    case not a =>
      split at h
      · rw [Bool.and_eq_true] at h
        exact ⟨se_not (ih _ _ h.2).pe, fun _ => st_not ((ih _ _ h.2).pt h.1), fun t => by cases t⟩
      · cases h
    case and a b =>
      split at h
      · rename_i l r pos
        simp only [Bool.and_eq_true] at h
        obtain ⟨⟨⟨t1, t2⟩, h1⟩, h2⟩ := h
        have w := st_and (pos := pos) (rest := []) ((ih _ _ h1).pt t1) (pw_and1 ((ih _ _ h2).pt t2))
        exact ⟨se_and (ih _ _ h1).pe (pe_one (ih _ _ h2).pe), fun _ => w.pt, fun _ => w⟩
      · simp only [Bool.and_eq_true] at h
        obtain ⟨⟨t1, h1⟩, h2⟩ := h
        have w := st_and ((ih _ _ h1).pt t1) ((ih _ _ h2).pw rfl)
        exact ⟨se_and (ih _ _ h1).pe (ih _ _ h2).pe, fun _ => w.pt, fun _ => w⟩
      · cases h
    case or a b =>
      split at h
      · rename_i l r pos
        simp only [Bool.and_eq_true] at h
        obtain ⟨⟨⟨t1, t2⟩, h1⟩, h2⟩ := h
        have w := st_or (pos := pos) (rest := []) ((ih _ _ h1).pt t1) (pw_or1 ((ih _ _ h2).pt t2))
        exact ⟨se_or (ih _ _ h1).pe (pe_one (ih _ _ h2).pe), fun _ => w.pt, fun _ => w⟩
      · simp only [Bool.and_eq_true] at h
        obtain ⟨⟨t1, h1⟩, h2⟩ := h
        have w := st_or ((ih _ _ h1).pt t1) ((ih _ _ h2).pw rfl)
        exact ⟨se_or (ih _ _ h1).pe (ih _ _ h2).pe, fun _ => w.pt, fun _ => w⟩
      · cases h
    case cmp op a b =>
      split at h
      · simp only [Bool.and_eq_true, decide_eq_true_eq, Bool.not_eq_true'] at h
        obtain ⟨⟨⟨rfl, h0⟩, h1⟩, h2⟩ := h
        exact ⟨se_cmp O.hu (ih _ _ h1).pe (ih _ _ h2).pe h0, fun _ => st_cmp O.hu (ih _ _ h1).pe (ih _ _ h2).pe h0, fun t => by cases t⟩
      · cases h
    case cmp2 o1 o2 a b d =>
      split at h
      · simp only [Bool.and_eq_true, decide_eq_true_eq, Bool.not_eq_true'] at h
        obtain ⟨⟨⟨⟨⟨rfl, rfl⟩, h0⟩, h1⟩, h2⟩, h3⟩ := h
        exact ⟨se_cmp2 O.hu (ih _ _ h1).pe (ih _ _ h2).pe (ih _ _ h3).pe h0, fun _ => st_cmp2 O.hu (ih _ _ h1).pe (ih _ _ h2).pe (ih _ _ h3).pe h0, fun t => by cases t⟩
      · cases h
    case ite d a b =>
      split at h
      · simp only [Bool.and_eq_true] at h
        obtain ⟨⟨⟨t, h0⟩, h1⟩, h2⟩ := h
        exact .of (se_ite ((ih _ _ h0).pt t) (ih _ _ h1).pe (ih _ _ h2).pe) (fun t => by cases t) rfl
      · cases h
    case tup es =>
      split at h
      · simp only [Bool.and_eq_true] at h
        exact .of (se_tup ((ihs _ _ h.2).ra h.1)) (fun t => by cases t) rfl
      · cases h
    case lst es =>
      split at h
      · simp only [Bool.and_eq_true] at h
        exact .of (se_lst ((ihs _ _ h.2).ra h.1)) (fun t => by cases t) rfl
      · cases h
    case star a es =>
      split at h
      · simp only [Bool.and_eq_true] at h
        exact .of (se_star (ih _ _ h.1.2).pe ((ihs _ _ h.2).ra h.1.1)) (fun t => by cases t) rfl
      · cases h
    case idx a i =>
      split at h
      · simp only [Bool.and_eq_true] at h
        exact .of (se_idx (ih _ _ h.1.2).pe (ih _ _ h.2).pe h.1.1) (fun _ _ => rfl) rfl
      · cases h
    case dgt a i =>
      split at h
      · simp only [Bool.and_eq_true] at h
        exact .of (se_dgt O.hu (ih _ _ h.1.2).pe (ih _ _ h.2).pe h.1.1) (fun _ _ => rfl) rfl
      · cases h
    case sl1 a i =>
      split at h
      · simp only [Bool.and_eq_true] at h
        exact .of (se_sl1 (ih _ _ h.1).pe (ih _ _ h.2).pe) (fun _ _ => rfl) rfl
      · cases h
    case sl2 a i =>
      split at h
      · simp only [Bool.and_eq_true] at h
        exact .of (se_sl2 (ih _ _ h.1).pe (ih _ _ h.2).pe) (fun _ _ => rfl) rfl
      · cases h
    case sl3 a i j =>
      split at h
      · simp only [Bool.and_eq_true] at h
        exact .of (se_sl3 (ih _ _ h.1.1).pe (ih _ _ h.1.2).pe (ih _ _ h.2).pe) (fun _ _ => rfl) rfl
      · cases h
    case st1 a i =>
      split at h
      · simp only [Bool.and_eq_true] at h
        exact .of (se_st1 (ih _ _ h.1).pe (ih _ _ h.2).pe) (fun _ _ => rfl) rfl
      · cases h
    case st2 a i j =>
      split at h
      · simp only [Bool.and_eq_true] at h
        exact .of (se_st2 (ih _ _ h.1.1).pe (ih _ _ h.1.2).pe (ih _ _ h.2).pe) (fun _ _ => rfl) rfl
      · cases h
    case call f es =>
      split at h
      · simp only [Bool.and_eq_true, decide_eq_true_eq] at h
        obtain ⟨⟨⟨h1, h2⟩, h3⟩, h4⟩ := h
        exact .of (se_call O.good (by rw [O.F]; exact h1) (O.gl h2).1 (O.gl h2).2 ((ihs _ _ h4).rr h3) h3) (fun _ _ => rfl) rfl
      · cases h
    case callN f es =>
      split at h
      · simp only [Bool.and_eq_true, decide_eq_true_eq] at h
        obtain ⟨⟨⟨h1, h2⟩, h3⟩, h4⟩ := h
        exact .of (se_callN O.good (by rw [O.B]; exact h1) (O.gl h2).1 (O.gl h2).2 ((ihs _ _ h4).rr h3) h3) (fun _ _ => rfl) rfl
      · cases h
    case callB f i es =>
      split at h
      · simp only [Bool.and_eq_true, decide_eq_true_eq] at h
        obtain ⟨⟨⟨⟨⟨h1, h2⟩, h3⟩, h4⟩, h5⟩, h6⟩ := h
        exact .of (se_callB O.good (by rw [O.B]; exact h1) (O.gl h2).1 (O.gl h2).2 (O.vis h3 h4) ((ihs _ _ h6).rr h5) h5) (fun _ _ => rfl) rfl
      · cases h
    case bi b es =>
      split at h
      · simp only [Bool.and_eq_true, decide_eq_true_eq] at h
        obtain ⟨⟨⟨rfl, h2⟩, h3⟩, h4⟩ := h
        exact .of (se_bi O.good (O.gl h2).1 ((ihs _ _ h4).rr h3) h3) (fun _ _ => rfl) rfl
      · cases h
    case isi a t =>
      split at h
      · simp only [Bool.and_eq_true, decide_eq_true_eq] at h
        obtain ⟨⟨⟨⟨⟨rfl, rfl⟩, h2⟩, h3⟩, h4⟩, h5⟩ := h
        exact .of (se_isi O.good (O.gl h2).1 (O.gl h3).1 (ih _ _ h5).pe h4) (fun _ _ => rfl) rfl
      · cases h
    case get a k d =>
      split at h
      · simp only [Bool.and_eq_true, decide_eq_true_eq] at h
        obtain ⟨⟨⟨⟨⟨⟨⟨rfl, h1⟩, h2⟩, h3⟩, h0⟩, h4⟩, h5⟩, h6⟩ := h
        refine .of (se_get O.hu (ih _ _ h4).pe (ih _ _ h5).pe (ih _ _ h6).pe ⟨baseB_ok h0, ?_, h1, ?_⟩) (fun _ _ => rfl) rfl
        · rw [starEach_plain h2, starEach_plain h3]; rfl
        · rw [starEach_plain h2, starEach_plain h3]; rfl
      · cases h
    case din k a =>
      split at h
      · simp only [Bool.and_eq_true, Bool.not_eq_true'] at h
        obtain ⟨⟨h0, h1⟩, h2⟩ := h
        obtain ⟨a, b⟩ := se_din O.hu (ih _ _ h1).pe (ih _ _ h2).pe h0
        exact ⟨a, fun _ => b, fun t => by cases t⟩
      · cases h
    case pop i k =>
      split at h
      · simp only [Bool.and_eq_true, decide_eq_true_eq] at h
        obtain ⟨⟨⟨⟨⟨rfl, h1⟩, h2⟩, h3⟩, h4⟩, h5⟩ := h
        exact .of (se_pop (O.vis h2 h3) (ih _ _ h5).pe h4 h1) (fun _ _ => rfl) rfl
      · cases h
    case lrg a b =>
      split at h
      · simp only [Bool.and_eq_true, decide_eq_true_eq] at h
        obtain ⟨⟨⟨⟨⟨⟨⟨rfl, rfl⟩, h1⟩, h2⟩, h3⟩, h4⟩, h5⟩, h6⟩ := h
        exact .of (se_lrg O.good.calm (O.gl h1).1 (O.good.bn _ (by decide +kernel)) (O.gl h2).1 (O.good.bn _ (by decide +kernel)) (ih _ _ h5).pe (ih _ _ h6).pe h3 h4) (fun _ _ => rfl) rfl
      · cases h
    case lr1 a =>
      split at h
      · simp only [Bool.and_eq_true, decide_eq_true_eq] at h
        obtain ⟨⟨⟨⟨⟨rfl, rfl⟩, h1⟩, h2⟩, h3⟩, h5⟩ := h
        exact .of (se_lr1 O.good.calm (O.gl h1).1 (O.good.bn _ (by decide +kernel)) (O.gl h2).1 (O.good.bn _ (by decide +kernel)) (ih _ _ h5).pe h3) (fun _ _ => rfl) rfl
      · cases h
    case dl a =>
      split at h
      · simp only [Bool.and_eq_true, decide_eq_true_eq] at h
        obtain ⟨⟨⟨⟨⟨rfl, rfl⟩, h1⟩, h2⟩, h3⟩, h5⟩ := h
        exact .of (se_dl O.good (O.gl h1).1 (O.gl h2).1 (ih _ _ h5).pe h3) (fun _ _ => rfl) rfl
      · cases h
    case sdl a =>
      split at h
      · simp only [Bool.and_eq_true, decide_eq_true_eq] at h
        obtain ⟨⟨⟨⟨⟨⟨rfl, rfl⟩, rfl⟩, h0⟩, h1⟩, h2⟩, h5⟩ := h
        exact .of (se_sdl O.good (O.gl h1).1 (O.gl h2).1 (ih _ _ h5).pe h0) (fun _ _ => rfl) rfl
      · cases h
    case sset a =>
      split at h
      · simp only [Bool.and_eq_true, decide_eq_true_eq] at h
        obtain ⟨⟨⟨⟨⟨rfl, rfl⟩, h1⟩, h2⟩, h3⟩, h5⟩ := h
        exact .of (se_sset O.good (O.gl h1).1 (O.gl h2).1 (ih _ _ h5).pe h3) (fun _ _ => rfl) rfl
      · cases h
    case edk =>
      split at h
      · exact .of se_edk (fun t => by cases t) rfl
      · cases h
    case comp own tg k srcs elt =>
      split at h
      · rename_i el t it z scope pos
        simp only [Bool.and_eq_true, decide_eq_true_eq] at h
        obtain ⟨⟨⟨⟨⟨rfl, h1⟩, h2⟩, h3⟩, h4⟩, h5⟩ := h
        obtain ⟨hi, hns⟩ := src_ok O ihs h4
        have hn : ∀ i ∈ tgNs tg, i ∈ own := fun i hi => by
          have := List.all_eq_true.mp h2 i hi
          simpa using this
        have hbk : BlkOk X.N X.env.scope scope (ownOf c.N own) := blkOk_by (by rw [O.N, O.sc]; exact h1)
        have := pe_lc (elt := el) (pos := pos) (g := tgR X.K tg) (te := R X.K Φ elt) O.good.calm O.good.nd hi hbk (fun s H C cl fp => tg_ok (O.blk scope s H C cl fp) n tg t h3) (fun s H C cl fp => pts_nil) (fun s H C cl fp => (se_ok n (O.blk scope s H C cl fp) elt el h5).pe) (notSet_ok hns X.env)
        rw [ownOf_map] at this
        exact .of (this.wk fun σ H Q' q => lc_comp hn q) (fun t => by cases t) rfl
      · cases h
    case compIf own tg k srcs d elt =>
      split at h
      · rename_i el t it q z scope pos
        simp only [Bool.and_eq_true, decide_eq_true_eq] at h
        obtain ⟨⟨⟨⟨⟨⟨⟨rfl, h1⟩, h2⟩, h3⟩, h4⟩, h6⟩, h7⟩, h5⟩ := h
        obtain ⟨hi, hns⟩ := src_ok O ihs h4
        have hn : ∀ i ∈ tgNs tg, i ∈ own := fun i hi => by
          have := List.all_eq_true.mp h2 i hi
          simpa using this
        have hbk : BlkOk X.N X.env.scope scope (ownOf c.N own) := blkOk_by (by rw [O.N, O.sc]; exact h1)
        have := pe_lc (elt := el) (pos := pos) (g := tgR X.K tg) (tt := RT X.K Φ d) (te := R X.K Φ elt) O.good.calm O.good.nd hi hbk (fun s H C cl fp => tg_ok (O.blk scope s H C cl fp) n tg t h3) (fun s H C cl fp => pts_one ((se_ok n (O.blk scope s H C cl fp) d q h7).pt h6)) (fun s H C cl fp => (se_ok n (O.blk scope s H C cl fp) elt el h5).pe) (notSet_ok hns X.env)
        rw [ownOf_map] at this
        exact .of (this.wk fun σ H Q' q => lc_compIf hn q) (fun t => by cases t) rfl
      · cases h
end
end PL
set_option Elab.async false
set_option linter.all false
set_option maxRecDepth 100000
set_option maxHeartbeats 4000000
namespace PL
open PySem PySem.Spec L2
def bkB (sc : Scope) : ScopeKind := if sc.kind.isAnnotationScope = true then .function else sc.kind
def swB (sc : Scope) (t : Str) (tl vl : Nat) (scope : Scope) : Bool :=
  bkB sc == .function && sc.names.lookup t == some .local && tl == vl && !scope.names.any fun x => match x with | (n, k) => n == t && (k == .local || k == .cell)
theorem swB_ok {el : Expr} {gens : List Comprehension} {scope : Scope} {pos tp : Pos} {t : Str} {line : Nat} {env : PySem.Env} : swapsWith (.ListComp el gens scope pos) (some (.Name t tp)) line env = pure (swB env.scope t tp.line pos.line scope) := rfl
def isComp : Expr → Bool | .ListComp .. => true | .SetComp .. => true | .DictComp .. => true | _ => false
theorem noComp {e : Expr} (h : isComp e = false) (t : Option Expr) (line : Nat) (env : PySem.Env) : swapsWith e t line env = pure false := by
  cases e <;> first | rfl | (simp [isComp] at h)
theorem sole_tup {e : Expr} {es : List Expr} {k : Nat} {p : Pos} {line : Nat} {env : PySem.Env} : swapsWithSole [.Tuple es k p] e line env = pure false := by
  cases e <;> rfl
theorem sole_sub {e a b : Expr} {p : Pos} {line : Nat} {env : PySem.Env} : swapsWithSole [.Subscript a b p] e line env = pure false := by
  cases e <;> rfl
theorem sw_sub {e a b : Expr} {p : Pos} {env : PySem.Env} : swappedStores [.Subscript a b p] e env = pure none := by
  cases e <;> rfl
def isTup : Expr → Bool | .Tuple .. => true | _ => false
theorem sw_tup0 {e : Expr} {es : List Expr} {k : Nat} {p : Pos} {env : PySem.Env} (h : isTup e = false) : swappedStores [.Tuple es k p] e env = pure none := by
  cases e <;> first | rfl | (simp [isTup] at h)
/-- the names whose stores change places -/
def swS (sc : Scope) (ts vs : List Expr) : Option (Option (List Str)) :=
  if (!(ts.length == 2 || ts.length == 3) || vs.length != ts.length || bkB sc != .function) = true then some none
  else if (vs.any fun x => match x with | .Starred _ _ => true | _ => false) = true then some none
  else
    let line := (Option.map (fun x : Expr => x.pos.line) ts.head?).getD 0
    let names := List.filterMap (fun x => match x with | .Name id pos => if (sc.names.lookup id == some .local && pos.line == line) = true then some id else none | _ => none) ts
    if (names.length != ts.length || names.eraseDups.length != names.length) = true then some none
    else if vs.all (foldedForSure 8) = true then some none
    else if vs.all (constantsAlone 8) = true then none
    else some (some names)
theorem swS_ok {ts vs : List Expr} {k k2 : Nat} {p p2 : Pos} {env : PySem.Env} {r : Option (List Str)} (h : swS env.scope ts vs = some r) : swappedStores [.Tuple ts k p] (.Tuple vs k2 p2) env = pure r := by
  unfold swS at h
  unfold swappedStores
  simp only at h ⊢
  split at h
  · rename_i c
    cases h
    exact if_pos c
  rename_i c
  refine (if_neg c).trans ?_
  split at h
  · rename_i c
    cases h
    exact if_pos c
  rename_i c
  refine (if_neg c).trans ?_
  split at h
  · rename_i c
    cases h
    exact if_pos c
  rename_i c
  refine (if_neg c).trans ?_
  split at h
  · rename_i c
    cases h
    exact if_pos c
  rename_i c
  refine (if_neg c).trans ?_
  split at h
  · cases h
  rename_i c
  cases h
  exact (if_neg c)
end PL
set_option Elab.async false
set_option linter.all false
set_option maxRecDepth 100000
set_option maxHeartbeats 4000000
namespace PL
open PySem PySem.Spec L2
def locB (sc : Scope) (fn : Str → Bool) (x : Str) : Bool := sc.names.lookup x == some .local || (sc.names.lookup x == some .cell && fn x)
/-- depth of expressions that the check walks -/
def fu : Nat := 40
def mParA (c : MC) (sc : Scope) (fn : Str → Bool) (is : List Nat) (es : List E) (st : Stmt) : Bool := (match is, st with
    | [i, j], .Assign [.Tuple [.Name x _, .Name y _] k p] (.Tuple [a, b] _ _) _ => (match st with | .Assign [.Tuple ts _ _] (.Tuple vs _ _) _ => decide (swS sc ts vs = some (some [x, y])) | _ => false) && decide (c.N[i]? = some x) && decide (c.N[j]? = some y) && decide (i ≠ j) && decide (sc.names.lookup x = some .local) && decide (sc.names.lookup y = some .local) && notStar a && notStar b && all2 (mE c fu sc fn) es [a, b]
    | [i, j, l], .Assign [.Tuple [.Name x _, .Name y _, .Name z _] k p] (.Tuple [a, b, d] _ _) _ => (match st with | .Assign [.Tuple ts _ _] (.Tuple vs _ _) _ => decide (swS sc ts vs = some (some [x, y, z])) | _ => false) && decide (c.N[i]? = some x) && decide (c.N[j]? = some y) && decide (c.N[l]? = some z) && decide (i ≠ j) && decide (i ≠ l) && decide (j ≠ l) && decide (sc.names.lookup x = some .local) && decide (sc.names.lookup y = some .local) && decide (sc.names.lookup z = some .local) && notStar a && notStar b && notStar d && all2 (mE c fu sc fn) es [a, b, d]
    | _, _ => false)
def mParB (c : MC) (sc : Scope) (fn : Str → Bool) (is : List Nat) (es : List E) (st : Stmt) : Bool := (match st with
  | .Assign [.Tuple ts _ _] (.Tuple vs _ _) _ => decide (swS sc ts vs = some none) && decide (is.length = es.length) && all2 (fun i x => mTg c sc fn 1 (.nm i) x) is ts && vs.all notStar && all2 (mE c fu sc fn) es vs
  | _ => false)
def mS (c : MC) : Nat → Scope → (Str → Bool) → S → Stmt → Bool
  | 0, _, _, _, _ => false
  | n + 1, sc, fn, .set i e, st => (match st with
    | .Assign [.Name x p'] (.ListComp el gens scope pos) spos => decide (c.N[i]? = some x) && locB sc fn x && mE c fu sc fn e (.ListComp el gens scope pos) && (!swB sc x p'.line pos.line scope || (match e with | .comp .. => true | .compIf .. => true | _ => false))
    | .Assign [.Name x _] v _ => !isComp v && decide (c.N[i]? = some x) && locB sc fn x && mE c fu sc fn e v
    | _ => false)
  | n + 1, sc, fn, .setT t e, st => (match st with
    | .Assign [.Tuple ts k p] v _ => mTg c sc fn fu t (.Tuple ts k p) && mE c fu sc fn e v && (match v with | .Tuple vs _ _ => decide (swS sc ts vs = some none) | _ => true)
    | _ => false)
  | n + 1, sc, fn, .par is es, st => mParA c sc fn is es st || mParB c sc fn is es st
  | n + 1, sc, fn, .put i k e, st => (match st with
    | .Assign [.Subscript (.Name x _) kx _] v _ => decide (c.N[i]? = some x) && visB sc x && plainIx kx && mE c fu sc fn k kx && mE c fu sc fn e v
    | _ => false)
  | n + 1, sc, fn, .put2 i k j a b, st => (match st with
    | .Assign [.Tuple [.Subscript (.Name x p1) (.Name y p2) p3, .Name z p4] _ _] (.Tuple [l, m] _ _) _ => decide (swS sc [.Subscript (.Name x p1) (.Name y p2) p3, .Name z p4] [l, m] = some none) && decide (c.N[i]? = some x) && visB sc x && decide (c.N[k]? = some y) && visB sc y && decide (c.N[j]? = some z) && locB sc fn z && notStar l && notStar m && mE c fu sc fn a l && mE c fu sc fn b m
    | _ => false)
  | n + 1, sc, fn, .exp e, st => (match st with | .Expr v _ => !isComp v && mE c fu sc fn e v | _ => false)
  | n + 1, sc, fn, .app i e, st => (match st with
    | .Expr (.Call (.Attribute (.Name o _) s ap) [l] [] cp) _ => decide (s = ("append" : Str)) && (ap.endLine == cp.line) && decide (c.N[i]? = some o) && visB sc o && notStar l && mE c fu sc fn e l
    | _ => false)
  | n + 1, sc, fn, .retN e, st => (match st with | .Return (some v) _ => mE c fu sc fn e v | _ => false)
  | n + 1, sc, fn, .ret e, st => (match st with | .Return (some v) _ => mE c fu sc fn e v | _ => false)
  | n + 1, sc, fn, .ife d a b, st => (match st with | .If q sa sb _ => tst q && mE c fu sc fn d q && all2 (mS c n sc fn) a sa && all2 (mS c n sc fn) b sb | _ => false)
  | n + 1, sc, fn, .for tg k srcs body, st => (match st with | .For t it sb [] _ => mTg c sc fn fu tg t && mSrc (all2 (mE c fu sc fn)) sc k srcs t it && all2 (mS c n sc fn) body sb | _ => false)
  | n + 1, sc, fn, .whl d body, st => (match st with | .While q sb [] _ => tst q && mE c fu sc fn d q && all2 (mS c n sc fn) body sb | _ => false)
  | n + 1, sc, fn, .brk, st => (match st with | .Break _ => true | _ => false)
  | n + 1, sc, fn, .pass, st => (match st with | .Pass _ => true | _ => false)
  | n + 1, sc, fn, .rse, st => true
  | _ + 1, _, _, _, _ => false
section
variable {X : Cx} {Φ : Ctx} {lv : Nat} {c : MC} {sc : Scope} {fn : Str → Bool}
theorem all2_iff {α β : Type} {f : α → β → Bool} {P : α → β → Prop} (h : ∀ a b, f a b = true → P a b) {Q : List α → List β → Prop} (q0 : Q [] []) (q1 : ∀ a b as bs, P a b → Q as bs → Q (a :: as) (b :: bs)) : ∀ {as : List α} {bs : List β}, all2 f as bs = true → Q as bs
  | [], [], _ => q0
  | [], _ :: _, q => by cases q
  | _ :: _, [], q => by cases q
  | a :: as, b :: bs, q => by
    rw [all2, Bool.and_eq_true] at q
    exact q1 a b as bs (h a b q.1) (all2_iff h q0 q1 q.2)
theorem loc_ok (O : Ok X Φ lv c sc fn) {x : Str} (h : locB sc fn x = true) : L2.Loc X.env.scope x ∧ (X.fn x = true ∨ X.env.scope.names.lookup x = some .local) := by
  unfold locB at h
  unfold L2.Loc
  rw [O.sc]
  simp only [Bool.or_eq_true, Bool.and_eq_true, beq_iff_eq] at h
  rcases h with h | h
  · exact ⟨.inl h, .inr h⟩
  · exact ⟨.inr h.1, .inl (O.fn _ h.2)⟩
theorem comp_set (O : Ok X Φ lv c sc fn) {i : Nat} {x : Str} {el : Expr} {gens : List Comprehension} {scope : Scope} {pos p' spos : Pos} {e : E} (hi : c.N[i]? = some x) (hl : X.env.scope.names.lookup x = some .local)
    (hsw : swapsWith (.ListComp el gens scope pos) (some (.Name x p')) spos.line X.env = pure true)
    (hc : (match e with | .comp .. => true | .compIf .. => true | _ => false) = true) (h : mE c fu sc fn e (.ListComp el gens scope pos) = true) : PS X (.Assign [.Name x p'] (.ListComp el gens scope pos) spos) (RS1 X.K Φ (.set i e)) := by
  have ihs : ∀ (es : List E) (xs : List Expr), all2 (mE c 39 sc fn) es xs = true → Snds X Φ es xs := fun es xs q => Snds.of (se_ok 39 O) q
  have hN : X.N[i]? = some x := by rw [O.N]; exact hi
  cases e <;> simp only [Bool.false_eq_true] at hc
  case comp own tg k srcs elt =>
    have h : mE c (39 + 1) sc fn _ (.ListComp el gens scope pos) = true := h
    simp only [mE] at h
    split at h
    · rename_i el' t it z scope' pos' heq
      cases heq
      simp only [Bool.and_eq_true, decide_eq_true_eq] at h
      obtain ⟨⟨⟨⟨⟨rfl, h1⟩, h2⟩, h3⟩, h4⟩, h5⟩ := h
      obtain ⟨hit, hns⟩ := src_ok O ihs h4
      have hn : ∀ i ∈ tgNs tg, i ∈ own := fun i hi => by
        have := List.all_eq_true.mp h2 i hi
        simpa using this
      have hbk : BlkOk X.N X.env.scope scope (ownOf c.N own) := blkOk_by (by rw [O.N, O.sc]; exact h1)
      have := ps_setLc (elt := el) (pos := pos) (g := tgR X.K tg) (te := R X.K Φ elt) O.good.calm O.good.nd hN hl hsw hit hbk (fun s H C cl fp => tg_ok (O.blk scope s H C cl fp) 39 tg t h3) (fun s H C cl fp => pts_nil) (fun s H C cl fp => (se_ok 39 (O.blk scope s H C cl fp) elt el h5).pe) (notSet_ok hns X.env)
      rw [ownOf_map] at this
      exact this.wk fun D σ H q => lc_comp hn (asg_core q)
    · cases h
  case compIf own tg k srcs d elt =>
    have h : mE c (39 + 1) sc fn _ (.ListComp el gens scope pos) = true := h
    simp only [mE] at h
    split at h
    · rename_i el' t it q z scope' pos' heq
      cases heq
      simp only [Bool.and_eq_true, decide_eq_true_eq] at h
      obtain ⟨⟨⟨⟨⟨⟨⟨rfl, h1⟩, h2⟩, h3⟩, h4⟩, h6⟩, h7⟩, h5⟩ := h
      obtain ⟨hit, hns⟩ := src_ok O ihs h4
      have hn : ∀ i ∈ tgNs tg, i ∈ own := fun i hi => by
        have := List.all_eq_true.mp h2 i hi
        simpa using this
      have hbk : BlkOk X.N X.env.scope scope (ownOf c.N own) := blkOk_by (by rw [O.N, O.sc]; exact h1)
      have := ps_setLc (elt := el) (pos := pos) (g := tgR X.K tg) (tt := RT X.K Φ d) (te := R X.K Φ elt) O.good.calm O.good.nd hN hl hsw hit hbk (fun s H C cl fp => tg_ok (O.blk scope s H C cl fp) 39 tg t h3) (fun s H C cl fp => pts_one ((se_ok 39 (O.blk scope s H C cl fp) d q h7).pt h6)) (fun s H C cl fp => (se_ok 39 (O.blk scope s H C cl fp) elt el h5).pe) (notSet_ok hns X.env)
      rw [ownOf_map] at this
      exact this.wk fun D σ H q => lc_compIf hn (asg_core q)
    · cases h
theorem ss_ok (hp : PassesOwn (model X.prog X.w) X.A X.env X.xe) (O : Ok X Φ lv c sc fn) : ∀ (n : Nat) (s : S) (st : Stmt), mS c n sc fn s st = true → PS X st (RS1 X.K Φ s)
  | 0, s, st, h => by rw [mS] at h; cases h
  | n + 1, s, st, h => by
    have ih := ss_ok hp O n
    have ihs : ∀ (ss : List S) (sts : List Stmt), all2 (mS c n sc fn) ss sts = true → PSs X sts (RS X.K Φ ss) := fun ss sts q =>
      all2_iff (P := fun s st => PS X st (RS1 X.K Φ s)) (Q := fun ss sts => PSs X sts (RS X.K Φ ss)) (fun s st q => ih s st q) ss_nil (fun _ _ _ _ a b => ss_cons a b) q
    have ies : ∀ (es : List E) (xs : List Expr), all2 (mE c fu sc fn) es xs = true → Snds X Φ es xs := fun es xs q => Snds.of (se_ok fu O) q
    have ie := se_ok (Φ := Φ) fu O
    cases s <;> simp only [mS, Bool.false_eq_true] at h
    case set i e =>
      split at h
      · rename_i x p' el gens scope pos spos
        simp only [Bool.and_eq_true, decide_eq_true_eq] at h
        obtain ⟨⟨⟨h1, h2⟩, h3⟩, h4⟩ := h
        obtain ⟨l1, l2⟩ := loc_ok O h2
        have hs := @swB_ok el gens scope pos p' x spos.line X.env
        rw [O.sc] at hs
        by_cases hb : swB sc x p'.line pos.line scope = true
        · rw [hb] at hs h4
          refine comp_set O h1 ?_ hs (by simpa using h4) h3
          rw [O.sc]
          unfold swB at hb
          simp only [Bool.and_eq_true, beq_iff_eq] at hb
          exact hb.1.1.2
        · have hb : swB sc x p'.line pos.line scope = false := by simpa using hb
          rw [hb] at hs
          exact ss_set O.good.nd (by rw [O.N]; exact h1) l1 (ie _ _ h3).pe hs l2
      · simp only [Bool.and_eq_true, decide_eq_true_eq, Bool.not_eq_true'] at h
        obtain ⟨⟨⟨h0, h1⟩, h2⟩, h3⟩ := h
        obtain ⟨l1, l2⟩ := loc_ok O h2
        exact ss_set O.good.nd (by rw [O.N]; exact h1) l1 (ie _ _ h3).pe (noComp h0 _ _ _) l2
      · cases h
    case setT t e =>
      split at h
      · rename_i ts k p v pos
        simp only [Bool.and_eq_true] at h
        obtain ⟨⟨h1, h2⟩, h3⟩ := h
        refine ss_setT (ie _ _ h2).pe (tg_ok O fu _ _ h1) sole_tup ?_ rfl
        split at h3
        · rw [decide_eq_true_eq] at h3
          exact swS_ok (by rw [O.sc]; exact h3)
        · rename_i hn
          refine sw_tup0 ?_
          cases v <;> first | rfl | exact (hn _ _ _ rfl).elim
      · cases h
    case par is es =>
      rw [Bool.or_eq_true] at h
      rcases h with h | h
      · unfold mParA at h
        split at h
        · simp only [Bool.and_eq_true, decide_eq_true_eq] at h
          obtain ⟨⟨⟨⟨⟨⟨⟨⟨h0, h1⟩, h2⟩, h3⟩, h4⟩, h5⟩, h6⟩, h7⟩, h8⟩ := h
          have s := ies _ _ h8
          obtain ⟨e, f, rfl, _, _⟩ := s.two
          exact ss_par2 O.good.calm O.good.nd (by rw [O.N]; exact h1) (by rw [O.N]; exact h2) h3 (by rw [O.sc]; exact h4) (by rw [O.sc]; exact h5) (s.rn (by simp [h6, h7])) (swS_ok (by rw [O.sc]; exact h0))
        · simp only [Bool.and_eq_true, decide_eq_true_eq] at h
          obtain ⟨⟨⟨⟨⟨⟨⟨⟨⟨⟨⟨⟨⟨h0, h1⟩, h2⟩, h2'⟩, h3⟩, h3'⟩, h3''⟩, h4⟩, h5⟩, h5'⟩, h6⟩, h7⟩, h7'⟩, h8⟩ := h
          have s := ies _ _ h8
          have : ∃ e f g, es = [e, f, g] := by
            cases s with | cons _ t => cases t with | cons _ t => cases t with | cons _ t => cases t; exact ⟨_, _, _, rfl⟩
          obtain ⟨e, f, g, rfl⟩ := this
          exact ss_par3 O.good.calm O.good.nd (by rw [O.N]; exact h1) (by rw [O.N]; exact h2) (by rw [O.N]; exact h2') h3 h3' h3'' (by rw [O.sc]; exact h4) (by rw [O.sc]; exact h5) (by rw [O.sc]; exact h5') (s.rn (by simp [h6, h7, h7'])) (swS_ok (by rw [O.sc]; exact h0))
        · cases h
      · unfold mParB at h
        split at h
        · simp only [Bool.and_eq_true, decide_eq_true_eq] at h
          obtain ⟨⟨⟨⟨h0, h1⟩, h2⟩, h3⟩, h4⟩ := h
          have key := all2_iff (f := fun i x => mTg c sc fn 1 (.nm i) x) (P := fun i x => PG X x (gName i) ∧ notStar x = true) (Q := fun is xs => PGs X xs (gNames is) ∧ xs.all notStar = true ∧ xs.length = is.length) (fun i x q => by
            cases x <;> simp only [mTg, Bool.false_eq_true] at q
            rw [Bool.and_eq_true, decide_eq_true_eq] at q
            obtain ⟨l1, l2⟩ := loc_ok O (x := _) (by unfold locB; exact q.2)
            exact ⟨pg_name O.good.nd (by rw [O.N]; exact q.1) l1 l2, rfl⟩) ⟨pgs_nil, rfl, rfl⟩ (fun i x is xs q1 q2 => ⟨pgs_cons q1.1 q2.1 (by
              obtain ⟨_, n⟩ := q1
              cases x <;> first | rfl | (simp [notStar] at n)), by rw [List.all_cons, q1.2, q2.2.1]; rfl, by rw [List.length_cons, List.length_cons, q2.2.2]⟩) h2
          exact ss_parN O.good.calm key.1 key.2.1 key.2.2 h1 ((ies _ _ h4).rn h3) (swS_ok (by rw [O.sc]; exact h0))
        · cases h
    case put i k e =>
      split at h
      · simp only [Bool.and_eq_true, decide_eq_true_eq] at h
        obtain ⟨⟨⟨⟨h1, h2⟩, h3⟩, h4⟩, h5⟩ := h
        exact ss_put O.hu (O.vis h1 h2) (ie _ _ h4).pe (ie _ _ h5).pe sole_sub sw_sub h3
      · cases h
    case put2 i k j a b =>
      split at h
      · rename_i x p1 y p2 p3 z p4 kt pt l m k2 pt2 pos
        simp only [Bool.and_eq_true, decide_eq_true_eq] at h
        obtain ⟨⟨⟨⟨⟨⟨⟨⟨⟨⟨h0, h1⟩, h2⟩, h3⟩, h4⟩, h5⟩, h6⟩, h7⟩, h8⟩, h9⟩, h10⟩ := h
        obtain ⟨l1, l2⟩ := loc_ok O h6
        have s : Snds X Φ [a, b] [l, m] := ies [a, b] [l, m] (by simp [all2, h9, h10])
        have ns : [l, m].all notStar = true := by simp [h7, h8]
        exact ss_put2 O.good.calm O.hu O.good.nd (O.vis h1 h2) (O.vis h3 h4) (by rw [O.N]; exact h5) l1 l2 (s.ra ns) (swS_ok (by rw [O.sc]; exact h0))
      · cases h
    case exp e =>
      split at h
      · simp only [Bool.and_eq_true, Bool.not_eq_true'] at h
        exact ss_exp (ie _ _ h.2).pe (noComp h.1 _ _ _)
      · cases h
    case app i e =>
      split at h
      · simp only [Bool.and_eq_true, decide_eq_true_eq] at h
        obtain ⟨⟨⟨⟨⟨rfl, h1⟩, h2⟩, h3⟩, h4⟩, h5⟩ := h
        exact ss_app (O.vis h2 h3) (ie _ _ h5).pe h4 h1
      · cases h
    case retN e =>
      split at h
      · exact ss_retN (ie _ _ h).pe
      · cases h
    case ret e =>
      split at h
      · exact ss_ret (ie _ _ h).pe
      · cases h
    case ife d a b =>
      split at h
      · simp only [Bool.and_eq_true] at h
        obtain ⟨⟨⟨h1, h2⟩, h3⟩, h4⟩ := h
        exact ss_ife ((ie _ _ h2).pt h1) (ihs _ _ h3) (ihs _ _ h4)
      · cases h
    case «for» tg k srcs body =>
      split at h
      · simp only [Bool.and_eq_true] at h
        obtain ⟨⟨h1, h2⟩, h3⟩ := h
        obtain ⟨hit, hns⟩ := src_ok O ies h2
        exact ss_for hp O.good.calm hit (tg_ok O fu _ _ h1) (ihs _ _ h3) hns
      · cases h
    case whl d body =>
      split at h
      · simp only [Bool.and_eq_true] at h
        obtain ⟨⟨h1, h2⟩, h3⟩ := h
        exact ss_whl hp ((ie _ _ h2).pt h1) (ihs _ _ h3)
      · cases h
    case brk =>
      split at h
      · exact ss_brk
      · cases h
    case pass =>
      split at h
      · exact ss_pass
      · cases h
    case rse => exact ss_rse
end
end PL
set_option Elab.async false
set_option linter.all false
set_option maxRecDepth 100000
set_option maxHeartbeats 4000000
namespace PL
open PySem PySem.Spec L2
/-- the names of a def at its start -/
@[simp] def ent (N : List Str) (ds : List D) : Env := ds.map VE.sh ++ List.replicate (N.length - ds.length) .un
@[simp] def entB (N : List Str) (c : D) (ds : List D) : Env := .bor c :: (ds.map VE.sh ++ List.replicate (N.length - (ds.length + 1)) .un)
structure GoodK (P : Program) (w : World) (K : PySem.W.Frag) (mg : Str → Option Value) (base : Heap) (Φ : Ctx) (lv : Nat) : Prop where
  F : ∀ (i : Nat) (x : Str × FSp), Φ.F[i]? = some x → Has P w K mg base lv x.1 (spF K x.2)
  B : ∀ (i : Nat) (x : Str × BSp), Φ.B[i]? = some x → Has P w K mg base lv x.1 (spB K x.2)
  G : ∀ (i : Nat) (x : Str × D), Φ.G[i]? = some x → ∃ u v, mg x.1 = some u ∧ RelV v u ∧ ∀ H, Den K H x.2 v
  bn : ∀ x, x ∈ bnames → mg x = none
section
variable {P : Program} {w : World} {K : PySem.W.Frag} {mg : Str → Option Value} {base : Heap}
theorem ent_get {N : List Str} {ds : List D} {vs : List V} {i : Nat} {x : VE} (h : (ds.map VE.sh ++ List.replicate (N.length - ds.length) VE.un)[i]? = some x) : x = .un ∨ ∃ d, x = .sh d ∧ ds[i]? = some d := by
  by_cases hi : i < ds.length
  · rw [List.getElem?_append_left (by simpa using hi), List.getElem?_map, List.getElem?_eq_getElem hi] at h
    simp at h
    exact .inr ⟨_, h.symm, by rw [List.getElem?_eq_getElem hi]⟩
  · rw [List.getElem?_append_right (by simpa using hi), List.getElem?_replicate] at h
    split at h
    · exact .inl (by simpa using h.symm)
    · cases h
theorem start_get {N : List Str} {vs : List V} {i : Nat} {v : V} (h : vs[i]? = some v) : (start N vs)[i]? = some (some v) := by
  unfold L2.start
  have hi : i < vs.length := (List.getElem?_eq_some_iff.mp h).1
  rw [List.getElem?_append_left (by simpa using hi), List.getElem?_map, h]; rfl
theorem fn_F {sp : FSp} {N ps : List Str} {x : Str} {pa : Arguments} {bd : List Stmt} {sc : Scope} {fa : Addr} {fd : FuncData} {Φ : Ctx} {k : Nat} {c : MC} {body : List S} (Fu : FunD K x x pa bd sc [] [] fa fd) (gm : mg x = some (.ref fa)) (S : FnScope N ps sc)
    (hb : Binds K fd ps []) (hN : c.N = N) (hF : Φ.F.map (·.1) = c.F) (hB : Φ.B.map (·.1) = c.B) (hG : Φ.G.map (·.1) = c.G) (hm : all2 (mS c 60 sc (fun _ => true)) body bd = true) (good : GoodK P w K mg base Φ k)
    (spec : ∀ ds Q, sp.run ds Q → ds.length = ps.length ∧ wSs Φ body (ent N ds) { nx := fun _ => Q .non, rt := fun d _ => Q d }) : FnOk P w K mg base CX0 (k + 1) fa fd ps (spF K sp) := by
  refine Fu.ok (N := N) S (fun vs H Q E h => ?_) (fun cdv A outer s H vs Q' E hr h => ⟨RS K Φ body, ?_, ?_⟩)
  · obtain ⟨Hs, ds, Q, _, den, run, _⟩ := h
    rw [den.length]; exact (spec ds Q run).1
  · have X : Cx := cxOf CX0 P w K mg base N x sc fa cdv A outer s H E
    refine PSs.nox ?_
    have hp : PassesOwn (model P w) (cxOf CX0 P w K mg base N x sc fa cdv A outer s H E).nox.A (cxOf CX0 P w K mg base N x sc fa cdv A outer s H E).nox.env (cxOf CX0 P w K mg base N x sc fa cdv A outer s H E).nox.xe := fun e s' h => h.elim
    have O : Ok (cxOf CX0 P w K mg base N x sc fa cdv A outer s H E).nox Φ k c sc (fun _ => true) := ⟨⟨rfl, S.nd, hr, good.F, good.B, good.G, good.bn⟩, hN.symm, rfl, fun _ _ => rfl, hF, hB, hG⟩
    exact all2_iff (P := fun s st => PS _ st (RS1 _ Φ s)) (Q := fun ss sts => PSs _ sts (RS _ Φ ss)) (fun s st q => ss_ok hp O 60 s st q) ss_nil (fun _ _ _ _ a b => ss_cons a b) hm
  · obtain ⟨Hs, ds, Q, sub, den, run, post⟩ := h
    obtain ⟨hl, w⟩ := spec ds Q run
    have hlen : ps.length ≤ N.length := by
      have := congrArg List.length S.pre
      rw [List.length_take] at this; omega
    have dl := den.length
    have r : Rel K ⟨H, Hs, none⟩ (start N vs) H Hs (ent N ds) := by
      refine ⟨sub, by simp [ent, L2.start]; omega, fun i d e => ?_, fun i c' e => ?_, fun i c' e => ?_, fun i j a q1 _ _ _ => ?_, fun a o h1 _ => h1, fun a h => h, fun a h => (by cases h), .rfl', fun a h => .inl h⟩
      · rcases ent_get (vs := vs) e with h | ⟨d', h, e'⟩
        · cases h
        · cases h
          obtain ⟨v, h1, h2⟩ := den.get e'
          exact ⟨v, start_get h1, h2⟩
      · rcases ent_get (vs := vs) e with h | ⟨d', h, e'⟩ <;> cases h
      · rcases ent_get (vs := vs) e with h | ⟨d', h, e'⟩ <;> cases h
      · exfalso
        rcases obAt_cases q1 with ⟨c', e⟩ | ⟨c', e⟩ <;> (rcases ent_get (vs := vs) e with h | ⟨d', h, e'⟩ <;> cases h)
    refine ⟨⟨H, Hs, none⟩, Hs, _, _, r, w, ⟨fun σ' H' Hs' ρ' r' l q => ?_, fun σ' H' Hs' ρ' r' l q => ?_, fun v σ' H' Hs' ρ' d r' l dn q => ?_, fun _ _ _ _ _ _ _ _ _ q => q.elim⟩⟩
    · exact post .non H' Hs' .non (fun a o h => r'.fra a o h (by simp)) l r'.sub (fun a h => r'.nw a h) denN q
    · exact q.elim
    · exact post v H' Hs' d (fun a o h => r'.fra a o h (by simp)) l r'.sub (fun a h => r'.nw a h) dn q
theorem def_F {sp : FSp} {N ps : List Str} {x : Str} {pa : Arguments} {bd : List Stmt} {sc : Scope} {fa : Addr} {fd : FuncData} {Φ : Ctx} {k : Nat} {c : MC} {body : List S} (Fu : FunD K x x pa bd sc [] [] fa fd) (gm : mg x = some (.ref fa)) (S : FnScope N ps sc)
    (hb : Binds K fd ps []) (hN : c.N = N) (hF : Φ.F.map (·.1) = c.F) (hB : Φ.B.map (·.1) = c.B) (hG : Φ.G.map (·.1) = c.G) (hm : all2 (mS c 60 sc (fun _ => true)) body bd = true) (good : GoodK P w K mg base Φ k)
    (spec : ∀ ds Q, sp.run ds Q → ds.length = ps.length ∧ wSs Φ body (ent N ds) { nx := fun _ => Q .non, rt := fun d _ => Q d }) : Has P w K mg base (k + 1) x (spF K sp) :=
  ⟨fa, fd, ps, k + 1, Nat.le_refl _, gm, Fu.kp, hb, fn_F Fu gm S hb hN hF hB hG hm good spec⟩
theorem def_N {sp : BSp} {N ps : List Str} {x : Str} {pa : Arguments} {bd : List Stmt} {sc : Scope} {fa : Addr} {fd : FuncData} {Φ : Ctx} {k : Nat} {c : MC} {body : List S} (Fu : FunD K x x pa bd sc [] [] fa fd) (gm : mg x = some (.ref fa)) (S : FnScope N ps sc)
    (hb : Binds K fd ps []) (hN : c.N = N) (hF : Φ.F.map (·.1) = c.F) (hB : Φ.B.map (·.1) = c.B) (hG : Φ.G.map (·.1) = c.G) (hm : all2 (mS c 60 sc (fun _ => true)) body bd = true) (good : GoodK P w K mg base Φ k)
    (only : ∀ c ds Q, sp.run c ds Q → c = .non) (spec : ∀ ds Q, sp.run .non ds Q → ds.length = ps.length ∧ wSs Φ body (ent N ds) { nx := fun _ => False, rt := fun _ _ => False, rn := fun c _ => Q .non c }) : Has P w K mg base (k + 1) x (spB K sp) := by
  refine ⟨fa, fd, ps, k + 1, Nat.le_refl _, gm, Fu.kp, hb, ?_⟩
  refine Fu.ok (N := N) S (fun vs H Q E h => ?_) (fun cdv A outer s H vs Q' E hr h => ⟨RS K Φ body, ?_, ?_⟩)
  · rcases h with ⟨a, rest, Hs, b, ds, Q, _, _, _, hc, _, run, _⟩ | ⟨Hs, ds, Q, _, den, run, _⟩
    · have := only _ _ _ run
      subst this
      exact hc.elim
    · rw [den.length]; exact (spec ds Q run).1
  · have X : Cx := cxOf CX0 P w K mg base N x sc fa cdv A outer s H E
    refine PSs.nox ?_
    have hp : PassesOwn (model P w) (cxOf CX0 P w K mg base N x sc fa cdv A outer s H E).nox.A (cxOf CX0 P w K mg base N x sc fa cdv A outer s H E).nox.env (cxOf CX0 P w K mg base N x sc fa cdv A outer s H E).nox.xe := fun e s' h => h.elim
    have O : Ok (cxOf CX0 P w K mg base N x sc fa cdv A outer s H E).nox Φ k c sc (fun _ => true) := ⟨⟨rfl, S.nd, hr, good.F, good.B, good.G, good.bn⟩, hN.symm, rfl, fun _ _ => rfl, hF, hB, hG⟩
    exact all2_iff (P := fun s st => PS _ st (RS1 _ Φ s)) (Q := fun ss sts => PSs _ sts (RS _ Φ ss)) (fun s st q => ss_ok hp O 60 s st q) ss_nil (fun _ _ _ _ a b => ss_cons a b) hm
  · rcases h with ⟨a, rest, Hs, b, ds, Q, _, _, _, hc, _, run, _⟩ | ⟨Hs, ds, Q, sub, den, run, post⟩
    case inl =>
      have := only _ _ _ run
      subst this
      exact hc.elim
    obtain ⟨hl, w⟩ := spec ds Q run
    have hlen : ps.length ≤ N.length := by
      have := congrArg List.length S.pre
      rw [List.length_take] at this; omega
    have dl := den.length
    have r : Rel K ⟨H, Hs, none⟩ (start N vs) H Hs (ent N ds) := by
      refine ⟨sub, by simp [ent, L2.start]; omega, fun i d e => ?_, fun i c' e => ?_, fun i c' e => ?_, fun i j a q1 _ _ _ => ?_, fun a o h1 _ => h1, fun a h => h, fun a h => (by cases h), .rfl', fun a h => .inl h⟩
      · rcases ent_get (vs := vs) e with h | ⟨d', h, e'⟩
        · cases h
        · cases h
          obtain ⟨v, h1, h2⟩ := den.get e'
          exact ⟨v, start_get h1, h2⟩
      · rcases ent_get (vs := vs) e with h | ⟨d', h, e'⟩ <;> cases h
      · rcases ent_get (vs := vs) e with h | ⟨d', h, e'⟩ <;> cases h
      · exfalso
        rcases obAt_cases q1 with ⟨c', e⟩ | ⟨c', e⟩ <;> (rcases ent_get (vs := vs) e with h | ⟨d', h, e'⟩ <;> cases h)
    refine ⟨⟨H, Hs, none⟩, Hs, _, _, r, w, ⟨fun σ' H' Hs' ρ' r' l q => q.elim, fun σ' H' Hs' ρ' r' l q => q.elim, fun v σ' H' Hs' ρ' d r' l dn q => q.elim, fun v σ' H' Hs' ρ' c' r' l o q => ?_⟩⟩
    obtain ⟨p, rfl, h1, h2, _, h4, _⟩ := o
    exact post p H' Hs' c' (fun a o h => r'.fra a o h (by simp)) l r'.sub (fun a h => r'.nw a h) h2 h1 h4 q
theorem def_B {sp : BSp} {N ps : List Str} {x : Str} {pa : Arguments} {bd : List Stmt} {sc : Scope} {fa : Addr} {fd : FuncData} {Φ : Ctx} {k : Nat} {c : MC} {body : List S} (Fu : FunD K x x pa bd sc [] [] fa fd) (gm : mg x = some (.ref fa)) (S : FnScope N ps sc)
    (hb : Binds K fd ps []) (hN : c.N = N) (hF : Φ.F.map (·.1) = c.F) (hB : Φ.B.map (·.1) = c.B) (hG : Φ.G.map (·.1) = c.G) (hm : all2 (mS c 60 sc (fun _ => true)) body bd = true) (good : GoodK P w K mg base Φ k)
    (no : ∀ ds Q, ¬ sp.run .non ds Q) (spec : ∀ b ds Q, sp.run b ds Q → ds.length + 1 = ps.length ∧ wSs Φ body (entB N b ds) { nx := fun ρ => ∃ c', ρ[0]? = some (.bor c') ∧ Q .non c', rt := fun d ρ => ∃ c', ρ[0]? = some (.bor c') ∧ Q d c' }) : Has P w K mg base (k + 1) x (spB K sp) := by
  refine ⟨fa, fd, ps, k + 1, Nat.le_refl _, gm, Fu.kp, hb, ?_⟩
  refine Fu.ok (N := N) S (fun vs H Q E h => ?_) (fun cdv A outer s H vs Q' E hr h => ⟨RS K Φ body, ?_, ?_⟩)
  · rcases h with h | ⟨_, _, _, _, _, run, _⟩
    · obtain ⟨a, rest, Hs, b, ds, Q, rfl, _, _, _, den, run, _⟩ := h
      rw [List.length_cons, den.length]; exact (spec b ds Q run).1
    · exact (no _ _ run).elim
  · refine PSs.nox ?_
    have hp : PassesOwn (model P w) (cxOf CX0 P w K mg base N x sc fa cdv A outer s H E).nox.A (cxOf CX0 P w K mg base N x sc fa cdv A outer s H E).nox.env (cxOf CX0 P w K mg base N x sc fa cdv A outer s H E).nox.xe := fun e s' h => h.elim
    have O : Ok (cxOf CX0 P w K mg base N x sc fa cdv A outer s H E).nox Φ k c sc (fun _ => true) := ⟨⟨rfl, S.nd, hr, good.F, good.B, good.G, good.bn⟩, hN.symm, rfl, fun _ _ => rfl, hF, hB, hG⟩
    exact all2_iff (P := fun s st => PS _ st (RS1 _ Φ s)) (Q := fun ss sts => PSs _ sts (RS _ Φ ss)) (fun s st q => ss_ok hp O 60 s st q) ss_nil (fun _ _ _ _ a b => ss_cons a b) hm
  · rcases h with h | ⟨_, _, _, _, _, run, _⟩
    case inr => exact (no _ _ run).elim
    obtain ⟨a, rest, Hs, b, ds, Q, rfl, sub, ha, hc, den, run, post⟩ := h
    obtain ⟨hl, w⟩ := spec b ds Q run
    have hlen : ps.length ≤ N.length := by
      have := congrArg List.length S.pre
      rw [List.length_take] at this; omega
    have dl := den.length
    have st : start N (.ref a :: rest) = some (.ref a) :: (rest.map some ++ List.replicate (N.length - (rest.length + 1)) none) := rfl
    have key : ∀ (i : Nat) (x : VE), (ds.map VE.sh ++ List.replicate (N.length - (ds.length + 1)) VE.un)[i]? = some x → x = .un ∨ ∃ d v, x = .sh d ∧ (rest.map some ++ List.replicate (N.length - (rest.length + 1)) (none : Option V))[i]? = some (some v) ∧ Den K Hs d v := fun i x h => by
      by_cases hi : i < ds.length
      · rw [List.getElem?_append_left (by simpa using hi), List.getElem?_map, List.getElem?_eq_getElem hi] at h
        simp at h
        obtain ⟨v, h1, h2⟩ := den.get (List.getElem?_eq_getElem hi)
        refine .inr ⟨_, v, h.symm, ?_, h2⟩
        rw [List.getElem?_append_left (by simp; omega), List.getElem?_map, h1]; rfl
      · rw [List.getElem?_append_right (by simpa using hi), List.getElem?_replicate] at h
        split at h
        · exact .inl (by simpa using h.symm)
        · cases h
    have r : Rel K ⟨H, Hs, some a⟩ (start N (.ref a :: rest)) H Hs (entB N b ds) := by
      have zero : ∀ i, obAt (entB N b ds) i = true → i = 0 := fun i q => by
        cases i with
        | zero => rfl
        | succ i =>
          exfalso
          rcases obAt_cases q with ⟨c', e⟩ | ⟨c', e⟩ <;> (rcases key i _ e with h | ⟨d', _, h, _⟩ <;> cases h)
      refine ⟨sub, by rw [st]; simp [entB]; omega, fun i d e => ?_, fun i c' e => ?_, fun i c' e => ?_, fun i j _ q1 q2 _ _ => by rw [zero i q1, zero j q2], fun a o h1 _ => h1, fun a h => h, fun a' h => (by cases h; exact hc.some), .rfl', fun a h => .inl h⟩
      · cases i with
        | zero => cases e
        | succ i =>
          rcases key i _ e with h | ⟨d', v, h, e', dn⟩
          · cases h
          · cases h; exact ⟨v, by rw [st]; exact e', dn⟩
      · cases i with
        | zero => cases e
        | succ i => rcases key i _ e with h | ⟨d', v, h, e', dn⟩ <;> cases h
      · cases i with
        | zero => cases e; exact ⟨a, rfl, ha, rfl, hc⟩
        | succ i => rcases key i _ e with h | ⟨d', v, h, e', dn⟩ <;> cases h
    have fin : ∀ {σ' : L2.St} {H' Hs' : Hp} {ρ' : Env} {v : V} {d c' : D}, Rel K ⟨H, Hs, some a⟩ σ' H' Hs' ρ' → Leq Hs Hs' → Den K Hs' d v → ρ'[0]? = some (.bor c') → Q d c' → Q' v H' := fun {σ' H' Hs' ρ' v d c'} r' l dn e q => by
      obtain ⟨a', h1, h2, h3, h4⟩ := r'.br 0 c' e
      cases h3
      exact post v H' Hs' d c' (fun b o hb h => r'.fra b o h (by simpa using fun z => hb z.symm)) l r'.sub (fun b h => r'.nw b h) h2 h4 dn q
    refine ⟨⟨H, Hs, some a⟩, Hs, _, _, r, w, ⟨fun σ' H' Hs' ρ' r' l q => ?_, fun σ' H' Hs' ρ' r' l q => ?_, fun v σ' H' Hs' ρ' d r' l dn q => ?_, fun _ _ _ _ _ _ _ _ _ q => q.elim⟩⟩
    · obtain ⟨c', e, q⟩ := q
      exact fin r' l denN e q
    · exact q.elim
    · obtain ⟨c', e, q⟩ := q
      exact fin r' l dn e q
end
/-! ### the head's facts, with tuples of the top -/
def hookT (n : Nat) (fa : List He.Fa) (fn : List He.DefD) (tb : List (Str × List He.Dv)) : PySem.W.Hook where
  α := He.AlD × Bool
  obs := fun s => (He.obsDG n fa fn s.heap.get?, tb.all fun p => He.tupB (He.frG s.heap.get? (He.asD s.heap.get? n)) p.1 p.2)
  val := fun _ => (He.valD fn, true)
  says := fun _ h => ∃ K : PySem.W.Frag, K.In h ∧ He.SaysD fa fn K ∧ (tb.all fun p => He.tupB K p.1 p.2) = true
  of := fun w s e => ⟨He.frG s.heap.get? (He.asD s.heap.get? n), He.frG_in, congrArg Prod.fst e, congrArg Prod.snd e⟩
  keeps := fun w h h' ⟨K, hK, c, d⟩ k => ⟨K, PySem.W.Frag.In.keeps hK k, c, d⟩
def obT (n : Nat) (fa : List He.Fa) (fn : List He.DefD) (tb : List (Str × List He.Dv)) (g : Addr → Option Obj) : He.AlD × Bool :=
  (He.obsDG n fa fn g, tb.all fun p => He.tupB (He.frG g (He.asD g n)) p.1 p.2)
theorem obT_eq {n : Nat} {fa : List He.Fa} {fn : List He.DefD} {tb : List (Str × List He.Dv)} {g : Addr → Option Obj} {s : Shared} (h : ∀ a, g a = s.heap.get? a) : obT n fa fn tb g = (hookT n fa fn tb).obs s := by
  have e : g = s.heap.get? := funext h
  rw [e]; rfl
end PL
set_option Elab.async false
set_option linter.all false
set_option maxRecDepth 100000
set_option maxHeartbeats 1000000
/-! displays of constants -/
namespace PL
open PySem PySem.Spec PyProof.Rows L2
mutual
def cvOk : E → Bool
  | .int _ => true | .bl _ => true | .non => true | .str _ => true
  | .tup es => decide (es.length ≤ 1000) && cvOks es
  | _ => false
def cvOks : List E → Bool
  | [] => true
  | e :: es => cvOk e && cvOks es
end
mutual
def cvV : E → D
  | .int i => .int i | .bl b => .bl b | .non => .non | .str s => .str s
  | .tup es => .tup (cvVs es)
  | _ => .non
def cvVs : List E → List D
  | [] => []
  | e :: es => cvV e :: cvVs es
end
theorem cvVs_length : ∀ es : List E, (cvVs es).length = es.length
  | [] => rfl
  | e :: es => by rw [cvVs, List.length_cons, cvVs_length es]; rfl
theorem szK : (1000 : Nat) ≤ sizeLine := by decide +kernel
mutual
theorem wE_cv (Φ : PL.Ctx) : ∀ (e : E) (ρ : PL.Env) (Q : RD → PL.Env → Prop), cvOk e = true → Q (.val (cvV e)) ρ → wE Φ e ρ Q
  | .int i, ρ, Q, _, q => by rw [wE]; exact q
  | .bl i, ρ, Q, _, q => by rw [wE]; exact q
  | .non, ρ, Q, _, q => by rw [wE]; exact q
  | .str i, ρ, Q, _, q => by rw [wE]; exact q
  | .tup es, ρ, Q, h, q => by
    rw [cvOk, Bool.and_eq_true, decide_eq_true_eq] at h
    rw [wE]
    refine wEs_cv Φ es ρ _ h.2 ⟨?_, q⟩
    rw [cvVs_length]; have := szK; omega
  | .var _, _, _, h, _ => by cases h
  | .glo _, _, _, h, _ => by cases h
  | .bin _ _ _, _, _, h, _ => by cases h
  | .neg _, _, _, h, _ => by cases h
  | .not _, _, _, h, _ => by cases h
  | .and _ _, _, _, h, _ => by cases h
  | .or _ _, _, _, h, _ => by cases h
  | .cmp _ _ _, _, _, h, _ => by cases h
  | .cmp2 _ _ _ _ _, _, _, h, _ => by cases h
  | .ite _ _ _, _, _, h, _ => by cases h
  | .lst _, _, _, h, _ => by cases h
  | .star _ _, _, _, h, _ => by cases h
  | .idx _ _, _, _, h, _ => by cases h
  | .sl1 _ _, _, _, h, _ => by cases h
  | .sl2 _ _, _, _, h, _ => by cases h
  | .sl3 _ _ _, _, _, h, _ => by cases h
  | .st1 _ _, _, _, h, _ => by cases h
  | .st2 _ _ _, _, _, h, _ => by cases h
  | .call _ _, _, _, h, _ => by cases h
  | .callB _ _ _, _, _, h, _ => by cases h
  | .callN _ _, _, _, h, _ => by cases h
  | .bi _ _, _, _, h, _ => by cases h
  | .isi _ _, _, _, h, _ => by cases h
  | .get _ _ _, _, _, h, _ => by cases h
  | .dgt _ _, _, _, h, _ => by cases h
  | .din _ _, _, _, h, _ => by cases h
  | .pop _ _, _, _, h, _ => by cases h
  | .popl _, _, _, h, _ => by cases h
  | .lrg _ _, _, _, h, _ => by cases h
  | .lr1 _, _, _, h, _ => by cases h
  | .sset _, _, _, h, _ => by cases h
  | .dl _, _, _, h, _ => by cases h
  | .sdl _, _, _, h, _ => by cases h
  | .dvl _, _, _, h, _ => by cases h
  | .edk, _, _, h, _ => by cases h
  | .edt, _, _, h, _ => by cases h
  | .mt _ _ _, _, _, h, _ => by cases h
  | .comp _ _ _ _ _, _, _, h, _ => by cases h
  | .compIf _ _ _ _ _ _, _, _, h, _ => by cases h
theorem wEs_cv (Φ : PL.Ctx) : ∀ (es : List E) (ρ : PL.Env) (Q : List D → PL.Env → Prop), cvOks es = true → Q (cvVs es) ρ → wEs Φ es ρ Q
  | [], ρ, Q, _, q => by rw [wEs]; exact q
  | e :: es, ρ, Q, h, q => by
    rw [cvOks, Bool.and_eq_true] at h
    rw [wEs]
    exact wE_cv Φ e ρ _ h.1 (wEs_cv Φ es ρ _ h.2 q)
end
theorem wLst_cv (Φ : PL.Ctx) (es : List E) (ρ : PL.Env) (Q : RD → PL.Env → Prop) (h : (cvOks es && decide (es.length ≤ 1000)) = true) (q : Q (.new (.lst (cvVs es))) ρ) : wE Φ (.lst es) ρ Q := by
  rw [Bool.and_eq_true, decide_eq_true_eq] at h
  rw [wE]
  refine wEs_cv Φ es ρ _ h.1 ⟨?_, q⟩
  rw [cvVs_length]; have := szK; omega
/-- one of a display of constants -/
theorem of_cv {Φ : PL.Ctx} {nm : Str} {es : List E} {v : VE} {ρ0 : PL.Env} {c : D} {Q : RD → PL.Env → Prop} {sp : BSp} (hf : Φ.B[0]? = some (nm, sp)) (hc : (v :: ρ0)[0]? = some (.bor c)) (h : (cvOks es && decide (es.length ≤ 1000)) = true)
    (q : sp.run c [.lst (cvVs es)] fun d c' => Q (.val d) ((v :: ρ0).set 0 (.bor c'))) : wE Φ (.callB 0 0 [.lst es]) (v :: ρ0) Q := by
  rw [wE]
  refine ⟨_, hf, ?_, ?_⟩
  · simp at hc; subst hc; rfl
  · rw [wRs]
    refine wLst_cv Φ es _ _ h ?_
    rw [wRs]
    refine ⟨rfl, _, rfl, ?_⟩
    rw [hc]
    exact q
end PL
set_option Elab.async false
set_option linter.all false
set_option maxRecDepth 100000
set_option maxHeartbeats 1000000
namespace PL
open PySem
/-! ### data, compared -/
@[simp] theorem deq_int (a b : Int) : deq (.int a) (.int b) = decide (a = b) := by unfold deq; simp [PyData.eqv]; rw [Bool.eq_iff_iff]; simp
@[simp] theorem deq_bl (a b : Bool) : deq (.bl a) (.bl b) = decide (a = b) := by unfold deq; simp [PyData.eqv]; rw [Bool.eq_iff_iff]; simp
@[simp] theorem deq_str (a b : Str) : deq (.str a) (.str b) = decide (a = b) := by unfold deq; simp [PyData.eqv]; rw [Bool.eq_iff_iff]; simp
@[simp] theorem deq_nn : deq .non .non = true := by unfold deq; simp [PyData.eqv]
@[simp] theorem deq_tn (a : List D) : deq (.tup a) .non = false := by unfold deq; simp [PyData.eqv]
@[simp] theorem deq_nt (a : List D) : deq .non (.tup a) = false := by unfold deq; simp [PyData.eqv]
def deqs (xs ys : List D) : Bool := PyData.eqvAll (toPDs xs) (toPDs ys)
@[simp] theorem deq_tup (a b : List D) : deq (.tup a) (.tup b) = deqs a b := by unfold deq deqs; simp [PyData.eqv]
@[simp] theorem deq_lst (a b : List D) : deq (.lst a) (.lst b) = deqs a b := by unfold deq deqs; simp [PyData.eqv]
@[simp] theorem deqs_nil : deqs [] [] = true := by unfold deqs; simp [PyData.eqvAll]
@[simp] theorem deqs_cons (x y : D) (xs ys : List D) : deqs (x :: xs) (y :: ys) = (deq x y && deqs xs ys) := by unfold deqs deq; simp [PyData.eqvAll]
@[simp] theorem deqs_nc (x : D) (xs : List D) : deqs [] (x :: xs) = false := by unfold deqs; simp [PyData.eqvAll]
@[simp] theorem deqs_cn (x : D) (xs : List D) : deqs (x :: xs) [] = false := by unfold deqs; simp [PyData.eqvAll]
/-- numbers, texts, None, tuples and lists of these: as unlike as they are written -/
def pl : Nat → D → Prop
  | _, .non => True | _, .int _ => True | _, .str _ => True
  | n + 1, .tup ds => ∀ x ∈ ds, pl n x
  | n + 1, .lst ds => ∀ x ∈ ds, pl n x
  | _, _ => False
theorem deq_iff : ∀ (n : Nat) (x y : D), pl n x → pl n y → (deq x y = true ↔ x = y) := by
  intro n
  induction n with
  | zero =>
    intro x y h1 h2
    cases x <;> cases y <;> simp_all [pl] <;> (unfold deq; simp [PyData.eqv])
  | succ n ih =>
    have go : ∀ (xs ys : List D), (∀ x ∈ xs, pl n x) → (∀ x ∈ ys, pl n x) → (deqs xs ys = true ↔ xs = ys) := by
      intro xs
      induction xs with
      | nil => intro ys _ _; cases ys <;> simp
      | cons x xs ihx =>
        intro ys h1 h2
        cases ys with
        | nil => simp
        | cons y ys =>
          rw [deqs_cons, Bool.and_eq_true, ih x y (h1 x (by simp)) (h2 y (by simp)), ihx ys (fun z hz => h1 z (by simp [hz])) (fun z hz => h2 z (by simp [hz]))]
          simp
    intro x y h1 h2
    cases x <;> cases y <;> simp only [pl] at h1 h2
    all_goals try simp only [deq_int, deq_bl, deq_str, deq_nn, deq_tn, deq_nt, deq_tup, deq_lst, decide_eq_true_eq, D.int.injEq, D.str.injEq, D.tup.injEq, D.lst.injEq]
    all_goals first
      | exact go _ _ h1 h2
      | (unfold deq; simp [PyData.eqv])
      | simp
/-! ### common bodies: numbers and fractions -/
abbrev fr (q : Rat) : D := .tup [.int q.num, .int (q.den : Int)]
def Fb (n : Nat) (q : Rat) : Prop := q.num.natAbs < 2 ^ n ∧ q.den < 2 ^ n
def b_common : List S := [.whl (.cmp .ne (.var 1) (.int 0)) [.par [0, 1] [(.var 1), (.bin .mod (.var 0) (.var 1))]],
  .ret (.bi .abs [(.var 0)])]
def sp_common : FSp := ⟨fun ds Q => match ds with | [.int a, .int b] => Q (.int (Int.gcd a b)) | _ => False, fun ds Q Q' h r => by
  split at r
  · exact h _ r
  · exact r.elim⟩
theorem gcd_fmod (a b : Int) : Int.gcd b (a.fmod b) = Int.gcd a b := by
  have : a.fmod b = a + b * (-(a.fdiv b)) := by rw [Int.fmod_def]; simp [Int.sub_eq_add_neg, Int.mul_neg]
  rw [this, Int.gcd_add_mul_left_right]
  exact Int.gcd_comm b a
theorem fmod_lt (a b : Int) (h : b ≠ 0) : (a.fmod b).natAbs < b.natAbs := by
  rcases Int.lt_or_gt_of_ne h with h | h
  · have e : a.fmod b = -((-a).fmod (-b)) := by
      rw [Int.fmod_def, Int.fmod_def, Int.neg_fdiv_neg]; simp [Int.neg_mul]; omega
    have h1 := Int.fmod_nonneg_of_pos (-a) (b := -b) (by omega)
    have h2 := Int.fmod_lt_of_pos (-a) (b := -b) (by omega)
    omega
  · have h1 := Int.fmod_nonneg_of_pos a h
    have h2 := Int.fmod_lt_of_pos a h
    omega
theorem szl : (1000 : Nat) ≤ sizeLine := by decide +kernel
theorem w_common {Φ : Ctx} {nm : List Str} (hn : nm.length = 2) (ds : List D) (Q : D → Prop) (h : sp_common.run ds Q) : ds.length = 2 ∧ wSs Φ b_common (ent nm ds) { nx := fun _ => Q .non, rt := fun d _ => Q d } := by
  unfold sp_common at h
  simp only at h
  split at h
  · rename_i a b
    refine ⟨rfl, ?_⟩
    simp only [b_common, wSs, wS, ent, hn]
    refine ⟨fun m ρ => ∃ x y : Int, ρ = [.sh (.int x), .sh (.int y)] ∧ y.natAbs = m ∧ Int.gcd x y = Int.gcd a b, ⟨_, a, b, rfl, rfl, rfl⟩, ?_⟩
    rintro m ρ ⟨x, y, rfl, rfl, hg⟩
    simp
    refine ⟨fun hy => ⟨hy, Nat.le_trans (by decide) szl, _, fmod_lt x y hy, _, _, ⟨rfl, rfl⟩, rfl, by rw [gcd_fmod, hg]⟩, fun hy => ?_⟩
    subst hy
    rw [Int.gcd_zero_right] at hg
    have : (if x < 0 then -x else x) = ((a.gcd b : Nat) : Int) := by rw [← hg]; split <;> omega
    rw [this]; exact h
  · exact h.elim
/-- the law's own, by laps -/
def b_lgcd : List S := [.for (.nm 2) .r1 [(.bin .pow (.int 10) (.int 6))] [.ife (.cmp .eq (.var 1) (.int 0)) [.brk] [], .par [0, 1] [(.var 1), (.bin .mod (.var 0) (.var 1))]],
  .ret (.bi .abs [(.var 0)])]
def sp_lgcd : FSp := ⟨fun ds Q => match ds with | [.int a, .int b] => b.natAbs < 2 ^ 400000 ∧ Q (.int (Int.gcd a b)) | _ => False, fun ds Q Q' h r => by
  split at r
  · exact ⟨r.1, h _ r.2⟩
  · exact r.elim⟩
theorem fmod_neg (x y : Int) : (-x).fmod (-y) = -(x.fmod y) := by
  rw [Int.fmod_def, Int.fmod_def, Int.neg_fdiv_neg]; simp [Int.neg_mul]; omega
theorem two_laps_pos (x y : Int) (h : 0 < y) (h2 : x.fmod y ≠ 0) : 2 * (y.fmod (x.fmod y)).natAbs < y.natAbs := by
  have a1 := Int.fmod_nonneg_of_pos x h
  have a2 := Int.fmod_lt_of_pos x h
  generalize x.fmod y = r at *
  have hr : 0 < r := by omega
  have b1 := Int.fmod_nonneg_of_pos y hr
  have b2 := Int.fmod_lt_of_pos y hr
  by_cases c : 2 * r ≤ y
  · omega
  · have e : y.fmod r = y - r := by
      rw [Int.fmod_eq_emod_of_nonneg y (by omega)]
      have : y % r = (y - r) % r := by rw [Int.sub_emod_right]
      rw [this]
      exact Int.emod_eq_of_lt (by omega) (by omega)
    omega
/-- two laps halve -/
theorem two_laps (x y : Int) (h : y ≠ 0) (h2 : x.fmod y ≠ 0) : 2 * (y.fmod (x.fmod y)).natAbs < y.natAbs := by
  by_cases hy : 0 < y
  · exact two_laps_pos x y hy h2
  · have e1 := fmod_neg x y
    have := two_laps_pos (-x) (-y) (by omega) (by omega)
    rw [e1, fmod_neg] at this
    simpa using this
theorem lap_core {Φ : Ctx} {D : End} {g : Int} {h : Env → Prop} (hD : ∀ (z w : Int) (t : VE), Int.gcd z w = g.natAbs → w = 0 → (t = .un ∨ ∃ d, t = .sh d) → D.nx [.sh (.int z), .sh (.int w), t]) :
    ∀ (k n : Nat) (lo x y : Int) (t : VE), (t = .un ∨ ∃ d, t = .sh d) → y.natAbs < 2 ^ k → 2 * k < n → Int.gcd x y = g.natAbs →
      forW (fun d ρ' K => tgW (.nm 2) d ρ' fun ρ'' => wSs Φ [.ife (.cmp .eq (.var 1) (.int 0)) [.brk] [], .par [0, 1] [(.var 1), (.bin .mod (.var 0) (.var 1))]] ρ'' { nx := K, rt := D.rt, bk := D.nx }) (rangeD lo n) [.sh (.int x), .sh (.int y), t] D.nx := by
  have one : ∀ (n : Nat) (lo x y : Int) (t : VE), (t = .un ∨ ∃ d, t = .sh d) → Int.gcd x y = g.natAbs →
      (y ≠ 0 → forW (fun d ρ' K => tgW (.nm 2) d ρ' fun ρ'' => wSs Φ [.ife (.cmp .eq (.var 1) (.int 0)) [.brk] [], .par [0, 1] [(.var 1), (.bin .mod (.var 0) (.var 1))]] ρ'' { nx := K, rt := D.rt, bk := D.nx }) (rangeD (lo + 1) n) [.sh (.int y), .sh (.int (x.fmod y)), .sh (.int lo)] D.nx) →
      forW (fun d ρ' K => tgW (.nm 2) d ρ' fun ρ'' => wSs Φ [.ife (.cmp .eq (.var 1) (.int 0)) [.brk] [], .par [0, 1] [(.var 1), (.bin .mod (.var 0) (.var 1))]] ρ'' { nx := K, rt := D.rt, bk := D.nx }) (rangeD lo (n + 1)) [.sh (.int x), .sh (.int y), t] D.nx := by
    intro n lo x y t ht hg q
    have : (match t with | .bor _ => False | _ => True) := by rcases ht with rfl | ⟨d, rfl⟩ <;> trivial
    rw [rangeD]
    rcases ht with rfl | ⟨d, rfl⟩
    all_goals
      simp
      refine ⟨fun hy => hD _ _ _ hg hy (.inr ⟨_, rfl⟩), fun hy => ⟨hy, Nat.le_trans (by decide) szl, ?_⟩⟩
      simpa using q hy
  intro k
  induction k with
  | zero =>
    intro n lo x y t ht hy hn hg
    obtain ⟨n, rfl⟩ : ∃ m, n = m + 1 := ⟨n - 1, by omega⟩
    exact one n lo x y t ht hg fun h => by omega
  | succ k ih =>
    intro n lo x y t ht hy hn hg
    obtain ⟨n, rfl⟩ : ∃ m, n = m + 1 + 1 := ⟨n - 2, by omega⟩
    refine one (n + 1) lo x y t ht hg fun h1 => ?_
    refine one n (lo + 1) _ _ _ (.inr ⟨_, rfl⟩) (by rw [gcd_fmod, hg]) fun h2 => ?_
    refine ih n (lo + 1 + 1) _ _ _ (.inr ⟨_, rfl⟩) ?_ (by omega) (by rw [gcd_fmod, gcd_fmod, hg])
    have := two_laps x y h1 h2
    rw [Nat.pow_succ] at hy
    omega
theorem w_lgcd {Φ : Ctx} {nm : List Str} (hn : nm.length = 3) (ds : List D) (Q : D → Prop) (h : sp_lgcd.run ds Q) : ds.length = 2 ∧ wSs Φ b_lgcd (ent nm ds) { nx := fun _ => Q .non, rt := fun d _ => Q d } := by
  unfold sp_lgcd at h
  simp only at h
  split at h
  · rename_i a b
    refine ⟨rfl, ?_⟩
    simp only [b_lgcd, ent, hn]
    rw [wSs, wS]
    simp [powOk, small, -forW, -wSs, -wS]
    refine ⟨by decide +kernel, ?_⟩
    refine lap_core (Φ := Φ) (g := Int.gcd a b) (h := fun _ => True) (D := ⟨_, fun d x => Q d, fun _ => False, fun _ _ => False⟩) (fun z w t hg hw ht => ?_) 400000 1000000 0 a b .un (.inl rfl) h.1 (by omega) (by simp)
    subst hw
    rw [Int.gcd_zero_right] at hg
    have hz : (if z < 0 then -z else z) = ((a.gcd b : Nat) : Int) := by
      have : z.natAbs = a.gcd b := by simpa using hg
      rw [← this]; split <;> omega
    have q := h.2
    rw [← hz] at q
    rcases ht with rfl | ⟨d, rfl⟩ <;> simpa using q
  · exact h.elim
end PL
set_option Elab.async false
set_option linter.all false
set_option maxRecDepth 100000
set_option maxHeartbeats 1000000
namespace PL
open PySem
theorem ratio_parts (a b : Int) (h : 0 < b) : a.fdiv (Int.gcd a b) = ((a : Rat) / b).num ∧ b.fdiv (Int.gcd a b) = (((a : Rat) / b).den : Int) ∧ (0 : Int) < Int.gcd a b := by
  have g0 : 0 < Int.gcd a b := Int.gcd_pos_of_ne_zero_right _ (by omega)
  have e := Rat.divInt_eq_div a b
  refine ⟨?_, ?_, by omega⟩
  · rw [← e, Rat.num_divInt, Int.sign_eq_one_of_pos h, Int.one_mul, Int.gcd_comm b a, Int.fdiv_eq_ediv_of_nonneg _ (by omega)]
  · rw [← e, Rat.den_divInt, if_neg (by omega), Int.gcd_comm b a, Int.fdiv_eq_ediv_of_nonneg _ (by omega)]
    have : (b.natAbs : Int) = b := by omega
    rw [Int.natCast_ediv, this]
theorem divOk_of {i j : Int} (h : j ≠ 0) (h2 : j.natAbs < 2 ^ 9000) : divOk i j := by
  refine ⟨h, ?_⟩
  unfold Builtin.divisionGoesByPylong
  have : (j == 0) = false := by simpa using h
  simp only [this]
  have hl : j.natAbs.log2 < 9000 := (Nat.log2_lt (by omega)).mpr h2
  have : ¬ (j.natAbs.log2 / 30 + 1 > 300) := by omega
  simp [this]
theorem gcd_le_right {a b : Int} (h : 0 < b) : (Int.gcd a b : Nat) ≤ b.natAbs := by
  have : (Int.gcd a b) ∣ b.natAbs := Int.gcd_dvd_natAbs_right a b
  exact Nat.le_of_dvd (by omega) this
theorem gcd_divOk {a b i : Int} (h : 0 < b) (hb : b.natAbs < 2 ^ 9000) : divOk i (Int.gcd a b) := by
  have g0 : 0 < Int.gcd a b := Int.gcd_pos_of_ne_zero_right _ (by omega)
  refine divOk_of (by omega) (Nat.lt_of_le_of_lt ?_ hb)
  simpa using gcd_le_right (a := a) h
theorem mulOk_of {i j : Int} (m n : Nat) (h1 : i.natAbs < 2 ^ m) (h2 : j.natAbs < 2 ^ n) (h : m + n ≤ 134217728) : mulOk i j := ⟨m, n, h1, h2, h⟩
def sp_ratio : FSp := ⟨fun ds Q => match ds with | [.int a, .int b] => 0 < b ∧ b.natAbs < 2 ^ 9000 ∧ Q (fr ((a : Rat) / b)) | _ => False, fun ds Q Q' h r => by
  split at r
  · exact ⟨r.1, r.2.1, h _ r.2.2⟩
  · exact r.elim⟩
@[reducible] def x_ratio : Ctx := ⟨[("common_of", sp_common)], [], []⟩
def b_ratio : List S := [.set 2 (.call 0 [(.var 0), (.var 1)]),
  .ife (.cmp .lt (.var 1) (.int 0)) [.set 2 (.neg (.var 2))] [],
  .ret (.tup [(.bin .fdiv (.var 0) (.var 2)), (.bin .fdiv (.var 1) (.var 2))])]
theorem w_ratio {nm : List Str} (hn : nm.length = 3) (ds : List D) (Q : D → Prop) (h : sp_ratio.run ds Q) : ds.length = 2 ∧ wSs x_ratio b_ratio (ent nm ds) { nx := fun _ => Q .non, rt := fun d _ => Q d } := by
  unfold sp_ratio at h
  simp only at h
  split at h
  · rename_i a b
    obtain ⟨h1, h2, q⟩ := h
    refine ⟨rfl, ?_⟩
    obtain ⟨e1, e2, e3⟩ := ratio_parts a b h1
    have hb : ¬ b < 0 := by omega
    simp [b_ratio, hn, sp_common, hb, gcd_divOk h1 h2, e1, e2]
    exact ⟨Nat.le_trans (by decide) szl, q⟩
  · exact h.elim
@[reducible] def x_lratio : Ctx := ⟨[("_law_gcd", sp_lgcd)], [], []⟩
def b_lratio : List S := [.set 2 (.bin .mul (.call 0 [(.var 0), (.var 1)]) (.ite (.cmp .gt (.var 1) (.int 0)) (.int 1) (.neg (.int 1)))),
  .ret (.tup [(.bin .fdiv (.var 0) (.var 2)), (.bin .fdiv (.var 1) (.var 2))])]
theorem w_lratio {nm : List Str} (hn : nm.length = 3) (ds : List D) (Q : D → Prop) (h : sp_ratio.run ds Q) : ds.length = 2 ∧ wSs x_lratio b_lratio (ent nm ds) { nx := fun _ => Q .non, rt := fun d _ => Q d } := by
  unfold sp_ratio at h
  simp only at h
  split at h
  · rename_i a b
    obtain ⟨h1, h2, q⟩ := h
    refine ⟨rfl, ?_⟩
    obtain ⟨e1, e2, e3⟩ := ratio_parts a b h1
    have big : b.natAbs < 2 ^ 400000 := Nat.lt_of_lt_of_le h2 (Nat.pow_le_pow_right (by omega) (by omega))
    have hm : mulOk (Int.gcd a b) 1 := mulOk_of 9000 1 (Nat.lt_of_le_of_lt (by simpa using gcd_le_right (a := a) h1) h2) (by decide) (by decide)
    simp [b_lratio, hn, sp_lgcd, h1, big, hm, gcd_divOk h1 h2, e1, e2, -Nat.reducePow]
    exact ⟨Nat.le_trans (by decide) szl, q⟩
  · exact h.elim
end PL
set_option Elab.async false
set_option linter.all false
set_option maxRecDepth 100000
set_option maxHeartbeats 1000000
set_option exponentiation.threshold 20000
namespace PL
open PySem
theorem Fb.mono {m n : Nat} {q : Rat} (h : Fb m q) (l : m ≤ n) : Fb n q := ⟨Nat.lt_of_lt_of_le h.1 (Nat.pow_le_pow_right (by omega) l), Nat.lt_of_lt_of_le h.2 (Nat.pow_le_pow_right (by omega) l)⟩
theorem natAbs_mul_lt {i j : Int} {m n : Nat} (h1 : i.natAbs < 2 ^ m) (h2 : j.natAbs < 2 ^ n) : (i * j).natAbs < 2 ^ (m + n) := by
  rw [Int.natAbs_mul, Nat.pow_add]
  exact Nat.mul_lt_mul_of_lt_of_le h1 (Nat.le_of_lt h2) (by exact Nat.pow_pos (by omega))
theorem natAbs_add_lt {i j : Int} {m : Nat} (h1 : i.natAbs < 2 ^ m) (h2 : j.natAbs < 2 ^ m) : (i + j).natAbs < 2 ^ (m + 1) := by
  have := Int.natAbs_add_le i j
  rw [Nat.pow_succ]; omega
/-- a ratio is no greater than what it is made of -/
theorem Fb_div {a b : Int} {n : Nat} (h : 0 < b) (h1 : a.natAbs < 2 ^ n) (h2 : b.natAbs < 2 ^ n) : Fb n ((a : Rat) / b) := by
  obtain ⟨e1, e2, e3⟩ := ratio_parts a b h
  constructor
  · rw [← e1, Int.fdiv_eq_ediv_of_nonneg _ (by omega)]
    exact Nat.lt_of_le_of_lt (Int.natAbs_ediv_le_natAbs _ _) h1
  · have : ((((a : Rat) / b).den : Int)).natAbs < 2 ^ n := by
      rw [← e2, Int.fdiv_eq_ediv_of_nonneg _ (by omega)]
      exact Nat.lt_of_le_of_lt (Int.natAbs_ediv_le_natAbs _ _) h2
    simpa using this
def sp_plus : FSp := ⟨fun ds Q => match ds with | [.tup [.int a, .int b], .tup [.int c, .int d]] => 0 < b ∧ 0 < d ∧ (∃ m n, a.natAbs < 2 ^ m ∧ b.natAbs < 2 ^ m ∧ c.natAbs < 2 ^ n ∧ d.natAbs < 2 ^ n ∧ m + n ≤ 9000) ∧ Q (fr ((a : Rat) / b + (c : Rat) / d)) | _ => False, fun ds Q Q' h r => by
  split at r
  · exact ⟨r.1, r.2.1, r.2.2.1, h _ r.2.2.2⟩
  · exact r.elim⟩
def sp_times : FSp := ⟨fun ds Q => match ds with | [.tup [.int a, .int b], .tup [.int c, .int d]] => 0 < b ∧ 0 < d ∧ (∃ m n, a.natAbs < 2 ^ m ∧ b.natAbs < 2 ^ m ∧ c.natAbs < 2 ^ n ∧ d.natAbs < 2 ^ n ∧ m + n ≤ 9000) ∧ Q (fr ((a : Rat) / b * ((c : Rat) / d))) | _ => False, fun ds Q Q' h r => by
  split at r
  · exact ⟨r.1, r.2.1, r.2.2.1, h _ r.2.2.2⟩
  · exact r.elim⟩
def sp_over : FSp := ⟨fun ds Q => match ds with | [.tup [.int a, .int b], .tup [.int c, .int d]] => 0 < b ∧ 0 < c ∧ 0 < d ∧ (∃ m n, a.natAbs < 2 ^ m ∧ b.natAbs < 2 ^ m ∧ c.natAbs < 2 ^ n ∧ d.natAbs < 2 ^ n ∧ m + n ≤ 9000) ∧ Q (fr ((a : Rat) / b / ((c : Rat) / d))) | _ => False, fun ds Q Q' h r => by
  split at r
  · exact ⟨r.1, r.2.1, r.2.2.1, r.2.2.2.1, h _ r.2.2.2.2⟩
  · exact r.elim⟩
def sp_below : FSp := ⟨fun ds Q => match ds with | [.tup [.int a, .int b], .tup [.int c, .int d]] => 0 < b ∧ 0 < d ∧ (∃ m n, a.natAbs < 2 ^ m ∧ b.natAbs < 2 ^ m ∧ c.natAbs < 2 ^ n ∧ d.natAbs < 2 ^ n ∧ m + n ≤ 9000) ∧ Q (.bl (decide ((a : Rat) / b < (c : Rat) / d))) | _ => False, fun ds Q Q' h r => by
  split at r
  · exact ⟨r.1, r.2.1, r.2.2.1, h _ r.2.2.2⟩
  · exact r.elim⟩
@[reducible] def x_r (nm : Str) : Ctx := ⟨[(nm, sp_ratio)], [], []⟩
def b_plus : List S := [.ret (.call 0 [(.bin .add (.bin .mul (.idx (.var 0) (.int 0)) (.idx (.var 1) (.int 1))) (.bin .mul (.idx (.var 1) (.int 0)) (.idx (.var 0) (.int 1)))), (.bin .mul (.idx (.var 0) (.int 1)) (.idx (.var 1) (.int 1)))])]
def b_times : List S := [.ret (.call 0 [(.bin .mul (.idx (.var 0) (.int 0)) (.idx (.var 1) (.int 0))), (.bin .mul (.idx (.var 0) (.int 1)) (.idx (.var 1) (.int 1)))])]
def b_over : List S := [.ret (.call 0 [(.bin .mul (.idx (.var 0) (.int 0)) (.idx (.var 1) (.int 1))), (.bin .mul (.idx (.var 0) (.int 1)) (.idx (.var 1) (.int 0)))])]
def b_below : List S := [.ret (.cmp .lt (.bin .mul (.idx (.var 0) (.int 0)) (.idx (.var 1) (.int 1))) (.bin .mul (.idx (.var 1) (.int 0)) (.idx (.var 0) (.int 1))))]
theorem frac_ne {b : Int} (h : 0 < b) : (b : Rat) ≠ 0 := by
  intro e
  have : b = 0 := by exact_mod_cast e
  omega
theorem add_frac {a b c d : Int} (hb : 0 < b) (hd : 0 < d) : ((a * d + c * b : Int) : Rat) / ((b * d : Int) : Rat) = (a : Rat) / b + (c : Rat) / d := by
  have h1 := frac_ne hb
  have h2 := frac_ne hd
  push_cast
  grind
theorem mul_frac {a b c d : Int} (hb : 0 < b) (hd : 0 < d) : ((a * c : Int) : Rat) / ((b * d : Int) : Rat) = (a : Rat) / b * ((c : Rat) / d) := by
  have h1 := frac_ne hb
  have h2 := frac_ne hd
  push_cast
  grind
theorem over_frac {a b c d : Int} (hb : 0 < b) (hc : 0 < c) (hd : 0 < d) : ((a * d : Int) : Rat) / ((b * c : Int) : Rat) = (a : Rat) / b / ((c : Rat) / d) := by
  have h1 := frac_ne hb
  have h2 := frac_ne hd
  have h3 := frac_ne hc
  push_cast
  grind
theorem lt_frac {a b c d : Int} (hb : 0 < b) (hd : 0 < d) : (a * d < c * b) ↔ (a : Rat) / b < (c : Rat) / d := by
  have h1 : (0 : Rat) < b := by exact_mod_cast hb
  have h2 : (0 : Rat) < d := by exact_mod_cast hd
  rw [Rat.div_lt_iff h1]
  have e : (c : Rat) / d * b = (c * b : Int) / (d : Rat) := by
    push_cast
    grind
  rw [e, Rat.lt_div_iff h2]
  exact_mod_cast Iff.rfl
open L2 in
@[simp] theorem atI_nat {α : Type} (xs : List α) (n : Nat) : atI xs (n : Int) = xs[n]? := by
  unfold atI ixN
  by_cases h : n < xs.length
  · simp [h]
  · simp [h]
open L2 in
@[simp] theorem atI_zero {α : Type} (xs : List α) : atI xs 0 = xs[0]? := atI_nat xs 0
open L2 in
@[simp] theorem atI_one {α : Type} (xs : List α) : atI xs 1 = xs[1]? := atI_nat xs 1
open L2 in
@[simp] theorem atI_two {α : Type} (xs : List α) : atI xs 2 = xs[2]? := atI_nat xs 2
open L2 in
@[simp] theorem atI_three {α : Type} (xs : List α) : atI xs 3 = xs[3]? := atI_nat xs 3
open L2 in
@[simp] theorem atI_last {α : Type} (xs : List α) : atI xs (-1) = xs.getLast? := by
  unfold atI ixN
  cases xs with
  | nil => simp
  | cons x xs =>
    have h1 : ¬ ((0 : Int) ≤ -1) := by omega
    have h2 : -((x :: xs).length : Int) ≤ -1 := by simp only [List.length_cons]; omega
    rw [if_neg h1, if_pos h2, List.getLast?_eq_getElem?]
    have : (-1 + ((x :: xs).length : Int)).toNat = (x :: xs).length - 1 := by omega
    show (x :: xs)[(-1 + ((x :: xs).length : Int)).toNat]? = _
    rw [this]
theorem w_plus {nm : Str} {N : List Str} (hn : N.length = 2) (ds : List D) (Q : D → Prop) (h : sp_plus.run ds Q) : ds.length = 2 ∧ wSs (x_r nm) b_plus (ent N ds) { nx := fun _ => Q .non, rt := fun d _ => Q d } := by
  unfold sp_plus at h
  simp only at h
  split at h
  · rename_i a b c d
    obtain ⟨hb, hd, ⟨m, n, h1, h2, h3, h4, hmn⟩, q⟩ := h
    refine ⟨rfl, ?_⟩
    have k1 : mulOk a d := mulOk_of m n h1 h4 (by omega)
    have k2 : mulOk c b := mulOk_of n m h3 h2 (by omega)
    have k3 : mulOk b d := mulOk_of m n h2 h4 (by omega)
    have k4 : 0 < b * d := Int.mul_pos hb hd
    have k5 : (b * d).natAbs < 2 ^ 9000 := Nat.lt_of_lt_of_le (natAbs_mul_lt h2 h4) (Nat.pow_le_pow_right (by omega) hmn)
    have k6 := add_frac (a := a) (c := c) hb hd
    simp only [Rat.intCast_add, Rat.intCast_mul] at k6
    simp [b_plus, hn, sp_ratio, k1, k2, k3, k4, k5, -Nat.reducePow]
    rw [k6]; exact q
  · exact h.elim
theorem w_times {nm : Str} {N : List Str} (hn : N.length = 2) (ds : List D) (Q : D → Prop) (h : sp_times.run ds Q) : ds.length = 2 ∧ wSs (x_r nm) b_times (ent N ds) { nx := fun _ => Q .non, rt := fun d _ => Q d } := by
  unfold sp_times at h
  simp only at h
  split at h
  · rename_i a b c d
    obtain ⟨hb, hd, ⟨m, n, h1, h2, h3, h4, hmn⟩, q⟩ := h
    refine ⟨rfl, ?_⟩
    have k1 : mulOk a c := mulOk_of m n h1 h3 (by omega)
    have k3 : mulOk b d := mulOk_of m n h2 h4 (by omega)
    have k4 : 0 < b * d := Int.mul_pos hb hd
    have k5 : (b * d).natAbs < 2 ^ 9000 := Nat.lt_of_lt_of_le (natAbs_mul_lt h2 h4) (Nat.pow_le_pow_right (by omega) hmn)
    have k6 := mul_frac (a := a) (c := c) hb hd
    simp only [Rat.intCast_mul] at k6
    simp [b_times, hn, sp_ratio, k1, k3, k4, k5, -Nat.reducePow]
    rw [k6]; exact q
  · exact h.elim
theorem w_over {nm : Str} {N : List Str} (hn : N.length = 2) (ds : List D) (Q : D → Prop) (h : sp_over.run ds Q) : ds.length = 2 ∧ wSs (x_r nm) b_over (ent N ds) { nx := fun _ => Q .non, rt := fun d _ => Q d } := by
  unfold sp_over at h
  simp only at h
  split at h
  · rename_i a b c d
    obtain ⟨hb, hc, hd, ⟨m, n, h1, h2, h3, h4, hmn⟩, q⟩ := h
    refine ⟨rfl, ?_⟩
    have k1 : mulOk a d := mulOk_of m n h1 h4 (by omega)
    have k3 : mulOk b c := mulOk_of m n h2 h3 (by omega)
    have k4 : 0 < b * c := Int.mul_pos hb hc
    have k5 : (b * c).natAbs < 2 ^ 9000 := Nat.lt_of_lt_of_le (natAbs_mul_lt h2 h3) (Nat.pow_le_pow_right (by omega) hmn)
    have k6 := over_frac (a := a) (c := c) hb hc hd
    simp only [Rat.intCast_mul] at k6
    simp [b_over, hn, sp_ratio, k1, k3, k4, k5, -Nat.reducePow]
    rw [k6]; exact q
  · exact h.elim
theorem w_below {Φ : Ctx} {N : List Str} (hn : N.length = 2) (ds : List D) (Q : D → Prop) (h : sp_below.run ds Q) : ds.length = 2 ∧ wSs Φ b_below (ent N ds) { nx := fun _ => Q .non, rt := fun d _ => Q d } := by
  unfold sp_below at h
  simp only at h
  split at h
  · rename_i a b c d
    obtain ⟨hb, hd, ⟨m, n, h1, h2, h3, h4, hmn⟩, q⟩ := h
    refine ⟨rfl, ?_⟩
    have k1 : mulOk a d := mulOk_of m n h1 h4 (by omega)
    have k2 : mulOk c b := mulOk_of n m h3 h2 (by omega)
    simp [b_below, hn, k1, k2]
    have e : decide (a * d < c * b) = decide ((a : Rat) / b < (c : Rat) / d) := decide_eq_decide.mpr (lt_frac hb hd)
    rw [e]; exact q
  · exact h.elim
/-- in terms of ratios -/
theorem div_num_den (q : Rat) : ((q.num : Rat) / ((q.den : Int) : Rat)) = q := by
  rw [← Rat.divInt_eq_div]; exact Rat.num_divInt_den q
theorem run_plus {p q : Rat} {m n : Nat} {Q : D → Prop} (h1 : Fb m p) (h2 : Fb n q) (h : m + n ≤ 9000) (k : Q (fr (p + q))) : sp_plus.run [fr p, fr q] Q := by
  refine ⟨by have := p.den_pos; omega, by have := q.den_pos; omega, ⟨m, n, h1.1, by simpa using h1.2, h2.1, by simpa using h2.2, h⟩, ?_⟩
  rw [div_num_den, div_num_den]; exact k
theorem run_times {p q : Rat} {m n : Nat} {Q : D → Prop} (h1 : Fb m p) (h2 : Fb n q) (h : m + n ≤ 9000) (k : Q (fr (p * q))) : sp_times.run [fr p, fr q] Q := by
  refine ⟨by have := p.den_pos; omega, by have := q.den_pos; omega, ⟨m, n, h1.1, by simpa using h1.2, h2.1, by simpa using h2.2, h⟩, ?_⟩
  rw [div_num_den, div_num_den]; exact k
theorem run_below {p q : Rat} {m n : Nat} {Q : D → Prop} (h1 : Fb m p) (h2 : Fb n q) (h : m + n ≤ 9000) (k : Q (.bl (decide (p < q)))) : sp_below.run [fr p, fr q] Q := by
  refine ⟨by have := p.den_pos; omega, by have := q.den_pos; omega, ⟨m, n, h1.1, by simpa using h1.2, h2.1, by simpa using h2.2, h⟩, ?_⟩
  rw [div_num_den, div_num_den]; exact k
theorem Fb_add {p q : Rat} {m n : Nat} (h1 : Fb m p) (h2 : Fb n q) : Fb (m + n + 1) (p + q) := by
  have hp : 0 < (p.den : Int) := by have := p.den_pos; omega
  have hq : 0 < (q.den : Int) := by have := q.den_pos; omega
  have e := add_frac (a := p.num) (c := q.num) hp hq
  rw [div_num_den, div_num_den] at e
  rw [← e]
  have a1 : (p.den : Int).natAbs < 2 ^ m := by simpa using h1.2
  have a2 : (q.den : Int).natAbs < 2 ^ n := by simpa using h2.2
  refine Fb_div (Int.mul_pos hp hq) (natAbs_add_lt (natAbs_mul_lt h1.1 a2) ?_) (Nat.lt_of_lt_of_le (natAbs_mul_lt a1 a2) (Nat.pow_le_pow_right (by omega) (by omega)))
  have := natAbs_mul_lt h2.1 a1
  rwa [Nat.add_comm n m] at this
theorem Fb_mul {p q : Rat} {m n : Nat} (h1 : Fb m p) (h2 : Fb n q) : Fb (m + n) (p * q) := by
  have hp : 0 < (p.den : Int) := by have := p.den_pos; omega
  have hq : 0 < (q.den : Int) := by have := q.den_pos; omega
  have e := mul_frac (a := p.num) (c := q.num) hp hq
  rw [div_num_den, div_num_den] at e
  rw [← e]
  have a1 : (p.den : Int).natAbs < 2 ^ m := by simpa using h1.2
  have a2 : (q.den : Int).natAbs < 2 ^ n := by simpa using h2.2
  exact Fb_div (Int.mul_pos hp hq) (natAbs_mul_lt h1.1 h2.1) (natAbs_mul_lt a1 a2)
theorem Fb_zero : Fb 1 0 := by constructor <;> decide
end PL
set_option Elab.async false
set_option linter.all false
set_option maxRecDepth 100000
set_option maxHeartbeats 1000000
set_option exponentiation.threshold 20000
namespace PL
open PySem
theorem compW_map {α : Type} {step : D → Env → (Option D → Env → Prop) → Prop} {ok : Env → Prop} {k : List D → Env → Prop} (P : Env → Prop) (g f : α → D) (hok : ∀ ρ, P ρ → ok ρ) : ∀ {xs : List α} {ρ : Env} {acc : List D},
    (∀ x ∈ xs, ∀ ρ K, P ρ → (∀ ρ', P ρ' → K (some (f x)) ρ') → step (g x) ρ K) → P ρ → (∀ ρ', P ρ' → k (acc ++ xs.map f) ρ') → compW step ok (xs.map g) ρ acc k
  | [], ρ, acc, _, hp, hk => by rw [List.map_nil, compW]; exact ⟨hok ρ hp, by simpa using hk ρ hp⟩
  | d :: ds, ρ, acc, hs, hp, hk => by
    rw [List.map_cons, compW]
    refine ⟨hok ρ hp, hs d (by simp) ρ _ hp fun ρ' hp' => ?_⟩
    exact compW_map P g f hok (fun e he => hs e (by simp [he])) hp' fun ρ'' h => by simpa using hk ρ'' h
theorem compW_filter {α : Type} {step : D → Env → (Option D → Env → Prop) → Prop} {ok : Env → Prop} {k : List D → Env → Prop} (P : Env → Prop) (g : α → D) (f : α → Option D) (hok : ∀ ρ, P ρ → ok ρ) : ∀ {xs : List α} {ρ : Env} {acc : List D},
    (∀ x ∈ xs, ∀ ρ K, P ρ → (∀ ρ', P ρ' → K (f x) ρ') → step (g x) ρ K) → P ρ → (∀ ρ', P ρ' → k (acc ++ xs.filterMap f) ρ') → compW step ok (xs.map g) ρ acc k
  | [], ρ, acc, _, hp, hk => by rw [List.map_nil, compW]; exact ⟨hok ρ hp, by simpa using hk ρ hp⟩
  | d :: ds, ρ, acc, hs, hp, hk => by
    rw [List.map_cons, compW]
    refine ⟨hok ρ hp, hs d (by simp) ρ _ hp fun ρ' hp' => ?_⟩
    refine compW_filter P g f hok (fun e he => hs e (by simp [he])) hp' fun ρ'' h => ?_
    have := hk ρ'' h
    cases e : f d <;> simpa [List.filterMap_cons, e] using this
mutual
def evens {α : Type} : List α → List α
  | [] => [] | x :: xs => x :: odds xs
def odds {α : Type} : List α → List α
  | [] => [] | _ :: xs => evens xs
end
mutual
theorem evens_get {α : Type} : ∀ (xs : List α) (k : Nat), (evens xs)[k]? = xs[2 * k]?
  | [], k => by simp [evens]
  | x :: xs, 0 => by simp [evens]
  | x :: xs, k + 1 => by
    rw [evens, List.getElem?_cons_succ, odds_get xs k]
    have : 2 * (k + 1) = 2 * k + 1 + 1 := by omega
    rw [this, List.getElem?_cons_succ]
theorem odds_get {α : Type} : ∀ (xs : List α) (k : Nat), (odds xs)[k]? = xs[2 * k + 1]?
  | [], k => by simp [odds]
  | x :: xs, k => by rw [odds, evens_get xs k, List.getElem?_cons_succ]
end
mutual
theorem evens_len {α : Type} : ∀ (xs : List α), (evens xs).length = (xs.length + 1) / 2
  | [] => by simp [evens]
  | x :: xs => by rw [evens, List.length_cons, odds_len xs, List.length_cons]; omega
theorem odds_len {α : Type} : ∀ (xs : List α), (odds xs).length = xs.length / 2
  | [] => by simp [odds]
  | x :: xs => by rw [odds, evens_len xs, List.length_cons]
end
mutual
theorem evens_map {α β : Type} (f : α → β) : ∀ (xs : List α), evens (xs.map f) = (evens xs).map f
  | [] => by simp [evens]
  | x :: xs => by rw [List.map_cons, evens, evens, List.map_cons, odds_map f xs]
theorem odds_map {α β : Type} (f : α → β) : ∀ (xs : List α), odds (xs.map f) = (odds xs).map f
  | [] => by simp [odds]
  | x :: xs => by rw [List.map_cons, odds, odds, evens_map f xs]
end
theorem fm_congr {α β : Type} {f g : α → Option β} : ∀ {l : List α}, (∀ x ∈ l, f x = g x) → l.filterMap f = l.filterMap g
  | [], _ => rfl
  | x :: l, h => by
    rw [List.filterMap_cons, List.filterMap_cons, h x (by simp), fm_congr fun y hy => h y (by simp [hy])]
theorem range_pick {α : Type} : ∀ (l : List α), ((List.range l.length).filterMap fun k => l[k]?) = l
  | [] => rfl
  | x :: l => by
    rw [List.length_cons, List.range_succ_eq_map, List.filterMap_cons_some (b := x) (by simp), List.filterMap_map]
    congr 1
    exact range_pick l
theorem pick_evens {α : Type} (xs : List α) : pickL xs none none (some 2) = evens xs := by
  unfold pickL sliceBounds sliceRange
  simp only [Option.getD_some]
  by_cases h : xs = []
  · subst h; simp [evens]
  · have hl : 0 < xs.length := List.length_pos_iff.mpr h
    have e : (if (0 : Int) < (xs.length : Int) then ((xs.length : Int) - 0 + 2 - 1) / 2 else 0).toNat = (evens xs).length := by
      rw [if_pos (by omega), evens_len]; omega
    have h2 : ((2 : Int) > 0) := by omega
    simp only [h2, if_true, e, List.filterMap_map]
    have := range_pick (evens xs)
    conv => rhs; rw [← this]
    apply fm_congr
    intro k _
    rw [evens_get]
    show xs[(0 + 2 * (k : Int)).toNat]? = _
    congr 1; omega
theorem pick_odds {α : Type} (xs : List α) : pickL xs (some 1) none (some 2) = odds xs := by
  unfold pickL sliceBounds sliceRange
  simp only [Option.getD_some]
  have h2 : ((2 : Int) > 0) := by omega
  have h1 : ¬ ((1 : Int) < 0) := by omega
  simp only [h2, h1, if_true, if_false]
  by_cases h : xs.length ≤ 1
  · have hm : max (0 : Int) (min 1 (xs.length : Int)) = xs.length := by omega
    rw [hm]
    have : (odds xs).length = 0 := by rw [odds_len]; omega
    have : odds xs = [] := List.eq_nil_of_length_eq_zero this
    rw [this]; simp
  · have hm : max (0 : Int) (min 1 (xs.length : Int)) = 1 := by omega
    rw [hm]
    have e : (if (1 : Int) < (xs.length : Int) then ((xs.length : Int) - 1 + 2 - 1) / 2 else 0).toNat = (odds xs).length := by
      rw [if_pos (by omega), odds_len]; omega
    rw [e, List.filterMap_map]
    have := range_pick (odds xs)
    conv => rhs; rw [← this]
    apply fm_congr
    intro k _
    rw [odds_get]
    show xs[(1 + 2 * (k : Int)).toNat]? = _
    congr 1; omega
def pairs : List Rat → List Rat
  | a :: b :: r => (a + b) :: pairs r
  | r => r
theorem pairs_sum : ∀ qs, (pairs qs).sum = qs.sum
  | [] => rfl
  | [a] => rfl
  | a :: b :: r => by rw [pairs, List.sum_cons, pairs_sum r, List.sum_cons, List.sum_cons]; grind
theorem pairs_len : ∀ qs, (pairs qs).length = (qs.length + 1) / 2
  | [] => by simp [pairs]
  | [a] => by simp [pairs]
  | a :: b :: r => by rw [pairs, List.length_cons, pairs_len r]; simp; omega
/-- sizes of the parts, so that all together stay below -/
inductive Szs : List Rat → Nat → Prop where
  | nil : Szs [] 0
  | cons {q : Rat} {qs : List Rat} {n m : Nat} : Fb n q → Szs qs m → Szs (q :: qs) (n + 1 + m)
theorem Szs.pairs : ∀ {qs : List Rat} {m : Nat}, Szs qs m → Szs (PL.pairs qs) m
  | [], _, h => h
  | [_], _, h => h
  | a :: b :: r, _, .cons (n := n) h1 (.cons (n := n2) (m := m) h2 t) => by
    have := Szs.cons (Fb_add h1 h2) t.pairs
    have e : n + 1 + (n2 + 1 + m) = n + n2 + 1 + 1 + m := by omega
    rw [e]; exact this
def tops : List Rat → List Rat
  | a :: b :: r => (a + b) :: tops r
  | _ => []
theorem tops_zip : ∀ qs : List Rat, zipD ((evens qs).map fr) ((odds qs).map fr) = (List.zip (evens qs) (odds qs)).map fun p => D.tup [fr p.1, fr p.2]
  | qs => by
    generalize evens qs = xs
    generalize odds qs = ys
    induction xs generalizing ys with
    | nil => simp
    | cons x xs ih => cases ys with | nil => simp | cons y ys => simp [ih]
theorem zip_tops : ∀ qs : List Rat, (List.zip (evens qs) (odds qs)).map (fun p => p.1 + p.2) = tops qs
  | [] => by simp [evens, odds, tops]
  | [a] => by simp [evens, odds, tops]
  | a :: b :: r => by simp only [evens, odds, tops, List.zip_cons_cons, List.map_cons, zip_tops r]
theorem tops_pairs : ∀ qs : List Rat, tops qs ++ (if qs.length % 2 = 1 then qs.drop (qs.length - 1) else []) = pairs qs
  | [] => rfl
  | [a] => rfl
  | a :: b :: r => by
    have ih := tops_pairs r
    rw [tops, pairs, List.cons_append, ← ih]
    congr 2
    have e1 : (a :: b :: r).length % 2 = r.length % 2 := by simp; omega
    rw [e1]
    split
    · rename_i h
      have : (a :: b :: r).length - 1 = (r.length - 1) + 1 + 1 := by simp; omega
      rw [this]; rfl
    · rfl
theorem zip_szs : ∀ {qs : List Rat} {m : Nat}, Szs qs m → ∀ p ∈ List.zip (evens qs) (odds qs), ∃ a b, Fb a p.1 ∧ Fb b p.2 ∧ a + b ≤ m
  | [], _, _, p, h => by simp [evens, odds] at h
  | [_], _, _, p, h => by simp [evens, odds] at h
  | x :: y :: r, _, .cons (n := n) h1 (.cons (n := n2) (m := m) h2 t), p, h => by
    simp only [evens, odds, List.zip_cons_cons, List.mem_cons] at h
    rcases h with rfl | h
    · exact ⟨n, n2, h1, h2, by omega⟩
    · obtain ⟨a, b, ha, hb, hl⟩ := zip_szs t p h
      exact ⟨a, b, ha, hb, by omega⟩
end PL
set_option Elab.async false
set_option linter.all false
set_option maxRecDepth 100000
set_option maxHeartbeats 1000000
set_option exponentiation.threshold 20000
namespace PL
open PySem
theorem Szs.app {xs ys : List Rat} {m n : Nat} (h : Szs xs m) (h2 : Szs ys n) : Szs (xs ++ ys) (m + n) := by
  induction h with
  | nil => simpa using h2
  | cons a t ih => rw [List.cons_append, Nat.add_assoc]; exact .cons a ih
theorem Szs.len {xs : List Rat} {m : Nat} (h : Szs xs m) : xs.length ≤ m := by
  induction h with
  | nil => simp
  | cons a t ih => simp; omega
theorem Szs.head {x : Rat} {m : Nat} (h : Szs [x] m) : Fb m x := by
  cases h with | cons a t => exact a.mono (by omega)
def sp_total : FSp := ⟨fun ds Q => ∃ d xs qs m, ds = [d] ∧ seq? d = some xs ∧ xs = qs.map fr ∧ Szs qs m ∧ m + 2 ≤ 9000 ∧ Q (fr qs.sum), fun ds Q Q' h w => by
  obtain ⟨d, xs, qs, m, a1, a2, a3, a4, a5, q⟩ := w
  exact ⟨d, xs, qs, m, a1, a2, a3, a4, a5, h _ q⟩⟩
@[reducible] def x_total (plus nought pair : Str) : Ctx := ⟨[(plus, sp_plus)], [], [(nought, .tup [.int 0, .int 1]), (pair, .int 2)]⟩
def b_total : List S := [.set 1 (.star (.var 0) [(.glo 0)]),
  .whl (.cmp .gt (.bi .len [(.var 1)]) (.int 1)) [.set 2 (.ite (.cmp .eq (.bin .mod (.bi .len [(.var 1)]) (.glo 1)) (.int 1)) (.sl1 (.var 1) (.neg (.int 1))) (.lst [])), .set 1 (.bin .add (.comp [3, 4] (.tp [(.nm 3), (.nm 4)]) .zip [(.st1 (.var 1) (.glo 1)), (.st2 (.var 1) (.int 1) (.glo 1))] (.call 0 [(.var 3), (.var 4)])) (.var 2))],
  .ret (.idx (.var 1) (.int 0))]
theorem sz9 : (9002 : Nat) ≤ sizeLine := by decide +kernel
theorem cut_last {α : Type} (xs : List α) (h : xs ≠ []) : cutD xs (some (-1)) none = xs.drop (xs.length - 1) := by
  unfold cutD HT.sIx
  have : 0 < xs.length := List.length_pos_iff.mpr h
  have e : (-1 + (xs.length : Int)).toNat = xs.length - 1 := by omega
  simp only [if_pos (by omega : (-1 : Int) < 0), e]
  rw [List.take_of_length_le]
  simp
theorem w_total {plus nought pair : Str} {N : List Str} (hn : N.length = 5) (ds : List D) (Q : D → Prop) (h : sp_total.run ds Q) : ds.length = 1 ∧ wSs (x_total plus nought pair) b_total (ent N ds) { nx := fun _ => Q .non, rt := fun d _ => Q d } := by
  obtain ⟨d, xs, qs, m, rfl, hd, rfl, hz, hm, q⟩ := h
  refine ⟨rfl, ?_⟩
  have hl := hz.len
  have s9 := sz9
  simp [b_total, hn, hd, -seq?]
  refine ⟨by omega, ?_⟩
  rw [wS]
  refine ⟨fun k ρ => ∃ (ps : List Rat) (o : VE), ρ = [.sh d, .own (.lst (ps.map fr)), o, .un, .un] ∧ (o = .un ∨ ∃ c, o = .own c) ∧ k = ps.length ∧ ps ≠ [] ∧ Szs ps (m + 2) ∧ ps.sum = qs.sum,
    ⟨_, qs ++ [0], .un, by simp, .inl rfl, rfl, by simp, by simpa using hz.app (.cons Fb_zero .nil), by simp [Rat.add_zero]⟩, ?_⟩
  rintro k ρ ⟨ps, o, rfl, ho, rfl, hne, hs, hsum⟩
  have hlp := hs.len
  have hpos := List.length_pos_iff.mpr hne
  simp
  refine ⟨fun h1 => ?_, fun h1 => ?_⟩
  · have key : ∀ (odd : List Rat), odd = (if ps.length % 2 = 1 then ps.drop (ps.length - 1) else []) →
      wSs (x_total plus nought pair) [.set 1 (.bin .add (.comp [3, 4] (.tp [(.nm 3), (.nm 4)]) .zip [(.st1 (.var 1) (.glo 1)), (.st2 (.var 1) (.int 1) (.glo 1))] (.call 0 [(.var 3), (.var 4)])) (.var 2))] [.sh d, .own (.lst (ps.map fr)), .own (.lst (odd.map fr)), .un, .un]
       { nx := fun ρ2 => ∃ m', m' < ps.length ∧ ∃ ps_1 o, ρ2 = [VE.sh d, VE.own (D.lst (List.map fr ps_1)), o, VE.un, VE.un] ∧ (o = VE.un ∨ ∃ c, o = VE.own c) ∧ m' = ps_1.length ∧ ps_1 ≠ [] ∧ Szs ps_1 (m + 2) ∧ ps_1.sum = qs.sum, rt := fun d x => Q d, bk := fun ρ' => wSs (x_total plus nought pair) [.ret (.idx (.var 1) (.int 0))] ρ' { nx := fun _ => Q .non, rt := fun d _ => Q d } } := by
      intro odd hodd
      simp [pick_evens, pick_odds, evens_map, odds_map, evens_len, odds_len]
      have h5 : (zipD (List.map fr (evens ps)) (List.map fr (odds ps))).length ≤ sizeLine := by
        rw [zipD_len]; simp [evens_len, odds_len]; omega
      refine ⟨by omega, by omega, h5, ?_⟩
      rw [tops_zip]
      refine compW_map (fun ρ' => ∃ u v, ρ' = [VE.sh d, VE.own (D.lst (List.map fr ps)), VE.own (D.lst (List.map fr odd)), u, v]) _ (fun p => fr (p.1 + p.2)) (fun _ _ => trivial) ?_ ⟨_, _, rfl⟩ ?_
      · rintro p hp ρ K ⟨u, v, rfl⟩ hK
        obtain ⟨a, b, ha, hb, hab⟩ := zip_szs hs p hp
        simp
        exact run_plus ha hb (by omega) (hK _ ⟨_, _, rfl⟩)
      · rintro ρ' ⟨u, v, rfl⟩
        have e : (List.map (fun p : Rat × Rat => fr (p.1 + p.2)) (List.zip (evens ps) (odds ps))) = (tops ps).map fr := by
          rw [← zip_tops, List.map_map]; rfl
        have e2 := tops_pairs ps
        rw [← hodd] at e2
        have el := congrArg List.length e2
        rw [List.length_append, pairs_len] at el
        rw [e]
        simp
        refine ⟨by omega, (pairs ps).length, by rw [pairs_len]; omega, pairs ps, .own (.lst (odd.map fr)), by simp [← e2], .inr ⟨_, rfl⟩, rfl, ?_, hs.pairs, by rw [pairs_sum]; exact hsum⟩
        intro z
        have := congrArg List.length z
        rw [pairs_len] at this; simp at this; omega
    by_cases hodd : ps.length % 2 = 1
    · have this := key (ps.drop (ps.length - 1)) (by rw [if_pos hodd])
      have h3 : (ps.length : Int).fmod 2 = 1 := by rw [Int.fmod_eq_emod_of_nonneg _ (by omega)]; omega
      rcases ho with rfl | ⟨c, rfl⟩ <;> simpa [h3, cut_last (ps.map fr) (by simpa using hne)] using this
    · have this := key [] (by rw [if_neg hodd])
      have h3 : ¬ (ps.length : Int).fmod 2 = 1 := by rw [Int.fmod_eq_emod_of_nonneg _ (by omega)]; omega
      rcases ho with rfl | ⟨c, rfl⟩ <;> simpa [h3] using this
  · have h1 : ps.length = 1 := by have := List.length_pos_iff.mpr hne; omega
    obtain ⟨p, rfl⟩ := List.length_eq_one_iff.mp h1
    simp [Rat.add_zero] at hsum
    subst hsum
    simpa using q
end PL
set_option Elab.async false
set_option linter.all false
set_option maxRecDepth 100000
set_option maxHeartbeats 1000000
set_option exponentiation.threshold 20000
namespace PL
open PySem
/-! ### the law's pot -/
def PotD (n : Nat) (c : D) : Prop := ∃ own b m : Int, c = .lst [.int own, .int b, .int m] ∧ 0 ≤ own ∧ own.natAbs < 2 ^ 1100 ∧ 0 ≤ b ∧ b.natAbs < 2 ^ 61 ∧ 0 ≤ m ∧ m ≤ n
theorem PotD.mono {m n : Nat} {c : D} (h : PotD m c) (l : m ≤ n) : PotD n c := by
  obtain ⟨o, b, k, h1, h2, h3, h4, h5, h6, h7⟩ := h
  exact ⟨o, b, k, h1, h2, h3, h4, h5, h6, by omega⟩
def sp_take : BSp := ⟨fun c ds Q => match ds with
  | [.int u] => 0 < u ∧ u.natAbs < 2 ^ 1000 ∧ ∃ n, PotD n c ∧ n ≤ 1000000000 ∧ ∀ v c', 0 ≤ v → v < u → PotD (n + 1) c' → Q (.int v) c'
  | _ => False, fun c ds Q Q' h r => by
  split at r
  · obtain ⟨a, b, n, p, l, q⟩ := r
    exact ⟨a, b, n, p, l, fun v c' h1 h2 h3 => h _ _ (q v c' h1 h2 h3)⟩
  · exact r.elim⟩
def b_take (c1 c2 c3 : Int) : List S := [.ife (.cmp .gt (.idx (.var 0) (.int 0)) (.int 0)) [.set 4 (.bin .mod (.bi .int [(.idx (.var 0) (.int 0))]) (.var 1)), .put 0 (.int 0) (.bin .fdiv (.idx (.var 0) (.int 0)) (.var 1)), .ret (.var 4)] [],
  .put 0 (.int 2) (.bin .add (.idx (.var 0) (.int 2)) (.int 1)),
  .set 2 (.idx (.lst [(.int 2147483647), (.int 2147483629), (.int 2147483587), (.int 2147483579)]) (.bin .mod (.bi .int [(.idx (.var 0) (.int 2))]) (.int 4))),
  .set 3 (.bin .mod (.bi .int [(.bin .pow (.bi .int [(.bin .add (.bin .add (.idx (.var 0) (.int 1)) (.bin .mul (.bin .mul (.int c1) (.idx (.var 0) (.int 2))) (.idx (.var 0) (.int 2)))) (.int c2))]) (.int 3))]) (.var 2)),
  .ret (.bin .mod (.bi .int [(.bin .fdiv (.bin .mul (.var 3) (.bin .add (.bin .mod (.bi .int [(.var 3)]) (.int 10007)) (.bin .mul (.int c3) (.idx (.var 0) (.int 2))))) (.int 307))]) (.var 1))]
theorem powOk_of {i : Int} {n : Nat} (h : i.natAbs < 2 ^ n) (hn : n * 3 ≤ 134217728) : powOk i 3 := by
  refine ⟨by omega, ?_⟩
  unfold Builtin.Int.intBits
  split
  · omega
  · rename_i hi
    have : i ≠ 0 := by simpa using hi
    have : i.natAbs.log2 < n := (Nat.log2_lt (by omega)).mpr h
    omega
open L2 in
theorem ixN_3 {m : Int} (h : m = 0 ∨ m = 1 ∨ m = 2) : ixN 3 m = some m.toNat := by
  rcases h with rfl | rfl | rfl <;> decide
theorem w_take {Φ : Ctx} {c1 c2 c3 : Int} (h1 : 0 ≤ c1 ∧ c1 < 2 ^ 40) (h2 : 0 ≤ c2 ∧ c2 < 2 ^ 40) (h3 : 0 ≤ c3 ∧ c3 < 2 ^ 40) {N : List Str} (hn : N.length = 5) (c : D) (ds : List D) (Q : D → D → Prop) (h : sp_take.run c ds Q) :
    ds.length + 1 = 2 ∧ wSs Φ (b_take c1 c2 c3) (entB N c ds) { nx := fun ρ => ∃ c', ρ[0]? = some (.bor c') ∧ Q .non c', rt := fun d ρ => ∃ c', ρ[0]? = some (.bor c') ∧ Q d c' } := by
  unfold sp_take at h
  simp only at h
  split at h
  · rename_i u
    obtain ⟨u1, u2, n, ⟨own, b, m, rfl, o1, o2, b1, b2, m1, m2⟩, hn9, q⟩ := h
    refine ⟨rfl, ?_⟩
    have k1 : divOk own u := divOk_of (by omega) (Nat.lt_of_lt_of_le u2 (Nat.pow_le_pow_right (by omega) (by omega)))
    have i0 : L2.ixN 3 0 = some 0 := by decide
    have i2 : L2.ixN 3 2 = some 2 := by decide
    have hm : (m + 1).natAbs < 2 ^ 31 := by omega
    have k2 : mulOk c1 (m + 1) := mulOk_of 40 31 (by omega) hm (by omega)
    have k3 : mulOk (c1 * (m + 1)) (m + 1) := mulOk_of 71 31 (natAbs_mul_lt (m := 40) (n := 31) (by omega) hm) hm (by omega)
    have k4 : mulOk c3 (m + 1) := mulOk_of 40 31 (by omega) hm (by omega)
    have big : (b + c1 * (m + 1) * (m + 1) + c2).natAbs < 2 ^ 104 := by
      have a1 : (c1 * (m + 1) * (m + 1)).natAbs < 2 ^ 102 := natAbs_mul_lt (m := 71) (n := 31) (natAbs_mul_lt (m := 40) (n := 31) (by omega) hm) hm
      omega
    have k5 := powOk_of big (by omega)
    have k6 : ∀ z : Int, divOk z 307 := fun z => divOk_of (by omega) (by omega)
    have un : u ≠ 0 := by omega
    simp [b_take, hn, k1, un, i0, i2, k2, k3, k4, k5, k6, -Nat.reducePow, -Int.reducePow]
    have v1 : ∀ z : Int, 0 ≤ z.fmod u := fun z => Int.fmod_nonneg_of_pos z u1
    have v2 : ∀ z : Int, z.fmod u < u := fun z => Int.fmod_lt_of_pos z u1
    refine ⟨fun h => q _ _ (v1 _) (v2 _) ⟨_, _, _, rfl, ?_, ?_, b1, b2, m1, by omega⟩, fun h => ⟨Nat.le_trans (by decide) szl, ?_⟩⟩
    · rw [Int.fdiv_eq_ediv_of_nonneg _ (by omega)]; exact Int.ediv_nonneg o1 (by omega)
    · rw [Int.fdiv_eq_ediv_of_nonneg _ (by omega)]
      exact Nat.lt_of_le_of_lt (Int.natAbs_ediv_le_natAbs _ _) o2
    · have m4a : 0 ≤ (m + 1).fmod 4 := Int.fmod_nonneg_of_pos _ (by omega)
      have m4b : (m + 1).fmod 4 < 4 := Int.fmod_lt_of_pos _ (by omega)
      generalize hx : (m + 1).fmod 4 = x at *
      have fin : ∀ p : Int, 0 < p → p < 2 ^ 31 → ∀ y : Int, (0 ≤ y ∧ y < p) → mulOk y (y.fmod 10007 + c3 * (m + 1)) := fun p p1 p2 y hy => by
        have a0 : 0 ≤ y.fmod 10007 := Int.fmod_nonneg_of_pos _ (by omega)
        have a1 : y.fmod 10007 < 10007 := Int.fmod_lt_of_pos _ (by omega)
        have a2 : (c3 * (m + 1)).natAbs < 2 ^ 71 := natAbs_mul_lt (m := 40) (n := 31) (by omega) hm
        exact mulOk_of 31 72 (by omega) (by omega) (by omega)
      obtain rfl | rfl | rfl | rfl : x = 0 ∨ x = 1 ∨ x = 2 ∨ x = 3 := by omega
      all_goals
        simp [-Nat.reducePow, -Int.reducePow, hn, i2, k4, k6, un]
        refine ⟨fin _ (by omega) ?_ _ ⟨Int.fmod_nonneg_of_pos _ (by omega), Int.fmod_lt_of_pos _ (by omega)⟩, q _ _ (v1 _) (v2 _) ⟨_, _, _, rfl, o1, o2, b1, b2, by omega, by omega⟩⟩
        decide
  · exact h.elim
end PL
set_option Elab.async false
set_option linter.all false
set_option maxRecDepth 100000
set_option maxHeartbeats 1000000
set_option exponentiation.threshold 20000
namespace PL
open PySem
/-! ### loops by their invariant -/
theorem forW_list {α : Type} {step : D → Env → (Env → Prop) → Prop} {k : Env → Prop} (I : List α → Env → Prop) (g : α → D) : ∀ {xs : List α} {ρ : Env}, I xs ρ →
    (∀ x r ρ K, (∃ pre, xs = pre ++ x :: r) → I (x :: r) ρ → (∀ ρ', I r ρ' → K ρ') → step (g x) ρ K) → (∀ ρ, I [] ρ → k ρ) → forW step (xs.map g) ρ k
  | [], ρ, hi, _, hk => by rw [List.map_nil, forW]; exact hk ρ hi
  | x :: xs, ρ, hi, hs, hk => by
    rw [List.map_cons, forW]
    refine hs x xs ρ _ ⟨[], rfl⟩ hi fun ρ' hi' => ?_
    exact forW_list I g hi' (fun y r ρ K ⟨pre, e⟩ h1 h2 => hs y r ρ K ⟨x :: pre, by rw [e]; rfl⟩ h1 h2) hk
theorem rangeD_map : ∀ (n : Nat) (lo : Int), rangeD lo n = (List.range n).map fun i : Nat => D.int (lo + i) := fun n lo => rgD n lo
theorem forW_range {step : D → Env → (Env → Prop) → Prop} {k : Env → Prop} (I : Nat → Env → Prop) : ∀ {n : Nat} {lo : Int} {ρ : Env}, I 0 ρ →
    (∀ i ρ K, i < n → I i ρ → (∀ ρ', I (i + 1) ρ' → K ρ') → step (.int (lo + i)) ρ K) → (∀ ρ, I n ρ → k ρ) → forW step (rangeD lo n) ρ k
  | 0, lo, ρ, hi, _, hk => by rw [rangeD, forW]; exact hk ρ hi
  | n + 1, lo, ρ, hi, hs, hk => by
    rw [rangeD, forW]
    have h0 := hs 0 ρ (fun ρ' => forW step (rangeD (lo + 1) n) ρ' k) (by omega) hi (fun ρ' hi' => ?_)
    · simp only [Int.natCast_zero, Int.add_zero] at h0
      exact h0
    refine forW_range (fun i => I (i + 1)) hi' (fun i ρ K hl h1 h2 => ?_) hk
    have := hs (i + 1) ρ K (by omega) h1 h2
    have e : lo + ((i + 1 : Nat) : Int) = lo + 1 + i := by omega
    rw [e] at this; exact this
theorem compW_range {step : D → Env → (Option D → Env → Prop) → Prop} {ok : Env → Prop} {k : List D → Env → Prop} (I : Nat → List D → Env → Prop) : ∀ {n : Nat} {lo : Int} {ρ : Env} {acc : List D}, (∀ i a ρ, i ≤ n → I i a ρ → ok ρ) → I 0 acc ρ →
    (∀ i a ρ K, i < n → I i a ρ → (∀ r ρ', I (i + 1) (match r with | some x => a ++ [x] | none => a) ρ' → K r ρ') → step (.int (lo + i)) ρ K) → (∀ a ρ, I n a ρ → k a ρ) → compW step ok (rangeD lo n) ρ acc k
  | 0, lo, ρ, acc, ho, hi, _, hk => by rw [rangeD, compW]; exact ⟨ho 0 _ _ (by omega) hi, hk _ ρ hi⟩
  | n + 1, lo, ρ, acc, ho, hi, hs, hk => by
    rw [rangeD, compW]
    have h0 := hs 0 _ ρ (fun r ρ' => compW step ok (rangeD (lo + 1) n) ρ' (match r with | some x => acc ++ [x] | none => acc) k) (by omega) hi (fun r ρ' hi' => ?_)
    · simp only [Int.natCast_zero, Int.add_zero] at h0
      exact ⟨ho 0 _ _ (by omega) hi, h0⟩
    refine compW_range (fun i => I (i + 1)) (fun i a ρ hl => ho (i + 1) a ρ (by omega)) hi' (fun i a ρ K hl h1 h2 => ?_) hk
    have := hs (i + 1) a ρ K (by omega) h1 h2
    have e : lo + ((i + 1 : Nat) : Int) = lo + 1 + i := by omega
    rw [e] at this; exact this
theorem erase_perm {α : Type} : ∀ (l : List α) (j : Nat) (h : j < l.length), (l[j] :: l.eraseIdx j).Perm l
  | x :: l, 0, _ => by simp
  | x :: l, j + 1, h => by
    simp only [List.getElem_cons_succ, List.eraseIdx_cons_succ]
    exact (List.Perm.swap x _ _).trans ((erase_perm l j (by simpa using h)).cons x)
/-! ### picked ones -/
def sp_of : BSp := ⟨fun c ds Q => ∃ d xs n, ds = [d] ∧ seq? d = some xs ∧ PotD n c ∧ n < 1000000000 ∧ 0 < xs.length ∧ xs.length < 1000000 ∧ ∀ x c', x ∈ xs → PotD (n + 1) c' → Q x c', fun c ds Q Q' h r => by
  obtain ⟨d, xs, n, a1, a2, a3, a4, a5, a6, q⟩ := r
  exact ⟨d, xs, n, a1, a2, a3, a4, a5, a6, fun x c' h1 h2 => h _ _ (q x c' h1 h2)⟩⟩
def b_of : List S := [.ret (.idx (.var 1) (.callB 0 0 [(.bi .len [(.var 1)])]))]
@[reducible] def x_take (nm : Str) : Ctx := ⟨[], [(nm, sp_take)], []⟩
theorem take_run {c : D} {u : Int} {n : Nat} {Q : D → D → Prop} (h : PotD n c) (hn : n ≤ 1000000000) (h1 : 0 < u) (h2 : u < 2 ^ 1000) (q : ∀ v c', 0 ≤ v → v < u → PotD (n + 1) c' → Q (.int v) c') : sp_take.run c [.int u] Q :=
  ⟨h1, by omega, n, h, hn, q⟩
theorem w_of {nm : Str} {N : List Str} (hn : N.length = 2) (c : D) (ds : List D) (Q : D → D → Prop) (h : sp_of.run c ds Q) :
    ds.length + 1 = 2 ∧ wSs (x_take nm) b_of (entB N c ds) { nx := fun ρ => ∃ c', ρ[0]? = some (.bor c') ∧ Q .non c', rt := fun d ρ => ∃ c', ρ[0]? = some (.bor c') ∧ Q d c' } := by
  obtain ⟨d, xs, n, rfl, hd, hp, hl, h0, h1, q⟩ := h
  refine ⟨rfl, ?_⟩
  have big : (1000000 : Int) < 2 ^ 1000 := by decide
  have fin : ∀ (v : Int) (c' : D), 0 ≤ v → v < (xs.length : Int) → PotD (n + 1) c' → ∃ d, L2.atI xs v = some d ∧ Q d c' := fun v c' v0 v1 hp' => by
    obtain ⟨i, rfl⟩ := Int.eq_ofNat_of_zero_le v0
    have hi : i < xs.length := by omega
    exact ⟨xs[i], by rw [atI_nat, List.getElem?_eq_getElem hi], q _ _ (List.getElem_mem hi) hp'⟩
  cases d <;> simp [seq?] at hd <;> subst hd <;> simp [b_of, hn]
  · refine take_run hp (by omega) (by omega) (by omega) fun v c' v0 v1 hp' => ?_
    simpa using fin v c' v0 v1 hp'
  · refine take_run hp (by omega) (by omega) (by omega) fun v c' v0 v1 hp' => ?_
    simpa using fin v c' v0 v1 hp'
def sp_some : BSp := ⟨fun c ds Q => ∃ (d : D) (xs : List D) (n m : Nat), ds = [d, .int (m : Int)] ∧ seq? d = some xs ∧ PotD n c ∧ m ≤ xs.length ∧ xs.length < 1000000 ∧ n + m < 1000000000 ∧ ∀ ys c', ys.length = m → (∃ r, (ys ++ r).Perm xs) → PotD (n + m) c' → Q (.lst ys) c', fun c ds Q Q' h r => by
  obtain ⟨d, xs, n, m, a1, a2, a3, a4, a5, a6, q⟩ := r
  exact ⟨d, xs, n, m, a1, a2, a3, a4, a5, a6, fun x c' h1 h2 h3 => h _ _ (q x c' h1 h2 h3)⟩⟩
def b_some : List S := [.par [4, 5] [(.bi .list [(.var 1)]), (.lst [])],
  .for (.nm 3) .r1 [(.var 2)] [.app 5 (.pop 4 (.callB 0 0 [(.bi .len [(.var 4)])]))],
  .ret (.var 5)]
theorem szM : (2000000 : Nat) ≤ sizeLine := by decide +kernel
theorem w_some {nm : Str} {N : List Str} (hn : N.length = 6) (c : D) (ds : List D) (Q : D → D → Prop) (h : sp_some.run c ds Q) :
    ds.length + 1 = 3 ∧ wSs (x_take nm) b_some (entB N c ds) { nx := fun ρ => ∃ c', ρ[0]? = some (.bor c') ∧ Q .non c', rt := fun d ρ => ∃ c', ρ[0]? = some (.bor c') ∧ Q d c' } := by
  obtain ⟨d, xs, n, m, rfl, hd, hp, hm, h1, hnm, q⟩ := h
  refine ⟨rfl, ?_⟩
  have big : (1000000 : Int) < 2 ^ 1000 := by decide
  have sz := szM
  have sm : small (m : Int) := ⟨by omega, by omega⟩
  have core : ∀ d0 : D, wSs (x_take nm) [.for (.nm 3) .r1 [(.var 2)] [.app 5 (.pop 4 (.callB 0 0 [(.bi .len [(.var 4)])]))], .ret (.var 5)] [.bor c, .sh d0, .sh (.int m), .un, .own (.lst xs), .own (.lst [])] { nx := fun ρ => ∃ c', ρ[0]? = some (.bor c') ∧ Q .non c', rt := fun d ρ => ∃ c', ρ[0]? = some (.bor c') ∧ Q d c' } := by
    intro d0
    simp [sm]
    refine forW_range (fun i ρ => ∃ c' t left found, ρ = [.bor c', .sh d0, .sh (.int m), t, .own (.lst left), .own (.lst found)] ∧ (t = .un ∨ ∃ d, t = .sh d) ∧ PotD (n + i) c' ∧ found.length = i ∧ (found ++ left).Perm xs) ⟨c, .un, xs, [], rfl, .inl rfl, hp, rfl, by simp⟩ ?_ ?_
    · rintro i ρ K hi ⟨c', t, left, found, rfl, ht, hp', hf, hperm⟩ hK
      have hlen := hperm.length_eq
      rw [List.length_append] at hlen
      have step : ∀ t : VE, (t = .un ∨ ∃ d, t = .sh d) → K = K → True := fun _ _ _ => trivial
      rcases ht with rfl | ⟨d', rfl⟩
      all_goals
        simp
        refine take_run hp' (by omega) (by omega) (by omega) fun v c'' v0 v1 hp'' => ?_
        obtain ⟨j, rfl⟩ := Int.eq_ofNat_of_zero_le v0
        have hj : j < left.length := by omega
        simp
        refine ⟨by omega, _, List.getElem?_eq_getElem hj, by omega, hK _ ⟨c'', _, left.eraseIdx j, found ++ [left[j]], rfl, .inr ⟨_, rfl⟩, by rw [← Nat.add_assoc]; exact hp'', by simp [hf], ?_⟩⟩
        refine List.Perm.trans ?_ hperm
        rw [List.append_assoc]
        refine List.Perm.append_left found ?_
        simpa using erase_perm left j hj
    · rintro ρ ⟨c', t, left, found, rfl, ht, hp', hf, hperm⟩
      simp
      exact q found c' hf ⟨left, hperm⟩ hp'
  cases d <;> simp [seq?] at hd <;> subst hd
  · simp [b_some, hn]
    refine ⟨by omega, ?_⟩
    simpa using core _
  · simp [b_some, hn]
    refine ⟨by omega, ?_⟩
    simpa using core _
end PL
set_option Elab.async false
set_option linter.all false
set_option maxRecDepth 100000
set_option maxHeartbeats 1000000
set_option exponentiation.threshold 20000
namespace PL
open PySem
theorem cutD_map {α β : Type} (f : α → β) (xs : List α) (lo hi : Option Int) : cutD (xs.map f) lo hi = (cutD xs lo hi).map f := by
  unfold cutD
  simp [List.map_take, List.map_drop]
def sp_cells : FSp := ⟨fun ds Q => ∃ (xs : List D) (m : Nat), ds = [.ro xs, .int (m : Int)] ∧ 0 < m ∧ m < 1000000 ∧ Q (.lst (rangeD 0 (max 1 (min m xs.length)))), fun ds Q Q' h r => by
  obtain ⟨xs, m, a1, a2, a3, q⟩ := r
  exact ⟨xs, m, a1, a2, a3, h _ q⟩⟩
def b_cells : List S := [.ret (.lr1 (.bi .max2 [(.int 1), (.bi .min2 [(.var 1), (.bi .len [(.var 0)])])]))]
theorem w_cells {Φ : Ctx} {N : List Str} (hn : N.length = 2) (ds : List D) (Q : D → Prop) (h : sp_cells.run ds Q) : ds.length = 2 ∧ wSs Φ b_cells (ent N ds) { nx := fun _ => Q .non, rt := fun d _ => Q d } := by
  obtain ⟨xs, m, rfl, h1, h2, q⟩ := h
  refine ⟨rfl, ?_⟩
  have e1 : (if xs.length < m then (xs.length : Int) else m) = ((min m xs.length : Nat) : Int) := by split <;> omega
  have e2 : (if 1 < ((min m xs.length : Nat) : Int) then ((min m xs.length : Nat) : Int) else 1) = ((max 1 (min m xs.length) : Nat) : Int) := by split <;> omega
  simp only [b_cells, ent, hn]
  simp
  rw [e1, e2]
  refine ⟨⟨by omega, by omega, by omega, by omega, by omega⟩, ?_⟩
  simpa using q
def b_pot (a1 a2 a3 a4 a5 : Int) : List S := [.set 2 (.ite (.cmp .lt (.var 1) (.bi .len [(.var 0)])) (.idx (.var 0) (.var 1)) (.bin .add (.bin .add (.bin .mod (.bi .int [(.bi .sum [(.sl2 (.var 0) (.int 1))])]) (.int 1000003)) (.bin .mul (.int a1) (.var 1))) (.int a2))),
  .set 3 (.bin .mul (.bin .mod (.bi .int [(.bi .abs [(.var 2)])]) (.bin .pow (.bin .pow (.int 10) (.int 60)) (.int 5))) (.bi .int [(.cmp .ge (.bi .abs [(.var 2)]) (.bin .pow (.int 10) (.int 18)))])),
  .set 4 (.bin .mod (.bi .int [(.var 2)]) (.int 2305843009213693951)),
  .retN (.lst [(.var 3), (.bin .mod (.bi .int [(.bin .add (.bin .add (.bin .mul (.var 4) (.int a3)) (.bin .mul (.bin .mul (.int a4) (.var 1)) (.var 1))) (.int a5))]) (.int 2305843009213693921)), (.int 0)])]
def sp_pot : BSp := ⟨fun x ds Q => x = .non ∧ ∃ (ns : List Int) (p : Nat), ds = [.ro (ns.map D.int), .int (p : Int)] ∧ p < 1000 ∧ ∀ c, PotD 0 c → Q .non c, fun x ds Q Q' h r => by
  obtain ⟨hx, xs, m, a1, a2, q⟩ := r
  exact ⟨hx, xs, m, a1, a2, fun c hc => h _ _ (q c hc)⟩⟩
theorem w_pot {Φ : Ctx} {a1 a2 a3 a4 a5 : Int} (h1 : 0 ≤ a1 ∧ a1 < 2 ^ 40) (h2 : 0 ≤ a2 ∧ a2 < 2 ^ 40) (h3 : 0 ≤ a3 ∧ a3 < 2 ^ 40) (h4 : 0 ≤ a4 ∧ a4 < 2 ^ 40) (h5 : 0 ≤ a5 ∧ a5 < 2 ^ 40) {N : List Str} (hn : N.length = 5) (ds : List D) (Q : D → D → Prop) (h : sp_pot.run .non ds Q) :
    ds.length = 2 ∧ wSs Φ (b_pot a1 a2 a3 a4 a5) (ent N ds) { nx := fun _ => False, rt := fun _ _ => False, rn := fun c _ => Q .non c } := by
  obtain ⟨_, ns, p, rfl, hp, q⟩ := h
  refine ⟨rfl, ?_⟩
  have sz := szM
  have rest : ∀ cell : Int, wSs Φ [
  .set 3 (.bin .mul (.bin .mod (.bi .int [(.bi .abs [(.var 2)])]) (.bin .pow (.bin .pow (.int 10) (.int 60)) (.int 5))) (.bi .int [(.cmp .ge (.bi .abs [(.var 2)]) (.bin .pow (.int 10) (.int 18)))])),
  .set 4 (.bin .mod (.bi .int [(.var 2)]) (.int 2305843009213693951)),
  .retN (.lst [(.var 3), (.bin .mod (.bi .int [(.bin .add (.bin .add (.bin .mul (.var 4) (.int a3)) (.bin .mul (.bin .mul (.int a4) (.var 1)) (.var 1))) (.int a5))]) (.int 2305843009213693921)), (.int 0)])] [.sh (.ro (ns.map D.int)), .sh (.int p), .sh (.int cell), .un, .un] { nx := fun _ => False, rt := fun _ _ => False, rn := fun c _ => Q .non c } := by
    intro cell
    have p1 : powOk 10 60 := ⟨by omega, by decide +kernel⟩
    have p2 : powOk (10 ^ 60) 5 := ⟨by omega, by decide +kernel⟩
    have p3 : powOk 10 18 := ⟨by omega, by decide +kernel⟩
    have z : ((10 : Int) ^ 60) ^ 5 ≠ 0 := by decide +kernel
    have s1 : 0 ≤ cell.fmod 2305843009213693951 := Int.fmod_nonneg_of_pos _ (by omega)
    have s2 : cell.fmod 2305843009213693951 < 2305843009213693951 := Int.fmod_lt_of_pos _ (by omega)
    have m1 : mulOk (cell.fmod 2305843009213693951) a3 := mulOk_of 62 40 (by omega) (by omega) (by omega)
    have m2 : mulOk a4 p := mulOk_of 40 20 (by omega) (by omega) (by omega)
    have m3 : mulOk (a4 * p) p := mulOk_of 60 20 (natAbs_mul_lt (m := 40) (n := 20) (by omega) (by omega)) (by omega) (by omega)
    have pos : (0 : Int) < (10 ^ 60) ^ 5 := by decide +kernel
    have lt : ((10 : Int) ^ 60) ^ 5 < 2 ^ 1100 := by decide +kernel
    have o1 : ∀ x : Int, 0 ≤ x.fmod ((10 ^ 60) ^ 5) := fun x => Int.fmod_nonneg_of_pos _ pos
    have o2 : ∀ x : Int, (x.fmod ((10 ^ 60) ^ 5)).natAbs < 2 ^ 1100 := fun x => by
      have a := Int.fmod_lt_of_pos x pos
      have b := o1 x
      omega
    have m4 : ∀ (x : Int) (b : Bool), mulOk (x.fmod ((10 ^ 60) ^ 5)) (if b = true then 1 else 0) := fun x b => mulOk_of 1100 1 (o2 x) (by cases b <;> decide) (by omega)
    have m5 : ∀ (x : Int) (P : Prop) [Decidable P], mulOk (x.fmod ((10 ^ 60) ^ 5)) (if P then 1 else 0) := fun x P _ => mulOk_of 1100 1 (o2 x) (by split <;> decide) (by omega)
    have o3 : ∀ (x : Int) (P : Prop) [Decidable P], ((x.fmod ((10 ^ 60) ^ 5)) * (if P then 1 else 0)).natAbs < 2 ^ 1100 := fun x P _ => by
      split
      · rw [Int.mul_one]; exact o2 x
      · rw [Int.mul_zero]; exact Nat.pow_pos (by omega)
    simp [p1, p2, p3, z, m1, m2, m3, m5, -Int.reducePow, -Nat.reducePow]
    refine ⟨by omega, q _ ⟨_, _, _, rfl, ?_, ?_, ?_, ?_, by omega, by omega⟩⟩
    · exact Int.mul_nonneg (o1 _) (by split <;> omega)
    · exact o3 _ _
    · exact Int.fmod_nonneg_of_pos _ (by omega)
    · have := Int.fmod_lt_of_pos (cell.fmod 2305843009213693951 * a3 + a4 * p * p + a5) (b := 2305843009213693921) (by omega)
      have := Int.fmod_nonneg_of_pos (cell.fmod 2305843009213693951 * a3 + a4 * p * p + a5) (b := 2305843009213693921) (by omega)
      omega
  have m0 : mulOk a1 p := mulOk_of 40 20 (by omega) (by omega) (by omega)
  simp [b_pot, hn, m0, cutD_map]
  refine ⟨fun h => ?_, fun h => ?_⟩
  · have hh : p < ns.length := by omega
    simp [List.getElem?_eq_getElem hh]
    have := rest ns[p]
    simpa using this
  · have := rest ((cutD ns none (some 1)).sum.fmod 1000003 + a1 * ↑p + a2)
    simpa using this
def sp_power : FSp := ⟨fun ds Q => ∃ (a : Int) (n : Nat), ds = [.int a, .int (n : Int)] ∧ a.natAbs < 2 ^ 40 ∧ n < 100000 ∧ Q (.int (a ^ n)), fun ds Q Q' h r => by
  obtain ⟨xs, m, a1, a2, a3, q⟩ := r
  exact ⟨xs, m, a1, a2, a3, h _ q⟩⟩
def b_power : List S := [.set 2 (.int 1),
  .for (.nm 3) .r1 [(.var 1)] [.set 2 (.bin .mul (.var 2) (.var 0))],
  .ret (.var 2)]
theorem pow_lt {a : Int} {m : Nat} (h : a.natAbs < 2 ^ m) : ∀ n, (a ^ n).natAbs < 2 ^ (m * n + 1)
  | 0 => by simp
  | n + 1 => by
    rw [Int.pow_succ]
    have := natAbs_mul_lt (pow_lt h n) h
    have e : m * n + 1 + m = m * (n + 1) + 1 := by rw [Nat.mul_succ]; omega
    rwa [e] at this
theorem w_power {Φ : Ctx} {N : List Str} (hn : N.length = 4) (ds : List D) (Q : D → Prop) (h : sp_power.run ds Q) : ds.length = 2 ∧ wSs Φ b_power (ent N ds) { nx := fun _ => Q .non, rt := fun d _ => Q d } := by
  obtain ⟨a, n, rfl, ha, hl, q⟩ := h
  refine ⟨rfl, ?_⟩
  have sm : small (n : Int) := ⟨by omega, by omega⟩
  simp [b_power, hn, sm]
  refine forW_range (fun i ρ => ∃ t, ρ = [.sh (.int a), .sh (.int n), .sh (.int (a ^ i)), t] ∧ (t = .un ∨ ∃ d, t = .sh d)) ⟨.un, by simp, .inl rfl⟩ ?_ ?_
  · rintro i ρ K hi ⟨t, rfl, ht⟩ hK
    have m0 : mulOk (a ^ i) a := mulOk_of (40 * i + 1) 40 (pow_lt ha i) ha (by omega)
    rcases ht with rfl | ⟨d, rfl⟩ <;>
    · simp [m0]
      exact hK _ ⟨_, by rw [Int.pow_succ], .inr ⟨_, rfl⟩⟩
  · rintro ρ ⟨t, rfl, ht⟩
    simp
    exact q
end PL
set_option Elab.async false
set_option linter.all false
set_option maxRecDepth 100000
set_option maxHeartbeats 1000000
set_option exponentiation.threshold 20000
namespace PL
open PySem
/-! ### promises told by an answer -/
def FSp.pm (P : List D → Option (Prop × D)) : FSp := ⟨fun ds Q => match P ds with | some x => x.1 ∧ Q x.2 | none => False, fun ds Q Q' h r => by
  split at r
  · exact ⟨r.1, h _ r.2⟩
  · exact r.elim⟩
@[simp] theorem pm_run (P : List D → Option (Prop × D)) (ds : List D) (Q : D → Prop) : (FSp.pm P).run ds Q = (match P ds with | some x => x.1 ∧ Q x.2 | none => False) := rfl
def FSp.ge {α : Type} (g : α → List D) (P : α → Prop) (f : α → D) : FSp := ⟨fun ds Q => ∃ x, ds = g x ∧ P x ∧ Q (f x), fun _ _ _ h ⟨x, a, b, c⟩ => ⟨x, a, b, h _ c⟩⟩
@[simp] theorem ge_run {α : Type} (g : α → List D) (P : α → Prop) (f : α → D) (ds : List D) (Q : D → Prop) : (FSp.ge g P f).run ds Q = ∃ x, ds = g x ∧ P x ∧ Q (f x) := rfl
def FSp.ex (P : List D → D → Prop) : FSp := ⟨fun ds Q => ∃ d, P ds d ∧ Q d, fun _ _ _ h ⟨d, p, q⟩ => ⟨d, p, h _ q⟩⟩
@[simp] theorem ex_run (P : List D → D → Prop) (ds : List D) (Q : D → Prop) : (FSp.ex P).run ds Q = ∃ d, P ds d ∧ Q d := rfl
@[simp] theorem bls?_fn {α : Type} (f : α → Bool) (xs : List α) : bls? (xs.map fun x => D.bl (f x)) = some (xs.map f) := by
  have := bls?_map (xs.map f); rwa [List.map_map] at this
@[simp] theorem ints?_fn {α : Type} (f : α → Int) (xs : List α) : ints? (xs.map fun x => D.int (f x)) = some (xs.map f) := by
  have := ints?_map (xs.map f); rwa [List.map_map] at this
def sp_is_tuple : FSp := .pm fun ds => match ds with | [.tup xs, .int a, .int b] => some (True, .bl (decide (a ≤ xs.length) && decide ((xs.length : Int) ≤ b))) | _ => none
def b_is_tuple : List S := [.ret (.and (.isi (.var 0) .tuple) (.cmp2 .le .le (.var 1) (.bi .len [(.var 0)]) (.var 2)))]
theorem w_is_tuple {Φ : Ctx} {N : List Str} (hn : N.length = 3) (ds : List D) (Q : D → Prop) (h : sp_is_tuple.run ds Q) : ds.length = 3 ∧ wSs Φ b_is_tuple (ent N ds) { nx := fun _ => Q .non, rt := fun d _ => Q d } := by
  simp only [sp_is_tuple, pm_run] at h
  split at h
  case h_2 => exact h.elim
  rename_i e
  split at e <;> cases e
  rename_i xs a b
  have q := h.2
  refine ⟨rfl, ?_⟩
  simp [b_is_tuple, hn]
  refine ⟨fun h => ?_, fun h => ?_⟩
  · have e : decide (a ≤ (xs.length : Int)) = true := decide_eq_true h
    rw [e, Bool.true_and] at q; exact q
  · have e : decide (a ≤ (xs.length : Int)) = false := decide_eq_false (by omega)
    rw [e, Bool.false_and] at q; exact q
def sp_is_whole : FSp := .pm fun ds => match ds with | [.int _] => some (True, .bl true) | _ => none
def b_is_whole : List S := [.ret (.and (.isi (.var 0) .int) (.not (.isi (.var 0) .bool)))]
theorem w_is_whole {Φ : Ctx} {N : List Str} (hn : N.length = 1) (ds : List D) (Q : D → Prop) (h : sp_is_whole.run ds Q) : ds.length = 1 ∧ wSs Φ b_is_whole (ent N ds) { nx := fun _ => Q .non, rt := fun d _ => Q d } := by
  simp only [sp_is_whole, pm_run] at h
  split at h
  case h_2 => exact h.elim
  rename_i e
  split at e <;> cases e
  have q := h.2
  refine ⟨rfl, ?_⟩
  simpa [b_is_whole, hn] using q
def sp_is_integer : FSp := .pm fun ds => match ds with | [.int i, .int a, .int b] => some (True, .bl (decide (a ≤ i) && decide (i ≤ b))) | _ => none
def b_is_integer : List S := [.ret (.and (.call 0 [(.var 0)]) (.cmp2 .le .le (.var 1) (.var 0) (.var 2)))]
theorem w_is_integer {nm : Str} {N : List Str} (hn : N.length = 3) (ds : List D) (Q : D → Prop) (h : sp_is_integer.run ds Q) : ds.length = 3 ∧ wSs ⟨[(nm, sp_is_whole)], [], []⟩ b_is_integer (ent N ds) { nx := fun _ => Q .non, rt := fun d _ => Q d } := by
  simp only [sp_is_integer, pm_run] at h
  split at h
  case h_2 => exact h.elim
  rename_i e
  split at e <;> cases e
  rename_i i a b
  have q := h.2
  refine ⟨rfl, ?_⟩
  simp [b_is_integer, hn, sp_is_whole]
  refine ⟨fun h => ?_, fun h => ?_⟩
  · have e : decide (a ≤ i) = true := decide_eq_true h
    rw [e, Bool.true_and] at q; exact q
  · have e : decide (a ≤ i) = false := decide_eq_false (by omega)
    rw [e, Bool.false_and] at q; exact q
theorem cut_tail {α : Type} (x : α) (xs : List α) : cutD (x :: xs) (some 1) none = xs := by
  unfold cutD HT.sIx
  simp
theorem zip_pairs : ∀ (ns ms : List Int), zipD (ns.map D.int) (ms.map D.int) = (List.zip ns ms).map fun p => D.tup [.int p.1, .int p.2] := fun ns ms => by
  induction ns generalizing ms with
  | nil => simp
  | cons n ns ih => cases ms with | nil => simp | cons m ms => simp [ih]
theorem cut_one {α : Type} (xs : List α) : cutD xs (some 1) none = xs.tail := by
  cases xs with
  | nil => rfl
  | cons x xs => rw [cut_tail]; rfl
def sp_is_rising : FSp := .ge (fun ns : List Int => [.tup (ns.map D.int)]) (fun ns => ns.length < 1000) (fun ns => .bl ((List.zip ns ns.tail).all fun p => decide (p.1 < p.2)))
def b_is_rising : List S := [.ret (.bi .all [(.comp [1, 2] (.tp [(.nm 1), (.nm 2)]) .zip [(.var 0), (.sl1 (.var 0) (.int 1))] (.cmp .lt (.var 1) (.var 2)))])]
theorem w_is_rising {Φ : Ctx} {N : List Str} (hn : N.length = 3) (ds : List D) (Q : D → Prop) (h : sp_is_rising.run ds Q) : ds.length = 1 ∧ wSs Φ b_is_rising (ent N ds) { nx := fun _ => Q .non, rt := fun d _ => Q d } := by
  obtain ⟨ns, rfl, hl, q⟩ := h
  refine ⟨rfl, ?_⟩
  have sz := szM
  simp [b_is_rising, hn, cut_one, ← List.map_tail, zip_pairs]
  refine ⟨by omega, ?_⟩
  refine compW_map (fun ρ' => ∃ u v, ρ' = [VE.sh (.tup (ns.map D.int)), u, v]) _ (fun p : Int × Int => D.bl (decide (p.1 < p.2))) (fun _ _ => trivial) ?_ ⟨_, _, rfl⟩ ?_
  · rintro p hp ρ K ⟨u, v, rfl⟩ hK
    simp
    exact hK _ ⟨_, _, rfl⟩
  · rintro ρ' ⟨u, v, rfl⟩
    simpa [List.all_map, Function.comp_def] using q
end PL
set_option Elab.async false
set_option linter.all false
set_option maxRecDepth 100000
set_option maxHeartbeats 1000000
/-! ### lots: how many ways to choose -/
namespace Bn
def C : Nat → Nat → Nat
  | _, 0 => 1
  | 0, _ + 1 => 0
  | n + 1, k + 1 => C n k + C n (k + 1)
theorem C_zero (n : Nat) : C n 0 = 1 := by cases n <;> rfl
theorem C_succ (n k : Nat) : C (n + 1) (k + 1) = C n k + C n (k + 1) := rfl
theorem C_lt : ∀ {n k : Nat}, n < k → C n k = 0
  | 0, 0, h => by omega
  | 0, k + 1, _ => rfl
  | n + 1, 0, h => by omega
  | n + 1, k + 1, h => by rw [C_succ, C_lt (by omega), C_lt (by omega)]
theorem C_self : ∀ n : Nat, C n n = 1
  | 0 => rfl
  | n + 1 => by rw [C_succ, C_self n, C_lt (by omega)]
theorem C_one : ∀ n : Nat, C n 1 = n
  | 0 => rfl
  | n + 1 => by rw [C_succ, C_zero, C_one n]; omega
theorem sum_zero : ∀ {l : List Nat}, (∀ x ∈ l, x = 0) → l.sum = 0
  | [], _ => rfl
  | x :: l, h => by rw [List.sum_cons, h x (by simp), sum_zero fun y hy => h y (by simp [hy])]
theorem C_pos : ∀ {n k : Nat}, k ≤ n → 0 < C n k
  | n, 0, _ => by rw [C_zero]; omega
  | 0, k + 1, h => by omega
  | n + 1, k + 1, h => by rw [C_succ]; have := C_pos (n := n) (k := k) (by omega); omega
/-- the step of the loops -/
theorem C_step : ∀ (n k : Nat), k ≤ n → C n (k + 1) * (k + 1) = C n k * (n - k)
  | 0, 0, _ => by simp [C]
  | 0, k + 1, h => by omega
  | n + 1, 0, _ => by
    rw [C_succ, C_zero, C_zero]
    have := C_step n 0 (by omega)
    rw [C_zero] at this
    omega
  | n + 1, k + 1, h => by
    by_cases e : k = n
    · subst e
      rw [C_lt (n := k + 1) (by omega), C_self]; omega
    · have h1 := C_step n k (by omega)
      have h2 := C_step n (k + 1) (by omega)
      rw [C_succ n (k + 1), C_succ n k]
      have e1 : n + 1 - (k + 1) = n - k := by omega
      rw [e1]
      have e2 : n - (k + 1) = n - k - 1 := by omega
      rw [e2] at h2
      obtain ⟨d, hd⟩ : ∃ d, n - k = d + 1 := ⟨n - k - 1, by omega⟩
      rw [hd] at h1 h2 ⊢
      simp only [Nat.add_sub_cancel] at h2
      generalize C n k = a at *
      generalize C n (k + 1) = b at *
      generalize C n (k + 1 + 1) = c at *
      grind
theorem C_le : ∀ (n k : Nat), C n k ≤ 2 ^ n
  | n, 0 => by rw [C_zero]; exact Nat.one_le_two_pow
  | 0, k + 1 => by simp [C]
  | n + 1, k + 1 => by
    rw [C_succ, Nat.pow_succ]
    have := C_le n k
    have := C_le n (k + 1)
    omega
theorem C_symm : ∀ {n k : Nat}, k ≤ n → C n (n - k) = C n k
  | 0, k, h => by have : k = 0 := by omega
                  subst this; rfl
  | n + 1, 0, _ => by rw [Nat.sub_zero, C_self, C_zero]
  | n + 1, k + 1, h => by
    by_cases e : k = n
    · subst e; rw [Nat.sub_self, C_self, C_zero]
    · have h1 := C_symm (n := n) (k := k) (by omega)
      have h2 := C_symm (n := n) (k := k + 1) (by omega)
      obtain ⟨j, hj⟩ : ∃ j, n + 1 - (k + 1) = j + 1 := ⟨n - k - 1, by omega⟩
      rw [hj, C_succ, C_succ]
      have e1 : n - k = j + 1 := by omega
      have e2 : n - (k + 1) = j := by omega
      rw [e1] at h1; rw [e2] at h2
      rw [h1, h2]; omega
/-- choosing some of those chosen -/
theorem C_mul : ∀ (n a b : Nat), b ≤ a → C n a * C a b = C n b * C (n - b) (a - b)
  | 0, 0, b, h => by have : b = 0 := by omega
                     subst this; rfl
  | 0, a + 1, b, h => by
    cases b with
    | zero => simp [C]
    | succ b => simp [C]
  | n + 1, a, 0, _ => by rw [C_zero, C_zero, Nat.sub_zero, Nat.sub_zero]; omega
  | n + 1, 0, b + 1, h => by omega
  | n + 1, a + 1, b + 1, h => by
    have h1 := C_mul n a b (by omega)
    have e1 : n + 1 - (b + 1) = n - b := by omega
    have e2 : a + 1 - (b + 1) = a - b := by omega
    rw [e1, e2]
    -- (n+1) C n a = (a+1) C (n+1) (a+1)
    have k1 : ∀ n a, C (n + 1) (a + 1) * (a + 1) = (n + 1) * C n a := by
      intro n a
      induction n generalizing a with
      | zero => cases a with
        | zero => rfl
        | succ a => simp [C]
      | succ n ih =>
        cases a with
        | zero =>
          rw [C_one, C_zero]
        | succ a =>
          have i1 := ih a
          have i2 := ih (a + 1)
          rw [C_succ (n + 1) (a + 1), C_succ n a] 
          rw [C_succ n a] at i1
          rw [C_succ n (a + 1)] at i2 ⊢
          generalize C n a = x at *
          generalize C n (a + 1) = y at *
          generalize C n (a + 1 + 1) = z at *
          grind
    have ka := k1 n a
    have kb := k1 n b
    have kab := k1 a b
    have pa : 0 < (a + 1) * (b + 1) := Nat.mul_pos (by omega) (by omega)
    apply Nat.eq_of_mul_eq_mul_right pa
    generalize C (n + 1) (a + 1) = A at *
    generalize C (a + 1) (b + 1) = B at *
    generalize C (n + 1) (b + 1) = E at *
    generalize C n a = x at *
    generalize C a b = y at *
    generalize C n b = z at *
    generalize C (n - b) (a - b) = u at *
    have q1 : A * B * ((a + 1) * (b + 1)) = (A * (a + 1)) * (B * (b + 1)) := by grind
    have q2 : E * u * ((a + 1) * (b + 1)) = (E * (b + 1)) * u * (a + 1) := by grind
    rw [q1, q2, ka, kab, kb]
    have q3 : (n + 1) * x * ((a + 1) * y) = (n + 1) * (a + 1) * (x * y) := by grind
    have q4 : (n + 1) * z * u * (a + 1) = (n + 1) * (a + 1) * (z * u) := by grind
    rw [q3, q4, h1]
/-- lots of two crowds together -/
theorem vand : ∀ (a b k : Nat), ((List.range (k + 1)).map fun t => C a t * C b (k - t)).sum = C (a + b) k
  | 0, b, k => by
    rw [List.range_succ_eq_map, List.map_cons, List.sum_cons, List.map_map, C_zero, Nat.one_mul, Nat.sub_zero, Nat.zero_add]
    have : ((List.range k).map ((fun t => C 0 t * C b (k - t)) ∘ Nat.succ)).sum = 0 := by
      refine sum_zero fun x hx => ?_
      rw [List.mem_map] at hx
      obtain ⟨t, _, rfl⟩ := hx
      show C 0 (t + 1) * _ = 0
      rw [C_lt (by omega), Nat.zero_mul]
    omega
  | a + 1, b, 0 => by simp [C_zero]
  | a + 1, b, k + 1 => by
    have h1 := vand a b (k + 1)
    have h2 := vand a b k
    have e : a + 1 + b = a + b + 1 := by omega
    rw [e, C_succ, ← h1, ← h2]
    rw [List.range_succ_eq_map (n := k + 1), List.map_cons, List.sum_cons, List.map_cons, List.sum_cons, List.map_map, List.map_map]
    have split : ∀ l : List Nat, (l.map ((fun t => C (a + 1) t * C b (k + 1 - t)) ∘ Nat.succ)).sum = (l.map fun t => C a t * C b (k - t)).sum + (l.map ((fun t => C a t * C b (k + 1 - t)) ∘ Nat.succ)).sum := by
      intro l
      induction l with
      | nil => rfl
      | cons t l ih =>
        rw [List.map_cons, List.sum_cons, List.map_cons, List.sum_cons, List.map_cons, List.sum_cons, ih]
        show C (a + 1) (t + 1) * C b (k + 1 - (t + 1)) + _ = C a t * C b (k - t) + _ + (C a (t + 1) * C b (k + 1 - (t + 1)) + _)
        rw [C_succ]
        have : k + 1 - (t + 1) = k - t := by omega
        rw [this, Nat.add_mul]
        omega
    rw [split, C_zero, C_zero]
    omega
end Bn
set_option Elab.async false
set_option linter.all false
set_option maxRecDepth 100000
set_option maxHeartbeats 1000000
set_option exponentiation.threshold 20000
/-! ### samples: plain mathematics -/
namespace K20
open PL Bn
abbrev Smp := List (Nat × Nat)
def dr (s : Smp) : Nat := (s.map fun p => p.1 * p.2).sum
def kinds (s : Smp) : Nat := (s.map fun p => p.2).sum
def smp (s : Smp) : Prop := s ≠ [] ∧ s.length ≤ 6 ∧ (∀ p ∈ s, (1 ≤ p.1 ∧ p.1 ≤ 200) ∧ (1 ≤ p.2 ∧ p.2 ≤ 400)) ∧ s.Pairwise (fun a b => a.1 < b.1) ∧ dr s ≤ 400
def kN (s : Smp) (N d : Nat) : Nat := (s.map fun p => p.2 * (C N d - C (N - p.1) d)).sum
def tN (s : Smp) (N d t : Nat) : Nat := (s.map fun p => p.2 * (C p.1 t * C (N - p.1) (d - t))).sum
def rt (a b : Nat) : Rat := ((a : Int) : Rat) / ((b : Int) : Rat)
def K (s : Smp) (d : Nat) : Rat := rt (kN s (dr s) d) (C (dr s) d)
def T (s : Smp) (d t : Nat) : Rat := rt (tN s (dr s) d t) (C (dr s) d)
theorem mem_dr {s : Smp} {p : Nat × Nat} (h : p ∈ s) : p.1 * p.2 ≤ dr s := by
  unfold dr
  induction s with
  | nil => cases h
  | cons q s ih =>
    simp only [List.map_cons, List.sum_cons]
    rcases List.mem_cons.1 h with rfl | h
    · omega
    · have := ih h; omega
theorem C_mono : ∀ {n m : Nat} (k : Nat), n ≤ m → C n k ≤ C m k
  | n, 0, k, h => by have : n = 0 := by omega
                     subst this; exact Nat.le_refl _
  | n, m + 1, 0, _ => by rw [C_zero, C_zero]; exact Nat.le_refl _
  | n, m + 1, k + 1, h => by
    by_cases e : n = m + 1
    · subst e; exact Nat.le_refl _
    · have := C_mono (n := n) (m := m) (k + 1) (by omega)
      rw [C_succ]; omega
theorem le_of {s : Smp} (hs : smp s) {p : Nat × Nat} (h : p ∈ s) : p.1 ≤ dr s ∧ p.2 ≤ dr s := by
  have h1 := mem_dr h
  have h2 := hs.2.2.1 p h
  constructor
  · exact Nat.le_trans (Nat.le_mul_of_pos_right _ (by omega)) h1
  · exact Nat.le_trans (Nat.le_mul_of_pos_left _ (by omega)) h1
theorem kinds_le {s : Smp} (hs : smp s) : kinds s ≤ dr s := by
  unfold kinds dr
  have : ∀ l : Smp, (∀ p ∈ l, 1 ≤ p.1) → (l.map fun p => p.2).sum ≤ (l.map fun p => p.1 * p.2).sum := by
    intro l
    induction l with
    | nil => simp
    | cons p l ih =>
      intro h
      have := ih fun q hq => h q (by simp [hq])
      have := Nat.le_mul_of_pos_left p.2 (show 0 < p.1 from h p (by simp))
      simp only [List.map_cons, List.sum_cons]; omega
  exact this s fun p hp => (hs.2.2.1 p hp).1.1
theorem kN_le (s : Smp) (N d : Nat) : kN s N d ≤ kinds s * C N d := by
  unfold kN kinds
  induction s with
  | nil => simp
  | cons p s ih =>
    simp only [List.map_cons, List.sum_cons]
    have : p.2 * (C N d - C (N - p.1) d) ≤ p.2 * C N d := Nat.mul_le_mul_left _ (by omega)
    rw [Nat.add_mul]; omega
theorem Fb_rt {a b n : Nat} (hb : 0 < b) (h1 : a < 2 ^ n) (h2 : b < 2 ^ n) : Fb n (rt a b) := by
  unfold rt
  exact Fb_div (by omega) (by simpa using h1) (by simpa using h2)
theorem kC_lt {k N d : Nat} (hk : k ≤ 400) (hN : N ≤ 400) : k * C N d < 2 ^ 410 := by
  have h1 := C_le N d
  have h2 : (2 : Nat) ^ N ≤ 2 ^ 400 := Nat.pow_le_pow_right (by omega) hN
  have h3 : k * C N d ≤ 400 * 2 ^ 400 := Nat.mul_le_mul hk (by omega)
  have h4 : (400 : Nat) * 2 ^ 400 < 2 ^ 410 := by decide +kernel
  omega
theorem K_Fb {s : Smp} (hs : smp s) {d : Nat} (hd : d ≤ dr s) : Fb 410 (K s d) := by
  have h1 := kN_le s (dr s) d
  have h2 := kinds_le hs
  have h3 := hs.2.2.2.2
  refine Fb_rt (C_pos hd) (Nat.lt_of_le_of_lt h1 (kC_lt (by omega) h3)) ?_
  have := kC_lt (k := 1) (N := dr s) (d := d) (by omega) h3
  omega
/-- one row -/
theorem rt_add {a b w : Nat} (hw : 0 < w) : rt (a + b) w = rt a w + rt b w := by
  unfold rt
  have : ((a + b : Nat) : Int) = (a : Int) + (b : Int) := rfl
  rw [this, Rat.intCast_add, Rat.div_def, Rat.div_def, Rat.div_def, Rat.add_mul]
theorem rt_zero (w : Nat) : rt 0 w = 0 := by unfold rt; rw [Rat.div_def]; exact Rat.zero_mul _
theorem rt_sum {w : Nat} (hw : 0 < w) : ∀ l : List Nat, rt l.sum w = (l.map fun a => rt a w).sum
  | [] => by rw [List.sum_nil, rt_zero]; rfl
  | a :: l => by rw [List.sum_cons, rt_add hw, List.map_cons, List.sum_cons, rt_sum hw l]
theorem K_row {s : Smp} {d : Nat} (hd : d ≤ dr s) : K s d = (s.map fun p => rt (p.2 * (C (dr s) d - C (dr s - p.1) d)) (C (dr s) d)).sum := by
  unfold K kN
  rw [rt_sum (C_pos hd), List.map_map]; rfl
theorem T_row {s : Smp} {d t : Nat} (hd : d ≤ dr s) : T s d t = (s.map fun p => rt (p.2 * (C p.1 t * C (dr s - p.1) (d - t))) (C (dr s) d)).sum := by
  unfold T tN
  rw [rt_sum (C_pos hd), List.map_map]; rfl
/-- as the program has it -/
theorem row_eq {m c w : Nat} (hw : 0 < w) (hc : c ≤ w) : ((m : Int) : Rat) / ((1 : Int) : Rat) * (((1 : Int) : Rat) / ((1 : Int) : Rat) - ((c : Int) : Rat) / ((w : Int) : Rat)) = rt (m * (w - c)) w := by
  unfold rt
  have hw' : ((w : Int) : Rat) ≠ 0 := by
    intro h
    have : (w : Int) = 0 := by exact_mod_cast h
    omega
  have e : ((m * (w - c) : Nat) : Int) = (m : Int) * ((w : Int) - (c : Int)) := by
    rw [Int.natCast_mul, Int.ofNat_sub hc]
  rw [e, Rat.intCast_mul, Rat.intCast_sub]
  generalize ((m : Int) : Rat) = M
  generalize ((c : Int) : Rat) = c'
  generalize ((w : Int) : Rat) = w' at *
  have e1 : ((1 : Int) : Rat) = 1 := rfl
  rw [e1]
  grind
end K20
set_option Elab.async false
set_option linter.all false
set_option maxRecDepth 100000
set_option maxHeartbeats 0
namespace K20
open PySem PL
def n_is_tuple : List Str := ["value", "least", "most"]
def s0_is_tuple : S := .ret (.and (.isi (.var 0) .tuple) (.cmp2 .le .le (.var 1) (.bi .len [(.var 0)]) (.var 2)))
def b_is_tuple : List S := [s0_is_tuple]
-- is_tuple : callees []; changing []; constants []; level 1
def n_is_whole : List Str := ["value"]
def s0_is_whole : S := .ret (.and (.isi (.var 0) .int) (.not (.isi (.var 0) .bool)))
def b_is_whole : List S := [s0_is_whole]
-- is_whole : callees []; changing []; constants []; level 1
def n_is_integer : List Str := ["value", "low", "high"]
def s0_is_integer : S := .ret (.and (.call 0 [(.var 0)]) (.cmp2 .le .le (.var 1) (.var 0) (.var 2)))
def b_is_integer : List S := [s0_is_integer]
-- is_integer : callees ['is_whole']; changing []; constants []; level 2
def n_is_rising : List Str := ["values", "one", "other"]
def s0_is_rising : S := .ret (.bi .all [(.comp [1, 2] (.tp [(.nm 1), (.nm 2)]) .zip [(.var 0), (.sl1 (.var 0) (.int 1))] (.cmp .lt (.var 1) (.var 2)))])
def b_is_rising : List S := [s0_is_rising]
-- is_rising : callees []; changing []; constants []; level 1
def n_common_of : List Str := ["one", "other"]
def s0_common_of : S := .whl (.cmp .ne (.var 1) (.int 0)) [.par [0, 1] [(.var 1), (.bin .mod (.var 0) (.var 1))]]
def s1_common_of : S := .ret (.bi .abs [(.var 0)])
def b_common_of : List S := [s0_common_of, s1_common_of]
-- common_of : callees []; changing []; constants []; level 1
def n_ratio_of : List Str := ["top", "low", "share"]
def s0_ratio_of : S := .set 2 (.call 0 [(.var 0), (.var 1)])
def s1_ratio_of : S := .ife (.cmp .lt (.var 1) (.int 0)) [.set 2 (.neg (.var 2))] []
def s2_ratio_of : S := .ret (.tup [(.bin .fdiv (.var 0) (.var 2)), (.bin .fdiv (.var 1) (.var 2))])
def b_ratio_of : List S := [s0_ratio_of, s1_ratio_of, s2_ratio_of]
-- ratio_of : callees ['common_of']; changing []; constants []; level 2
def n_plus_of : List Str := ["one", "other"]
def s0_plus_of : S := .ret (.call 0 [(.bin .add (.bin .mul (.idx (.var 0) (.int 0)) (.idx (.var 1) (.int 1))) (.bin .mul (.idx (.var 1) (.int 0)) (.idx (.var 0) (.int 1)))), (.bin .mul (.idx (.var 0) (.int 1)) (.idx (.var 1) (.int 1)))])
def b_plus_of : List S := [s0_plus_of]
-- plus_of : callees ['ratio_of']; changing []; constants []; level 3
def n_minus_of : List Str := ["one", "other"]
def s0_minus_of : S := .ret (.call 0 [(.bin .sub (.bin .mul (.idx (.var 0) (.int 0)) (.idx (.var 1) (.int 1))) (.bin .mul (.idx (.var 1) (.int 0)) (.idx (.var 0) (.int 1)))), (.bin .mul (.idx (.var 0) (.int 1)) (.idx (.var 1) (.int 1)))])
def b_minus_of : List S := [s0_minus_of]
-- minus_of : callees ['ratio_of']; changing []; constants []; level 3
def n_times_of : List Str := ["one", "other"]
def s0_times_of : S := .ret (.call 0 [(.bin .mul (.idx (.var 0) (.int 0)) (.idx (.var 1) (.int 0))), (.bin .mul (.idx (.var 0) (.int 1)) (.idx (.var 1) (.int 1)))])
def b_times_of : List S := [s0_times_of]
-- times_of : callees ['ratio_of']; changing []; constants []; level 3
def n_total_of : List Str := ["rows", "level", "odd", "one", "other"]
def s0_total_of : S := .set 1 (.star (.var 0) [(.glo 0)])
def s1_total_of : S := .whl (.cmp .gt (.bi .len [(.var 1)]) (.int 1)) [.set 2 (.ite (.cmp .eq (.bin .mod (.bi .len [(.var 1)]) (.glo 1)) (.int 1)) (.sl1 (.var 1) (.neg (.int 1))) (.lst [])), .set 1 (.bin .add (.comp [3, 4] (.tp [(.nm 3), (.nm 4)]) .zip [(.st1 (.var 1) (.glo 1)), (.st2 (.var 1) (.int 1) (.glo 1))] (.call 0 [(.var 3), (.var 4)])) (.var 2))]
def s2_total_of : S := .ret (.idx (.var 1) (.int 0))
def b_total_of : List S := [s0_total_of, s1_total_of, s2_total_of]
-- total_of : callees ['plus_of']; changing []; constants ['NOUGHT', 'PAIR_fractions']; level 4
def n_choose_of : List Str := ["many", "some", "found", "at"]
def s0_choose_of : S := .ife (.not (.cmp2 .le .le (.int 0) (.var 1) (.var 0))) [.ret (.int 0)] []
def s1_choose_of : S := .set 2 (.int 1)
def s2_choose_of : S := .for (.nm 3) .r1 [(.bi .min2 [(.var 1), (.bin .sub (.var 0) (.var 1))])] [.set 2 (.bin .fdiv (.bin .mul (.var 2) (.bin .sub (.var 0) (.var 3))) (.bin .add (.var 3) (.int 1)))]
def s3_choose_of : S := .ret (.var 2)
def b_choose_of : List S := [s0_choose_of, s1_choose_of, s2_choose_of, s3_choose_of]
-- choose_of : callees []; changing []; constants []; level 1
def n_is_sample : List Str := ["value", "row"]
def s0_is_sample : S := .ife (.or (.not (.call 0 [(.var 0), (.int 1), (.glo 1)])) (.not (.bi .all [(.comp [1] (.nm 1) .seqT [(.var 0)] (.call 0 [(.var 1), (.glo 0), (.glo 0)]))]))) [.ret (.bl false)] []
def s1_is_sample : S := .ife (.not (.bi .all [(.comp [1] (.nm 1) .seqT [(.var 0)] (.and (.call 1 [(.idx (.var 1) (.int 0)), (.int 1), (.glo 1)]) (.call 1 [(.idx (.var 1) (.int 1)), (.int 1), (.glo 2)])))])) [.ret (.bl false)] []
def s2_is_sample : S := .ret (.and (.call 3 [(.comp [1] (.nm 1) .seqT [(.var 0)] (.idx (.var 1) (.int 0)))]) (.cmp .le (.call 2 [(.var 0)]) (.glo 2)))
def b_is_sample : List S := [s0_is_sample, s1_is_sample, s2_is_sample]
-- is_sample : callees ['is_tuple', 'is_integer', 'draws_of', 'is_rising']; changing []; constants ['PAIR_kinds', 'MOST_TIMES', 'MOST_DRAWS']; level 3
def n_check_sample : List Str := ["value"]
def s0_check_sample : S := .ife (.not (.call 0 [(.var 0)])) [.rse] []
def b_check_sample : List S := [s0_check_sample]
-- check_sample : callees ['is_sample']; changing []; constants []; level 4
def n_check_draws : List Str := ["value", "most"]
def s0_check_draws : S := .ife (.not (.call 0 [(.var 0), (.int 0), (.var 1)])) [.rse] []
def b_check_draws : List S := [s0_check_draws]
-- check_draws : callees ['is_integer']; changing []; constants []; level 3
def n_draws_of : List Str := ["sample", "times", "many"]
def s0_draws_of : S := .ret (.bi .sum [(.comp [1, 2] (.tp [(.nm 1), (.nm 2)]) .seqT [(.var 0)] (.bin .mul (.var 1) (.var 2)))])
def b_draws_of : List S := [s0_draws_of]
-- draws_of : callees []; changing []; constants []; level 1
def n_thinned_of : List Str := ["sample", "draws", "whole", "rows", "times", "many", "missed"]
def s0_thinned_of : S := .par [2, 3] [(.call 0 [(.var 0)]), (.lst [])]
def s1_thinned_of : S := .for (.tp [(.nm 4), (.nm 5)]) .seqT [(.var 0)] [.set 6 (.call 1 [(.call 2 [(.bin .sub (.var 2) (.var 4)), (.var 1)]), (.call 2 [(.var 2), (.var 1)])]), .app 3 (.call 3 [(.tup [(.var 5), (.int 1)]), (.call 4 [(.tup [(.int 1), (.int 1)]), (.var 6)])])]
def s2_thinned_of : S := .ret (.call 5 [(.var 3)])
def b_thinned_of : List S := [s0_thinned_of, s1_thinned_of, s2_thinned_of]
-- thinned_of : callees ['draws_of', 'ratio_of', 'choose_of', 'times_of', 'minus_of', 'total_of']; changing []; constants []; level 5
def n_check_fewer : List Str := ["sample", "draws"]
def s0_check_fewer : S := .exp (.call 0 [(.var 0)])
def s1_check_fewer : S := .exp (.call 1 [(.var 1), (.call 2 [(.var 0)])])
def b_check_fewer : List S := [s0_check_fewer, s1_check_fewer]
-- check_fewer : callees ['check_sample', 'check_draws', 'draws_of']; changing []; constants []; level 5
def n_thinned : List Str := ["sample", "draws"]
def s0_thinned : S := .exp (.call 0 [(.var 0), (.var 1)])
def s1_thinned : S := .ret (.call 1 [(.var 0), (.var 1)])
def b_thinned : List S := [s0_thinned, s1_thinned]
-- thinned : callees ['check_fewer', 'thinned_of']; changing []; constants []; level 6
def n_thinned_times : List Str := ["sample", "draws", "times", "whole", "rows", "often", "many", "ways"]
def s0_thinned_times : S := .exp (.call 0 [(.var 0), (.var 1)])
def s1_thinned_times : S := .exp (.call 1 [(.var 2), (.var 1)])
def s2_thinned_times : S := .par [3, 4] [(.call 2 [(.var 0)]), (.lst [])]
def s3_thinned_times : S := .for (.tp [(.nm 5), (.nm 6)]) .seqT [(.var 0)] [.set 7 (.bin .mul (.call 3 [(.var 5), (.var 2)]) (.call 3 [(.bin .sub (.var 3) (.var 5)), (.bin .sub (.var 1) (.var 2))])), .app 4 (.call 4 [(.bin .mul (.var 6) (.var 7)), (.call 3 [(.var 3), (.var 1)])])]
def s4_thinned_times : S := .ret (.call 5 [(.var 4)])
def b_thinned_times : List S := [s0_thinned_times, s1_thinned_times, s2_thinned_times, s3_thinned_times, s4_thinned_times]
-- thinned_times : callees ['check_fewer', 'check_draws', 'draws_of', 'choose_of', 'ratio_of', 'total_of']; changing []; constants []; level 6
def n_thinned_curve : List Str := ["sample", "draws"]
def s0_thinned_curve : S := .exp (.call 0 [(.var 0)])
def s1_thinned_curve : S := .ret (.bi .tuple [(.comp [1] (.nm 1) .r1 [(.bin .add (.call 1 [(.var 0)]) (.int 1))] (.call 2 [(.var 0), (.var 1)]))])
def b_thinned_curve : List S := [s0_thinned_curve, s1_thinned_curve]
-- thinned_curve : callees ['check_sample', 'draws_of', 'thinned_of']; changing []; constants []; level 6
def n_new_by_last : List Str := ["sample", "whole"]
def s0_new_by_last : S := .exp (.call 0 [(.var 0)])
def s1_new_by_last : S := .set 1 (.call 1 [(.var 0)])
def s2_new_by_last : S := .ret (.call 2 [(.call 3 [(.var 0), (.var 1)]), (.call 3 [(.var 0), (.bin .sub (.var 1) (.int 1))])])
def b_new_by_last : List S := [s0_new_by_last, s1_new_by_last, s2_new_by_last]
-- new_by_last : callees ['check_sample', 'draws_of', 'minus_of', 'thinned_of']; changing []; constants []; level 6
def n_thinned_both : List Str := ["sample", "draws", "whole", "came", "times", "many"]
def s0_thinned_both : S := .exp (.call 0 [(.var 0), (.var 1)])
def s1_thinned_both : S := .set 2 (.call 1 [(.var 0)])
def s2_thinned_both : S := .set 3 (.bi .sum [(.comp [4, 5] (.tp [(.nm 4), (.nm 5)]) .seqT [(.var 0)] (.var 5))])
def s3_thinned_both : S := .ret (.call 2 [(.call 3 [(.lst [(.call 4 [(.var 0), (.var 1)]), (.call 4 [(.var 0), (.bin .sub (.var 2) (.var 1))])])]), (.tup [(.var 3), (.int 1)])])
def b_thinned_both : List S := [s0_thinned_both, s1_thinned_both, s2_thinned_both, s3_thinned_both]
-- thinned_both : callees ['check_fewer', 'draws_of', 'minus_of', 'total_of', 'thinned_of']; changing []; constants []; level 6
def n_draws_for : List Str := ["sample", "kinds", "draws", "told"]
def s0_draws_for : S := .exp (.call 0 [(.var 0)])
def s1_draws_for : S := .ife (.not (.call 1 [(.var 1), (.int 0), (.call 2 [(.var 0)])])) [.rse] []
def s2_draws_for : S := .for (.nm 2) .r1 [(.bin .add (.call 2 [(.var 0)]) (.int 1))] [.set 3 (.call 3 [(.var 0), (.var 2)]), .ife (.cmp .ge (.idx (.var 3) (.int 0)) (.bin .mul (.var 1) (.idx (.var 3) (.int 1)))) [.ret (.var 2)] []]
def s3_draws_for : S := .ret .non
def b_draws_for : List S := [s0_draws_for, s1_draws_for, s2_draws_for, s3_draws_for]
-- draws_for : callees ['check_sample', 'is_integer', 'draws_of', 'thinned_of']; changing []; constants []; level 6
def n_good_turing : List Str := ["sample"]
def s0_good_turing : S := .exp (.call 0 [(.var 0)])
def s1_good_turing : S := .ret (.call 1 [(.get (.dl (.var 0)) (.int 1) (.int 0)), (.call 2 [(.var 0)])])
def b_good_turing : List S := [s0_good_turing, s1_good_turing]
-- good_turing : callees ['check_sample', 'ratio_of', 'draws_of']; changing []; constants []; level 5
def n_l_pot : List Str := ["script", "place", "cell", "own", "small"]
def s0_l_pot : S := .set 2 (.ite (.cmp .lt (.var 1) (.bi .len [(.var 0)])) (.idx (.var 0) (.var 1)) (.bin .add (.bin .add (.bin .mod (.bi .int [(.bi .sum [(.sl2 (.var 0) (.int 1))])]) (.int 1000003)) (.bin .mul (.int 7773) (.var 1))) (.int 18933)))
def s1_l_pot : S := .set 3 (.bin .mul (.bin .mod (.bi .int [(.bi .abs [(.var 2)])]) (.bin .pow (.bin .pow (.int 10) (.int 60)) (.int 5))) (.bi .int [(.cmp .ge (.bi .abs [(.var 2)]) (.bin .pow (.int 10) (.int 18)))]))
def s2_l_pot : S := .set 4 (.bin .mod (.bi .int [(.var 2)]) (.int 2305843009213693951))
def s3_l_pot : S := .retN (.lst [(.var 3), (.bin .mod (.bi .int [(.bin .add (.bin .add (.bin .mul (.var 4) (.int 155367)) (.bin .mul (.bin .mul (.int 21841) (.var 1)) (.var 1))) (.int 6221))]) (.int 2305843009213693921)), (.int 0)])
def b_l_pot : List S := [s0_l_pot, s1_l_pot, s2_l_pot, s3_l_pot]
-- _law_pot : callees []; changing []; constants []; level 1
def n_l_take : List Str := ["pot", "upto", "prime", "blend", "digit"]
def s0_l_take : S := .ife (.cmp .gt (.idx (.var 0) (.int 0)) (.int 0)) [.set 4 (.bin .mod (.bi .int [(.idx (.var 0) (.int 0))]) (.var 1)), .put 0 (.int 0) (.bin .fdiv (.idx (.var 0) (.int 0)) (.var 1)), .ret (.var 4)] []
def s1_l_take : S := .put 0 (.int 2) (.bin .add (.idx (.var 0) (.int 2)) (.int 1))
def s2_l_take : S := .set 2 (.idx (.lst [(.int 2147483647), (.int 2147483629), (.int 2147483587), (.int 2147483579)]) (.bin .mod (.bi .int [(.idx (.var 0) (.int 2))]) (.int 4)))
def s3_l_take : S := .set 3 (.bin .mod (.bi .int [(.bin .pow (.bi .int [(.bin .add (.bin .add (.idx (.var 0) (.int 1)) (.bin .mul (.bin .mul (.int 205691) (.idx (.var 0) (.int 2))) (.idx (.var 0) (.int 2)))) (.int 6901))]) (.int 3))]) (.var 2))
def s4_l_take : S := .ret (.bin .mod (.bi .int [(.bin .fdiv (.bin .mul (.var 3) (.bin .add (.bin .mod (.bi .int [(.var 3)]) (.int 10007)) (.bin .mul (.int 5943) (.idx (.var 0) (.int 2))))) (.int 307))]) (.var 1))
def b_l_take : List S := [s0_l_take, s1_l_take, s2_l_take, s3_l_take, s4_l_take]
-- _law_take : callees []; changing []; constants []; level 1
def n_l_of : List Str := ["pot", "some"]
def s0_l_of : S := .ret (.idx (.var 1) (.callB 0 0 [(.bi .len [(.var 1)])]))
def b_l_of : List S := [s0_l_of]
-- _law_of : callees []; changing ['_law_take']; constants []; level 2
def n_l_cells : List Str := ["script", "limit"]
def s0_l_cells : S := .ret (.lr1 (.bi .max2 [(.int 1), (.bi .min2 [(.var 1), (.bi .len [(.var 0)])])]))
def b_l_cells : List S := [s0_l_cells]
-- _law_cells : callees []; changing []; constants []; level 1
def n_l_gcd : List Str := ["one", "other", "lap"]
def s0_l_gcd : S := .for (.nm 2) .r1 [(.bin .pow (.int 10) (.int 6))] [.ife (.cmp .eq (.var 1) (.int 0)) [.brk] [], .par [0, 1] [(.var 1), (.bin .mod (.var 0) (.var 1))]]
def s1_l_gcd : S := .ret (.bi .abs [(.var 0)])
def b_l_gcd : List S := [s0_l_gcd, s1_l_gcd]
-- _law_gcd : callees []; changing []; constants []; level 1
def n_l_ratio : List Str := ["top", "low", "share"]
def s0_l_ratio : S := .set 2 (.bin .mul (.call 0 [(.var 0), (.var 1)]) (.ite (.cmp .gt (.var 1) (.int 0)) (.int 1) (.neg (.int 1))))
def s1_l_ratio : S := .ret (.tup [(.bin .fdiv (.var 0) (.var 2)), (.bin .fdiv (.var 1) (.var 2))])
def b_l_ratio : List S := [s0_l_ratio, s1_l_ratio]
-- _law_ratio : callees ['_law_gcd']; changing []; constants []; level 2
def n_l_plus : List Str := ["one", "other"]
def s0_l_plus : S := .ret (.call 0 [(.bin .add (.bin .mul (.idx (.var 0) (.int 0)) (.idx (.var 1) (.int 1))) (.bin .mul (.idx (.var 1) (.int 0)) (.idx (.var 0) (.int 1)))), (.bin .mul (.idx (.var 0) (.int 1)) (.idx (.var 1) (.int 1)))])
def b_l_plus : List S := [s0_l_plus]
-- _law_plus : callees ['_law_ratio']; changing []; constants []; level 3
def n_l_times : List Str := ["one", "other"]
def s0_l_times : S := .ret (.call 0 [(.bin .mul (.idx (.var 0) (.int 0)) (.idx (.var 1) (.int 0))), (.bin .mul (.idx (.var 0) (.int 1)) (.idx (.var 1) (.int 1)))])
def b_l_times : List S := [s0_l_times]
-- _law_times : callees ['_law_ratio']; changing []; constants []; level 3
def n_l_below : List Str := ["one", "other"]
def s0_l_below : S := .ret (.cmp .lt (.bin .mul (.idx (.var 0) (.int 0)) (.idx (.var 1) (.int 1))) (.bin .mul (.idx (.var 1) (.int 0)) (.idx (.var 0) (.int 1))))
def b_l_below : List S := [s0_l_below]
-- _law_below : callees []; changing []; constants []; level 1
def n_l_choose : List Str := ["many", "some", "found", "at"]
def s0_l_choose : S := .set 2 (.bi .int [(.cmp2 .le .le (.int 0) (.var 1) (.var 0))])
def s1_l_choose : S := .for (.nm 3) .r1 [(.ite (.cmp2 .le .le (.int 0) (.var 1) (.var 0)) (.var 1) (.int 0))] [.set 2 (.bin .fdiv (.bin .mul (.var 2) (.bin .sub (.var 0) (.var 3))) (.bin .add (.var 3) (.int 1)))]
def s2_l_choose : S := .ret (.var 2)
def b_l_choose : List S := [s0_l_choose, s1_l_choose, s2_l_choose]
-- _law_choose : callees []; changing []; constants []; level 1
def n_l_sample : List Str := ["pot", "rows", "times", "most", "draws", "lap", "found", "left", "one", "many"]
def s0_l_sample : S := .par [6, 7] [.edk, (.var 4)]
def s1_l_sample : S := .for (.nm 5) .r1 [(.bin .add (.int 1) (.callB 0 0 [(.var 1)]))] [.set 8 (.bin .add (.int 1) (.bi .int [(.callB 0 0 [(.bi .max2 [(.int 1), (.bi .min2 [(.var 2), (.var 7)])])])])), .set 9 (.bi .min2 [(.bin .add (.int 1) (.bi .int [(.callB 0 0 [(.var 3)])])), (.bin .fdiv (.var 7) (.var 8))]), .ife (.cmp .gt (.var 9) (.int 0)) [.put2 6 8 7 (.bin .add (.get (.var 6) (.var 8) (.int 0)) (.var 9)) (.bin .sub (.var 7) (.bin .mul (.var 9) (.var 8)))] []]
def s2_l_sample : S := .ret (.bi .tuple [(.sdl (.var 6))])
def b_l_sample : List S := [s0_l_sample, s1_l_sample, s2_l_sample]
-- _law_sample : callees []; changing ['_law_take']; constants []; level 2
def n_l_shown : List Str := ["draws", "looked", "one", "whole"]
def s0_l_shown : S := .set 3 (.call 0 [(.var 0), (.var 1)])
def s1_l_shown : S := .ret (.tup [(.bin .sub (.var 3) (.call 0 [(.bin .sub (.var 0) (.var 2)), (.var 1)])), (.var 3)])
def b_l_shown : List S := [s0_l_shown, s1_l_shown]
-- _law_shown : callees ['_law_choose']; changing []; constants []; level 2
def n_l_kinds_of : List Str := ["sample", "draws", "looked", "total", "whole", "one", "many"]
def s0_l_kinds_of : S := .par [3, 4] [(.int 0), (.call 0 [(.var 1), (.var 2)])]
def s1_l_kinds_of : S := .for (.tp [(.nm 5), (.nm 6)]) .seqT [(.var 0)] [.set 3 (.bin .add (.var 3) (.bin .mul (.var 6) (.idx (.call 1 [(.var 1), (.var 2), (.var 5)]) (.int 0))))]
def s2_l_kinds_of : S := .ret (.call 2 [(.var 3), (.var 4)])
def b_l_kinds_of : List S := [s0_l_kinds_of, s1_l_kinds_of, s2_l_kinds_of]
-- _law_kinds_of : callees ['_law_choose', '_law_shown', '_law_ratio']; changing []; constants []; level 3
def n_l_often : List Str := ["sample", "draws", "looked", "times", "total", "one", "many"]
def s0_l_often : S := .set 4 (.bi .sum [(.comp [5, 6] (.tp [(.nm 5), (.nm 6)]) .seqT [(.var 0)] (.bin .mul (.bin .mul (.var 6) (.call 0 [(.var 5), (.var 3)])) (.call 0 [(.bin .sub (.var 1) (.var 5)), (.bin .sub (.var 2) (.var 3))])))])
def s1_l_often : S := .ret (.call 1 [(.var 4), (.call 0 [(.var 1), (.var 2)])])
def b_l_often : List S := [s0_l_often, s1_l_often]
-- _law_often : callees ['_law_choose', '_law_ratio']; changing []; constants []; level 3
def n_l_is_look_right : List Str := ["pot", "sample", "draws", "looked", "times", "both", "kinds", "one", "many"]
def s0_l_is_look_right : S := .ife (.cmp .ne (.call 0 [(.var 1), (.var 3)]) (.call 1 [(.var 1), (.var 2), (.var 3)])) [.ret (.bl false)] []
def s1_l_is_look_right : S := .set 4 (.callB 0 0 [(.bin .add (.bi .min2 [(.var 3), (.int 9)]) (.int 1))])
def s2_l_is_look_right : S := .ife (.cmp .ne (.call 2 [(.var 1), (.var 3), (.bi .int [(.var 4)])]) (.call 3 [(.var 1), (.var 2), (.var 3), (.var 4)])) [.ret (.bl false)] []
def s3_l_is_look_right : S := .par [5, 6] [(.call 4 [(.call 1 [(.var 1), (.var 2), (.var 3)]), (.call 1 [(.var 1), (.var 2), (.bin .sub (.var 2) (.var 3))])]), (.bi .sum [(.comp [7, 8] (.tp [(.nm 7), (.nm 8)]) .seqT [(.var 1)] (.var 8))])]
def s4_l_is_look_right : S := .ret (.and (.cmp .eq (.call 5 [(.var 1), (.var 3)]) (.call 4 [(.var 5), (.tup [(.neg (.var 6)), (.int 1)])])) (.cmp .eq (.call 5 [(.var 1), (.bin .sub (.var 2) (.var 3))]) (.call 5 [(.var 1), (.var 3)])))
def b_l_is_look_right : List S := [s0_l_is_look_right, s1_l_is_look_right, s2_l_is_look_right, s3_l_is_look_right, s4_l_is_look_right]
-- _law_is_look_right : callees ['thinned', '_law_kinds_of', 'thinned_times', '_law_often', '_law_plus', 'thinned_both']; changing ['_law_take']; constants []; level 7
def n_l_are_steps_right : List Str := ["pot", "sample", "draws", "looked", "times", "few", "most", "total", "kinds", "all_draws", "mean", "top", "low", "one", "many"]
def s0_l_are_steps_right : S := .set 3 (.callB 0 0 [(.bin .add (.bi .min2 [(.var 2), (.int 30)]) (.int 1))])
def s1_l_are_steps_right : S := .par [5, 6] [(.bi .int [(.callB 0 0 [(.bin .add (.var 3) (.int 1))])]), (.bi .min2 [(.var 3), (.bi .maxL [(.comp [13, 14] (.tp [(.nm 13), (.nm 14)]) .seqT [(.var 1)] (.var 13))])])]
def s2_l_are_steps_right : S := .par [7, 8, 9] [(.tup [(.int 0), (.int 1)]), (.tup [(.int 0), (.int 1)]), (.tup [(.int 0), (.int 1)])]
def s3_l_are_steps_right : S := .for (.nm 4) .r2 [(.int 1), (.bin .add (.var 6) (.int 1))] [.set 10 (.call 0 [(.var 1), (.var 3), (.var 4)]), .setT (.tp [(.nm 11), (.nm 12)]) (.call 1 [(.var 3), (.var 5), (.var 4)]), .par [7, 8] [(.call 2 [(.var 7), (.call 3 [(.var 10), (.call 4 [(.var 11), (.var 12)])])]), (.call 2 [(.var 8), (.var 10)])], .set 9 (.call 2 [(.var 9), (.call 3 [(.tup [(.var 4), (.int 1)]), (.var 10)])])]
def s4_l_are_steps_right : S := .ret (.and (.cmp .eq (.var 7) (.call 5 [(.var 1), (.var 5)])) (.and (.cmp .eq (.var 8) (.call 5 [(.var 1), (.var 3)])) (.cmp .eq (.var 9) (.tup [(.var 3), (.int 1)]))))
def b_l_are_steps_right : List S := [s0_l_are_steps_right, s1_l_are_steps_right, s2_l_are_steps_right, s3_l_are_steps_right, s4_l_are_steps_right]
-- _law_are_steps_right : callees ['thinned_times', '_law_shown', '_law_plus', '_law_times', '_law_ratio', 'thinned']; changing ['_law_take']; constants []; level 7
def n_l_is_curve_right : List Str := ["sample", "draws", "curve", "steps", "once", "one", "other", "many"]
def s0_l_is_curve_right : S := .set 2 (.call 0 [(.var 0)])
def s1_l_is_curve_right : S := .ife (.or (.cmp .ne (.bi .len [(.var 2)]) (.bin .add (.var 1) (.int 1))) (.or (.cmp .ne (.idx (.var 2) (.int 0)) (.tup [(.int 0), (.int 1)])) (.cmp .ne (.idx (.var 2) (.neg (.int 1))) (.tup [(.bi .sum [(.comp [5, 7] (.tp [(.nm 5), (.nm 7)]) .seqT [(.var 0)] (.var 7))]), (.int 1)])))) [.ret (.bl false)] []
def s2_l_is_curve_right : S := .set 3 (.comp [5, 6] (.tp [(.nm 5), (.nm 6)]) .zip [(.var 2), (.sl1 (.var 2) (.int 1))] (.call 1 [(.var 6), (.tup [(.neg (.idx (.var 5) (.int 0))), (.idx (.var 5) (.int 1))])]))
def s3_l_is_curve_right : S := .ife (.or (.bi .any [(.comp [5, 6] (.tp [(.nm 5), (.nm 6)]) .zip [(.var 3), (.sl1 (.var 3) (.int 1))] (.call 2 [(.var 5), (.var 6)]))]) (.cmp .ne (.idx (.var 3) (.int 0)) (.tup [(.int 1), (.int 1)]))) [.ret (.bl false)] []
def s4_l_is_curve_right : S := .set 4 (.call 3 [(.get (.dl (.var 0)) (.int 1) (.int 0)), (.var 1)])
def s5_l_is_curve_right : S := .ret (.and (.cmp .eq (.idx (.var 3) (.neg (.int 1))) (.var 4)) (.and (.cmp .eq (.call 5 [(.var 0)]) (.var 4)) (.cmp .eq (.call 4 [(.var 0)]) (.var 4))))
def b_l_is_curve_right : List S := [s0_l_is_curve_right, s1_l_is_curve_right, s2_l_is_curve_right, s3_l_is_curve_right, s4_l_is_curve_right, s5_l_is_curve_right]
-- _law_is_curve_right : callees ['thinned_curve', '_law_plus', '_law_below', '_law_ratio', 'good_turing', 'new_by_last']; changing []; constants []; level 7
def n_l_right : List Str := ["pot", "sample", "draws", "looked", "wish", "told", "kinds", "one", "many"]
def s0_l_right : S := .set 1 (.callB 0 0 [(.int 6), (.callB 1 0 [(.lst [(.int 3), (.int 12), (.int 200)])]), (.callB 1 0 [(.lst [(.int 2), (.int 9), (.int 40)])]), (.callB 1 0 [(.lst [(.int 20), (.int 90), (.int 400)])])])
def s1_l_right : S := .set 2 (.bi .sum [(.comp [7, 8] (.tp [(.nm 7), (.nm 8)]) .seqT [(.var 1)] (.bin .mul (.var 7) (.var 8)))])
def s2_l_right : S := .for (.nm 3) .seqT [(.tup [(.int 0), (.var 2), (.bi .int [(.callB 2 0 [(.bin .add (.var 2) (.int 1))])])])] [.ife (.not (.callB 3 0 [(.var 1), (.var 2), (.var 3)])) [.ret (.bl false)] []]
def s3_l_right : S := .ife (.or (.not (.callB 4 0 [(.var 1), (.var 2)])) (.and (.cmp .le (.var 2) (.int 60)) (.not (.call 0 [(.var 1), (.var 2)])))) [.ret (.bl false)] []
def s4_l_right : S := .ife (.cmp .gt (.var 2) (.int 90)) [.ret (.bl true)] []
def s5_l_right : S := .set 4 (.bi .int [(.callB 2 0 [(.bin .add (.var 2) (.int 1))])])
def s6_l_right : S := .par [5, 6] [(.call 1 [(.var 1), (.var 4)]), (.bi .sum [(.comp [7, 8] (.tp [(.nm 7), (.nm 8)]) .seqT [(.var 1)] (.var 8))])]
def s7_l_right : S := .ife (.cmp .is (.var 5) .non) [.ret (.cmp .gt (.var 4) (.var 6))] []
def s8_l_right : S := .ife (.or (.cmp .gt (.var 4) (.var 6)) (.call 2 [(.call 3 [(.var 1), (.var 2), (.var 5)]), (.tup [(.var 4), (.int 1)])])) [.ret (.bl false)] []
def s9_l_right : S := .ret (.or (.cmp .eq (.var 5) (.int 0)) (.call 2 [(.call 3 [(.var 1), (.var 2), (.bin .sub (.var 5) (.int 1))]), (.tup [(.var 4), (.int 1)])]))
def b_l_right : List S := [s0_l_right, s1_l_right, s2_l_right, s3_l_right, s4_l_right, s5_l_right, s6_l_right, s7_l_right, s8_l_right, s9_l_right]
-- _law_right : callees ['_law_is_curve_right', 'draws_for', '_law_below', '_law_kinds_of']; changing ['_law_sample', '_law_of', '_law_take', '_law_is_look_right', '_law_are_steps_right']; constants []; level 8
def n_law : List Str := ["script", "place", "pot"]
def s0_law : S := .for (.nm 1) .seq [(.call 0 [(.var 0), (.int 2)])] [.set 2 (.callN 0 [(.var 0), (.var 1)]), .ife (.not (.callB 1 2 [])) [.ret (.bl false)] []]
def s1_law : S := .ret (.bl true)
def b_law : List S := [s0_law, s1_law]
-- law : callees ['_law_cells']; changing ['_law_pot', '_law_right']; constants []; level 9
end K20
set_option Elab.async false
set_option linter.all false
set_option maxRecDepth 100000
set_option maxHeartbeats 1000000
set_option exponentiation.threshold 20000
namespace PL
open PySem
abbrev Spec (Φ : PL.Ctx) (body : List S) (N : List Str) (k : Nat) (sp : FSp) : Prop := ∀ ds Q, sp.run ds Q → ds.length = k ∧ wSs Φ body (ent N ds) { nx := fun _ => Q .non, rt := fun d _ => Q d }
abbrev SpecB (Φ : PL.Ctx) (body : List S) (N : List Str) (k : Nat) (sp : BSp) : Prop := ∀ c ds Q, sp.run c ds Q → ds.length + 1 = k ∧ wSs Φ body (entB N c ds) { nx := fun ρ => ∃ c', ρ[0]? = some (.bor c') ∧ Q .non c', rt := fun d ρ => ∃ c', ρ[0]? = some (.bor c') ∧ Q d c' }
end PL
namespace PL
open PySem
def fv (v : VE) : Prop := v = .un ∨ ∃ d, v = .sh d
theorem tgW_fv {i : Nat} {d : D} {v : VE} {ρ0 : PL.Env} {k : PL.Env → Prop} (x : VE) (h : (v :: ρ0)[i]? = some x) (hx : fv x) : tgW (.nm i) d (v :: ρ0) k = k ((v :: ρ0).set i (.sh d)) := by
  rw [tgW_nm, h]
  rcases hx with rfl | ⟨d, rfl⟩ <;> rfl
theorem divOk_small {i j : Int} (h : 0 < j) (h2 : j < 2 ^ 60) : divOk i j := by
  refine divOk_of (by omega) ?_
  have : j.natAbs < 2 ^ 60 := by omega
  exact Nat.lt_of_lt_of_le this (Nat.pow_le_pow_right (by omega) (by omega))
theorem seqK {Φ : PL.Ctx} {st : PL.S} {ss : List PL.S} {ρ : PL.Env} {D : PL.End} (h : ∀ P : PL.Env → Prop, (∀ ρ', wSs Φ ss ρ' D → P ρ') → wS Φ st ρ { D with nx := P }) : wSs Φ (st :: ss) ρ D := by
  rw [wSs]; exact h _ fun _ h => h
end PL
namespace K20
open PySem PL Bn
theorem fdiv_step {n i : Nat} (h : i ≤ n) : ((C n i : Int) * ((n : Int) - (i : Int))).fdiv ((i : Int) + 1) = (C n (i + 1) : Int) := by
  have e : (C n i : Int) * ((n : Int) - (i : Int)) = (C n (i + 1) : Int) * ((i : Int) + 1) := by
    have := C_step n i h
    have e1 : (n : Int) - (i : Int) = ((n - i : Nat) : Int) := by omega
    rw [e1]
    exact_mod_cast this.symm
  rw [e]
  exact Int.mul_fdiv_cancel _ (by omega)
theorem C_lt2 {n k : Nat} (h : n ≤ 1000) : ((C n k : Nat) : Int).natAbs < 2 ^ 1001 := by
  have h1 := C_le n k
  have h2 : (2 : Nat) ^ n ≤ 2 ^ 1000 := Nat.pow_le_pow_right (by omega) h
  have h3 : (2 : Nat) ^ 1000 < 2 ^ 1001 := Nat.pow_lt_pow_right (by omega) (by omega)
  rw [Int.natAbs_natCast]
  omega
def sp_choose : FSp := ⟨fun ds Q => ∃ n k : Nat, ds = [.int n, .int k] ∧ n ≤ 1000 ∧ k ≤ 1000 ∧ Q (.int (C n k)), fun _ _ _ h ⟨n, k, e, a, b, q⟩ => ⟨n, k, e, a, b, h _ q⟩⟩
theorem w_choose_of : Spec ⟨[], [], []⟩ b_choose_of n_choose_of 2 sp_choose := by
  rintro ds Q ⟨n, k, rfl, hn, hk, q⟩
  refine ⟨rfl, ?_⟩
  simp [b_choose_of, s0_choose_of, s1_choose_of, s2_choose_of, s3_choose_of, n_choose_of]
  refine ⟨fun h => ?_, fun h => ?_⟩
  · have e : C n k = 0 := C_lt h
    rw [e] at q; exact q
  · obtain ⟨m, hm, hm2⟩ : ∃ m : Nat, (if (n : Int) - (k : Int) < (k : Int) then (n : Int) - (k : Int) else (k : Int)) = (m : Int) ∧ (m = k ∨ m = n - k) := by
      by_cases e : (n : Int) - (k : Int) < (k : Int)
      · exact ⟨n - k, by rw [if_pos e]; omega, .inr rfl⟩
      · exact ⟨k, by rw [if_neg e], .inl rfl⟩
    rw [hm]
    have em : C n m = C n k := by
      rcases hm2 with rfl | rfl
      · rfl
      · exact C_symm h
    have sm : small (m : Int) := ⟨by omega, by omega⟩
    simp [sm]
    refine forW_range (fun i ρ => ∃ t, ρ = [.sh (.int n), .sh (.int k), .sh (.int (C n i)), t] ∧ fv t) ⟨.un, by simp [C_zero], .inl rfl⟩ ?_ ?_
    · rintro i ρ K hi ⟨t, rfl, ht⟩ hK
      have hin : i ≤ n := by omega
      have m1 : mulOk (C n i : Int) ((n : Int) - (i : Int)) := mulOk_of 1001 11 (C_lt2 hn) (by omega) (by omega)
      have d1 : divOk ((C n i : Int) * ((n : Int) - (i : Int))) ((i : Int) + 1) := divOk_small (by omega) (by omega)
      rw [tgW_fv t rfl ht]
      simp [m1, d1]
      rw [fdiv_step hin]
      exact hK _ ⟨_, rfl, .inr ⟨_, rfl⟩⟩
    · rintro ρ ⟨t, rfl, ht⟩
      simp
      rw [em]; exact q
theorem w_l_choose : Spec ⟨[], [], []⟩ b_l_choose n_l_choose 2 sp_choose := by
  rintro ds Q ⟨n, k, rfl, hn, hk, q⟩
  refine ⟨rfl, ?_⟩
  simp [b_l_choose, s0_l_choose, s1_l_choose, s2_l_choose, n_l_choose]
  refine ⟨fun h => ⟨⟨by omega, by omega⟩, ?_⟩, fun h => ⟨⟨by omega, by omega⟩, ?_⟩⟩
  · rw [if_pos h]
    refine forW_range (fun i ρ => ∃ t, ρ = [.sh (.int n), .sh (.int k), .sh (.int (C n i)), t] ∧ fv t) ⟨.un, by simp [C_zero], .inl rfl⟩ ?_ ?_
    · rintro i ρ K hi ⟨t, rfl, ht⟩ hK
      have hin : i ≤ n := by omega
      have m1 : mulOk (C n i : Int) ((n : Int) - (i : Int)) := mulOk_of 1001 11 (C_lt2 hn) (by omega) (by omega)
      have d1 : divOk ((C n i : Int) * ((n : Int) - (i : Int))) ((i : Int) + 1) := divOk_small (by omega) (by omega)
      rw [tgW_fv t rfl ht]
      simp [m1, d1]
      rw [fdiv_step hin]
      exact hK _ ⟨_, rfl, .inr ⟨_, rfl⟩⟩
    · rintro ρ ⟨t, rfl, ht⟩
      simp
      exact q
  · have e : C n k = 0 := C_lt h
    rw [e] at q
    rw [if_neg (by omega)]
    simp [rangeD]
    exact q
end K20
set_option Elab.async false
set_option linter.all false
set_option maxRecDepth 100000
set_option maxHeartbeats 1000000
set_option exponentiation.threshold 20000
namespace K20
open PySem PL Bn
def pD (s : Smp) : List D := s.map fun p => .tup [.int p.1, .int p.2]
theorem pD_len (s : Smp) : (pD s).length = s.length := by simp [pD]
theorem sum_dr (s : Smp) : (s.map fun p => (p.1 : Int) * (p.2 : Int)).sum = dr s := by
  induction s with
  | nil => rfl
  | cons p s ih => rw [List.map_cons, List.sum_cons, ih]; simp [dr]
theorem sum_kinds (s : Smp) : (s.map fun p => (p.2 : Int)).sum = kinds s := by
  induction s with
  | nil => rfl
  | cons p s ih => rw [List.map_cons, List.sum_cons, ih]; simp [kinds]
theorem smp_bd {s : Smp} (hs : smp s) : ∀ p ∈ s, (1 ≤ p.1 ∧ p.1 ≤ 200) ∧ (1 ≤ p.2 ∧ p.2 ≤ 400) := hs.2.2.1
def sp_draws_of : FSp := .ge (fun s : Smp => [.tup (pD s)]) smp (fun s => .int (dr s))
theorem w_draws_of : Spec ⟨[], [], []⟩ b_draws_of n_draws_of 1 sp_draws_of := by
  rintro ds Q ⟨s, rfl, hs, q⟩
  refine ⟨rfl, ?_⟩
  have sz := szM
  have hl := hs.2.1
  simp [b_draws_of, s0_draws_of, n_draws_of, pD_len]
  refine ⟨by omega, ?_⟩
  refine compW_map (fun ρ' => ∃ u v, ρ' = [VE.sh (.tup (pD s)), u, v]) (fun p : Nat × Nat => D.tup [.int p.1, .int p.2]) (fun p => D.int ((p.1 : Int) * (p.2 : Int))) (fun _ _ => trivial) ?_ ⟨_, _, rfl⟩ ?_
  · rintro p hp ρ K ⟨u, v, rfl⟩ hK
    have hb := smp_bd hs p hp
    have m1 : mulOk (p.1 : Int) (p.2 : Int) := mulOk_of 10 10 (by omega) (by omega) (by omega)
    simp [m1]
    exact hK _ ⟨_, _, rfl⟩
  · rintro ρ' ⟨u, v, rfl⟩
    simp [sum_dr]
    exact q
def sp_rising_l : FSp := .ge (fun ns : List Int => [.lst (ns.map D.int)]) (fun ns => ns.length < 1000) (fun ns => .bl ((List.zip ns ns.tail).all fun p => decide (p.1 < p.2)))
theorem w_is_rising : Spec ⟨[], [], []⟩ b_is_rising n_is_rising 1 sp_rising_l := by
  rintro ds Q ⟨ns, rfl, hl, q⟩
  refine ⟨rfl, ?_⟩
  have sz := szM
  simp [b_is_rising, s0_is_rising, n_is_rising, cut_one, ← List.map_tail, zip_pairs]
  refine ⟨by omega, ?_⟩
  refine compW_map (fun ρ' => ∃ u v, ρ' = [VE.sh (.lst (ns.map D.int)), u, v]) _ (fun p : Int × Int => D.bl (decide (p.1 < p.2))) (fun _ _ => trivial) ?_ ⟨_, _, rfl⟩ ?_
  · rintro p hp ρ K ⟨u, v, rfl⟩ hK
    simp
    exact hK _ ⟨_, _, rfl⟩
  · rintro ρ' ⟨u, v, rfl⟩
    simpa [List.all_map, Function.comp_def] using q
theorem rising_zip : ∀ {ns : List Int}, ns.Pairwise (· < ·) → ((List.zip ns ns.tail).all fun p => decide (p.1 < p.2)) = true
  | [], _ => rfl
  | [_], _ => rfl
  | a :: b :: r, h => by
    have h1 := (List.pairwise_cons.1 h).1 b (by simp)
    have := rising_zip (List.pairwise_cons.1 h).2
    simp only [List.tail_cons, List.zip_cons_cons, List.all_cons] at this ⊢
    rw [this]; simp [h1]
def sp_is_sample : FSp := .ge (fun s : Smp => [.tup (pD s)]) smp (fun _ => .bl true)
theorem w_is_sample : Spec ⟨[("is_tuple", sp_is_tuple), ("is_integer", sp_is_integer), ("draws_of", sp_draws_of), ("is_rising", sp_rising_l)], [], [("PAIR_kinds", .int 2), ("MOST_TIMES", .int 200), ("MOST_DRAWS", .int 400)]⟩ b_is_sample n_is_sample 1 sp_is_sample := by
  rintro ds Q ⟨s, rfl, hs, q⟩
  refine ⟨rfl, ?_⟩
  have sz := szM
  have hl := hs.2.1
  have hl1 : 1 ≤ s.length := List.length_pos_iff.2 hs.1
  have h0 : (1 : Int) ≤ (s.length : Int) := by omega
  have h1 : (s.length : Int) ≤ 200 := by omega
  simp only [b_is_sample, n_is_sample, ent]
  refine seqK fun P hP => ?_
  simp [s0_is_sample, sp_is_tuple, pD_len, h0, h1, -compW]
  refine ⟨by omega, ?_⟩
  refine compW_map (fun ρ' => ∃ u, ρ' = [VE.sh (.tup (pD s)), u]) (fun p : Nat × Nat => D.tup [.int p.1, .int p.2]) (fun _ => D.bl true) (fun _ _ => trivial) ?_ ⟨_, rfl⟩ ?_
  · rintro p hp ρ K ⟨u, rfl⟩ hK
    simp
    exact hK _ ⟨_, rfl⟩
  rintro ρ' ⟨u, rfl⟩
  refine ⟨_, bls?_fn (fun _ : Nat × Nat => true) s, ?_⟩
  simp
  refine hP _ ?_
  clear hP P
  refine seqK fun P hP => ?_
  simp [s1_is_sample, pD_len, -compW]
  refine ⟨by omega, ?_⟩
  refine compW_map (fun ρ' => ∃ u, ρ' = [VE.sh (.tup (pD s)), u]) (fun p : Nat × Nat => D.tup [.int p.1, .int p.2]) (fun _ => D.bl true) (fun _ _ => trivial) ?_ ⟨_, rfl⟩ ?_
  · rintro p hp ρ K ⟨u, rfl⟩ hK
    have hb := smp_bd hs p hp
    have g1 : (1 : Int) ≤ (p.1 : Int) := by omega
    have g2 : (p.1 : Int) ≤ 200 := by omega
    have g3 : (1 : Int) ≤ (p.2 : Int) := by omega
    have g4 : (p.2 : Int) ≤ 400 := by omega
    simp [sp_is_integer, g1, g2, g3, g4]
    exact hK _ ⟨_, rfl⟩
  rintro ρ' ⟨u, rfl⟩
  refine ⟨_, bls?_fn (fun _ : Nat × Nat => true) s, ?_⟩
  simp
  refine hP _ ?_
  clear hP P
  simp [s2_is_sample, pD_len, -compW]
  refine ⟨by omega, ?_⟩
  refine compW_map (fun ρ' => ∃ u, ρ' = [VE.sh (.tup (pD s)), u]) (fun p : Nat × Nat => D.tup [.int p.1, .int p.2]) (fun p => D.int (p.1 : Int)) (fun _ _ => trivial) ?_ ⟨_, rfl⟩ ?_
  · rintro p hp ρ K ⟨u, rfl⟩ hK
    simp
    exact hK _ ⟨_, rfl⟩
  rintro ρ' ⟨u, rfl⟩
  have er : ((s.map fun p => (p.1 : Int)).zip (s.map fun p => (p.1 : Int)).tail).all (fun p => decide (p.1 < p.2)) = true := by
    refine rising_zip ?_
    rw [List.pairwise_map]
    exact hs.2.2.2.1.imp fun h => by omega
  have hd := hs.2.2.2.2
  simp
  refine ⟨s.map fun p => (p.1 : Int), by show [D.lst _] = [D.lst ((s.map fun p => (p.1 : Int)).map D.int)]; rw [List.map_map]; rfl, by show (s.map _).length < 1000; rw [List.length_map]; omega, ?_⟩
  simp only [er]
  simp
  refine ⟨s, rfl, hs, ?_⟩
  have hd' : (dr s : Int) ≤ 400 := by omega
  have q : Q (.bl true) := q
  simpa [hd'] using q
def sp_check_sample : FSp := .ge (fun s : Smp => [.tup (pD s)]) smp (fun _ => .non)
theorem w_check_sample : Spec ⟨[("is_sample", sp_is_sample)], [], []⟩ b_check_sample n_check_sample 1 sp_check_sample := by
  rintro ds Q ⟨s, rfl, hs, q⟩
  refine ⟨rfl, ?_⟩
  simp [b_check_sample, s0_check_sample, n_check_sample]
  exact ⟨s, rfl, hs, by simpa using q⟩
def sp_check_draws : FSp := ⟨fun ds Q => ∃ a b : Int, ds = [.int a, .int b] ∧ 0 ≤ a ∧ a ≤ b ∧ Q .non, fun _ _ _ h ⟨a, b, e, x, y, q⟩ => ⟨a, b, e, x, y, h _ q⟩⟩
theorem w_check_draws : Spec ⟨[("is_integer", sp_is_integer)], [], []⟩ b_check_draws n_check_draws 2 sp_check_draws := by
  rintro ds Q ⟨a, b, rfl, h1, h2, q⟩
  refine ⟨rfl, ?_⟩
  simp [b_check_draws, s0_check_draws, n_check_draws, sp_is_integer, h1, h2]
  exact q
def sp_check_fewer : FSp := ⟨fun ds Q => ∃ (s : Smp) (d : Nat), ds = [.tup (pD s), .int d] ∧ smp s ∧ d ≤ dr s ∧ Q .non, fun _ _ _ h ⟨a, b, e, x, y, q⟩ => ⟨a, b, e, x, y, h _ q⟩⟩
theorem w_check_fewer : Spec ⟨[("check_sample", sp_check_sample), ("check_draws", sp_check_draws), ("draws_of", sp_draws_of)], [], []⟩ b_check_fewer n_check_fewer 2 sp_check_fewer := by
  rintro ds Q ⟨s, d, rfl, hs, hd, q⟩
  refine ⟨rfl, ?_⟩
  simp [b_check_fewer, s0_check_fewer, s1_check_fewer, n_check_fewer]
  refine ⟨s, rfl, hs, ?_⟩
  simp
  refine ⟨s, rfl, hs, ?_⟩
  simp
  exact ⟨d, dr s, rfl, by omega, by omega, by simpa using q⟩
/-! ### differences -/
def sp_minus : FSp := ⟨fun ds Q => match ds with | [.tup [.int a, .int b], .tup [.int c, .int d]] => 0 < b ∧ 0 < d ∧ (∃ m n, a.natAbs < 2 ^ m ∧ b.natAbs < 2 ^ m ∧ c.natAbs < 2 ^ n ∧ d.natAbs < 2 ^ n ∧ m + n ≤ 9000) ∧ Q (fr ((a : Rat) / b - (c : Rat) / d)) | _ => False, fun ds Q Q' h r => by
  split at r
  · exact ⟨r.1, r.2.1, r.2.2.1, h _ r.2.2.2⟩
  · exact r⟩
theorem sub_frac {a b c d : Int} (hb : 0 < b) (hd : 0 < d) : ((a * d - c * b : Int) : Rat) / ((b * d : Int) : Rat) = (a : Rat) / b - (c : Rat) / d := by
  have hb' := frac_ne hb
  have hd' := frac_ne hd
  rw [Rat.intCast_sub, Rat.intCast_mul, Rat.intCast_mul, Rat.intCast_mul]
  grind
theorem w_minus_of : Spec ⟨[("ratio_of", sp_ratio)], [], []⟩ b_minus_of n_minus_of 2 sp_minus := by
  intro ds Q h
  unfold sp_minus at h
  simp only at h
  split at h
  · rename_i a b c d
    obtain ⟨hb, hd, ⟨m, n, h1, h2, h3, h4, hmn⟩, q⟩ := h
    refine ⟨rfl, ?_⟩
    have k1 : mulOk a d := mulOk_of m n h1 h4 (by omega)
    have k2 : mulOk c b := mulOk_of n m h3 h2 (by omega)
    have k3 : mulOk b d := mulOk_of m n h2 h4 (by omega)
    have k4 : 0 < b * d := Int.mul_pos hb hd
    have k5 : (b * d).natAbs < 2 ^ 9000 := Nat.lt_of_lt_of_le (natAbs_mul_lt h2 h4) (Nat.pow_le_pow_right (by omega) hmn)
    have k6 := sub_frac (a := a) (c := c) hb hd
    simp only [Rat.intCast_sub, Rat.intCast_mul] at k6
    simp [b_minus_of, s0_minus_of, n_minus_of, sp_ratio, k1, k2, k3, k4, k5, -Nat.reducePow]
    rw [k6]; exact q
  · exact h.elim
theorem run_minus {p q : Rat} {m n : Nat} {Q : D → Prop} (h1 : Fb m p) (h2 : Fb n q) (h : m + n ≤ 9000) (k : Q (fr (p - q))) : sp_minus.run [fr p, fr q] Q := by
  have hp : (0 : Int) < p.den := by have := p.den_pos; omega
  have hq : (0 : Int) < q.den := by have := q.den_pos; omega
  refine ⟨hp, hq, ⟨m, n, h1.1, by simpa using h1.2, h2.1, by simpa using h2.2, h⟩, ?_⟩
  rw [div_num_den, div_num_den]; exact k
end K20
set_option Elab.async false
set_option linter.all false
set_option maxRecDepth 100000
set_option maxHeartbeats 1000000
set_option exponentiation.threshold 20000
namespace K20
open PySem PL Bn
theorem Szs_all {n : Nat} : ∀ {qs : List Rat}, (∀ q ∈ qs, Fb n q) → Szs qs (qs.length * (n + 1))
  | [], _ => by simpa using Szs.nil
  | q :: qs, h => by
    have := Szs.cons (h q (by simp)) (Szs_all (qs := qs) fun x hx => h x (by simp [hx]))
    have e : (q :: qs).length * (n + 1) = n + 1 + qs.length * (n + 1) := by rw [List.length_cons, Nat.succ_mul]; omega
    rw [e]; exact this
theorem rt_sub {c w : Nat} (hw : 0 < w) (hc : c ≤ w) : 1 - ((c : Int) : Rat) / ((w : Int) : Rat) = rt (w - c) w := by
  have := row_eq (m := 1) hw hc
  have e1 : ((1 : Int) : Rat) = 1 := rfl
  rw [Nat.one_mul] at this
  rw [← this]
  have e2 : (((1 : Nat) : Int) : Rat) = 1 := rfl
  rw [e2, e1]
  grind
theorem rt_mul (m a w : Nat) : ((m : Int) : Rat) * rt a w = rt (m * a) w := by
  unfold rt
  rw [Int.natCast_mul, Rat.intCast_mul, Rat.div_def, Rat.div_def, Rat.mul_assoc]
def row (s : Smp) (d : Nat) (p : Nat × Nat) : Rat := rt (p.2 * (C (dr s) d - C (dr s - p.1) d)) (C (dr s) d)
theorem row_Fb {s : Smp} (hs : smp s) {d : Nat} (hd : d ≤ dr s) {p : Nat × Nat} (hp : p ∈ s) : Fb 410 (row s d p) := by
  have h3 := hs.2.2.2.2
  have hb := smp_bd hs p hp
  refine Fb_rt (C_pos hd) ?_ ?_
  · refine Nat.lt_of_le_of_lt (Nat.mul_le_mul_left _ (Nat.sub_le _ _)) (kC_lt (by omega) h3)
  · have := kC_lt (k := 1) (N := dr s) (d := d) (by omega) h3
    omega
theorem C_nat {N d : Nat} (hN : N ≤ 400) : C N d < 2 ^ 410 := by
  have := kC_lt (k := 1) (N := N) (d := d) (by omega) hN
  omega
theorem C_abs {N d n : Nat} (hN : N ≤ 400) (hn : 410 ≤ n) : ((C N d : Nat) : Int).natAbs < 2 ^ n := by
  rw [Int.natAbs_natCast]
  exact Nat.lt_of_lt_of_le (C_nat hN) (Nat.pow_le_pow_right (by omega) hn)
def un3 (a b c : VE) : Prop := (a = .un ∧ b = .un ∧ c = .un) ∨ ∃ d e f, a = .sh d ∧ b = .sh e ∧ c = .sh f
def sp_thinned_of : FSp := ⟨fun ds Q => ∃ (s : Smp) (d : Nat), ds = [.tup (pD s), .int d] ∧ smp s ∧ d ≤ dr s ∧ Q (fr (K s d)), fun _ _ _ h ⟨a, b, e, x, y, q⟩ => ⟨a, b, e, x, y, h _ q⟩⟩
theorem w_thinned_of : Spec ⟨[("draws_of", sp_draws_of), ("ratio_of", sp_ratio), ("choose_of", sp_choose), ("times_of", sp_times), ("minus_of", sp_minus), ("total_of", sp_total)], [], []⟩ b_thinned_of n_thinned_of 2 sp_thinned_of := by
  rintro ds Q ⟨s, d, rfl, hs, hd, q⟩
  refine ⟨rfl, ?_⟩
  have sz := szM
  have hN := hs.2.2.2.2
  have hl := hs.2.1
  simp only [b_thinned_of, n_thinned_of, ent]
  refine seqK fun P hP => ?_
  simp [s0_thinned_of]
  refine ⟨s, rfl, hs, ?_⟩
  simp
  refine ⟨by omega, hP _ ?_⟩
  clear hP P
  refine seqK fun P hP => ?_
  simp [s1_thinned_of, -forW]
  refine forW_list (fun r ρ => ∃ pre t4 t5 t6, pre ++ r = s ∧ ρ = [VE.sh (.tup (pD s)), .sh (.int d), .sh (.int (dr s)), .own (.lst (pre.map fun p => fr (row s d p))), t4, t5, t6] ∧ un3 t4 t5 t6) (fun p : Nat × Nat => D.tup [.int p.1, .int p.2]) ⟨[], _, _, _, rfl, rfl, .inl ⟨rfl, rfl, rfl⟩⟩ ?_ ?_
  · rintro p r ρ K' _ ⟨pre, t4, t5, t6, hpr, rfl, ht⟩ hK
    have hp : p ∈ s := by rw [← hpr]; simp
    have hb := smp_bd hs p hp
    have hle := le_of hs hp
    have e1 : (dr s : Int) - (p.1 : Int) = ((dr s - p.1 : Nat) : Int) := by omega
    have hcw := C_mono d (show dr s - p.1 ≤ dr s by omega)
    have hpos := C_pos hd
    have hlen : pre.length < 6 := by
      have := congrArg List.length hpr
      simp at this; omega
    have core : ∀ P : PL.Env → Prop, (∀ x y z, P [VE.sh (.tup (pD s)), .sh (.int d), .sh (.int (dr s)), .own (.lst (pre.map (fun p => fr (row s d p)) ++ [fr (row s d p)])), .sh x, .sh y, .sh z] ) →
        sp_choose.run [.int ((dr s - p.1 : Nat) : Int), .int d] fun da => sp_choose.run [.int (dr s), .int d] fun db => sp_ratio.run [da, db] fun x =>
          2 ≤ sizeLine ∧ sp_minus.run [.tup [.int 1, .int 1], x] fun y => sp_times.run [.tup [.int p.2, .int 1], y] fun z => pre.length < sizeLine ∧ P [VE.sh (.tup (pD s)), .sh (.int d), .sh (.int (dr s)), .own (.lst (pre.map (fun p => fr (row s d p)) ++ [z])), .sh (.int p.1), .sh (.int p.2), .sh x] := by
      intro P hP
      refine ⟨_, _, rfl, by omega, by omega, _, _, rfl, by omega, by omega, ?_⟩
      refine ⟨by omega, C_abs hN (by omega), by omega, ?_⟩
      have r1 := rt_sub hpos hcw
      refine run_minus (p := 1) (m := 1) (n := 410) ⟨by decide, by decide⟩ (Fb_rt hpos (C_nat (by omega)) (C_nat hN)) (by omega) ?_
      show sp_times.run [.tup [.int p.2, .int 1], fr (1 - ((C (dr s - p.1) d : Int) : Rat) / ((C (dr s) d : Int) : Rat))] _
      rw [r1]
      refine run_times (p := ((p.2 : Int) : Rat)) (m := 10) (n := 410) ⟨by show (p.2 : Int).natAbs < _; omega, by show 1 < _; decide⟩ (Fb_rt hpos (Nat.lt_of_le_of_lt (Nat.sub_le _ _) (C_nat hN)) (C_nat hN)) (by omega) ?_
      rw [rt_mul]
      exact ⟨by omega, hP _ _ _⟩
    have core' := core K' fun x y z => hK _ ⟨pre ++ [p], .sh x, .sh y, .sh z, by simpa using hpr, by simp, .inr ⟨_, _, _, rfl, rfl, rfl⟩⟩
    rcases ht with ⟨rfl, rfl, rfl⟩ | ⟨_, _, _, rfl, rfl, rfl⟩
    all_goals
      simp [e1]
      exact core'
  · rintro ρ ⟨pre, t4, t5, t6, hpr, rfl, ht⟩
    rw [List.append_nil] at hpr
    subst hpr
    refine hP _ ?_
    simp [s2_thinned_of]
    refine ⟨_, _, pre.map (row pre d), pre.length * 411, rfl, rfl, by rw [List.map_map]; rfl, ?_, by omega, ?_⟩
    · have := Szs_all (n := 410) (qs := pre.map (row pre d)) fun x hx => by
        rw [List.mem_map] at hx
        obtain ⟨p, hp, rfl⟩ := hx
        exact row_Fb hs hd hp
      rwa [List.length_map] at this
    · have e : (pre.map (row pre d)).sum = K pre d := (K_row hd).symm
      rw [e]
      simpa using q
theorem w_thinned : Spec ⟨[("check_fewer", sp_check_fewer), ("thinned_of", sp_thinned_of)], [], []⟩ b_thinned n_thinned 2 sp_thinned_of := by
  rintro ds Q ⟨s, d, rfl, hs, hd, q⟩
  refine ⟨rfl, ?_⟩
  simp [b_thinned, s0_thinned, s1_thinned, n_thinned]
  refine ⟨s, d, rfl, hs, hd, ?_⟩
  simp
  exact ⟨s, d, rfl, hs, hd, by simpa using q⟩
/-! ### how many often -/
def rowT (s : Smp) (d t : Nat) (p : Nat × Nat) : Rat := rt (p.2 * (C p.1 t * C (dr s - p.1) (d - t))) (C (dr s) d)
theorem ways_lt {a b k l m : Nat} (ha : a ≤ 200) (hb : b ≤ 400) (hm : m ≤ 400) : m * (C a k * C b l) < 2 ^ 620 := by
  have h1 := Nat.le_trans (C_le a k) (Nat.pow_le_pow_right (show 0 < 2 by omega) ha)
  have h2 := Nat.le_trans (C_le b l) (Nat.pow_le_pow_right (show 0 < 2 by omega) hb)
  have h3 : m * (C a k * C b l) ≤ 400 * (2 ^ 200 * 2 ^ 400) := Nat.mul_le_mul hm (Nat.mul_le_mul h1 h2)
  have h4 : (400 : Nat) * (2 ^ 200 * 2 ^ 400) < 2 ^ 620 := by decide +kernel
  omega
theorem rowT_Fb {s : Smp} (hs : smp s) {d t : Nat} (hd : d ≤ dr s) {p : Nat × Nat} (hp : p ∈ s) : Fb 620 (rowT s d t p) := by
  have h3 := hs.2.2.2.2
  have hb := smp_bd hs p hp
  refine Fb_rt (C_pos hd) (ways_lt (by omega) (by omega) (by omega)) ?_
  exact Nat.lt_of_lt_of_le (C_nat h3) (Nat.pow_le_pow_right (by omega) (by omega))
def sp_thinned_times : FSp := ⟨fun ds Q => ∃ (s : Smp) (d t : Nat), ds = [.tup (pD s), .int d, .int t] ∧ smp s ∧ d ≤ dr s ∧ t ≤ d ∧ Q (fr (T s d t)), fun _ _ _ h ⟨a, b, c, e, x, y, z, q⟩ => ⟨a, b, c, e, x, y, z, h _ q⟩⟩
theorem w_thinned_times : Spec ⟨[("check_fewer", sp_check_fewer), ("check_draws", sp_check_draws), ("draws_of", sp_draws_of), ("choose_of", sp_choose), ("ratio_of", sp_ratio), ("total_of", sp_total)], [], []⟩ b_thinned_times n_thinned_times 3 sp_thinned_times := by
  rintro ds Q ⟨s, d, t, rfl, hs, hd, htd, q⟩
  refine ⟨rfl, ?_⟩
  have sz := szM
  have hN := hs.2.2.2.2
  have hl := hs.2.1
  simp only [b_thinned_times, n_thinned_times, ent]
  refine seqK fun P hP => ?_
  simp [s0_thinned_times]
  refine ⟨s, d, rfl, hs, hd, hP _ ?_⟩
  clear hP P
  refine seqK fun P hP => ?_
  simp [s1_thinned_times]
  refine ⟨t, d, rfl, by omega, by omega, hP _ ?_⟩
  clear hP P
  refine seqK fun P hP => ?_
  simp [s2_thinned_times]
  refine ⟨s, rfl, hs, ?_⟩
  simp
  refine ⟨by omega, hP _ ?_⟩
  clear hP P
  refine seqK fun P hP => ?_
  simp [s3_thinned_times, -forW]
  refine forW_list (fun r ρ => ∃ pre t5 t6 t7, pre ++ r = s ∧ ρ = [VE.sh (.tup (pD s)), .sh (.int d), .sh (.int t), .sh (.int (dr s)), .own (.lst (pre.map fun p => fr (rowT s d t p))), t5, t6, t7] ∧ un3 t5 t6 t7) (fun p : Nat × Nat => D.tup [.int p.1, .int p.2]) ⟨[], _, _, _, rfl, rfl, .inl ⟨rfl, rfl, rfl⟩⟩ ?_ ?_
  · rintro p r ρ K' _ ⟨pre, t5, t6, t7, hpr, rfl, ht⟩ hK
    have hp : p ∈ s := by rw [← hpr]; simp
    have hb := smp_bd hs p hp
    have hle := le_of hs hp
    have e1 : (dr s : Int) - (p.1 : Int) = ((dr s - p.1 : Nat) : Int) := by omega
    have e2 : (d : Int) - (t : Int) = ((d - t : Nat) : Int) := by omega
    have hpos := C_pos hd
    have hlen : pre.length < 6 := by
      have := congrArg List.length hpr
      simp at this; omega
    have c1 : ((C p.1 t : Nat) : Int).natAbs < 2 ^ 1001 := C_lt2 (by omega)
    have c2 : ((C (dr s - p.1) (d - t) : Nat) : Int).natAbs < 2 ^ 1001 := C_lt2 (by omega)
    have m1 : mulOk (C p.1 t : Int) (C (dr s - p.1) (d - t) : Int) := mulOk_of _ _ c1 c2 (by omega)
    have m2 : mulOk (p.2 : Int) ((C p.1 t : Int) * (C (dr s - p.1) (d - t) : Int)) := mulOk_of 10 2002 (by omega) (natAbs_mul_lt c1 c2) (by omega)
    have next : ∀ x y z a, a = fr (rowT s d t p) → K' [VE.sh (.tup (pD s)), .sh (.int d), .sh (.int t), .sh (.int (dr s)), .own (.lst (pre.map (fun p => fr (rowT s d t p)) ++ [a])), .sh x, .sh y, .sh z] := fun x y z a e => by
      subst e
      exact hK _ ⟨pre ++ [p], .sh x, .sh y, .sh z, by simpa using hpr, by simp, .inr ⟨_, _, _, rfl, rfl, rfl⟩⟩
    rcases ht with ⟨rfl, rfl, rfl⟩ | ⟨_, _, _, rfl, rfl, rfl⟩
    all_goals
      simp [e1, e2]
      refine ⟨_, _, rfl, by omega, by omega, _, _, rfl, by omega, by omega, ?_⟩
      simp [m1, m2]
      refine ⟨_, _, rfl, by omega, by omega, by omega, C_abs hN (by omega), by omega, next _ _ _ _ ?_⟩
      unfold rowT rt
      congr 1
  · rintro ρ ⟨pre, t5, t6, t7, hpr, rfl, ht⟩
    rw [List.append_nil] at hpr
    subst hpr
    refine hP _ ?_
    simp [s4_thinned_times]
    refine ⟨_, _, pre.map (rowT pre d t), pre.length * 621, rfl, rfl, by rw [List.map_map]; rfl, ?_, by omega, ?_⟩
    · have := Szs_all (n := 620) (qs := pre.map (rowT pre d t)) fun x hx => by
        rw [List.mem_map] at hx
        obtain ⟨p, hp, rfl⟩ := hx
        exact rowT_Fb hs hd hp
      rwa [List.length_map] at this
    · have e : (pre.map (rowT pre d t)).sum = T pre d t := (T_row hd).symm
      rw [e]
      simpa using q
end K20
set_option Elab.async false
set_option linter.all false
set_option maxRecDepth 100000
set_option maxHeartbeats 1000000
set_option exponentiation.threshold 20000
namespace K20
open PySem PL Bn
open L2 (Key)
def curveD (s : Smp) : List D := (List.range (dr s + 1)).map fun d => fr (K s d)
def sp_curve : FSp := .ge (fun s : Smp => [.tup (pD s)]) smp (fun s => .tup (curveD s))
theorem w_thinned_curve : Spec ⟨[("check_sample", sp_check_sample), ("draws_of", sp_draws_of), ("thinned_of", sp_thinned_of)], [], []⟩ b_thinned_curve n_thinned_curve 1 sp_curve := by
  rintro ds Q ⟨s, rfl, hs, q⟩
  refine ⟨rfl, ?_⟩
  have sz := szM
  have hN := hs.2.2.2.2
  have sm : small ((dr s : Int) + 1) := ⟨by omega, by omega⟩
  have e1 : ((dr s : Int) + 1).toNat = dr s + 1 := by omega
  simp only [b_thinned_curve, n_thinned_curve, ent]
  refine seqK fun P hP => ?_
  simp [s0_thinned_curve]
  refine ⟨s, rfl, hs, ?_⟩
  refine hP _ ?_
  clear hP P
  simp [s1_thinned_curve]
  refine ⟨s, rfl, hs, ?_⟩
  simp [sm, e1, rangeD_len]
  refine ⟨by omega, ?_⟩
  rw [rangeD_map]
  refine compW_map (fun ρ' => ∃ u, ρ' = [VE.sh (.tup (pD s)), u]) (fun i : Nat => D.int (0 + i)) (fun d => fr (K s d)) (fun _ _ => trivial) ?_ ⟨_, rfl⟩ ?_
  · rintro d hd ρ K' ⟨u, rfl⟩ hK
    rw [List.mem_range] at hd
    simp
    refine ⟨s, d, rfl, hs, by omega, ?_⟩
    exact hK _ ⟨_, rfl⟩
  · rintro ρ' ⟨u, rfl⟩
    simp
    exact q
def sp_new_by_last : FSp := .ge (fun s : Smp => [.tup (pD s)]) smp (fun s => fr (K s (dr s) - K s (dr s - 1)))
theorem dr_pos {s : Smp} (hs : smp s) : 1 ≤ dr s := by
  obtain ⟨p, r, e⟩ := List.exists_cons_of_ne_nil hs.1
  have hp : p ∈ s := by rw [e]; simp
  have := mem_dr hp
  have hb := smp_bd hs p hp
  have : 1 * 1 ≤ p.1 * p.2 := Nat.mul_le_mul (by omega) (by omega)
  omega
theorem w_new_by_last : Spec ⟨[("check_sample", sp_check_sample), ("draws_of", sp_draws_of), ("minus_of", sp_minus), ("thinned_of", sp_thinned_of)], [], []⟩ b_new_by_last n_new_by_last 1 sp_new_by_last := by
  rintro ds Q ⟨s, rfl, hs, q⟩
  refine ⟨rfl, ?_⟩
  have hp := dr_pos hs
  have e1 : (dr s : Int) - 1 = ((dr s - 1 : Nat) : Int) := by omega
  simp [b_new_by_last, s0_new_by_last, s1_new_by_last, s2_new_by_last, n_new_by_last]
  refine ⟨s, rfl, hs, ?_⟩
  simp
  refine ⟨s, rfl, hs, ?_⟩
  simp [e1]
  refine ⟨s, dr s, rfl, hs, by omega, s, dr s - 1, rfl, hs, by omega, ?_⟩
  exact run_minus (K_Fb hs (Nat.le_refl _)) (K_Fb hs (by omega)) (by omega) q
def sp_thinned_both : FSp := ⟨fun ds Q => ∃ (s : Smp) (d : Nat), ds = [.tup (pD s), .int d] ∧ smp s ∧ d ≤ dr s ∧ Q (fr (K s d + K s (dr s - d) - ((kinds s : Int) : Rat))), fun _ _ _ h ⟨a, b, e, x, y, q⟩ => ⟨a, b, e, x, y, h _ q⟩⟩
theorem w_thinned_both : Spec ⟨[("check_fewer", sp_check_fewer), ("draws_of", sp_draws_of), ("minus_of", sp_minus), ("total_of", sp_total), ("thinned_of", sp_thinned_of)], [], []⟩ b_thinned_both n_thinned_both 2 sp_thinned_both := by
  rintro ds Q ⟨s, d, rfl, hs, hd, q⟩
  refine ⟨rfl, ?_⟩
  have sz := szM
  have hl := hs.2.1
  have e1 : (dr s : Int) - (d : Int) = ((dr s - d : Nat) : Int) := by omega
  have hk := kinds_le hs
  have hN := hs.2.2.2.2
  simp only [b_thinned_both, n_thinned_both, ent]
  refine seqK fun P hP => ?_
  simp [s0_thinned_both]
  refine ⟨s, d, rfl, hs, hd, hP _ ?_⟩
  clear hP P
  refine seqK fun P hP => ?_
  simp [s1_thinned_both]
  refine ⟨s, rfl, hs, hP _ ?_⟩
  clear hP P
  refine seqK fun P hP => ?_
  simp [s2_thinned_both, pD_len]
  refine ⟨by omega, ?_⟩
  refine compW_map (fun ρ' => ∃ u v, ρ' = [VE.sh (.tup (pD s)), .sh (.int d), .sh (.int (dr s)), .un, u, v]) (fun p : Nat × Nat => D.tup [.int p.1, .int p.2]) (fun p => D.int (p.2 : Int)) (fun _ _ => trivial) ?_ ⟨_, _, rfl⟩ ?_
  · rintro p hp ρ K' ⟨u, v, rfl⟩ hK
    simp
    exact hK _ ⟨_, _, rfl⟩
  rintro ρ' ⟨u, v, rfl⟩
  simp [sum_kinds]
  refine hP _ ?_
  clear hP P
  simp [s3_thinned_both, e1]
  refine ⟨s, d, rfl, hs, hd, s, dr s - d, rfl, hs, by omega, by omega, ?_⟩
  have h1 := K_Fb hs hd
  have h2 := K_Fb hs (Nat.sub_le (dr s) d)
  refine ⟨_, _, [K s d, K s (dr s - d)], 410 + 1 + (410 + 1 + 0), rfl, rfl, rfl, ?_, by omega, ?_⟩
  · exact .cons h1 (.cons h2 .nil)
  · have e2 : [K s d, K s (dr s - d)].sum = K s d + K s (dr s - d) := by simp [Rat.add_zero]
    rw [e2]
    simp
    refine ⟨by omega, ?_⟩
    exact run_minus (q := ((kinds s : Int) : Rat)) (n := 10) (Fb_add h1 h2) ⟨by show ((kinds s : Int)).natAbs < _; omega, by show 1 < _; decide⟩ (by omega) q
/-- the first look that shows so many -/
def sp_draws_for : FSp := ⟨fun ds Q => ∃ (s : Smp) (k : Nat), ds = [.tup (pD s), .int k] ∧ smp s ∧ k ≤ dr s ∧
  (∀ i : Nat, i ≤ dr s → ((k : Int) : Rat) ≤ K s i → (∀ j, j < i → K s j < ((k : Int) : Rat)) → Q (.int i)) ∧ ((∀ j, j ≤ dr s → K s j < ((k : Int) : Rat)) → Q .non), fun _ _ _ h ⟨a, b, e, x, y, q, r⟩ => ⟨a, b, e, x, y, fun i h1 h2 h3 => h _ (q i h1 h2 h3), fun h1 => h _ (r h1)⟩⟩
theorem le_iff {k : Nat} {x : Rat} : ((k : Int) * (x.den : Int) ≤ x.num) ↔ ((k : Int) : Rat) ≤ x := by
  have hd : (0 : Int) < x.den := by have := x.den_pos; omega
  have h := lt_frac (a := x.num) (b := x.den) (c := (k : Int)) (d := 1) hd (by decide)
  rw [div_num_den, Int.mul_one] at h
  have e1 : ((k : Int) : Rat) / ((1 : Int) : Rat) = ((k : Int) : Rat) := by
    rw [show ((1 : Int) : Rat) = 1 from rfl, Rat.div_def, show (1 : Rat)⁻¹ = 1 from by decide +kernel, Rat.mul_one]
  rw [e1] at h
  constructor
  · intro h2
    exact Rat.not_lt.1 fun h3 => by have := h.2 h3; omega
  · intro h2
    exact Int.not_lt.1 fun h3 => Rat.not_lt.2 h2 (h.1 h3)
theorem w_draws_for : Spec ⟨[("check_sample", sp_check_sample), ("is_integer", sp_is_integer), ("draws_of", sp_draws_of), ("thinned_of", sp_thinned_of)], [], []⟩ b_draws_for n_draws_for 2 sp_draws_for := by
  rintro ds Q ⟨s, k, rfl, hs, hk, q1, q2⟩
  refine ⟨rfl, ?_⟩
  have hN := hs.2.2.2.2
  have sm : small ((dr s : Int) + 1) := ⟨by omega, by omega⟩
  have e1 : ((dr s : Int) + 1).toNat = dr s + 1 := by omega
  have g1 : (0 : Int) ≤ (k : Int) := by omega
  have g2 : (k : Int) ≤ (dr s : Int) := by omega
  simp only [b_draws_for, n_draws_for, ent]
  refine seqK fun P hP => ?_
  simp [s0_draws_for]
  refine ⟨s, rfl, hs, hP _ ?_⟩
  clear hP P
  refine seqK fun P hP => ?_
  simp [s1_draws_for]
  refine ⟨s, rfl, hs, ?_⟩
  simp [sp_is_integer, g1, g2]
  refine hP _ ?_
  clear hP P
  refine seqK fun P hP => ?_
  simp [s2_draws_for]
  refine ⟨s, rfl, hs, ?_⟩
  simp [sm, e1]
  refine forW_range (fun i ρ => ∃ t2 t3, ρ = [VE.sh (.tup (pD s)), .sh (.int k), t2, t3] ∧ (fv t2 ∧ fv t3) ∧ ∀ j, j < i → K s j < ((k : Int) : Rat)) ⟨_, _, rfl, ⟨.inl rfl, .inl rfl⟩, fun j hj => by omega⟩ ?_ ?_
  · rintro i ρ K' hi ⟨t2, t3, rfl, ⟨h2, h3⟩, hj⟩ hK
    have fb := K_Fb hs (show i ≤ dr s by omega)
    have m1 : mulOk (k : Int) ((K s i).den : Int) := mulOk_of 10 410 (by omega) (by simpa using fb.2) (by omega)
    rw [tgW_fv t2 rfl h2]
    rcases h3 with rfl | ⟨d, rfl⟩
    all_goals
      simp
      refine ⟨s, i, rfl, hs, by omega, ?_⟩
      simp [m1]
      refine ⟨fun h => q1 i (by omega) (le_iff.1 h) hj, fun h => hK _ ⟨_, _, rfl, ⟨.inr ⟨_, rfl⟩, .inr ⟨_, rfl⟩⟩, fun j hj' => ?_⟩⟩
      by_cases e : j = i
      · subst e
        exact Rat.not_le.1 fun h4 => by have := le_iff.2 h4; omega
      · exact hj j (by omega)
  · rintro ρ ⟨t2, t3, rfl, _, hj⟩
    refine hP _ ?_
    simp [s3_draws_for]
    exact q2 fun j h => hj j (by omega)
/-! ### how many came once -/
def ones (s : Smp) : Nat := ((s.find? fun p => decide (p.1 = 1)).map (·.2)).getD 0
def kvs (s : Smp) : List (Key × D) := s.map fun p => (Sum.inl (p.1 : Int), D.int p.2)
theorem pairsD_pD : ∀ s : Smp, pairsD (pD s) = some (kvs s)
  | [] => rfl
  | p :: s => by
    show (keyD (.int p.1)).bind (fun k => (pairsD (pD s)).map fun t => (k, D.int p.2) :: t) = _
    rw [pairsD_pD s]; rfl
theorem putD_new {A : List (Key × D)} {k : Key} {y : D} (h : ∀ p ∈ A, p.1 ≠ k) : putD A k y = A ++ [(k, y)] := by
  unfold putD
  rw [if_neg]
  intro hh
  rw [List.any_eq_true] at hh
  obtain ⟨p, hp, e⟩ := hh
  exact h p hp (by simpa using e)
theorem merge_new : ∀ (l acc : List (Key × D)), ((acc ++ l).map (·.1)).Nodup → mergeD acc l = acc ++ l
  | [], acc, _ => by simp [mergeD]
  | kv :: l, acc, h => by
    have hk : ∀ p ∈ acc, p.1 ≠ kv.1 := fun p hp e => by
      rw [List.map_append, List.nodup_append] at h
      exact h.2.2 p.1 (List.mem_map.2 ⟨p, hp, rfl⟩) kv.1 (by simp) e
    show mergeD (putD acc kv.1 kv.2) l = _
    rw [putD_new hk, merge_new l (acc ++ [(kv.1, kv.2)]) (by simpa using h)]
    simp
theorem merge_kvs {s : Smp} (hs : smp s) : mergeD [] (kvs s) = kvs s := by
  rw [merge_new]
  · rfl
  · rw [List.nil_append]
    unfold kvs
    rw [List.map_map]
    rw [List.nodup_iff_pairwise_ne, List.pairwise_map]
    exact hs.2.2.2.1.imp fun {a b} h e => by
      have : (a.1 : Int) = (b.1 : Int) := by
        have e : (Sum.inl (a.1 : Int) : Key) = Sum.inl (b.1 : Int) := e
        injection e
      omega
theorem get_one : ∀ s : Smp, (getK (kvs s) (.inl 1)).getD (.int 0) = .int (ones s)
  | [] => rfl
  | p :: s => by
    have ih := get_one s
    unfold getK kvs ones at *
    rw [List.map_cons, List.find?_cons, List.find?_cons]
    by_cases h : p.1 = 1
    · have e1 : decide ((Sum.inl (p.1 : Int) : Key) = Sum.inl 1) = true := by simp [h]
      rw [e1]; simp [h]
    · have e1 : decide ((Sum.inl (p.1 : Int) : Key) = Sum.inl 1) = false := by
        rw [decide_eq_false_iff_not]
        intro e
        injection e with e
        omega
      rw [e1]
      simp only [h, decide_false]
      exact ih
theorem ones_le {s : Smp} (hs : smp s) : ones s ≤ 400 := by
  unfold ones
  cases h : s.find? fun p => decide (p.1 = 1) with
  | none => simp
  | some p => simpa using (smp_bd hs p (List.mem_of_find?_eq_some h)).2.2
def sp_good : FSp := .ge (fun s : Smp => [.tup (pD s)]) smp (fun s => fr (rt (ones s) (dr s)))
theorem w_good_turing : Spec ⟨[("check_sample", sp_check_sample), ("ratio_of", sp_ratio), ("draws_of", sp_draws_of)], [], []⟩ b_good_turing n_good_turing 1 sp_good := by
  rintro ds Q ⟨s, rfl, hs, q⟩
  refine ⟨rfl, ?_⟩
  have hp := dr_pos hs
  have hN := hs.2.2.2.2
  simp [b_good_turing, s0_good_turing, s1_good_turing, n_good_turing]
  refine ⟨s, rfl, hs, ?_⟩
  simp [pairsD_pD, merge_kvs hs, get_one]
  refine ⟨s, rfl, hs, ?_⟩
  exact ⟨by show (0 : Int) < dr s; omega, Nat.lt_of_lt_of_le (show ((dr s : Int)).natAbs < 2 ^ 20 by omega) (Nat.pow_le_pow_right (by omega) (by omega)), q⟩
end K20
set_option Elab.async false
set_option linter.all false
set_option maxRecDepth 100000
set_option maxHeartbeats 1000000
set_option exponentiation.threshold 20000
namespace K20
open PySem PL Bn
open L2 (Key)
def sp_shown : FSp := ⟨fun ds Q => ∃ N d t : Nat, ds = [.int N, .int d, .int t] ∧ t ≤ N ∧ N ≤ 400 ∧ d ≤ N ∧ Q (.tup [.int ((C N d - C (N - t) d : Nat) : Int), .int (C N d)]), fun _ _ _ h ⟨a, b, c, e, x, y, z, q⟩ => ⟨a, b, c, e, x, y, z, h _ q⟩⟩
theorem w_l_shown : Spec ⟨[("_law_choose", sp_choose)], [], []⟩ b_l_shown n_l_shown 3 sp_shown := by
  rintro ds Q ⟨N, d, t, rfl, ht, hN, hd, q⟩
  refine ⟨rfl, ?_⟩
  have sz := szM
  have e1 : (N : Int) - (t : Int) = ((N - t : Nat) : Int) := by omega
  have hm := C_mono d (show N - t ≤ N by omega)
  have e2 : (C N d : Int) - (C (N - t) d : Int) = ((C N d - C (N - t) d : Nat) : Int) := by omega
  simp [b_l_shown, s0_l_shown, s1_l_shown, n_l_shown]
  refine ⟨N, d, rfl, by omega, by omega, ?_⟩
  simp [e1]
  refine ⟨N - t, d, rfl, by omega, by omega, ?_⟩
  simp [e2]
  exact ⟨by omega, q⟩
def sp_kinds_of : FSp := ⟨fun ds Q => ∃ (s : Smp) (d : Nat), ds = [.tup (pD s), .int (dr s), .int d] ∧ smp s ∧ d ≤ dr s ∧ Q (fr (K s d)), fun _ _ _ h ⟨a, b, e, x, y, q⟩ => ⟨a, b, e, x, y, h _ q⟩⟩
theorem w_l_kinds_of : Spec ⟨[("_law_choose", sp_choose), ("_law_shown", sp_shown), ("_law_ratio", sp_ratio)], [], []⟩ b_l_kinds_of n_l_kinds_of 3 sp_kinds_of := by
  rintro ds Q ⟨s, d, rfl, hs, hd, q⟩
  refine ⟨rfl, ?_⟩
  have sz := szM
  have hN := hs.2.2.2.2
  have hl := hs.2.1
  have hpos := C_pos hd
  simp only [b_l_kinds_of, n_l_kinds_of, ent]
  refine seqK fun P hP => ?_
  simp [s0_l_kinds_of]
  refine ⟨dr s, d, rfl, by omega, by omega, ?_⟩
  refine ⟨by omega, hP _ ?_⟩
  clear hP P
  refine seqK fun P hP => ?_
  simp [s1_l_kinds_of, -forW]
  refine forW_list (fun r ρ => ∃ pre t5 t6, pre ++ r = s ∧ ρ = [VE.sh (.tup (pD s)), .sh (.int (dr s)), .sh (.int d), .sh (.int (kN pre (dr s) d)), .sh (.int (C (dr s) d)), t5, t6] ∧ ((t5 = .un ∧ t6 = .un) ∨ ∃ x y, t5 = .sh x ∧ t6 = .sh y)) (fun p : Nat × Nat => D.tup [.int p.1, .int p.2]) ⟨[], _, _, rfl, rfl, .inl ⟨rfl, rfl⟩⟩ ?_ ?_
  · rintro p r ρ K' _ ⟨pre, t5, t6, hpr, rfl, ht⟩ hK
    have hp : p ∈ s := by rw [← hpr]; simp
    have hb := smp_bd hs p hp
    have hle := le_of hs hp
    have cl : ((C (dr s) d - C (dr s - p.1) d : Nat) : Int).natAbs < 2 ^ 410 := by rw [Int.natAbs_natCast]; exact Nat.lt_of_le_of_lt (Nat.sub_le _ _) (C_nat hN)
    have m1 : mulOk (p.2 : Int) ((C (dr s) d - C (dr s - p.1) d : Nat) : Int) := mulOk_of 10 410 (by omega) cl (by omega)
    have next : ∀ x y : D, K' [VE.sh (.tup (pD s)), .sh (.int (dr s)), .sh (.int d), .sh (.int ((kN pre (dr s) d : Int) + (p.2 : Int) * ((C (dr s) d - C (dr s - p.1) d : Nat) : Int))), .sh (.int (C (dr s) d)), .sh x, .sh y] := fun x y =>
      hK _ ⟨pre ++ [p], .sh x, .sh y, by simpa using hpr, by
        have e : ((kN (pre ++ [p]) (dr s) d : Nat) : Int) = (kN pre (dr s) d : Int) + (p.2 : Int) * ((C (dr s) d - C (dr s - p.1) d : Nat) : Int) := by
          unfold kN
          rw [List.map_append, List.sum_append]; simp
        rw [e], .inr ⟨_, _, rfl, rfl⟩⟩
    rcases ht with ⟨rfl, rfl⟩ | ⟨_, _, rfl, rfl⟩
    all_goals
      simp
      refine ⟨dr s, d, p.1, rfl, hle.1, by omega, hd, ?_⟩
      simp [m1]
      exact next _ _
  · rintro ρ ⟨pre, t5, t6, hpr, rfl, ht⟩
    rw [List.append_nil] at hpr
    subst hpr
    refine hP _ ?_
    simp [s2_l_kinds_of]
    exact ⟨by omega, C_abs hN (by omega), q⟩
def sp_often : FSp := ⟨fun ds Q => ∃ (s : Smp) (d t : Nat), ds = [.tup (pD s), .int (dr s), .int d, .int t] ∧ smp s ∧ d ≤ dr s ∧ t ≤ d ∧ Q (fr (T s d t)), fun _ _ _ h ⟨a, b, c, e, x, y, z, q⟩ => ⟨a, b, c, e, x, y, z, h _ q⟩⟩
theorem sum_tN (s : Smp) (N d t : Nat) : (s.map fun p => (p.2 : Int) * (C p.1 t : Int) * (C (N - p.1) (d - t) : Int)).sum = (tN s N d t : Int) := by
  unfold tN
  induction s with
  | nil => rfl
  | cons p s ih =>
    rw [List.map_cons, List.sum_cons, ih, List.map_cons, List.sum_cons]
    simp [Int.mul_assoc]
theorem w_l_often : Spec ⟨[("_law_choose", sp_choose), ("_law_ratio", sp_ratio)], [], []⟩ b_l_often n_l_often 4 sp_often := by
  rintro ds Q ⟨s, d, t, rfl, hs, hd, htd, q⟩
  refine ⟨rfl, ?_⟩
  have sz := szM
  have hN := hs.2.2.2.2
  have hl := hs.2.1
  have hpos := C_pos hd
  simp only [b_l_often, n_l_often, ent]
  refine seqK fun P hP => ?_
  simp [s0_l_often, pD_len]
  refine ⟨by omega, ?_⟩
  refine compW_map (fun ρ' => ∃ u v, ρ' = [VE.sh (.tup (pD s)), .sh (.int (dr s)), .sh (.int d), .sh (.int t), .un, u, v]) (fun p : Nat × Nat => D.tup [.int p.1, .int p.2]) (fun p => D.int ((p.2 : Int) * (C p.1 t : Int) * (C (dr s - p.1) (d - t) : Int))) (fun _ _ => trivial) ?_ ⟨_, _, rfl⟩ ?_
  · rintro p hp ρ K' ⟨u, v, rfl⟩ hK
    have hb := smp_bd hs p hp
    have hle := le_of hs hp
    have e1 : (dr s : Int) - (p.1 : Int) = ((dr s - p.1 : Nat) : Int) := by omega
    have e2 : (d : Int) - (t : Int) = ((d - t : Nat) : Int) := by omega
    have c1 : ((C p.1 t : Nat) : Int).natAbs < 2 ^ 1001 := C_lt2 (by omega)
    have c2 : ((C (dr s - p.1) (d - t) : Nat) : Int).natAbs < 2 ^ 1001 := C_lt2 (by omega)
    have c0 : ((p.2 : Nat) : Int).natAbs < 2 ^ 10 := by omega
    have m1 : mulOk (p.2 : Int) (C p.1 t : Int) := mulOk_of _ _ c0 c1 (by omega)
    have m2 : mulOk ((p.2 : Int) * (C p.1 t : Int)) (C (dr s - p.1) (d - t) : Int) := mulOk_of _ _ (natAbs_mul_lt c0 c1) c2 (by omega)
    simp
    refine ⟨p.1, t, rfl, by omega, by omega, ?_⟩
    simp [m1, e1, e2]
    refine ⟨_, _, rfl, by omega, by omega, ?_⟩
    simp [m2]
    exact hK _ ⟨_, _, rfl⟩
  rintro ρ' ⟨u, v, rfl⟩
  simp [sum_tN]
  refine hP _ ?_
  clear hP P
  simp [s1_l_often]
  refine ⟨dr s, d, rfl, by omega, by omega, ?_⟩
  exact ⟨by omega, C_abs hN (by omega), q⟩
end K20
set_option Elab.async false
set_option linter.all false
set_option maxRecDepth 100000
set_option maxHeartbeats 1000000
set_option exponentiation.threshold 20000
namespace K20
open PySem PL Bn
open L2 (Key)
theorem getK_split {A B : List (Key × D)} {k : Key} {x : D} (h : ∀ p ∈ A, p.1 ≠ k) : getK (A ++ (k, x) :: B) k = some x := by
  unfold getK
  rw [List.find?_append]
  have : A.find? (fun kv => decide (kv.1 = k)) = none := by
    rw [List.find?_eq_none]; intro p hp; simpa using h p hp
  rw [this]; simp
theorem getK_none {A : List (Key × D)} {k : Key} (h : ∀ p ∈ A, p.1 ≠ k) : getK A k = none := by
  unfold getK
  have : A.find? (fun kv => decide (kv.1 = k)) = none := by
    rw [List.find?_eq_none]; intro p hp; simpa using h p hp
  rw [this]; rfl
theorem putD_split {A B : List (Key × D)} {k : Key} {x y : D} (h : ∀ p ∈ A, p.1 ≠ k) (h2 : ∀ p ∈ B, p.1 ≠ k) : putD (A ++ (k, x) :: B) k y = A ++ (k, y) :: B := by
  have e : ∀ {A : List (Key × D)}, (∀ p ∈ A, p.1 ≠ k) → (A.map fun kv => if kv.1 = k then (kv.1, y) else kv) = A := by
    intro A h
    induction A with
    | nil => rfl
    | cons a A ih => rw [List.map_cons, if_neg (h a (by simp)), ih fun p hp => h p (by simp [hp])]
  unfold putD
  rw [if_pos (by simp), List.map_append, List.map_cons, e h, e h2, if_pos rfl]
theorem dr_app (a b : Smp) : dr (a ++ b) = dr a + dr b := by unfold dr; rw [List.map_append, List.sum_append]
theorem dr_cons (p : Nat × Nat) (b : Smp) : dr (p :: b) = p.1 * p.2 + dr b := by unfold dr; rw [List.map_cons, List.sum_cons]
def keysOf (f : Smp) : Prop := f.Pairwise fun a b => a.1 ≠ b.1
theorem kvs_app (a b : Smp) : kvs (a ++ b) = kvs a ++ kvs b := by simp [kvs]
theorem kvs_ne {f : Smp} {one : Nat} (h : ∀ p ∈ f, p.1 ≠ one) : ∀ p ∈ kvs f, p.1 ≠ (Sum.inl (one : Int) : Key) := by
  intro p hp
  unfold kvs at hp
  rw [List.mem_map] at hp
  obtain ⟨q, hq, rfl⟩ := hp
  intro e
  have e : (Sum.inl (q.1 : Int) : Key) = Sum.inl (one : Int) := e
  injection e with e
  exact h q hq (by omega)
/-- some more of one -/
theorem put_more (f : Smp) (one many : Nat) (hk : keysOf f) : ∃ (g : Nat) (f' : Smp), (getK (kvs f) (.inl (one : Int))).getD (.int 0) = .int g ∧ putD (kvs f) (.inl (one : Int)) (.int ((g : Int) + (many : Int))) = kvs f' ∧ keysOf f' ∧ dr f' = dr f + one * many ∧ f' ≠ [] ∧ f'.length ≤ f.length + 1 ∧
    ∀ p ∈ f', p ∈ f ∨ (p.1 = one ∧ many ≤ p.2) := by
  by_cases h : ∃ v, (one, v) ∈ f
  · obtain ⟨v, hv⟩ := h
    obtain ⟨A, B, rfl⟩ := List.append_of_mem hv
    have hk' := hk
    unfold keysOf at hk
    rw [List.pairwise_append, List.pairwise_cons] at hk
    have hA : ∀ p ∈ A, p.1 ≠ one := fun p hp => hk.2.2 p hp (one, v) (by simp)
    have hB : ∀ p ∈ B, p.1 ≠ one := fun p hp e => hk.2.1.1 p hp e.symm
    have ek : kvs (A ++ (one, v) :: B) = kvs A ++ ((.inl (one : Int)), .int v) :: kvs B := by simp [kvs]
    refine ⟨v, A ++ (one, v + many) :: B, ?_, ?_, ?_, ?_, by simp, by simp, ?_⟩
    · rw [ek, getK_split (kvs_ne hA)]; rfl
    · rw [ek, putD_split (kvs_ne hA) (kvs_ne hB)]; simp [kvs]
    · unfold keysOf
      rw [List.pairwise_append, List.pairwise_cons]
      exact ⟨hk.1, ⟨hk.2.1.1, hk.2.1.2⟩, fun a ha b hb => by
        rcases List.mem_cons.1 hb with rfl | hb
        · exact hA a ha
        · exact hk.2.2 a ha b (by simp [hb])⟩
    · rw [dr_app, dr_cons, dr_app, dr_cons]
      have : one * (v + many) = one * v + one * many := Nat.mul_add _ _ _
      show dr A + (one * (v + many) + dr B) = dr A + (one * v + dr B) + one * many
      omega
    · intro p hp
      rcases List.mem_append.1 hp with hp | hp
      · exact .inl (by simp [hp])
      · rcases List.mem_cons.1 hp with rfl | hp
        · exact .inr ⟨rfl, by show many ≤ v + many; omega⟩
        · exact .inl (by simp [hp])
  · have hn : ∀ p ∈ f, p.1 ≠ one := fun p hp e => h ⟨p.2, by rw [← e]; exact hp⟩
    refine ⟨0, f ++ [(one, many)], ?_, ?_, ?_, ?_, by simp, by simp, ?_⟩
    · rw [getK_none (kvs_ne hn)]; rfl
    · rw [putD_new (kvs_ne hn)]; simp [kvs]
    · unfold keysOf
      rw [List.pairwise_append]
      exact ⟨hk, by simp, fun a ha b hb => by
        rw [List.mem_singleton] at hb; subst hb; exact hn a ha⟩
    · rw [dr_app, dr_cons]; simp [dr]
    · intro p hp
      rcases List.mem_append.1 hp with hp | hp
      · exact .inl hp
      · rw [List.mem_singleton] at hp; subst hp; exact .inr ⟨rfl, Nat.le_refl _⟩
theorem dr_perm {a b : Smp} (h : a.Perm b) : dr a = dr b := by
  unfold dr
  exact (h.map _).sum_nat
theorem sorted_smp {f : Smp} {qs : List (Int × Int)} (hk : keysOf f) (hp : qs.Perm (f.map fun p => ((p.1 : Int), (p.2 : Int)))) (hs : qs.Pairwise fun x y => x.1 < y.1 ∨ x.1 = y.1 ∧ x.2 ≤ y.2) :
    ∃ s : Smp, qs = s.map (fun p => ((p.1 : Int), (p.2 : Int))) ∧ s.Perm f ∧ s.Pairwise (fun a b => a.1 < b.1) := by
  let u : Int × Int → Nat × Nat := fun p => (p.1.toNat, p.2.toNat)
  have e0 : ∀ q ∈ qs, (((u q).1 : Int), ((u q).2 : Int)) = q := by
    intro q hq
    have := hp.mem_iff.1 hq
    rw [List.mem_map] at this
    obtain ⟨p, _, rfl⟩ := this
    show (((Int.toNat (p.1 : Int) : Nat) : Int), ((Int.toNat (p.2 : Int) : Nat) : Int)) = _
    simp
  have e1 : qs = (qs.map u).map fun p => ((p.1 : Int), (p.2 : Int)) := by
    rw [List.map_map]
    have : qs.map ((fun p : Nat × Nat => ((p.1 : Int), (p.2 : Int))) ∘ u) = qs.map id := List.map_congr_left fun q hq => e0 q hq
    rw [this, List.map_id]
  have e2 : (qs.map u).Perm f := by
    have := hp.map u
    rw [List.map_map] at this
    have e : f.map (u ∘ fun p => ((p.1 : Int), (p.2 : Int))) = f := by
      have : f.map (u ∘ fun p : Nat × Nat => ((p.1 : Int), (p.2 : Int))) = f.map id := List.map_congr_left fun p _ => by
        show (Int.toNat (p.1 : Int), Int.toNat (p.2 : Int)) = p
        simp
      rw [this, List.map_id]
    rwa [e] at this
  refine ⟨qs.map u, e1, e2, ?_⟩
  have hne : (qs.map u).Pairwise fun a b => a.1 ≠ b.1 := (e2.pairwise_iff fun h e => h e.symm).2 hk
  rw [e1, List.pairwise_map] at hs
  exact (hs.and hne).imp fun {a b} h => by
    have h1 := h.1
    have h2 := h.2
    simp only at h1
    omega
def sp_sample : BSp := ⟨fun c ds Q => ∃ n times most draws : Nat, ds = [.int 6, .int times, .int most, .int draws] ∧ (1 ≤ times ∧ times ≤ 200) ∧ (1 ≤ most ∧ most ≤ 400) ∧ (1 ≤ draws ∧ draws ≤ 400) ∧ PotD n c ∧ n ≤ 1000000 ∧ ∀ (s : Smp) c', smp s → PotD (n + 100) c' → Q (.tup (pD s)) c', fun _ _ _ _ h ⟨n, a, b, c, e, x, y, z, p, l, q⟩ => ⟨n, a, b, c, e, x, y, z, p, l, fun s c' h1 h2 => h _ _ (q s c' h1 h2)⟩⟩
theorem w_l_sample : SpecB ⟨[], [("_law_take", sp_take)], []⟩ b_l_sample n_l_sample 5 sp_sample := by
  rintro c ds Q ⟨n, times, most, draws, rfl, ht, hm, hd, hp, hn, q⟩
  refine ⟨rfl, ?_⟩
  have sz := szM
  simp only [b_l_sample, n_l_sample, entB]
  refine seqK fun P hP => ?_
  simp [s0_l_sample]
  refine ⟨by omega, hP _ ?_⟩
  clear hP P
  refine seqK fun P hP => ?_
  simp [s1_l_sample, -forW]
  refine take_run hp (by omega) (by omega) (by decide) fun v c v0 v1 hp => ?_
  obtain ⟨j, rfl⟩ := Int.eq_ofNat_of_zero_le v0
  have sm : small (1 + (j : Int)) := ⟨by omega, by omega⟩
  have ej : (1 + (j : Int)).toNat = 1 + j := by omega
  simp [sm, ej, -forW]
  refine forW_range (fun i ρ => ∃ (c : D) (t5 t8 t9 : VE) (left : Nat) (f : Smp), ρ = [.bor c, .sh (.int 6), .sh (.int times), .sh (.int most), .sh (.int draws), t5, .own (.dk (kvs f)), .sh (.int left), t8, t9] ∧ (fv t5 ∧ ((t8 = .un ∧ t9 = .un) ∨ ∃ x y, t8 = .sh x ∧ t9 = .sh y)) ∧ PotD (n + 1 + 2 * i) c ∧ dr f + left = draws ∧ keysOf f ∧ f.length ≤ i ∧ (∀ p ∈ f, (1 ≤ p.1 ∧ p.1 ≤ 200) ∧ 1 ≤ p.2) ∧ (0 < i → f ≠ []))
    ⟨c, _, _, _, draws, [], rfl, ⟨.inl rfl, .inl ⟨rfl, rfl⟩⟩, hp, by simp [dr], .nil, by simp, by simp, by simp⟩ ?_ ?_
  · rintro i ρ K' hi ⟨c, t5, t8, t9, left, f, rfl, ⟨h5, h8⟩, hp, hdr, hk, hl, hb, hne⟩ hK
    obtain ⟨u, hu, hu1, hu2, hu3⟩ : ∃ u : Nat, (if 1 < (if left < times then (left : Int) else (times : Int)) then (if left < times then (left : Int) else (times : Int)) else 1) = (u : Int) ∧ 1 ≤ u ∧ u ≤ 200 ∧ (1 ≤ left → u ≤ left) := by
      by_cases e : left < times
      · rw [if_pos e]
        by_cases e2 : 1 < (left : Int)
        · rw [if_pos e2]; exact ⟨left, rfl, by omega, by omega, by omega⟩
        · rw [if_neg e2]; exact ⟨1, rfl, by omega, by omega, by omega⟩
      · rw [if_neg e]
        by_cases e2 : 1 < (times : Int)
        · rw [if_pos e2]; exact ⟨times, rfl, by omega, by omega, by omega⟩
        · rw [if_neg e2]; exact ⟨1, rfl, by omega, by omega, by omega⟩
    rw [tgW_fv t5 rfl h5]
    rcases h8 with ⟨rfl, rfl⟩ | ⟨_, _, rfl, rfl⟩
    all_goals
      refine seqK fun P2 hP2 => ?_
      simp
      rw [hu]
      refine take_run hp (by omega) (by omega) (by omega) fun x c x0 x1 hp => ?_
      obtain ⟨x, rfl⟩ := Int.eq_ofNat_of_zero_le x0
      simp
      refine hP2 _ ?_
      clear hP2 P2
      refine seqK fun P2 hP2 => ?_
      simp
      refine take_run hp (by omega) (by omega) (by omega) fun y c y0 y1 hp => ?_
      obtain ⟨y, rfl⟩ := Int.eq_ofNat_of_zero_le y0
      have dv : divOk (left : Int) (1 + (x : Int)) := divOk_small (by omega) (by omega)
      have ed : ((left : Int)).fdiv (1 + (x : Int)) = (left : Int) / (1 + (x : Int)) := Int.fdiv_eq_ediv_of_nonneg _ (by omega)
      simp [dv, ed]
      obtain ⟨m, hm', hm1, hm2, hm3⟩ : ∃ m : Nat, (if (left : Int) / (1 + (x : Int)) < 1 + (y : Int) then (left : Int) / (1 + (x : Int)) else 1 + (y : Int)) = (m : Int) ∧ m * (1 + x) ≤ left ∧ (1 + x ≤ left → 1 ≤ m) ∧ m ≤ 400 := by
        have e0 : (left : Int) / (1 + (x : Int)) = ((left / (1 + x) : Nat) : Int) := by
          rw [Int.natCast_ediv]; simp
        have e1 : left / (1 + x) * (1 + x) ≤ left := Nat.div_mul_le_self _ _
        have e2 : 1 + x ≤ left → 1 ≤ left / (1 + x) := fun h => (Nat.le_div_iff_mul_le (by omega)).2 (by omega)
        have e3 : left / (1 + x) ≤ left := Nat.div_le_self _ _
        rw [e0]
        by_cases e : ((left / (1 + x) : Nat) : Int) < 1 + (y : Int)
        · exact ⟨left / (1 + x), by rw [if_pos e], e1, e2, by omega⟩
        · refine ⟨1 + y, by rw [if_neg e]; omega, ?_, by omega, by omega⟩
          exact Nat.le_trans (Nat.mul_le_mul_right _ (by omega)) e1
      rw [hm']
      refine hP2 _ ?_
      clear hP2 P2
      obtain ⟨g, f', hg, hput, hk', hdr', hne', hl', hb'⟩ := put_more f (1 + x) m hk
      have ek : ((1 + x : Nat) : Int) = 1 + (x : Int) := by omega
      rw [ek] at hg hput
      have hx : 1 + x ≤ 200 := by omega
      have hcomm : (1 + x) * m = m * (1 + x) := Nat.mul_comm _ _
      have m1 : mulOk (m : Int) (1 + (x : Int)) := mulOk_of 10 10 (by omega) (by omega) (by omega)
      have es : (left : Int) - (m : Int) * (1 + (x : Int)) = ((left - m * (1 + x) : Nat) : Int) := by
        rw [Int.ofNat_sub hm1, Int.natCast_mul, ek]
      have hkl : (kvs f).length < sizeLine := by
        have : (kvs f).length = f.length := by simp [kvs]
        omega
      have yes : 0 < m → K' [.bor c, .sh (.int 6), .sh (.int times), .sh (.int most), .sh (.int draws), .sh (.int i), .own (.dk (kvs f')), .sh (.int ((left - m * (1 + x) : Nat) : Int)), .sh (.int (1 + (x : Int))), .sh (.int m)] := fun h =>
        hK _ ⟨c, .sh (.int i), .sh (.int (1 + (x : Int))), .sh (.int m), left - m * (1 + x), f', rfl, ⟨.inr ⟨_, rfl⟩, .inr ⟨_, _, rfl, rfl⟩⟩, hp.mono (by omega), by rw [hdr']; omega, hk', by omega, fun p hp => by
          rcases hb' p hp with h1 | ⟨h1, h2⟩
          · exact hb p h1
          · exact ⟨⟨by omega, by omega⟩, by omega⟩, fun _ => hne'⟩
      have no : m = 0 → K' [.bor c, .sh (.int 6), .sh (.int times), .sh (.int most), .sh (.int draws), .sh (.int i), .own (.dk (kvs f)), .sh (.int left), .sh (.int (1 + (x : Int))), .sh (.int m)] := fun h =>
        hK _ ⟨c, .sh (.int i), .sh (.int (1 + (x : Int))), .sh (.int m), left, f, rfl, ⟨.inr ⟨_, rfl⟩, .inr ⟨_, _, rfl, rfl⟩⟩, hp.mono (by omega), hdr, hk, by omega, hb, fun _ => by
          by_cases e : i = 0
          · exfalso
            subst e
            have hf : f = [] := List.length_eq_zero_iff.1 (by omega)
            subst hf
            have : left = draws := by simp [dr] at hdr; exact hdr
            have := hu3 (by omega)
            have := hm2 (by omega)
            omega
          · exact hne (by omega)⟩
      simp [hg, hput, m1, es, hkl]
      exact ⟨fun h => ⟨by omega, yes h⟩, no⟩
  · rintro ρ ⟨c, t5, t8, t9, left, f, rfl, _, hp, hdr, hk, hl, hb, hne⟩
    refine hP _ ?_
    simp [s2_l_sample]
    refine ⟨f.map fun p => ((p.1 : Int), (p.2 : Int)), by simp [kvs], fun qs hqp hqs => ?_⟩
    obtain ⟨s, rfl, hsf, hss⟩ := sorted_smp hk hqp hqs
    have e : (s.map (fun p => ((p.1 : Int), (p.2 : Int)))).map (fun p => D.tup [.int p.1, .int p.2]) = pD s := by rw [List.map_map]; rfl
    have hds := dr_perm hsf
    have fin : smp s → Q (.tup (pD s)) c := fun h => q s c h (hp.mono (by omega))
    rw [← e] at fin
    refine fin ⟨?_, ?_, ?_, hss, by omega⟩
    · intro e; subst e
      have := hsf.length_eq
      exact hne (by omega) (List.length_eq_zero_iff.1 this.symm)
    · have := hsf.length_eq
      omega
    · intro p hp
      have h1 := hb p (hsf.mem_iff.1 hp)
      have h2 := mem_dr hp
      have h3 : p.2 ≤ p.1 * p.2 := Nat.le_mul_of_pos_left _ (by omega)
      exact ⟨h1.1, h1.2, by omega⟩
end K20
set_option Elab.async false
set_option linter.all false
set_option maxRecDepth 100000
set_option maxHeartbeats 1000000
set_option exponentiation.threshold 20000
namespace K20
open PySem PL Bn
theorem eq_fr (x : Rat) : deq (fr x) (fr x) = true := by simp
theorem ok_fr (x : Rat) : cmpOk (fr x) := by simp
def sp_look : BSp := ⟨fun c ds Q => ∃ (n : Nat) (s : Smp) (d : Nat), ds = [.tup (pD s), .int (dr s), .int d] ∧ smp s ∧ d ≤ dr s ∧ PotD n c ∧ n ≤ 10000000 ∧ ∀ c', PotD (n + 1) c' → Q (.bl true) c', fun _ _ _ _ h ⟨n, s, d, e, x, y, p, l, q⟩ => ⟨n, s, d, e, x, y, p, l, fun c' h1 => h _ _ (q c' h1)⟩⟩
theorem w_look : SpecB ⟨[("thinned", sp_thinned_of), ("_law_kinds_of", sp_kinds_of), ("thinned_times", sp_thinned_times), ("_law_often", sp_often), ("_law_plus", sp_plus), ("thinned_both", sp_thinned_both)], [("_law_take", sp_take)], []⟩ b_l_is_look_right n_l_is_look_right 4 sp_look := by
  rintro c ds Q ⟨n, s, d, rfl, hs, hd, hp, hn, q⟩
  refine ⟨rfl, ?_⟩
  have sz := szM
  have hl := hs.2.1
  have hN := hs.2.2.2.2
  have hk := kinds_le hs
  simp only [b_l_is_look_right, n_l_is_look_right, entB]
  refine seqK fun P hP => ?_
  simp [s0_l_is_look_right]
  refine ⟨s, d, rfl, hs, hd, s, d, rfl, hs, hd, ?_⟩
  simp
  refine hP _ ?_
  clear hP P
  refine seqK fun P hP => ?_
  simp [s1_l_is_look_right]
  obtain ⟨u, hu, hu1⟩ : ∃ u : Nat, (if (9 : Int) < (d : Int) then 9 else (d : Int)) = (u : Int) ∧ u ≤ d := by
    by_cases e : (9 : Int) < (d : Int)
    · exact ⟨9, by rw [if_pos e]; rfl, by omega⟩
    · exact ⟨d, by rw [if_neg e], by omega⟩
  rw [hu]
  refine take_run hp (by omega) (by omega) (by omega) fun t c t0 t1 hp => ?_
  obtain ⟨t, rfl⟩ := Int.eq_ofNat_of_zero_le t0
  refine hP _ ?_
  clear hP P
  refine seqK fun P hP => ?_
  simp [s2_l_is_look_right]
  refine ⟨s, d, t, rfl, hs, hd, by omega, s, d, t, rfl, hs, hd, by omega, ?_⟩
  simp
  refine hP _ ?_
  clear hP P
  have e1 : (dr s : Int) - (d : Int) = ((dr s - d : Nat) : Int) := by omega
  have f1 := K_Fb hs hd
  have f2 := K_Fb hs (Nat.sub_le (dr s) d)
  refine seqK fun P hP => ?_
  simp [s3_l_is_look_right, e1]
  refine ⟨s, d, rfl, hs, hd, s, dr s - d, rfl, hs, by omega, ?_⟩
  refine run_plus f1 f2 (by omega) ?_
  simp [pD_len]
  refine ⟨by omega, ?_⟩
  refine compW_map (fun ρ' => ∃ u v, ρ' = [.bor c, VE.sh (.tup (pD s)), .sh (.int (dr s)), .sh (.int d), .sh (.int t), .un, .un, u, v]) (fun p : Nat × Nat => D.tup [.int p.1, .int p.2]) (fun p => D.int (p.2 : Int)) (fun _ _ => trivial) ?_ ⟨_, _, rfl⟩ ?_
  · rintro p hp ρ K' ⟨u, v, rfl⟩ hK
    simp
    exact hK _ ⟨_, _, rfl⟩
  rintro ρ' ⟨u, v, rfl⟩
  simp [sum_kinds]
  refine ⟨by omega, hP _ ?_⟩
  clear hP P
  have er : K s d + K s (dr s - d) + (((-(kinds s : Int) : Int)) : Rat) = K s d + K s (dr s - d) - ((kinds s : Int) : Rat) := by
    rw [Rat.intCast_neg, Rat.sub_eq_add_neg]
  have er2 : K s (dr s - d) + K s (dr s - (dr s - d)) - ((kinds s : Int) : Rat) = K s d + K s (dr s - d) - ((kinds s : Int) : Rat) := by
    have : dr s - (dr s - d) = d := by omega
    rw [this, Rat.add_comm]
  simp [s4_l_is_look_right, e1]
  refine ⟨s, d, rfl, hs, hd, by omega, ?_⟩
  refine run_plus (q := ((-(kinds s : Int) : Int) : Rat)) (n := 10) (Fb_add f1 f2) ⟨by show (-(kinds s : Int)).natAbs < _; omega, by show 1 < _; decide⟩ (by omega) ?_
  rw [er]
  refine ⟨ok_fr _, ok_fr _, ?_⟩
  rw [eq_fr]
  simp
  refine ⟨s, dr s - d, rfl, hs, by omega, s, d, rfl, hs, hd, ?_⟩
  rw [er2]
  simp
  exact q _ hp
end K20
set_option Elab.async false
set_option linter.all false
set_option maxRecDepth 100000
set_option maxHeartbeats 1000000
set_option exponentiation.threshold 20000
namespace K20
open PL Bn
def S (g : Nat → Nat) : Nat → Nat
  | 0 => 0
  | m + 1 => S g m + g m
theorem S_range (g : Nat → Nat) : ∀ m, ((List.range m).map g).sum = S g m
  | 0 => rfl
  | m + 1 => by rw [List.range_succ, List.map_append, List.sum_append, S_range g m]; simp [S]
theorem S_congr {g h : Nat → Nat} : ∀ {m : Nat}, (∀ i, i < m → g i = h i) → S g m = S h m
  | 0, _ => rfl
  | m + 1, e => by rw [S, S, S_congr fun i hi => e i (by omega), e m (by omega)]
theorem S_stop {g : Nat → Nat} {m : Nat} : ∀ j, (∀ i, m ≤ i → i < m + j → g i = 0) → S g (m + j) = S g m
  | 0, _ => rfl
  | j + 1, h => by
    show S g (m + j) + g (m + j) = _
    rw [S_stop j fun i h1 h2 => h i h1 (by omega), h (m + j) (by omega) (by omega)]; rfl
theorem S_add (g h : Nat → Nat) : ∀ m, S (fun i => g i + h i) m = S g m + S h m
  | 0 => rfl
  | m + 1 => by simp only [S]; rw [S_add g h m]; omega
theorem S_mul (a : Nat) (g : Nat → Nat) : ∀ m, S (fun i => a * g i) m = a * S g m
  | 0 => by simp [S]
  | m + 1 => by simp only [S]; rw [S_mul a g m, Nat.mul_add]
theorem S_shift (g : Nat → Nat) : ∀ m, S g (m + 1) = g 0 + S (fun i => g (i + 1)) m
  | 0 => by simp [S]
  | m + 1 => by
    show S g (m + 1) + g (m + 1) = g 0 + (S (fun i => g (i + 1)) m + g (m + 1))
    rw [S_shift g m]; omega
theorem vandS (a b k : Nat) : S (fun t => C a t * C b (k - t)) (k + 1) = C (a + b) k := by
  rw [← S_range]; exact vand a b k
theorem C_absorb : ∀ n a, C (n + 1) (a + 1) * (a + 1) = (n + 1) * C n a := by
  intro n a
  induction n generalizing a with
  | zero => cases a with
    | zero => rfl
    | succ a => simp [C]
  | succ n ih =>
    cases a with
    | zero => rw [C_one, C_zero]
    | succ a =>
      have i1 := ih a
      have i2 := ih (a + 1)
      rw [C_succ (n + 1) (a + 1), C_succ n a]
      rw [C_succ n a] at i1
      rw [C_succ n (a + 1)] at i2 ⊢
      generalize C n a = x at *
      generalize C n (a + 1) = y at *
      generalize C n (a + 1 + 1) = z at *
      grind
/-- where the loop may end -/
def endOk (a L m : Nat) : Prop := m = L ∨ (a ≤ m ∧ m ≤ L)
theorem to_end {a L m : Nat} {g : Nat → Nat} (h : endOk a L m) (hz : ∀ i, a ≤ i → g i = 0) : S g m = S g L := by
  rcases h with rfl | ⟨h1, h2⟩
  · rfl
  · have := S_stop (g := g) (m := m) (L - m) fun i hi _ => hz i (by omega)
    have e : m + (L - m) = L := by omega
    rw [e] at this
    exact this.symm
theorem rowB {a b L m : Nat} (h : endOk a L m) : S (fun i => C a (i + 1) * C b (L - (i + 1))) m = C (a + b) L - C b L := by
  rw [to_end h fun i hi => by rw [C_lt (show a < i + 1 by omega), Nat.zero_mul]]
  have := vandS a b L
  rw [S_shift, C_zero, Nat.one_mul, Nat.sub_zero] at this
  omega
theorem rowE {a b L m : Nat} (ha : 1 ≤ a) (hL : 1 ≤ L) (h : endOk a L m) : S (fun i => C a (i + 1) * C b (L - (i + 1)) * (i + 1)) m = a * C (a + b - 1) (L - 1) := by
  rw [to_end h fun i hi => by rw [C_lt (show a < i + 1 by omega), Nat.zero_mul, Nat.zero_mul]]
  obtain ⟨a, rfl⟩ : ∃ a', a = a' + 1 := ⟨a - 1, by omega⟩
  obtain ⟨L, rfl⟩ : ∃ L', L = L' + 1 := ⟨L - 1, by omega⟩
  have e : a + 1 + b - 1 = a + b := by omega
  rw [e, Nat.add_sub_cancel, ← vandS a b L, ← S_mul]
  apply S_congr
  intro i hi
  have h1 := C_absorb a i
  have e2 : L + 1 - (i + 1) = L - i := by omega
  rw [e2]
  have : C (a + 1) (i + 1) * C b (L - i) * (i + 1) = C (a + 1) (i + 1) * (i + 1) * C b (L - i) := by
    rw [Nat.mul_assoc, Nat.mul_comm (C b (L - i)), ← Nat.mul_assoc]
  rw [this, h1, Nat.mul_assoc]
theorem rowA {a b L f m : Nat} (hL : L ≤ a + b) (hf : f ≤ L) (h : endOk a L m) :
    S (fun i => C a (i + 1) * C b (L - (i + 1)) * (C L f - C (L - (i + 1)) f)) m * C (a + b) f = (C (a + b) f - C b f) * (C (a + b) L * C L f) := by
  rw [to_end h fun i hi => by rw [C_lt (show a < i + 1 by omega), Nat.zero_mul, Nat.zero_mul]]
  -- V
  have hV : S (fun t => C a t * C b (L - t) * C (L - t) f) (L + 1) = C b f * C (a + b - f) (L - f) := by
    by_cases hb : f ≤ b
    · have e1 : L + 1 = (L - f + 1) + f := by omega
      rw [e1, S_stop f fun i h1 h2 => by rw [C_lt (show L - i < f by omega), Nat.mul_zero]]
      have e2 : a + b - f = a + (b - f) := by omega
      rw [e2, ← vandS a (b - f) (L - f), ← S_mul]
      apply S_congr
      intro i hi
      have h1 := C_mul b (L - i) f (by omega)
      have e3 : L - i - f = L - f - i := by omega
      rw [e3] at h1
      rw [Nat.mul_assoc, h1, ← Nat.mul_assoc, ← Nat.mul_assoc, Nat.mul_comm (C a i)]
    · rw [C_lt (show b < f by omega), Nat.zero_mul]
      have : S (fun t => C a t * C b (L - t) * C (L - t) f) (L + 1) = S (fun _ => 0) (L + 1) := by
        apply S_congr
        intro i hi
        by_cases h1 : f ≤ L - i
        · rw [C_lt (show b < L - i by omega), Nat.mul_zero, Nat.zero_mul]
        · rw [C_lt (show L - i < f by omega), Nat.mul_zero]
      rw [this]
      have z : ∀ m, S (fun _ => 0) m = 0 := fun m => by
        induction m with
        | zero => rfl
        | succ m ih => simp [S, ih]
      exact z _
  have hW : S (fun i => C a (i + 1) * C b (L - (i + 1)) * (C L f - C (L - (i + 1)) f)) L + S (fun t => C a t * C b (L - t) * C (L - t) f) (L + 1) = C (a + b) L * C L f := by
    rw [S_shift (fun t => C a t * C b (L - t) * C (L - t) f), Nat.sub_zero, ← vandS a b L]
    have e1 : S (fun t => C a t * C b (L - t)) (L + 1) * C L f = S (fun t => C L f * (C a t * C b (L - t))) (L + 1) := by rw [S_mul, Nat.mul_comm]
    rw [e1, S_shift (fun t => C L f * (C a t * C b (L - t))), Nat.sub_zero]
    have e2 : S (fun i => C a (i + 1) * C b (L - (i + 1)) * (C L f - C (L - (i + 1)) f)) L + S (fun i => C a (i + 1) * C b (L - (i + 1)) * C (L - (i + 1)) f) L = S (fun i => C L f * (C a (i + 1) * C b (L - (i + 1)))) L := by
      rw [← S_add]
      apply S_congr
      intro i hi
      have hm := C_mono f (show L - (i + 1) ≤ L by omega)
      rw [← Nat.mul_add, Nat.sub_add_cancel hm, Nat.mul_comm]
    rw [Nat.mul_comm (C L f) (C a 0 * C b L)]
    omega
  rw [hV] at hW
  have h4 := C_mul (a + b) L f hf
  have hm := C_mono f (show b ≤ a + b by omega)
  generalize S (fun i => C a (i + 1) * C b (L - (i + 1)) * (C L f - C (L - (i + 1)) f)) L = A at *
  generalize C (a + b) f = x at *
  generalize C b f = y at *
  generalize C (a + b - f) (L - f) = z at *
  generalize C (a + b) L * C L f = w at *
  obtain ⟨d, rfl⟩ : ∃ d, x = y + d := ⟨x - y, by omega⟩
  rw [Nat.add_sub_cancel_left]
  subst h4
  -- A + y z = (y + d) z
  have : A = d * z := by
    rw [Nat.add_mul] at hW; omega
  rw [this]
  grind
/-! ### over all rows -/
theorem S_rows (s : Smp) (N L : Nat) (w : Nat → Nat) (m : Nat) : S (fun i => tN s N L (i + 1) * w i) m = (s.map fun p => p.2 * S (fun i => C p.1 (i + 1) * C (N - p.1) (L - (i + 1)) * w i) m).sum := by
  induction s with
  | nil =>
    simp only [List.map_nil, List.sum_nil]
    induction m with
    | zero => rfl
    | succ m ih => simp only [S]; rw [ih]; simp [tN]
  | cons p s ih =>
    rw [List.map_cons, List.sum_cons, ← ih, ← S_mul, ← S_add]
    apply S_congr
    intro i _
    have : tN (p :: s) N L (i + 1) = p.2 * (C p.1 (i + 1) * C (N - p.1) (L - (i + 1))) + tN s N L (i + 1) := by simp [tN]
    rw [this, Nat.add_mul, Nat.mul_assoc p.2]
def sumOk (s : Smp) (L m : Nat) : Prop := ∀ p ∈ s, endOk p.1 L m
theorem all_B {s : Smp} {N L m : Nat} (hN : ∀ p ∈ s, p.1 ≤ N) (h : sumOk s L m) : S (fun i => tN s N L (i + 1)) m = kN s N L := by
  have e : S (fun i => tN s N L (i + 1)) m = S (fun i => tN s N L (i + 1) * 1) m := S_congr fun i _ => (Nat.mul_one _).symm
  rw [e, S_rows]
  unfold kN
  congr 1
  apply List.map_congr_left
  intro p hp
  have := rowB (b := N - p.1) (h p hp)
  have e2 : p.1 + (N - p.1) = N := by have := hN p hp; omega
  rw [e2] at this
  rw [← this]
  congr 1
  exact S_congr fun i _ => Nat.mul_one _
theorem all_E {s : Smp} {L m : Nat} (hb : ∀ p ∈ s, 1 ≤ p.1 ∧ p.1 ≤ dr s) (h : sumOk s L m) (hL : L ≤ dr s) : S (fun i => tN s (dr s) L (i + 1) * (i + 1)) m = L * C (dr s) L := by
  by_cases h0 : L = 0
  · subst h0
    rw [Nat.zero_mul]
    by_cases hm : m = 0
    · subst hm; rfl
    · rw [S_rows]
      refine sum_zero fun x hx => ?_
      rw [List.mem_map] at hx
      obtain ⟨p, hp, rfl⟩ := hx
      have := hb p hp
      rcases h p hp with h1 | h1 <;> omega
  · rw [S_rows]
    have e : (s.map fun p => p.2 * S (fun i => C p.1 (i + 1) * C (dr s - p.1) (L - (i + 1)) * (i + 1)) m) = s.map fun p => p.1 * p.2 * C (dr s - 1) (L - 1) := by
      apply List.map_congr_left
      intro p hp
      have h1 := hb p hp
      have := rowE (b := dr s - p.1) h1.1 (by omega) (h p hp)
      have e2 : p.1 + (dr s - p.1) = dr s := by omega
      rw [e2] at this
      rw [this, ← Nat.mul_assoc, Nat.mul_comm p.2]
    rw [e]
    have e3 : ∀ (l : Smp) (x : Nat), (l.map fun p => p.1 * p.2 * x).sum = (l.map fun p => p.1 * p.2).sum * x := fun l x => by
      induction l with
      | nil => simp
      | cons p l ih => simp only [List.map_cons, List.sum_cons]; rw [ih, Nat.add_mul]
    rw [e3]
    show dr s * C (dr s - 1) (L - 1) = L * C (dr s) L
    obtain ⟨n, hn⟩ : ∃ n, dr s = n + 1 := ⟨dr s - 1, by omega⟩
    obtain ⟨l, hl⟩ : ∃ l, L = l + 1 := ⟨L - 1, by omega⟩
    rw [hn, hl, Nat.add_sub_cancel, Nat.add_sub_cancel, ← C_absorb n l, Nat.mul_comm]
theorem all_A {s : Smp} {N L f m : Nat} (hN : ∀ p ∈ s, p.1 ≤ N) (hL : L ≤ N) (hf : f ≤ L) (h : sumOk s L m) :
    S (fun i => tN s N L (i + 1) * (C L f - C (L - (i + 1)) f)) m * C N f = kN s N f * (C N L * C L f) := by
  rw [S_rows]
  unfold kN
  have e3 : ∀ (l : Smp) (g : Nat × Nat → Nat) (x : Nat), (l.map g).sum * x = (l.map fun p => g p * x).sum := fun l g x => by
    induction l with
    | nil => simp
    | cons p l ih => simp only [List.map_cons, List.sum_cons]; rw [← ih, Nat.add_mul]
  rw [e3, e3]
  congr 1
  apply List.map_congr_left
  intro p hp
  have := rowA (b := N - p.1) (f := f) (by have := hN p hp; omega) hf (h p hp)
  have e2 : p.1 + (N - p.1) = N := by have := hN p hp; omega
  rw [e2] at this
  rw [Nat.mul_assoc, this, ← Nat.mul_assoc]
end K20
set_option Elab.async false
set_option linter.all false
set_option maxRecDepth 100000
set_option maxHeartbeats 1000000
set_option exponentiation.threshold 20000
namespace K20
open PySem PL Bn
theorem S_le {g : Nat → Nat} {B : Nat} : ∀ {m : Nat}, (∀ i, i < m → g i ≤ B) → S g m ≤ m * B
  | 0, _ => by simp [S]
  | m + 1, h => by
    have := S_le (m := m) fun i hi => h i (by omega)
    have := h m (by omega)
    rw [S, Nat.succ_mul]; omega
theorem sum_le_mul {B : Nat} : ∀ {l : List Nat}, (∀ x ∈ l, x ≤ B) → l.sum ≤ l.length * B
  | [], _ => by simp
  | x :: l, h => by
    have := sum_le_mul (l := l) fun y hy => h y (by simp [hy])
    have := h x (by simp)
    rw [List.sum_cons, List.length_cons, Nat.succ_mul]; omega
theorem tN_lt {s : Smp} (hs : smp s) (d t : Nat) : tN s (dr s) d t < 2 ^ 630 := by
  have h1 : tN s (dr s) d t ≤ (s.map fun p => p.2 * (C p.1 t * C (dr s - p.1) (d - t))).length * 2 ^ 620 := by
    unfold tN
    refine sum_le_mul fun x hx => ?_
    rw [List.mem_map] at hx
    obtain ⟨p, hp, rfl⟩ := hx
    have hb := smp_bd hs p hp
    have hN := hs.2.2.2.2
    exact Nat.le_of_lt (ways_lt (by omega) (by omega) (by omega))
  rw [List.length_map] at h1
  have h2 : s.length * 2 ^ 620 ≤ 6 * 2 ^ 620 := Nat.mul_le_mul_right _ hs.2.1
  have h3 : (6 : Nat) * 2 ^ 620 < 2 ^ 630 := by decide +kernel
  omega
theorem T_Fb {s : Smp} (hs : smp s) {d t : Nat} (hd : d ≤ dr s) : Fb 630 (T s d t) :=
  Fb_rt (C_pos hd) (tN_lt hs d t) (Nat.lt_of_lt_of_le (C_nat hs.2.2.2.2) (Nat.pow_le_pow_right (by omega) (by omega)))
theorem rt_mul_rt {a b c d : Nat} (hb : 0 < b) (hd : 0 < d) : rt a b * rt c d = rt (a * c) (b * d) := by
  unfold rt
  rw [Int.natCast_mul, Int.natCast_mul]
  exact (mul_frac (by omega) (by omega)).symm
theorem rt_eq {a b v w : Nat} (hw : 0 < w) (hv : 0 < v) (h : a * v = b * w) : rt a w = rt b v := by
  unfold rt
  have hw' : ((w : Int) : Rat) ≠ 0 := frac_ne (by omega)
  have hv' : ((v : Int) : Rat) ≠ 0 := frac_ne (by omega)
  have h' : ((a : Int) : Rat) * ((v : Int) : Rat) = ((b : Int) : Rat) * ((w : Int) : Rat) := by
    rw [← Rat.intCast_mul, ← Rat.intCast_mul, ← Int.natCast_mul, ← Int.natCast_mul, h]
  grind
theorem rt_whole {a w : Nat} (hw : 0 < w) : rt (a * w) w = ((a : Int) : Rat) := by
  unfold rt
  have hw' : ((w : Int) : Rat) ≠ 0 := frac_ne (by omega)
  rw [Int.natCast_mul, Rat.intCast_mul]
  grind
def sA (s : Smp) (L f : Nat) : Nat → Nat := S fun i => tN s (dr s) L (i + 1) * (C L f - C (L - (i + 1)) f)
def sB (s : Smp) (L : Nat) : Nat → Nat := S fun i => tN s (dr s) L (i + 1)
def sE (s : Smp) (L : Nat) : Nat → Nat := S fun i => tN s (dr s) L (i + 1) * (i + 1)
theorem sA_Fb {s : Smp} (hs : smp s) {L f m : Nat} (hL : L ≤ dr s) (hf : f ≤ L) (hm : m ≤ 30) : Fb 1060 (rt (sA s L f m) (C (dr s) L * C L f)) := by
  have hN := hs.2.2.2.2
  refine Fb_rt (Nat.mul_pos (C_pos hL) (C_pos hf)) ?_ ?_
  · have h1 : sA s L f m ≤ m * (2 ^ 630 * 2 ^ 410) := S_le fun i _ => Nat.mul_le_mul (Nat.le_of_lt (tN_lt hs _ _)) (Nat.le_trans (Nat.sub_le _ _) (Nat.le_of_lt (C_nat (by omega))))
    have h2 : m * (2 ^ 630 * 2 ^ 410) ≤ 30 * (2 ^ 630 * 2 ^ 410) := Nat.mul_le_mul_right _ hm
    have h3 : (30 : Nat) * (2 ^ 630 * 2 ^ 410) < 2 ^ 1060 := by decide +kernel
    omega
  · have h1 : C (dr s) L * C L f ≤ 2 ^ 410 * 2 ^ 410 := Nat.mul_le_mul (Nat.le_of_lt (C_nat hN)) (Nat.le_of_lt (C_nat (by omega)))
    have h3 : (2 : Nat) ^ 410 * 2 ^ 410 < 2 ^ 1060 := by decide +kernel
    omega
theorem sBE_Fb {s : Smp} (hs : smp s) {L m x : Nat} (hL : L ≤ dr s) (hx : x ≤ m * (2 ^ 630 * 30)) (hm : m ≤ 30) : Fb 1060 (rt x (C (dr s) L)) := by
  refine Fb_rt (C_pos hL) ?_ (Nat.lt_of_lt_of_le (C_nat hs.2.2.2.2) (Nat.pow_le_pow_right (by omega) (by omega)))
  have h2 : m * (2 ^ 630 * 30) ≤ 30 * (2 ^ 630 * 30) := Nat.mul_le_mul_right _ hm
  have h3 : (30 : Nat) * (2 ^ 630 * 30) < 2 ^ 1060 := by decide +kernel
  omega
theorem sB_le {s : Smp} (hs : smp s) (L m : Nat) : sB s L m ≤ m * (2 ^ 630 * 30) := S_le fun i _ => Nat.le_trans (Nat.le_of_lt (tN_lt hs _ _)) (Nat.le_mul_of_pos_right _ (by omega))
theorem sE_le {s : Smp} (hs : smp s) {L m : Nat} (hm : m ≤ 30) : sE s L m ≤ m * (2 ^ 630 * 30) := S_le fun i hi => Nat.mul_le_mul (Nat.le_of_lt (tN_lt hs _ _)) (by omega)
def sp_steps : BSp := ⟨fun c ds Q => ∃ (n : Nat) (s : Smp), ds = [.tup (pD s), .int (dr s)] ∧ smp s ∧ PotD n c ∧ n ≤ 10000000 ∧ ∀ c', PotD (n + 2) c' → Q (.bl true) c', fun _ _ _ _ h ⟨n, s, e, x, p, l, q⟩ => ⟨n, s, e, x, p, l, fun c' h1 => h _ _ (q c' h1)⟩⟩
theorem w_steps : SpecB ⟨[("thinned_times", sp_thinned_times), ("_law_shown", sp_shown), ("_law_plus", sp_plus), ("_law_times", sp_times), ("_law_ratio", sp_ratio), ("thinned", sp_thinned_of)], [("_law_take", sp_take)], []⟩ b_l_are_steps_right n_l_are_steps_right 3 sp_steps := by
  rintro c ds Q ⟨n, s, rfl, hs, hp, hn, q⟩
  refine ⟨rfl, ?_⟩
  have sz := szM
  have hl := hs.2.1
  have hl1 : 0 < s.length := List.length_pos_iff.2 hs.1
  have hN := hs.2.2.2.2
  simp only [b_l_are_steps_right, n_l_are_steps_right, entB]
  refine seqK fun P hP => ?_
  simp [s0_l_are_steps_right]
  obtain ⟨u, hu, hu1, hu2⟩ : ∃ u : Nat, (if (30 : Int) < (dr s : Int) then 30 else (dr s : Int)) = (u : Int) ∧ u ≤ dr s ∧ u ≤ 30 := by
    by_cases e : (30 : Int) < (dr s : Int)
    · exact ⟨30, by rw [if_pos e]; rfl, by omega, by omega⟩
    · exact ⟨dr s, by rw [if_neg e], by omega, by omega⟩
  rw [hu]
  refine take_run hp (by omega) (by omega) (by omega) fun L c L0 L1 hp => ?_
  obtain ⟨L, rfl⟩ := Int.eq_ofNat_of_zero_le L0
  refine hP _ ?_
  clear hP P
  have hL : L ≤ dr s := by omega
  have hL30 : L ≤ 30 := by omega
  refine seqK fun P hP => ?_
  simp [s1_l_are_steps_right]
  refine take_run hp (by omega) (by omega) (by omega) fun f c f0 f1 hp => ?_
  obtain ⟨f, rfl⟩ := Int.eq_ofNat_of_zero_le f0
  have hf : f ≤ L := by omega
  simp [pD_len]
  refine ⟨by omega, ?_⟩
  refine compW_map (fun ρ' => ∃ u v, ρ' = [.bor c, VE.sh (.tup (pD s)), .sh (.int (dr s)), .sh (.int L), .un, .un, .un, .un, .un, .un, .un, .un, .un, u, v]) (fun p : Nat × Nat => D.tup [.int p.1, .int p.2]) (fun p => D.int (p.1 : Int)) (fun _ _ => trivial) ?_ ⟨_, _, rfl⟩ ?_
  · rintro p hp ρ K' ⟨u, v, rfl⟩ hK
    simp
    exact hK _ ⟨_, _, rfl⟩
  rintro ρ' ⟨u', v', rfl⟩
  simp
  refine ⟨hl1, fun mx x x' hxs hx hmax => ⟨by omega, hP _ ?_⟩⟩
  clear hP P
  subst hx
  obtain ⟨M, hM, hM2, hM3⟩ : ∃ M : Nat, (if (x : Int) < (L : Int) then (x : Int) else (L : Int)) = (M : Int) ∧ M ≤ L ∧ sumOk s L M := by
    by_cases e : (x : Int) < (L : Int)
    · refine ⟨x, by rw [if_pos e], by omega, fun p hp => .inr ⟨?_, by omega⟩⟩
      have := hmax p.1 p.1 p.2 hp rfl
      omega
    · exact ⟨L, by rw [if_neg e], Nat.le_refl _, fun p hp => .inl rfl⟩
  rw [hM]
  have hLpos := C_pos hL
  have hfpos := C_pos hf
  have hwpos := Nat.mul_pos hLpos hfpos
  refine seqK fun P hP => ?_
  simp [s2_l_are_steps_right]
  refine ⟨by omega, by omega, hP _ ?_⟩
  clear hP P
  have z0 : ∀ w : Nat, D.tup [.int 0, .int 1] = fr (rt 0 w) := fun w => by rw [rt_zero]; rfl
  have sm1 : small (1 : Int) := ⟨by omega, by omega⟩
  have sm2 : small ((M : Int) + 1) := ⟨by omega, by omega⟩
  have eM : ((M : Int) + 1 - 1).toNat = M := by omega
  refine seqK fun P hP => ?_
  simp [s3_l_are_steps_right, sm1, sm2, -forW]
  refine forW_range (fun i ρ => ∃ t4 t10 t11 t12, ρ = [.bor c, VE.sh (.tup (pD s)), .sh (.int (dr s)), .sh (.int L), t4, .sh (.int f), .sh (.int M), .sh (fr (rt (sA s L f i) (C (dr s) L * C L f))), .sh (fr (rt (sB s L i) (C (dr s) L))), .sh (fr (rt (sE s L i) (C (dr s) L))), t10, t11, t12, .un, .un] ∧ fv t4 ∧ un3 t10 t11 t12) ⟨.un, .un, .un, .un, by simp only [sA, sB, sE, S, rt_zero]; rfl, .inl rfl, .inl ⟨rfl, rfl, rfl⟩⟩ ?_ ?_
  · rintro i ρ K' hi ⟨t4, t10, t11, t12, rfl, h4, h10⟩ hK
    have hi1 : i + 1 ≤ L := by omega
    obtain ⟨t, ht⟩ : ∃ t, t = i + 1 := ⟨_, rfl⟩
    have e1 : (1 : Int) + (i : Int) = (t : Int) := by omega
    have hA : rt (sA s L f (i + 1)) (C (dr s) L * C L f) = rt (sA s L f i) (C (dr s) L * C L f) + T s L t * rt (C L f - C (L - t) f) (C L f) := by
      subst ht
      unfold T
      rw [rt_mul_rt hLpos hfpos, ← rt_add hwpos]; rfl
    have hB : rt (sB s L (i + 1)) (C (dr s) L) = rt (sB s L i) (C (dr s) L) + T s L t := by
      subst ht
      unfold T
      rw [← rt_add hLpos]; rfl
    have hE : rt (sE s L (i + 1)) (C (dr s) L) = rt (sE s L i) (C (dr s) L) + ((t : Int) : Rat) * T s L t := by
      subst ht
      unfold T
      rw [rt_mul, ← rt_add hLpos, Nat.mul_comm (i + 1)]; rfl
    have fA := sA_Fb (m := i) hs hL hf (by omega)
    have fB := sBE_Fb hs hL (sB_le hs L i) (by omega : i ≤ 30)
    have fE := sBE_Fb hs hL (sE_le (L := L) hs (by omega : i ≤ 30)) (by omega : i ≤ 30)
    have fT := T_Fb (t := t) hs hL
    have fR : Fb 410 (rt (C L f - C (L - t) f) (C L f)) := Fb_rt hfpos (Nat.lt_of_le_of_lt (Nat.sub_le _ _) (C_nat (by omega))) (C_nat (by omega))
    rw [tgW_fv t4 rfl h4, e1]
    have next : K' [.bor c, VE.sh (.tup (pD s)), .sh (.int (dr s)), .sh (.int L), .sh (.int (t : Int)), .sh (.int f), .sh (.int M), .sh (fr (rt (sA s L f (i + 1)) (C (dr s) L * C L f))), .sh (fr (rt (sB s L (i + 1)) (C (dr s) L))), .sh (fr (rt (sE s L (i + 1)) (C (dr s) L))), .sh (fr (T s L t)), .sh (.int ((C L f - C (L - t) f : Nat) : Int)), .sh (.int (C L f)), .un, .un] := hK _ ⟨_, _, _, _, rfl, .inr ⟨_, rfl⟩, .inr ⟨_, _, _, rfl, rfl, rfl⟩⟩
    rw [hA, hB, hE] at next
    rcases h10 with ⟨rfl, rfl, rfl⟩ | ⟨_, _, _, rfl, rfl, rfl⟩
    all_goals
      refine seqK fun P2 hP2 => ?_
      simp
      refine ⟨s, L, t, rfl, hs, hL, by omega, hP2 _ ?_⟩
      clear hP2 P2
      refine seqK fun P2 hP2 => ?_
      simp
      refine ⟨L, f, t, rfl, by omega, by omega, hf, ?_⟩
      simp
      refine hP2 _ ?_
      clear hP2 P2
      refine seqK fun P2 hP2 => ?_
      simp
      refine ⟨by omega, Nat.lt_of_lt_of_le (C_nat (N := L) (d := f) (by omega)) (Nat.pow_le_pow_right (by omega) (by omega)), ?_⟩
      refine run_times (q := rt (C L f - C (L - t) f) (C L f)) fT fR (by omega) ?_
      refine run_plus fA (Fb_mul fT fR) (by omega) ?_
      refine run_plus fB fT (by omega) ?_
      refine ⟨by omega, hP2 _ ?_⟩
      clear hP2 P2
      have ft : Fb 10 (((t : Int) : Rat)) := ⟨by show ((t : Int)).natAbs < _; omega, by show 1 < _; decide⟩
      simp
      refine ⟨by omega, ?_⟩
      refine run_times (p := ((t : Int) : Rat)) ft fT (by omega) ?_
      refine run_plus fE (Fb_mul ft fT) (by omega) ?_
      exact next
  · rintro ρ ⟨t4, t10, t11, t12, rfl, _, _⟩
    refine hP _ ?_
    clear hP P
    have hpN : ∀ p ∈ s, p.1 ≤ dr s := fun p hp => (le_of hs hp).1
    have rA : rt (sA s L f M) (C (dr s) L * C L f) = K s f := rt_eq hwpos (C_pos (by omega)) (all_A hpN hL hf hM3)
    have rB : rt (sB s L M) (C (dr s) L) = K s L := by
      unfold K sB
      rw [all_B hpN hM3]
    have rE : rt (sE s L M) (C (dr s) L) = ((L : Int) : Rat) := by
      unfold sE
      rw [all_E (fun p hp => ⟨(smp_bd hs p hp).1.1, hpN p hp⟩) hM3 hL]
      exact rt_whole hLpos
    rw [rA, rB, rE]
    simp [s4_l_are_steps_right]
    refine ⟨s, f, rfl, hs, by omega, ?_⟩
    refine ⟨ok_fr _, fun _ => ?_, fun h => absurd h (by rw [eq_fr]; decide)⟩
    refine ⟨s, L, rfl, hs, hL, ?_⟩
    refine ⟨ok_fr _, fun _ => ⟨by omega, ?_⟩, fun h => absurd h (by rw [eq_fr]; decide)⟩
    exact q _ (hp.mono (by omega))
end K20
set_option Elab.async false
set_option linter.all false
set_option maxRecDepth 100000
set_option maxHeartbeats 1000000
set_option exponentiation.threshold 20000
namespace K20
open PySem PL Bn
theorem K_zero (s : Smp) : K s 0 = 0 := by
  unfold K kN
  have : (s.map fun p => p.2 * (C (dr s) 0 - C (dr s - p.1) 0)).sum = 0 := sum_zero fun x hx => by
    rw [List.mem_map] at hx
    obtain ⟨p, _, rfl⟩ := hx
    rw [C_zero, C_zero]; rfl
  rw [this, rt_zero]
theorem rt_one (a : Nat) : rt a 1 = ((a : Int) : Rat) := by
  have := rt_whole (a := a) (w := 1) (by omega)
  rwa [Nat.mul_one] at this
theorem K_all {s : Smp} (hs : smp s) : K s (dr s) = ((kinds s : Int) : Rat) := by
  unfold K kN kinds
  rw [C_self, ← rt_one]
  congr 2
  apply List.map_congr_left
  intro p hp
  have h1 := smp_bd hs p hp
  have h2 := (le_of hs hp).1
  rw [C_lt (show dr s - p.1 < dr s by omega), Nat.sub_zero, Nat.mul_one]
theorem K_one {s : Smp} (hs : smp s) : K s 1 = 1 := by
  have hp := dr_pos hs
  unfold K
  have e : kN s (dr s) 1 = 1 * C (dr s) 1 := by
    rw [C_one, Nat.one_mul]
    show kN s (dr s) 1 = (s.map fun p => p.1 * p.2).sum
    unfold kN
    congr 1
    apply List.map_congr_left
    intro p hp
    have h2 := (le_of hs hp).1
    rw [C_one, C_one, Nat.mul_comm]
    congr 1
    omega
  rw [e, rt_whole (C_pos hp)]; rfl
/-! ### ever fewer -/
def qt (N t d : Nat) : Rat := rt (C (N - t) d) (C N d)
theorem rt_nonneg {a w : Nat} (hw : 0 < w) : 0 ≤ rt a w := by
  unfold rt
  have h1 : (0 : Rat) ≤ ((a : Int) : Rat) := by
    have : (0 : Int) ≤ (a : Int) := by omega
    exact_mod_cast this
  have h2 : (0 : Rat) < ((w : Int) : Rat) := by
    have : (0 : Int) < (w : Int) := by omega
    exact_mod_cast this
  rw [Rat.div_def]
  exact Rat.mul_nonneg h1 (Rat.le_of_lt (Rat.inv_pos.2 h2))
theorem q_step {N t d : Nat} (h : d + 1 ≤ N) (ht : d ≤ N - t) : qt N t (d + 1) * (((N - d : Nat) : Int) : Rat) = qt N t d * (((N - t - d : Nat) : Int) : Rat) := by
  unfold qt
  have h1 := C_step N d (by omega)
  have h2 := C_step (N - t) d ht
  have p1 := C_pos (n := N) (k := d + 1) h
  have p0 := C_pos (n := N) (k := d) (by omega)
  rw [Rat.mul_comm, rt_mul, Rat.mul_comm (rt _ _), rt_mul]
  refine rt_eq p1 p0 ?_
  -- (N-d) C(N-t)(d+1) C N d = (N-t-d) C(N-t) d C N (d+1)
  apply Nat.eq_of_mul_eq_mul_right (show 0 < d + 1 by omega)
  generalize C (N - t) (d + 1) = a at *
  generalize C N (d + 1) = b at *
  generalize C (N - t) d = u at *
  generalize C N d = v at *
  have e1 : (N - d) * a * v * (d + 1) = (a * (d + 1)) * ((N - d) * v) := by grind
  have e2 : (N - t - d) * u * b * (d + 1) = (N - t - d) * u * (b * (d + 1)) := by grind
  rw [e1, e2, h1, h2]
  grind
theorem q_zero {N t d : Nat} (h : N - t < d) : qt N t d = 0 := by
  unfold qt
  rw [C_lt h, rt_zero]
theorem q_concave {N t d : Nat} (h : d + 2 ≤ N) (ht : 1 ≤ t) : qt N t (d + 1) - qt N t (d + 2) ≤ qt N t d - qt N t (d + 1) := by
  have hx : 0 ≤ qt N t d := rt_nonneg (C_pos (by omega))
  rcases Nat.lt_trichotomy d (N - t) with h1 | h1 | h1
  · have s1 := q_step (N := N) (t := t) (d := d) (by omega) (by omega)
    have s2 := q_step (N := N) (t := t) (d := d + 1) (by omega) (by omega)
    have e1 : ((N - d : Nat) : Int) = ((N - d - 2 : Nat) : Int) + 2 := by omega
    have e2 : ((N - (d + 1) : Nat) : Int) = ((N - d - 2 : Nat) : Int) + 1 := by omega
    have e3 : ((N - t - d : Nat) : Int) = ((N - d - 2 : Nat) : Int) + 2 - (((t - 1 : Nat) : Int) + 1) := by omega
    have e4 : ((N - t - (d + 1) : Nat) : Int) = ((N - d - 2 : Nat) : Int) + 1 - (((t - 1 : Nat) : Int) + 1) := by omega
    rw [e1, e3] at s1
    rw [e2, e4] at s2
    have hn : (0 : Rat) ≤ (((N - d - 2 : Nat) : Int) : Rat) := by
      have : (0 : Int) ≤ ((N - d - 2 : Nat) : Int) := by omega
      exact_mod_cast this
    have hu : (0 : Rat) ≤ (((t - 1 : Nat) : Int) : Rat) := by
      have : (0 : Int) ≤ ((t - 1 : Nat) : Int) := by omega
      exact_mod_cast this
    simp only [Rat.intCast_add, Rat.intCast_sub] at s1 s2
    have i1 : ((1 : Int) : Rat) = 1 := rfl
    have i2 : ((2 : Int) : Rat) = 2 := rfl
    rw [i1, i2] at s1
    rw [i1] at s2
    generalize qt N t d = x at *
    generalize qt N t (d + 1) = y at *
    generalize qt N t (d + 1 + 1) = z at *
    generalize (((N - d - 2 : Nat) : Int) : Rat) = n at *
    generalize (((t - 1 : Nat) : Int) : Rat) = u at *
    -- (x - 2y + z)(n+2)(n+1) = x (u+1) u
    have key : (x - y - (y - z)) * ((n + 2) * (n + 1)) = x * ((u + 1) * u) := by grind
    have pos : 0 ≤ x * ((u + 1) * u) := Rat.mul_nonneg hx (Rat.mul_nonneg (by grind) hu)
    have pn : 0 < (n + 2) * (n + 1) := Rat.mul_pos (by grind) (by grind)
    have : 0 ≤ x - y - (y - z) := by
      refine Rat.not_lt.1 fun hlt => ?_
      have := Rat.mul_lt_mul_of_pos_right hlt pn
      rw [key, Rat.zero_mul] at this
      exact absurd pos (Rat.not_le.2 this)
    grind
  · have s1 := q_step (N := N) (t := t) (d := d) (by omega) (by omega)
    have e : N - t - d = 0 := by omega
    rw [e] at s1
    have hy : qt N t (d + 1) = 0 := q_zero (by omega)
    have hz : qt N t (d + 2) = 0 := q_zero (by omega)
    rw [hy, hz]; grind
  · rw [q_zero (d := d) h1, q_zero (d := d + 1) (by omega), q_zero (d := d + 2) (by omega)]
    exact Rat.le_refl
theorem K_q {s : Smp} {d : Nat} (hd : d ≤ dr s) : K s d = (s.map fun p => ((p.2 : Int) : Rat) * (1 - qt (dr s) p.1 d)).sum := by
  rw [K_row hd]
  congr 1
  apply List.map_congr_left
  intro p _
  have hm := C_mono d (show dr s - p.1 ≤ dr s by omega)
  unfold qt
  have := rt_sub (C_pos hd) hm
  unfold rt at this ⊢
  rw [this]
  have := rt_mul p.2 (C (dr s) d - C (dr s - p.1) d) (C (dr s) d)
  unfold rt at this
  exact this.symm
theorem K_concave {s : Smp} (hs : smp s) {d : Nat} (h : d + 2 ≤ dr s) : K s (d + 2) - K s (d + 1) ≤ K s (d + 1) - K s d := by
  rw [K_q (d := d + 2) h, K_q (d := d + 1) (by omega), K_q (d := d) (by omega)]
  have : ∀ l : Smp, (∀ p ∈ l, 1 ≤ p.1) → (l.map fun p => ((p.2 : Int) : Rat) * (1 - qt (dr s) p.1 (d + 2))).sum - (l.map fun p => ((p.2 : Int) : Rat) * (1 - qt (dr s) p.1 (d + 1))).sum ≤ (l.map fun p => ((p.2 : Int) : Rat) * (1 - qt (dr s) p.1 (d + 1))).sum - (l.map fun p => ((p.2 : Int) : Rat) * (1 - qt (dr s) p.1 d)).sum := by
    intro l
    induction l with
    | nil => intro _; simp only [List.map_nil, List.sum_nil]; exact Rat.le_refl
    | cons p l ih =>
      intro hl
      have i := ih fun q hq => hl q (by simp [hq])
      have c := q_concave (N := dr s) (t := p.1) (d := d) h (hl p (by simp))
      have m0 : (0 : Rat) ≤ ((p.2 : Int) : Rat) := by
        have : (0 : Int) ≤ (p.2 : Int) := by omega
        exact_mod_cast this
      simp only [List.map_cons, List.sum_cons]
      have c' := Rat.mul_le_mul_of_nonneg_left c m0
      generalize ((p.2 : Int) : Rat) = m at *
      grind
  exact this s fun p hp => (smp_bd hs p hp).1.1
/-! ### the last draw -/
theorem ones_sum : ∀ {s : Smp} {N : Nat}, (∀ p ∈ s, 1 ≤ p.1 ∧ p.1 ≤ N) → s.Pairwise (fun a b => a.1 < b.1) → (s.map fun p => p.2 * C (N - p.1) (N - 1)).sum = ones s
  | [], _, _, _ => rfl
  | p :: s, N, h, hp => by
    rw [List.map_cons, List.sum_cons]
    have hb := h p (by simp)
    rw [List.pairwise_cons] at hp
    by_cases e : p.1 = 1
    · have z : (s.map fun p => p.2 * C (N - p.1) (N - 1)).sum = 0 := sum_zero fun x hx => by
        rw [List.mem_map] at hx
        obtain ⟨q, hq, rfl⟩ := hx
        have := hp.1 q hq
        rw [C_lt (show N - q.1 < N - 1 by have := h q (by simp [hq]); omega), Nat.mul_zero]
      rw [z, e, C_self]
      simp [ones, e]
    · rw [C_lt (show N - p.1 < N - 1 by omega), Nat.mul_zero, Nat.zero_add, ones_sum (fun q hq => h q (by simp [hq])) hp.2]
      simp [ones, e]
theorem K_last {s : Smp} (hs : smp s) : K s (dr s) - K s (dr s - 1) = rt (ones s) (dr s) := by
  have hp := dr_pos hs
  rw [K_all hs]
  have hC : C (dr s) (dr s - 1) = dr s := by rw [C_symm hp, C_one]
  have e1 : K s (dr s - 1) + rt (ones s) (dr s) = ((kinds s : Int) : Rat) := by
    unfold K
    rw [hC, ← rt_add (by omega), ← rt_whole (a := kinds s) (w := dr s) (by omega)]
    congr 1
    rw [← ones_sum (N := dr s) (fun p hp => ⟨(smp_bd hs p hp).1.1, (le_of hs hp).1⟩) hs.2.2.2.1]
    unfold kN kinds
    have : ∀ l : Smp, (l.map fun p => p.2 * (C (dr s) (dr s - 1) - C (dr s - p.1) (dr s - 1))).sum + (l.map fun p => p.2 * C (dr s - p.1) (dr s - 1)).sum = (l.map fun p => p.2).sum * dr s := by
      intro l
      induction l with
      | nil => simp
      | cons p l ih =>
        have hm := C_mono (dr s - 1) (show dr s - p.1 ≤ dr s by omega)
        have e : p.2 * (C (dr s) (dr s - 1) - C (dr s - p.1) (dr s - 1)) + p.2 * C (dr s - p.1) (dr s - 1) = p.2 * dr s := by
          rw [← Nat.mul_add, Nat.sub_add_cancel hm, hC]
        simp only [List.map_cons, List.sum_cons]
        rw [Nat.add_mul, ← ih, ← e]
        omega
    exact this s
  rw [← e1]
  grind
end K20
set_option Elab.async false
set_option linter.all false
set_option maxRecDepth 100000
set_option maxHeartbeats 1000000
set_option exponentiation.threshold 20000
namespace K20
open PySem PL Bn
def stp (s : Smp) (d : Nat) : Rat := K s (d + 1) - K s d
theorem stp_Fb {s : Smp} (hs : smp s) {d : Nat} (hd : d + 1 ≤ dr s) : Fb 821 (stp s d) := by
  have h1 := K_Fb hs hd
  have h2 := K_Fb hs (show d ≤ dr s by omega)
  have h3 : Fb 410 (-(K s d)) := ⟨by rw [Rat.neg_num, Int.natAbs_neg]; exact h2.1, h2.2⟩
  have := Fb_add h1 h3
  rw [← Rat.sub_eq_add_neg] at this
  exact this
theorem zip_nat (g h : Nat → D) (N : Nat) : ∀ (a : Nat), zipD ((List.range N).map fun d => g (a + d)) ((List.range N).map fun d => h (a + d)) = (List.range N).map fun d => D.tup [g (a + d), h (a + d)] := by
  induction N with
  | zero => intro a; rfl
  | succ N ih =>
    intro a
    rw [List.range_succ_eq_map, List.map_cons, List.map_map, List.map_cons, List.map_map, List.map_cons, List.map_map]
    have := ih (a + 1)
    have e : ∀ f : Nat → D, ((List.range N).map ((fun d => f (a + d)) ∘ Nat.succ)) = (List.range N).map fun d => f (a + 1 + d) := fun f => by
      apply List.map_congr_left
      intro d _
      show f (a + (d + 1)) = f (a + 1 + d)
      congr 1; omega
    rw [e g, e h, zipD, this]
    congr 1
    apply List.map_congr_left
    intro d _
    show D.tup [g (a + 1 + d), h (a + 1 + d)] = D.tup [g (a + (d + 1)), h (a + (d + 1))]
    have : a + 1 + d = a + (d + 1) := by omega
    rw [this]
theorem zipD_take : ∀ (a b c : List D), c.length = b.length → zipD (c ++ a) b = zipD c b
  | a, [], [], _ => by cases a <;> simp
  | a, y :: b, x :: c, h => by
    rw [List.cons_append, zipD, zipD, zipD_take a b c (by simpa using h)]
  | _, [], _ :: _, h => by simp at h
  | _, _ :: _, [], h => by simp at h
theorem zip_next (g : Nat → D) (N : Nat) : zipD ((List.range (N + 1)).map g) (cutD ((List.range (N + 1)).map g) (some 1) none) = (List.range N).map fun d => D.tup [g d, g (d + 1)] := by
  rw [cut_one, ← List.map_tail]
  have e1 : (List.range (N + 1)).tail = (List.range N).map Nat.succ := by rw [List.range_succ_eq_map]; rfl
  rw [e1, List.map_map, List.range_succ, List.map_append]
  rw [zipD_take _ _ _ (by simp)]
  have := zip_nat g (fun d => g (d + 1)) N 0
  simp only [Nat.zero_add] at this
  exact this
def sp_curve_ok : FSp := ⟨fun ds Q => ∃ s : Smp, ds = [.tup (pD s), .int (dr s)] ∧ smp s ∧ dr s ≤ 60 ∧ Q (.bl true), fun _ _ _ h ⟨s, e, x, y, q⟩ => ⟨s, e, x, y, h _ q⟩⟩
theorem w_curve_ok : Spec ⟨[("thinned_curve", sp_curve), ("_law_plus", sp_plus), ("_law_below", sp_below), ("_law_ratio", sp_ratio), ("good_turing", sp_good), ("new_by_last", sp_new_by_last)], [], []⟩ b_l_is_curve_right n_l_is_curve_right 2 sp_curve_ok := by
  rintro ds Q ⟨s, rfl, hs, h60, q⟩
  refine ⟨rfl, ?_⟩
  have sz := szM
  have hl := hs.2.1
  have hp := dr_pos hs
  have hk := kinds_le hs
  simp only [b_l_is_curve_right, n_l_is_curve_right, ent]
  refine seqK fun P hP => ?_
  simp [s0_l_is_curve_right]
  refine ⟨s, rfl, hs, hP _ ?_⟩
  clear hP P
  have hcl : (curveD s).length = dr s + 1 := by simp [curveD]
  have c0 : (curveD s)[0]'(by rw [hcl]; omega) = D.tup [.int 0, .int 1] := by
    have : (curveD s)[0]'(by rw [hcl]; omega) = fr (K s 0) := by simp [curveD]
    rw [this, K_zero]; rfl
  have cl : (curveD s).getLast? = some (D.tup [.int (kinds s), .int 1]) := by
    unfold curveD
    rw [List.range_succ, List.map_append, List.getLast?_append]
    show some (fr (K s (dr s))) = _
    rw [K_all hs]; rfl
  refine seqK fun P hP => ?_
  simp [s1_l_is_curve_right, hcl, c0, cl, pD_len]
  refine ⟨by omega, by omega, ?_⟩
  refine compW_map (fun ρ' => ∃ u v, ρ' = [VE.sh (.tup (pD s)), .sh (.int (dr s)), .sh (.tup (curveD s)), .un, .un, u, .un, v]) (fun p : Nat × Nat => D.tup [.int p.1, .int p.2]) (fun p => D.int (p.2 : Int)) (fun _ _ => trivial) ?_ ⟨_, _, rfl⟩ ?_
  · rintro p hp ρ K' ⟨u, v, rfl⟩ hK
    simp
    exact hK _ ⟨_, _, rfl⟩
  rintro ρ' ⟨u, v, rfl⟩
  simp [sum_kinds]
  refine ⟨by omega, hP _ ?_⟩
  clear hP P
  have hz : zipD (curveD s) (cutD (curveD s) (some 1) none) = (List.range (dr s)).map fun d => D.tup [fr (K s d), fr (K s (d + 1))] := zip_next (fun d => fr (K s d)) (dr s)
  refine seqK fun P hP => ?_
  simp [s2_l_is_curve_right, hz]
  refine ⟨by omega, ?_⟩
  refine compW_map (fun ρ' => ∃ u v, ρ' = [VE.sh (.tup (pD s)), .sh (.int (dr s)), .sh (.tup (curveD s)), .un, .un, u, v, .un]) (fun d : Nat => D.tup [fr (K s d), fr (K s (d + 1))]) (fun d => fr (stp s d)) (fun _ _ => trivial) ?_ ⟨_, _, rfl⟩ ?_
  · rintro d hd ρ K' ⟨u, v, rfl⟩ hK
    rw [List.mem_range] at hd
    have f1 := K_Fb hs (show d ≤ dr s by omega)
    have f2 := K_Fb hs (show d + 1 ≤ dr s by omega)
    have f3 : Fb 410 (-(K s d)) := ⟨by rw [Rat.neg_num, Int.natAbs_neg]; exact f1.1, f1.2⟩
    simp
    refine ⟨by omega, ?_⟩
    refine run_plus (q := -(K s d)) f2 f3 (by omega) ?_
    rw [← Rat.sub_eq_add_neg]
    exact hK _ ⟨_, _, rfl⟩
  rintro ρ' ⟨u, v, rfl⟩
  simp
  refine hP _ ?_
  clear hP P
  obtain ⟨st, hst⟩ : ∃ st, st = (List.range (dr s)).map fun d => fr (stp s d) := ⟨_, rfl⟩
  rw [← hst]
  have hz2 : zipD st (cutD st (some 1) none) = (List.range (dr s - 1)).map fun d => D.tup [fr (stp s d), fr (stp s (d + 1))] := by
    have e : dr s = (dr s - 1) + 1 := by omega
    rw [hst, e]
    exact zip_next (fun d => fr (stp s d)) (dr s - 1)
  have hsl : st.length = dr s := by rw [hst]; simp
  have s0 : st[0]'(by rw [hsl]; omega) = D.tup [.int 1, .int 1] := by
    have : st[0]'(by rw [hsl]; omega) = fr (stp s 0) := by simp [hst]
    rw [this]
    unfold stp
    have e1 : K s (0 + 1) = 1 := K_one hs
    rw [e1, K_zero, show (1 : Rat) - 0 = 1 from by grind]; rfl
  have sl : st.getLast? = some (fr (rt (ones s) (dr s))) := by
    have e : dr s = (dr s - 1) + 1 := by omega
    rw [hst, e, List.range_succ, List.map_append, List.getLast?_append]
    show some (fr (stp s (dr s - 1))) = _
    unfold stp
    rw [← e, K_last hs]
  have sok : ∀ x ∈ st, okD 7 x := by
    intro x hx
    rw [hst, List.mem_map] at hx
    obtain ⟨d, _, rfl⟩ := hx
    simp
  refine seqK fun P hP => ?_
  simp [s3_l_is_curve_right, hz2, s0, hsl]
  refine ⟨by omega, ?_⟩
  refine compW_map (fun ρ' => ∃ u v, ρ' = [VE.sh (.tup (pD s)), .sh (.int (dr s)), .sh (.tup (curveD s)), .own (.lst st), .un, u, v, .un]) (fun d : Nat => D.tup [fr (stp s d), fr (stp s (d + 1))]) (fun _ => D.bl false) ?_ ?_ ⟨_, _, rfl⟩ ?_
  · rintro ρ' ⟨u, v, rfl⟩
    simp
  · rintro d hd ρ K' ⟨u, v, rfl⟩ hK
    rw [List.mem_range] at hd
    have f1 := stp_Fb hs (show d + 1 ≤ dr s by omega)
    have f2 := stp_Fb hs (show d + 1 + 1 ≤ dr s by omega)
    have hc := K_concave hs (show d + 2 ≤ dr s by omega)
    have hd2 : decide (stp s d < stp s (d + 1)) = false := decide_eq_false (Rat.not_lt.2 hc)
    simp
    refine run_below f1 f2 (by omega) ?_
    rw [hd2]
    exact hK _ ⟨_, _, rfl⟩
  rintro ρ' ⟨u, v, rfl⟩
  refine ⟨_, bls?_fn (fun _ : Nat => false) _, ?_⟩
  have ef : ((List.range (dr s - 1)).map fun _ => false).any id = false := by simp
  simp
  refine ⟨_, (by rw [List.getElem?_eq_getElem (show 0 < st.length by omega), s0]), by omega, by simp, fun h => absurd h (by simp), fun _ => hP _ ?_⟩
  clear hP P
  refine seqK fun P hP => ?_
  simp [s4_l_is_curve_right, pairsD_pD, merge_kvs hs, get_one]
  refine ⟨by omega, Nat.lt_of_lt_of_le (show dr s < 2 ^ 20 by omega) (Nat.pow_le_pow_right (by omega) (by omega)), hP _ ?_⟩
  clear hP P
  simp [s5_l_is_curve_right, sl]
  refine ⟨fun _ _ => ⟨s, rfl, hs, ?_⟩, fun h => absurd rfl (h rfl)⟩
  have hr : ((ones s : Int) : Rat) / ((dr s : Int) : Rat) = rt (ones s) (dr s) := rfl
  have hl2 := K_last hs
  simp only [hr, hl2]
  refine ⟨ok_fr _, fun _ => ⟨s, rfl, hs, ?_⟩, fun h => absurd h (by rw [eq_fr]; decide)⟩
  refine ⟨ok_fr _, ?_⟩
  have e2 : deq (fr (rt (ones s) (dr s))) (fr (rt (ones s) (dr s))) = true := eq_fr _
  show Q (.bl (deq (fr (rt (ones s) (dr s))) (fr (rt (ones s) (dr s)))))
  rw [e2]
  exact q
end K20
set_option Elab.async false
set_option linter.all false
set_option maxRecDepth 100000
set_option maxHeartbeats 1000000
set_option exponentiation.threshold 20000
namespace K20
open PySem PL Bn
theorem K_le {s : Smp} {d : Nat} (hd : d ≤ dr s) : K s d ≤ ((kinds s : Int) : Rat) := by
  have hw := C_pos hd
  have h := kN_le s (dr s) d
  unfold K
  rw [← rt_whole (a := kinds s) hw]
  unfold rt
  have hw' : (0 : Rat) < ((C (dr s) d : Int) : Rat) := by
    have : (0 : Int) < (C (dr s) d : Int) := by omega
    exact_mod_cast this
  have hle : ((kN s (dr s) d : Int) : Rat) ≤ ((kinds s * C (dr s) d : Nat) : Int) := by
    have : (kN s (dr s) d : Int) ≤ ((kinds s * C (dr s) d : Nat) : Int) := by omega
    exact_mod_cast this
  rw [Rat.div_def, Rat.div_def]
  exact Rat.mul_le_mul_of_nonneg_right hle (Rat.le_of_lt (Rat.inv_pos.2 hw'))
theorem cast_lt {a b : Nat} : ((a : Int) : Rat) < ((b : Int) : Rat) ↔ a < b := by
  constructor
  · intro h
    have : (a : Int) < (b : Int) := by exact_mod_cast h
    omega
  · intro h
    have : (a : Int) < (b : Int) := by omega
    exact_mod_cast this
theorem cast_le {a b : Nat} : ((a : Int) : Rat) ≤ ((b : Int) : Rat) ↔ a ≤ b := by
  constructor
  · intro h
    have : (a : Int) ≤ (b : Int) := by exact_mod_cast h
    omega
  · intro h
    have : (a : Int) ≤ (b : Int) := by omega
    exact_mod_cast this
theorem of_ints {c : D} {n : Nat} {Q : D → D → Prop} (ns : List Int) (h : PotD n c) (hn : n < 1000000000) (h0 : 0 < ns.length) (h1 : ns.length < 1000000) (q : ∀ i c', i ∈ ns → PotD (n + 1) c' → Q (.int i) c') : sp_of.run c [.lst (ns.map D.int)] Q :=
  ⟨_, _, n, rfl, rfl, h, hn, by simpa using h0, by simpa using h1, fun x c' hx hp => by
    rw [List.mem_map] at hx
    obtain ⟨i, hi, rfl⟩ := hx
    exact q i c' hi hp⟩
def sp_right : BSp := ⟨fun c ds Q => ∃ n, ds = [] ∧ PotD n c ∧ n ≤ 1000 ∧ ∀ c', PotD (n + 1000) c' → Q (.bl true) c', fun _ _ _ _ h ⟨n, e, p, l, q⟩ => ⟨n, e, p, l, fun c' h1 => h _ _ (q c' h1)⟩⟩
theorem w_right : SpecB ⟨[("_law_is_curve_right", sp_curve_ok), ("draws_for", sp_draws_for), ("_law_below", sp_below), ("_law_kinds_of", sp_kinds_of)], [("_law_sample", sp_sample), ("_law_of", sp_of), ("_law_take", sp_take), ("_law_is_look_right", sp_look), ("_law_are_steps_right", sp_steps)], []⟩ b_l_right n_l_right 1 sp_right := by
  rintro c ds Q ⟨n, rfl, hp, hn, q⟩
  refine ⟨rfl, ?_⟩
  have sz := szM
  simp only [b_l_right, n_l_right, entB]
  refine seqK fun P hP => ?_
  simp [s0_l_right]
  refine ⟨by omega, ?_⟩
  refine of_ints [3, 12, 200] hp (by omega) (by decide) (by decide) fun a c ha hp => ?_
  obtain ⟨a, rfl⟩ := Int.eq_ofNat_of_zero_le (show 0 ≤ a by simp at ha; omega)
  have ha : 1 ≤ a ∧ a ≤ 200 := by simp at ha; omega
  refine ⟨by omega, ?_⟩
  refine of_ints [2, 9, 40] hp (by omega) (by decide) (by decide) fun b c hb hp => ?_
  obtain ⟨b, rfl⟩ := Int.eq_ofNat_of_zero_le (show 0 ≤ b by simp at hb; omega)
  have hb : 1 ≤ b ∧ b ≤ 400 := by simp at hb; omega
  refine ⟨by omega, ?_⟩
  refine of_ints [20, 90, 400] hp (by omega) (by decide) (by decide) fun d c hd hp => ?_
  obtain ⟨d, rfl⟩ := Int.eq_ofNat_of_zero_le (show 0 ≤ d by simp at hd; omega)
  have hd : 1 ≤ d ∧ d ≤ 400 := by simp at hd; omega
  refine ⟨_, a, b, d, rfl, ha, hb, hd, hp, by omega, fun s c hs hp => hP _ ?_⟩
  clear hP P
  have hl := hs.2.1
  have hN := hs.2.2.2.2
  have hk := kinds_le hs
  have hd1 := dr_pos hs
  refine seqK fun P hP => ?_
  simp [s1_l_right, pD_len]
  refine ⟨by omega, ?_⟩
  refine compW_map (fun ρ' => ∃ u v, ρ' = [.bor c, VE.sh (.tup (pD s)), .un, .un, .un, .un, .un, u, v]) (fun p : Nat × Nat => D.tup [.int p.1, .int p.2]) (fun p => D.int ((p.1 : Int) * (p.2 : Int))) (fun _ _ => trivial) ?_ ⟨_, _, rfl⟩ ?_
  · rintro p hp ρ K' ⟨u, v, rfl⟩ hK
    have hb := smp_bd hs p hp
    have m1 : mulOk (p.1 : Int) (p.2 : Int) := mulOk_of 10 10 (by omega) (by omega) (by omega)
    simp [m1]
    exact hK _ ⟨_, _, rfl⟩
  rintro ρ' ⟨u, v, rfl⟩
  simp [sum_dr]
  refine hP _ ?_
  clear hP P
  refine seqK fun P hP => ?_
  simp [s2_l_right, -forW]
  refine take_run hp (by omega) (by omega) (by omega) fun v c v0 v1 hp => ?_
  obtain ⟨v, rfl⟩ := Int.eq_ofNat_of_zero_le v0
  simp [-forW]
  refine ⟨by omega, ?_⟩
  refine forW_list (xs := [0, dr s, v]) (fun r ρ => ∃ c t3, ρ = [.bor c, .sh (.tup (pD s)), .sh (.int (dr s)), t3, .un, .un, .un, .un, .un] ∧ fv t3 ∧ PotD (n + 120 + (3 - r.length)) c ∧ r.length ≤ 3) (fun x : Nat => D.int x) ⟨c, .un, rfl, .inl rfl, hp.mono (by simp), by simp⟩ ?_ ?_
  · rintro x r ρ K' ⟨pre, hpre⟩ ⟨c, t3, rfl, h3, hp, hr⟩ hK
    have hx : x ≤ dr s := by
      have : x ∈ [0, dr s, v] := by rw [hpre]; simp
      simp at this
      omega
    have hr' : r.length + 1 ≤ 3 := by simpa using hr
    rw [tgW_fv t3 rfl h3]
    simp
    refine ⟨_, s, x, rfl, hs, hx, hp, by simp; omega, fun c' hp' => ?_⟩
    simp
    exact hK _ ⟨c', _, rfl, .inr ⟨_, rfl⟩, hp'.mono (by simp; omega), by omega⟩
  rintro ρ ⟨c, t3, rfl, h3, hp, _⟩
  have hp : PotD (n + 123) c := hp.mono (by simp)
  refine hP _ ?_
  clear hP P
  refine seqK fun P hP => ?_
  simp [s3_l_right]
  refine ⟨_, s, rfl, hs, hp, by omega, fun c hp => ?_⟩
  simp
  have nextP : P [.bor c, .sh (.tup (pD s)), .sh (.int (dr s)), t3, .un, .un, .un, .un, .un] := hP _ ?_
  · refine ⟨fun h60 => ?_, fun _ => nextP⟩
    refine ⟨s, rfl, hs, by omega, ?_⟩
    simp
    exact nextP
  clear hP P
  refine seqK fun P hP => ?_
  simp [s4_l_right]
  refine ⟨fun _ => q _ (hp.mono (by omega)), fun h90 => hP _ ?_⟩
  clear hP P
  refine seqK fun P hP => ?_
  simp [s5_l_right]
  refine take_run hp (by omega) (by omega) (by omega) fun w c w0 w1 hp => ?_
  obtain ⟨w, rfl⟩ := Int.eq_ofNat_of_zero_le w0
  simp
  refine hP _ ?_
  clear hP P
  refine seqK fun P hP => ?_
  simp [s6_l_right, pD_len]
  refine sp_draws_for.mono _ (fun d => P [.bor c, .sh (.tup (pD s)), .sh (.int (dr s)), t3, .sh (.int w), .sh d, .sh (.int (kinds s)), .un, .un]) _ (fun d hG => ?_) ?_
  · refine ⟨by omega, ?_⟩
    refine compW_map (fun ρ' => ∃ u v, ρ' = [.bor c, VE.sh (.tup (pD s)), .sh (.int (dr s)), t3, .sh (.int w), .un, .un, u, v]) (fun p : Nat × Nat => D.tup [.int p.1, .int p.2]) (fun p => D.int (p.2 : Int)) (fun _ _ => trivial) ?_ ⟨_, _, rfl⟩ ?_
    · rintro p hp ρ K' ⟨u, v, rfl⟩ hK
      simp
      exact hK _ ⟨_, _, rfl⟩
    rintro ρ' ⟨u, v, rfl⟩
    simp [sum_kinds]
    exact ⟨by omega, hG⟩
  refine ⟨s, w, rfl, hs, by omega, fun i hi hwi hj => hP _ ?_, fun hall => hP _ ?_⟩
  · clear hP P
    have hwk : w ≤ kinds s := cast_le.1 (Rat.le_trans hwi (K_le hi))
    have fi := K_Fb hs hi
    have fw : Fb 10 (((w : Int) : Rat)) := ⟨by show ((w : Int)).natAbs < _; omega, by show 1 < _; decide⟩
    refine seqK fun P hP => ?_
    simp [s7_l_right]
    refine hP _ ?_
    clear hP P
    refine seqK fun P hP => ?_
    simp [s8_l_right]
    refine ⟨fun h => absurd h (by omega), fun _ => ?_⟩
    refine ⟨s, i, rfl, hs, hi, by omega, ?_⟩
    refine run_below (q := ((w : Int) : Rat)) fi fw (by omega) ?_
    rw [decide_eq_false (Rat.not_lt.2 hwi)]
    simp
    refine hP _ ?_
    clear hP P
    simp [s9_l_right]
    refine ⟨fun _ => q _ (hp.mono (by omega)), fun h0 => ?_⟩
    have e1 : (i : Int) - 1 = ((i - 1 : Nat) : Int) := by omega
    rw [e1]
    refine ⟨s, i - 1, rfl, hs, by omega, by omega, ?_⟩
    refine run_below (q := ((w : Int) : Rat)) (K_Fb hs (by omega)) fw (by omega) ?_
    rw [decide_eq_true (hj (i - 1) (by omega))]
    exact q _ (hp.mono (by omega))
  · clear hP P
    have hkw : kinds s < w := by
      have := hall (dr s) (Nat.le_refl _)
      rw [K_all hs] at this
      exact cast_lt.1 this
    refine seqK fun P hP => ?_
    simp [s7_l_right, hkw]
    exact q _ (hp.mono (by omega))
def sp_law : FSp := ⟨fun ds Q => ∃ ns : List Int, ds = [.ro (ns.map D.int)] ∧ Q (.bl true), fun _ _ _ h ⟨ns, e, q⟩ => ⟨ns, e, h _ q⟩⟩
theorem w_law : Spec ⟨[("_law_cells", sp_cells)], [("_law_pot", sp_pot), ("_law_right", sp_right)], []⟩ b_law n_law 1 sp_law := by
  rintro ds Q ⟨ns, rfl, q⟩
  refine ⟨rfl, ?_⟩
  simp [b_law, s0_law, s1_law, n_law]
  refine ⟨ns.map D.int, 2, rfl, by omega, by omega, ?_⟩
  simp
  refine forW_range (fun i ρ => ∃ t1 t2 : VE, ρ = [.sh (.ro (ns.map D.int)), t1, t2] ∧ fv t1 ∧ (t2 = .un ∨ ∃ c, t2 = .own c)) ⟨_, _, rfl, .inl rfl, .inl rfl⟩ ?_ ?_
  · rintro i ρ K hi ⟨t1, t2, rfl, h1, h2⟩ hK
    have hi2 : i < 1000 := by omega
    rw [tgW_fv t1 rfl h1]
    rcases h2 with rfl | ⟨c, rfl⟩
    all_goals
      simp
      refine ⟨rfl, ns, i, rfl, hi2, fun c hc => ?_⟩
      refine ⟨0, rfl, hc, by omega, fun c' hc' => ?_⟩
      simp
      exact hK _ ⟨_, _, rfl, .inr ⟨_, rfl⟩, .inr ⟨_, rfl⟩⟩
  · rintro ρ ⟨t1, t2, rfl, h1, h2⟩
    simp
    exact q
theorem pot_non {n : Nat} : ¬ PotD n .non := fun ⟨_, _, _, e, _⟩ => by cases e
theorem no_sp_take : ∀ ds Q, ¬ sp_take.run .non ds Q := by
  intro ds Q h
  unfold sp_take at h
  simp only at h
  split at h
  · obtain ⟨_, _, n, ⟨_, _, _, e, _⟩, _⟩ := h; cases e
  · exact h
theorem no_sp_of : ∀ ds Q, ¬ sp_of.run .non ds Q := fun ds Q ⟨_, _, _, _, _, hp, _⟩ => pot_non hp
theorem no_sp_sample : ∀ ds Q, ¬ sp_sample.run .non ds Q := fun ds Q ⟨_, _, _, _, _, _, _, _, hp, _⟩ => pot_non hp
theorem no_sp_look : ∀ ds Q, ¬ sp_look.run .non ds Q := fun ds Q ⟨_, _, _, _, _, _, hp, _⟩ => pot_non hp
theorem no_sp_steps : ∀ ds Q, ¬ sp_steps.run .non ds Q := fun ds Q ⟨_, _, _, _, hp, _⟩ => pot_non hp
theorem no_sp_right : ∀ ds Q, ¬ sp_right.run .non ds Q := fun ds Q ⟨_, _, hp, _⟩ => pot_non hp
theorem only_sp_pot : ∀ c ds Q, sp_pot.run c ds Q → c = .non := fun c ds Q h => h.1
end K20
set_option Elab.async false
set_option linter.all false
set_option maxRecDepth 100000
set_option maxHeartbeats 0
namespace K20
open PySem PySem.Spec PyProof.Rows L2 PL
abbrev top (i : Nat) : Stmt := PySem.Challenge.pw_caughtbefore_k20_whole_looks_in_two_step.main.body.getD i (.Pass ⟨0,0,0,0⟩)
abbrev s_is_tuple : Stmt := top 1
def c_is_tuple : MC := ⟨n_is_tuple, [], [], []⟩
theorem m_is_tuple : all2 (mS c_is_tuple 60 (defScope s_is_tuple) (fun _ => true)) b_is_tuple (defBody s_is_tuple) = true := by decide +kernel
theorem f_is_tuple : FnScope n_is_tuple ["value", "least", "most"] (defScope s_is_tuple) := ⟨rfl, rfl, rfl, by decide +kernel, rfl, by decide +kernel, by decide +kernel⟩
abbrev s_is_whole : Stmt := top 2
def c_is_whole : MC := ⟨n_is_whole, [], [], []⟩
theorem m_is_whole : all2 (mS c_is_whole 60 (defScope s_is_whole) (fun _ => true)) b_is_whole (defBody s_is_whole) = true := by decide +kernel
theorem f_is_whole : FnScope n_is_whole ["value"] (defScope s_is_whole) := ⟨rfl, rfl, rfl, by decide +kernel, rfl, by decide +kernel, by decide +kernel⟩
abbrev s_is_integer : Stmt := top 3
def c_is_integer : MC := ⟨n_is_integer, ["is_whole"], [], []⟩
theorem m_is_integer : all2 (mS c_is_integer 60 (defScope s_is_integer) (fun _ => true)) b_is_integer (defBody s_is_integer) = true := by decide +kernel
theorem f_is_integer : FnScope n_is_integer ["value", "low", "high"] (defScope s_is_integer) := ⟨rfl, rfl, rfl, by decide +kernel, rfl, by decide +kernel, by decide +kernel⟩
abbrev s_is_rising : Stmt := top 4
def c_is_rising : MC := ⟨n_is_rising, [], [], []⟩
theorem m_is_rising : all2 (mS c_is_rising 60 (defScope s_is_rising) (fun _ => true)) b_is_rising (defBody s_is_rising) = true := by decide +kernel
theorem f_is_rising : FnScope n_is_rising ["values"] (defScope s_is_rising) := ⟨rfl, rfl, rfl, by decide +kernel, rfl, by decide +kernel, by decide +kernel⟩
abbrev s_common_of : Stmt := top 12
def c_common_of : MC := ⟨n_common_of, [], [], []⟩
theorem m_common_of : all2 (mS c_common_of 60 (defScope s_common_of) (fun _ => true)) b_common_of (defBody s_common_of) = true := by decide +kernel
theorem f_common_of : FnScope n_common_of ["one", "other"] (defScope s_common_of) := ⟨rfl, rfl, rfl, by decide +kernel, rfl, by decide +kernel, by decide +kernel⟩
abbrev s_ratio_of : Stmt := top 13
def c_ratio_of : MC := ⟨n_ratio_of, ["common_of"], [], []⟩
theorem m_ratio_of : all2 (mS c_ratio_of 60 (defScope s_ratio_of) (fun _ => true)) b_ratio_of (defBody s_ratio_of) = true := by decide +kernel
theorem f_ratio_of : FnScope n_ratio_of ["top", "low"] (defScope s_ratio_of) := ⟨rfl, rfl, rfl, by decide +kernel, rfl, by decide +kernel, by decide +kernel⟩
abbrev s_plus_of : Stmt := top 14
def c_plus_of : MC := ⟨n_plus_of, ["ratio_of"], [], []⟩
theorem m_plus_of : all2 (mS c_plus_of 60 (defScope s_plus_of) (fun _ => true)) b_plus_of (defBody s_plus_of) = true := by decide +kernel
theorem f_plus_of : FnScope n_plus_of ["one", "other"] (defScope s_plus_of) := ⟨rfl, rfl, rfl, by decide +kernel, rfl, by decide +kernel, by decide +kernel⟩
abbrev s_minus_of : Stmt := top 15
def c_minus_of : MC := ⟨n_minus_of, ["ratio_of"], [], []⟩
theorem m_minus_of : all2 (mS c_minus_of 60 (defScope s_minus_of) (fun _ => true)) b_minus_of (defBody s_minus_of) = true := by decide +kernel
theorem f_minus_of : FnScope n_minus_of ["one", "other"] (defScope s_minus_of) := ⟨rfl, rfl, rfl, by decide +kernel, rfl, by decide +kernel, by decide +kernel⟩
abbrev s_times_of : Stmt := top 16
def c_times_of : MC := ⟨n_times_of, ["ratio_of"], [], []⟩
theorem m_times_of : all2 (mS c_times_of 60 (defScope s_times_of) (fun _ => true)) b_times_of (defBody s_times_of) = true := by decide +kernel
theorem f_times_of : FnScope n_times_of ["one", "other"] (defScope s_times_of) := ⟨rfl, rfl, rfl, by decide +kernel, rfl, by decide +kernel, by decide +kernel⟩
abbrev s_total_of : Stmt := top 17
def c_total_of : MC := ⟨n_total_of, ["plus_of"], [], ["NOUGHT", "PAIR_fractions"]⟩
theorem m_total_of : all2 (mS c_total_of 60 (defScope s_total_of) (fun _ => true)) b_total_of (defBody s_total_of) = true := by decide +kernel
theorem f_total_of : FnScope n_total_of ["rows"] (defScope s_total_of) := ⟨rfl, rfl, rfl, by decide +kernel, rfl, by decide +kernel, by decide +kernel⟩
abbrev s_choose_of : Stmt := top 18
def c_choose_of : MC := ⟨n_choose_of, [], [], []⟩
theorem m_choose_of : all2 (mS c_choose_of 60 (defScope s_choose_of) (fun _ => true)) b_choose_of (defBody s_choose_of) = true := by decide +kernel
theorem f_choose_of : FnScope n_choose_of ["many", "some"] (defScope s_choose_of) := ⟨rfl, rfl, rfl, by decide +kernel, rfl, by decide +kernel, by decide +kernel⟩
abbrev s_is_sample : Stmt := top 23
def c_is_sample : MC := ⟨n_is_sample, ["is_tuple", "is_integer", "draws_of", "is_rising"], [], ["PAIR_kinds", "MOST_TIMES", "MOST_DRAWS"]⟩
theorem m_is_sample : all2 (mS c_is_sample 60 (defScope s_is_sample) (fun _ => true)) b_is_sample (defBody s_is_sample) = true := by decide +kernel
theorem f_is_sample : FnScope n_is_sample ["value"] (defScope s_is_sample) := ⟨rfl, rfl, rfl, by decide +kernel, rfl, by decide +kernel, by decide +kernel⟩
abbrev s_check_sample : Stmt := top 24
def c_check_sample : MC := ⟨n_check_sample, ["is_sample"], [], []⟩
theorem m_check_sample : all2 (mS c_check_sample 60 (defScope s_check_sample) (fun _ => true)) b_check_sample (defBody s_check_sample) = true := by decide +kernel
theorem f_check_sample : FnScope n_check_sample ["value"] (defScope s_check_sample) := ⟨rfl, rfl, rfl, by decide +kernel, rfl, by decide +kernel, by decide +kernel⟩
abbrev s_check_draws : Stmt := top 25
def c_check_draws : MC := ⟨n_check_draws, ["is_integer"], [], []⟩
theorem m_check_draws : all2 (mS c_check_draws 60 (defScope s_check_draws) (fun _ => true)) b_check_draws (defBody s_check_draws) = true := by decide +kernel
theorem f_check_draws : FnScope n_check_draws ["value", "most"] (defScope s_check_draws) := ⟨rfl, rfl, rfl, by decide +kernel, rfl, by decide +kernel, by decide +kernel⟩
abbrev s_draws_of : Stmt := top 26
def c_draws_of : MC := ⟨n_draws_of, [], [], []⟩
theorem m_draws_of : all2 (mS c_draws_of 60 (defScope s_draws_of) (fun _ => true)) b_draws_of (defBody s_draws_of) = true := by decide +kernel
theorem f_draws_of : FnScope n_draws_of ["sample"] (defScope s_draws_of) := ⟨rfl, rfl, rfl, by decide +kernel, rfl, by decide +kernel, by decide +kernel⟩
abbrev s_thinned_of : Stmt := top 28
def c_thinned_of : MC := ⟨n_thinned_of, ["draws_of", "ratio_of", "choose_of", "times_of", "minus_of", "total_of"], [], []⟩
theorem m_thinned_of : all2 (mS c_thinned_of 60 (defScope s_thinned_of) (fun _ => true)) b_thinned_of (defBody s_thinned_of) = true := by decide +kernel
theorem f_thinned_of : FnScope n_thinned_of ["sample", "draws"] (defScope s_thinned_of) := ⟨rfl, rfl, rfl, by decide +kernel, rfl, by decide +kernel, by decide +kernel⟩
abbrev s_check_fewer : Stmt := top 29
def c_check_fewer : MC := ⟨n_check_fewer, ["check_sample", "check_draws", "draws_of"], [], []⟩
theorem m_check_fewer : all2 (mS c_check_fewer 60 (defScope s_check_fewer) (fun _ => true)) b_check_fewer (defBody s_check_fewer) = true := by decide +kernel
theorem f_check_fewer : FnScope n_check_fewer ["sample", "draws"] (defScope s_check_fewer) := ⟨rfl, rfl, rfl, by decide +kernel, rfl, by decide +kernel, by decide +kernel⟩
abbrev s_thinned : Stmt := top 30
def c_thinned : MC := ⟨n_thinned, ["check_fewer", "thinned_of"], [], []⟩
theorem m_thinned : all2 (mS c_thinned 60 (defScope s_thinned) (fun _ => true)) b_thinned (defBody s_thinned) = true := by decide +kernel
theorem f_thinned : FnScope n_thinned ["sample", "draws"] (defScope s_thinned) := ⟨rfl, rfl, rfl, by decide +kernel, rfl, by decide +kernel, by decide +kernel⟩
abbrev s_thinned_times : Stmt := top 31
def c_thinned_times : MC := ⟨n_thinned_times, ["check_fewer", "check_draws", "draws_of", "choose_of", "ratio_of", "total_of"], [], []⟩
theorem m_thinned_times : all2 (mS c_thinned_times 60 (defScope s_thinned_times) (fun _ => true)) b_thinned_times (defBody s_thinned_times) = true := by decide +kernel
theorem f_thinned_times : FnScope n_thinned_times ["sample", "draws", "times"] (defScope s_thinned_times) := ⟨rfl, rfl, rfl, by decide +kernel, rfl, by decide +kernel, by decide +kernel⟩
abbrev s_thinned_curve : Stmt := top 32
def c_thinned_curve : MC := ⟨n_thinned_curve, ["check_sample", "draws_of", "thinned_of"], [], []⟩
theorem m_thinned_curve : all2 (mS c_thinned_curve 60 (defScope s_thinned_curve) (fun _ => true)) b_thinned_curve (defBody s_thinned_curve) = true := by decide +kernel
theorem f_thinned_curve : FnScope n_thinned_curve ["sample"] (defScope s_thinned_curve) := ⟨rfl, rfl, rfl, by decide +kernel, rfl, by decide +kernel, by decide +kernel⟩
abbrev s_new_by_last : Stmt := top 33
def c_new_by_last : MC := ⟨n_new_by_last, ["check_sample", "draws_of", "minus_of", "thinned_of"], [], []⟩
theorem m_new_by_last : all2 (mS c_new_by_last 60 (defScope s_new_by_last) (fun _ => true)) b_new_by_last (defBody s_new_by_last) = true := by decide +kernel
theorem f_new_by_last : FnScope n_new_by_last ["sample"] (defScope s_new_by_last) := ⟨rfl, rfl, rfl, by decide +kernel, rfl, by decide +kernel, by decide +kernel⟩
abbrev s_thinned_both : Stmt := top 34
def c_thinned_both : MC := ⟨n_thinned_both, ["check_fewer", "draws_of", "minus_of", "total_of", "thinned_of"], [], []⟩
theorem m_thinned_both : all2 (mS c_thinned_both 60 (defScope s_thinned_both) (fun _ => true)) b_thinned_both (defBody s_thinned_both) = true := by decide +kernel
theorem f_thinned_both : FnScope n_thinned_both ["sample", "draws"] (defScope s_thinned_both) := ⟨rfl, rfl, rfl, by decide +kernel, rfl, by decide +kernel, by decide +kernel⟩
abbrev s_draws_for : Stmt := top 35
def c_draws_for : MC := ⟨n_draws_for, ["check_sample", "is_integer", "draws_of", "thinned_of"], [], []⟩
theorem m_draws_for : all2 (mS c_draws_for 60 (defScope s_draws_for) (fun _ => true)) b_draws_for (defBody s_draws_for) = true := by decide +kernel
theorem f_draws_for : FnScope n_draws_for ["sample", "kinds"] (defScope s_draws_for) := ⟨rfl, rfl, rfl, by decide +kernel, rfl, by decide +kernel, by decide +kernel⟩
abbrev s_good_turing : Stmt := top 37
def c_good_turing : MC := ⟨n_good_turing, ["check_sample", "ratio_of", "draws_of"], [], []⟩
theorem m_good_turing : all2 (mS c_good_turing 60 (defScope s_good_turing) (fun _ => true)) b_good_turing (defBody s_good_turing) = true := by decide +kernel
theorem f_good_turing : FnScope n_good_turing ["sample"] (defScope s_good_turing) := ⟨rfl, rfl, rfl, by decide +kernel, rfl, by decide +kernel, by decide +kernel⟩
abbrev s_l_pot : Stmt := top 39
def c_l_pot : MC := ⟨n_l_pot, [], [], []⟩
theorem m_l_pot : all2 (mS c_l_pot 60 (defScope s_l_pot) (fun _ => true)) b_l_pot (defBody s_l_pot) = true := by decide +kernel
theorem f_l_pot : FnScope n_l_pot ["script", "place"] (defScope s_l_pot) := ⟨rfl, rfl, rfl, by decide +kernel, rfl, by decide +kernel, by decide +kernel⟩
abbrev s_l_take : Stmt := top 40
def c_l_take : MC := ⟨n_l_take, [], [], []⟩
theorem m_l_take : all2 (mS c_l_take 60 (defScope s_l_take) (fun _ => true)) b_l_take (defBody s_l_take) = true := by decide +kernel
theorem f_l_take : FnScope n_l_take ["pot", "upto"] (defScope s_l_take) := ⟨rfl, rfl, rfl, by decide +kernel, rfl, by decide +kernel, by decide +kernel⟩
abbrev s_l_of : Stmt := top 41
def c_l_of : MC := ⟨n_l_of, [], ["_law_take"], []⟩
theorem m_l_of : all2 (mS c_l_of 60 (defScope s_l_of) (fun _ => true)) b_l_of (defBody s_l_of) = true := by decide +kernel
theorem f_l_of : FnScope n_l_of ["pot", "some"] (defScope s_l_of) := ⟨rfl, rfl, rfl, by decide +kernel, rfl, by decide +kernel, by decide +kernel⟩
abbrev s_l_cells : Stmt := top 42
def c_l_cells : MC := ⟨n_l_cells, [], [], []⟩
theorem m_l_cells : all2 (mS c_l_cells 60 (defScope s_l_cells) (fun _ => true)) b_l_cells (defBody s_l_cells) = true := by decide +kernel
theorem f_l_cells : FnScope n_l_cells ["script", "limit"] (defScope s_l_cells) := ⟨rfl, rfl, rfl, by decide +kernel, rfl, by decide +kernel, by decide +kernel⟩
abbrev s_l_gcd : Stmt := top 43
def c_l_gcd : MC := ⟨n_l_gcd, [], [], []⟩
theorem m_l_gcd : all2 (mS c_l_gcd 60 (defScope s_l_gcd) (fun _ => true)) b_l_gcd (defBody s_l_gcd) = true := by decide +kernel
theorem f_l_gcd : FnScope n_l_gcd ["one", "other"] (defScope s_l_gcd) := ⟨rfl, rfl, rfl, by decide +kernel, rfl, by decide +kernel, by decide +kernel⟩
abbrev s_l_ratio : Stmt := top 44
def c_l_ratio : MC := ⟨n_l_ratio, ["_law_gcd"], [], []⟩
theorem m_l_ratio : all2 (mS c_l_ratio 60 (defScope s_l_ratio) (fun _ => true)) b_l_ratio (defBody s_l_ratio) = true := by decide +kernel
theorem f_l_ratio : FnScope n_l_ratio ["top", "low"] (defScope s_l_ratio) := ⟨rfl, rfl, rfl, by decide +kernel, rfl, by decide +kernel, by decide +kernel⟩
abbrev s_l_plus : Stmt := top 45
def c_l_plus : MC := ⟨n_l_plus, ["_law_ratio"], [], []⟩
theorem m_l_plus : all2 (mS c_l_plus 60 (defScope s_l_plus) (fun _ => true)) b_l_plus (defBody s_l_plus) = true := by decide +kernel
theorem f_l_plus : FnScope n_l_plus ["one", "other"] (defScope s_l_plus) := ⟨rfl, rfl, rfl, by decide +kernel, rfl, by decide +kernel, by decide +kernel⟩
abbrev s_l_times : Stmt := top 46
def c_l_times : MC := ⟨n_l_times, ["_law_ratio"], [], []⟩
theorem m_l_times : all2 (mS c_l_times 60 (defScope s_l_times) (fun _ => true)) b_l_times (defBody s_l_times) = true := by decide +kernel
theorem f_l_times : FnScope n_l_times ["one", "other"] (defScope s_l_times) := ⟨rfl, rfl, rfl, by decide +kernel, rfl, by decide +kernel, by decide +kernel⟩
abbrev s_l_below : Stmt := top 47
def c_l_below : MC := ⟨n_l_below, [], [], []⟩
theorem m_l_below : all2 (mS c_l_below 60 (defScope s_l_below) (fun _ => true)) b_l_below (defBody s_l_below) = true := by decide +kernel
theorem f_l_below : FnScope n_l_below ["one", "other"] (defScope s_l_below) := ⟨rfl, rfl, rfl, by decide +kernel, rfl, by decide +kernel, by decide +kernel⟩
abbrev s_l_choose : Stmt := top 48
def c_l_choose : MC := ⟨n_l_choose, [], [], []⟩
theorem m_l_choose : all2 (mS c_l_choose 60 (defScope s_l_choose) (fun _ => true)) b_l_choose (defBody s_l_choose) = true := by decide +kernel
theorem f_l_choose : FnScope n_l_choose ["many", "some"] (defScope s_l_choose) := ⟨rfl, rfl, rfl, by decide +kernel, rfl, by decide +kernel, by decide +kernel⟩
abbrev s_l_sample : Stmt := top 49
def c_l_sample : MC := ⟨n_l_sample, [], ["_law_take"], []⟩
theorem m_l_sample : all2 (mS c_l_sample 60 (defScope s_l_sample) (fun _ => true)) b_l_sample (defBody s_l_sample) = true := by decide +kernel
theorem f_l_sample : FnScope n_l_sample ["pot", "rows", "times", "most", "draws"] (defScope s_l_sample) := ⟨rfl, rfl, rfl, by decide +kernel, rfl, by decide +kernel, by decide +kernel⟩
abbrev s_l_shown : Stmt := top 50
def c_l_shown : MC := ⟨n_l_shown, ["_law_choose"], [], []⟩
theorem m_l_shown : all2 (mS c_l_shown 60 (defScope s_l_shown) (fun _ => true)) b_l_shown (defBody s_l_shown) = true := by decide +kernel
theorem f_l_shown : FnScope n_l_shown ["draws", "looked", "one"] (defScope s_l_shown) := ⟨rfl, rfl, rfl, by decide +kernel, rfl, by decide +kernel, by decide +kernel⟩
abbrev s_l_kinds_of : Stmt := top 51
def c_l_kinds_of : MC := ⟨n_l_kinds_of, ["_law_choose", "_law_shown", "_law_ratio"], [], []⟩
theorem m_l_kinds_of : all2 (mS c_l_kinds_of 60 (defScope s_l_kinds_of) (fun _ => true)) b_l_kinds_of (defBody s_l_kinds_of) = true := by decide +kernel
theorem f_l_kinds_of : FnScope n_l_kinds_of ["sample", "draws", "looked"] (defScope s_l_kinds_of) := ⟨rfl, rfl, rfl, by decide +kernel, rfl, by decide +kernel, by decide +kernel⟩
abbrev s_l_often : Stmt := top 52
def c_l_often : MC := ⟨n_l_often, ["_law_choose", "_law_ratio"], [], []⟩
theorem m_l_often : all2 (mS c_l_often 60 (defScope s_l_often) (fun _ => true)) b_l_often (defBody s_l_often) = true := by decide +kernel
theorem f_l_often : FnScope n_l_often ["sample", "draws", "looked", "times"] (defScope s_l_often) := ⟨rfl, rfl, rfl, by decide +kernel, rfl, by decide +kernel, by decide +kernel⟩
abbrev s_l_is_look_right : Stmt := top 53
def c_l_is_look_right : MC := ⟨n_l_is_look_right, ["thinned", "_law_kinds_of", "thinned_times", "_law_often", "_law_plus", "thinned_both"], ["_law_take"], []⟩
theorem m_l_is_look_right : all2 (mS c_l_is_look_right 60 (defScope s_l_is_look_right) (fun _ => true)) b_l_is_look_right (defBody s_l_is_look_right) = true := by decide +kernel
theorem f_l_is_look_right : FnScope n_l_is_look_right ["pot", "sample", "draws", "looked"] (defScope s_l_is_look_right) := ⟨rfl, rfl, rfl, by decide +kernel, rfl, by decide +kernel, by decide +kernel⟩
abbrev s_l_are_steps_right : Stmt := top 54
def c_l_are_steps_right : MC := ⟨n_l_are_steps_right, ["thinned_times", "_law_shown", "_law_plus", "_law_times", "_law_ratio", "thinned"], ["_law_take"], []⟩
theorem m_l_are_steps_right : all2 (mS c_l_are_steps_right 60 (defScope s_l_are_steps_right) (fun _ => true)) b_l_are_steps_right (defBody s_l_are_steps_right) = true := by decide +kernel
theorem f_l_are_steps_right : FnScope n_l_are_steps_right ["pot", "sample", "draws"] (defScope s_l_are_steps_right) := ⟨rfl, rfl, rfl, by decide +kernel, rfl, by decide +kernel, by decide +kernel⟩
abbrev s_l_is_curve_right : Stmt := top 55
def c_l_is_curve_right : MC := ⟨n_l_is_curve_right, ["thinned_curve", "_law_plus", "_law_below", "_law_ratio", "good_turing", "new_by_last"], [], []⟩
theorem m_l_is_curve_right : all2 (mS c_l_is_curve_right 60 (defScope s_l_is_curve_right) (fun _ => true)) b_l_is_curve_right (defBody s_l_is_curve_right) = true := by decide +kernel
theorem f_l_is_curve_right : FnScope n_l_is_curve_right ["sample", "draws"] (defScope s_l_is_curve_right) := ⟨rfl, rfl, rfl, by decide +kernel, rfl, by decide +kernel, by decide +kernel⟩
abbrev s_l_right : Stmt := top 56
def c_l_right : MC := ⟨n_l_right, ["_law_is_curve_right", "draws_for", "_law_below", "_law_kinds_of"], ["_law_sample", "_law_of", "_law_take", "_law_is_look_right", "_law_are_steps_right"], []⟩
theorem m_l_right : all2 (mS c_l_right 60 (defScope s_l_right) (fun _ => true)) b_l_right (defBody s_l_right) = true := by decide +kernel
theorem f_l_right : FnScope n_l_right ["pot"] (defScope s_l_right) := ⟨rfl, rfl, rfl, by decide +kernel, rfl, by decide +kernel, by decide +kernel⟩
abbrev s_law : Stmt := top 57
def c_law : MC := ⟨n_law, ["_law_cells"], ["_law_pot", "_law_right"], []⟩
theorem m_law : all2 (mS c_law 60 (defScope s_law) (fun _ => true)) b_law (defBody s_law) = true := by decide +kernel
theorem f_law : FnScope n_law ["script"] (defScope s_law) := ⟨rfl, rfl, rfl, by decide +kernel, rfl, by decide +kernel, by decide +kernel⟩
end K20
set_option Elab.async false
set_option linter.all false
set_option maxRecDepth 100000
set_option maxHeartbeats 0
namespace K20
open PySem PySem.Spec PyProof.Rows L2 PL
/-! ### the defs as data, facts by names -/
abbrev gl : List Str := [("is_tuple" : Str), ("is_whole" : Str), ("is_integer" : Str), ("is_rising" : Str), ("common_of" : Str), ("ratio_of" : Str), ("plus_of" : Str), ("minus_of" : Str), ("times_of" : Str), ("total_of" : Str), ("choose_of" : Str), ("draws_of" : Str), ("is_sample" : Str), ("check_sample" : Str), ("check_draws" : Str), ("thinned_of" : Str), ("check_fewer" : Str), ("thinned" : Str), ("thinned_times" : Str), ("thinned_curve" : Str), ("new_by_last" : Str), ("thinned_both" : Str), ("draws_for" : Str), ("good_turing" : Str), ("_law_pot" : Str), ("_law_take" : Str), ("_law_of" : Str), ("_law_cells" : Str), ("_law_gcd" : Str), ("_law_ratio" : Str), ("_law_plus" : Str), ("_law_times" : Str), ("_law_below" : Str), ("_law_choose" : Str), ("_law_sample" : Str), ("_law_shown" : Str), ("_law_kinds_of" : Str), ("_law_often" : Str), ("_law_is_look_right" : Str), ("_law_are_steps_right" : Str), ("_law_is_curve_right" : Str), ("_law_right" : Str), ("law" : Str)]
abbrev its : List (Str × Int) := [("PAIR_fractions", 2), ("PAIR_kinds", 2), ("MOST_TIMES", 200), ("MOST_DRAWS", 400)]
abbrev tb : List (Str × List He.Dv) := [("NOUGHT", [.int 0, .int 1])]
def d_is_tuple : He.DefD := ⟨("is_tuple", none), "is_tuple", "is_tuple", defArgs s_is_tuple, defBody s_is_tuple, defScope s_is_tuple, [], []⟩
def d_is_whole : He.DefD := ⟨("is_whole", none), "is_whole", "is_whole", defArgs s_is_whole, defBody s_is_whole, defScope s_is_whole, [], []⟩
def d_is_integer : He.DefD := ⟨("is_integer", none), "is_integer", "is_integer", defArgs s_is_integer, defBody s_is_integer, defScope s_is_integer, [], []⟩
def d_is_rising : He.DefD := ⟨("is_rising", none), "is_rising", "is_rising", defArgs s_is_rising, defBody s_is_rising, defScope s_is_rising, [], []⟩
def d_common_of : He.DefD := ⟨("common_of", none), "common_of", "common_of", defArgs s_common_of, defBody s_common_of, defScope s_common_of, [], []⟩
def d_ratio_of : He.DefD := ⟨("ratio_of", none), "ratio_of", "ratio_of", defArgs s_ratio_of, defBody s_ratio_of, defScope s_ratio_of, [], []⟩
def d_plus_of : He.DefD := ⟨("plus_of", none), "plus_of", "plus_of", defArgs s_plus_of, defBody s_plus_of, defScope s_plus_of, [], []⟩
def d_minus_of : He.DefD := ⟨("minus_of", none), "minus_of", "minus_of", defArgs s_minus_of, defBody s_minus_of, defScope s_minus_of, [], []⟩
def d_times_of : He.DefD := ⟨("times_of", none), "times_of", "times_of", defArgs s_times_of, defBody s_times_of, defScope s_times_of, [], []⟩
def d_total_of : He.DefD := ⟨("total_of", none), "total_of", "total_of", defArgs s_total_of, defBody s_total_of, defScope s_total_of, [], []⟩
def d_choose_of : He.DefD := ⟨("choose_of", none), "choose_of", "choose_of", defArgs s_choose_of, defBody s_choose_of, defScope s_choose_of, [], []⟩
def d_draws_of : He.DefD := ⟨("draws_of", none), "draws_of", "draws_of", defArgs s_draws_of, defBody s_draws_of, defScope s_draws_of, [], []⟩
def d_is_sample : He.DefD := ⟨("is_sample", none), "is_sample", "is_sample", defArgs s_is_sample, defBody s_is_sample, defScope s_is_sample, [], []⟩
def d_check_sample : He.DefD := ⟨("check_sample", none), "check_sample", "check_sample", defArgs s_check_sample, defBody s_check_sample, defScope s_check_sample, [], []⟩
def d_check_draws : He.DefD := ⟨("check_draws", none), "check_draws", "check_draws", defArgs s_check_draws, defBody s_check_draws, defScope s_check_draws, [], []⟩
def d_thinned_of : He.DefD := ⟨("thinned_of", none), "thinned_of", "thinned_of", defArgs s_thinned_of, defBody s_thinned_of, defScope s_thinned_of, [], []⟩
def d_check_fewer : He.DefD := ⟨("check_fewer", none), "check_fewer", "check_fewer", defArgs s_check_fewer, defBody s_check_fewer, defScope s_check_fewer, [], []⟩
def d_thinned : He.DefD := ⟨("thinned", none), "thinned", "thinned", defArgs s_thinned, defBody s_thinned, defScope s_thinned, [], []⟩
def d_thinned_times : He.DefD := ⟨("thinned_times", none), "thinned_times", "thinned_times", defArgs s_thinned_times, defBody s_thinned_times, defScope s_thinned_times, [], []⟩
def d_thinned_curve : He.DefD := ⟨("thinned_curve", none), "thinned_curve", "thinned_curve", defArgs s_thinned_curve, defBody s_thinned_curve, defScope s_thinned_curve, [], []⟩
def d_new_by_last : He.DefD := ⟨("new_by_last", none), "new_by_last", "new_by_last", defArgs s_new_by_last, defBody s_new_by_last, defScope s_new_by_last, [], []⟩
def d_thinned_both : He.DefD := ⟨("thinned_both", none), "thinned_both", "thinned_both", defArgs s_thinned_both, defBody s_thinned_both, defScope s_thinned_both, [], []⟩
def d_draws_for : He.DefD := ⟨("draws_for", none), "draws_for", "draws_for", defArgs s_draws_for, defBody s_draws_for, defScope s_draws_for, [], []⟩
def d_good_turing : He.DefD := ⟨("good_turing", none), "good_turing", "good_turing", defArgs s_good_turing, defBody s_good_turing, defScope s_good_turing, [], []⟩
def d_l_pot : He.DefD := ⟨("_law_pot", none), "_law_pot", "_law_pot", defArgs s_l_pot, defBody s_l_pot, defScope s_l_pot, [], []⟩
def d_l_take : He.DefD := ⟨("_law_take", none), "_law_take", "_law_take", defArgs s_l_take, defBody s_l_take, defScope s_l_take, [], []⟩
def d_l_of : He.DefD := ⟨("_law_of", none), "_law_of", "_law_of", defArgs s_l_of, defBody s_l_of, defScope s_l_of, [], []⟩
def d_l_cells : He.DefD := ⟨("_law_cells", none), "_law_cells", "_law_cells", defArgs s_l_cells, defBody s_l_cells, defScope s_l_cells, [], []⟩
def d_l_gcd : He.DefD := ⟨("_law_gcd", none), "_law_gcd", "_law_gcd", defArgs s_l_gcd, defBody s_l_gcd, defScope s_l_gcd, [], []⟩
def d_l_ratio : He.DefD := ⟨("_law_ratio", none), "_law_ratio", "_law_ratio", defArgs s_l_ratio, defBody s_l_ratio, defScope s_l_ratio, [], []⟩
def d_l_plus : He.DefD := ⟨("_law_plus", none), "_law_plus", "_law_plus", defArgs s_l_plus, defBody s_l_plus, defScope s_l_plus, [], []⟩
def d_l_times : He.DefD := ⟨("_law_times", none), "_law_times", "_law_times", defArgs s_l_times, defBody s_l_times, defScope s_l_times, [], []⟩
def d_l_below : He.DefD := ⟨("_law_below", none), "_law_below", "_law_below", defArgs s_l_below, defBody s_l_below, defScope s_l_below, [], []⟩
def d_l_choose : He.DefD := ⟨("_law_choose", none), "_law_choose", "_law_choose", defArgs s_l_choose, defBody s_l_choose, defScope s_l_choose, [], []⟩
def d_l_sample : He.DefD := ⟨("_law_sample", none), "_law_sample", "_law_sample", defArgs s_l_sample, defBody s_l_sample, defScope s_l_sample, [], []⟩
def d_l_shown : He.DefD := ⟨("_law_shown", none), "_law_shown", "_law_shown", defArgs s_l_shown, defBody s_l_shown, defScope s_l_shown, [], []⟩
def d_l_kinds_of : He.DefD := ⟨("_law_kinds_of", none), "_law_kinds_of", "_law_kinds_of", defArgs s_l_kinds_of, defBody s_l_kinds_of, defScope s_l_kinds_of, [], []⟩
def d_l_often : He.DefD := ⟨("_law_often", none), "_law_often", "_law_often", defArgs s_l_often, defBody s_l_often, defScope s_l_often, [], []⟩
def d_l_is_look_right : He.DefD := ⟨("_law_is_look_right", none), "_law_is_look_right", "_law_is_look_right", defArgs s_l_is_look_right, defBody s_l_is_look_right, defScope s_l_is_look_right, [], []⟩
def d_l_are_steps_right : He.DefD := ⟨("_law_are_steps_right", none), "_law_are_steps_right", "_law_are_steps_right", defArgs s_l_are_steps_right, defBody s_l_are_steps_right, defScope s_l_are_steps_right, [], []⟩
def d_l_is_curve_right : He.DefD := ⟨("_law_is_curve_right", none), "_law_is_curve_right", "_law_is_curve_right", defArgs s_l_is_curve_right, defBody s_l_is_curve_right, defScope s_l_is_curve_right, [], []⟩
def d_l_right : He.DefD := ⟨("_law_right", none), "_law_right", "_law_right", defArgs s_l_right, defBody s_l_right, defScope s_l_right, [], []⟩
def d_law : He.DefD := ⟨("law", none), "law", "law", defArgs s_law, defBody s_law, defScope s_law, [], []⟩
def fn : List He.DefD := [d_is_tuple, d_is_whole, d_is_integer, d_is_rising, d_common_of, d_ratio_of, d_plus_of, d_minus_of, d_times_of, d_total_of, d_choose_of, d_draws_of, d_is_sample, d_check_sample, d_check_draws, d_thinned_of, d_check_fewer, d_thinned, d_thinned_times, d_thinned_curve, d_new_by_last, d_thinned_both, d_draws_for, d_good_turing, d_l_pot, d_l_take, d_l_of, d_l_cells, d_l_gcd, d_l_ratio, d_l_plus, d_l_times, d_l_below, d_l_choose, d_l_sample, d_l_shown, d_l_kinds_of, d_l_often, d_l_is_look_right, d_l_are_steps_right, d_l_is_curve_right, d_l_right, d_law]
def fa : List He.Fa := bnames.map He.Fa.free ++ (gl.map He.Fa.glo ++ ((tb.map fun p => He.Fa.glo p.1) ++ its.map fun p => He.Fa.int p.1 p.2))
structure Fx (K : PySem.W.Frag) (h : Heap) (mg : Str → Option Value) : Prop where
  X : K.In h
  G : h.Ns mainGlobals mg
  c : He.SaysD fa fn K
  t : (tb.all fun p => He.tupB K p.1 p.2) = true
section
variable {P : Program} {w : World} {K : PySem.W.Frag} {mg : Str → Option Value} {base h : Heap}
theorem Fx.fact (Y : Fx K h mg) {f : He.Fa} (m : f ∈ fa) : f.ok K = true :=
  List.all_eq_true.mp (He.ba (show ((fa.all fun f => f.ok K) && fn.all fun d => d.ok K) = true from congrArg (fun z : He.AlD => z.1) Y.c)).1 f m
theorem Fx.glo (Y : Fx K h mg) {x : Str} (i : Nat) (m : gl[i]? = some x) : mg x = some (.ref (He.ga K x)) :=
  He.glo_ok Y.X Y.G (Y.fact (List.mem_append_right _ (List.mem_append_left _ (List.mem_map.mpr ⟨x, List.mem_of_getElem? m, rfl⟩))))
theorem Fx.bn (Y : Fx K h mg) : ∀ x, x ∈ bnames → mg x = none := fun x hx =>
  He.free_ok Y.X Y.G (Y.fact (List.mem_append_left _ (List.mem_map.mpr ⟨x, hx, rfl⟩)))
theorem Fx.int (Y : Fx K h mg) {x : Str} {v : Int} (i : Nat) (m : its[i]? = some (x, v)) : ∃ u v', mg x = some u ∧ RelV v' u ∧ ∀ H, Den K H (.int v) v' := by
  obtain ⟨t, ht⟩ := He.int_ok Y.X Y.G (Y.fact (f := .int x v) (List.mem_append_right _ (List.mem_append_right _ (List.mem_append_right _ (List.mem_map.mpr ⟨_, List.mem_of_getElem? m, rfl⟩)))))
  exact ⟨_, .int v, ht, He.relB_ok (by simp [He.relB]), fun H => by simp [Den]⟩
theorem den_dvs {K : PySem.W.Frag} {H : Hp} : ∀ {ns : List Int}, DenL K H (ns.map D.int) ((ns.map He.Dv.int).map (He.Dv.v K))
  | [] => .nil
  | _ :: _ => .cons rfl den_dvs
theorem Fx.tup (Y : Fx K h mg) {x : Str} {ns : List Int} (i : Nat) (m : tb[i]? = some (x, ns.map He.Dv.int)) : ∃ u v', mg x = some u ∧ RelV v' u ∧ ∀ H, Den K H (.tup (ns.map D.int)) v' := by
  have g := He.glo_ok Y.X Y.G (Y.fact (f := .glo x) (List.mem_append_right _ (List.mem_append_right _ (List.mem_append_left _ (List.mem_map.mpr ⟨_, List.mem_of_getElem? m, rfl⟩)))))
  have b := List.all_eq_true.mp Y.t _ (List.mem_of_getElem? m)
  exact ⟨_, .ref (He.ga K x), g, He.relB_ok (by simp [He.relB]), fun H => ⟨_, _, rfl, He.tupB_ok b H, den_dvs⟩⟩
theorem den_ints {K : PySem.W.Frag} {H : Hp} : ∀ {ns : List Int}, DenL K H (ns.map D.int) (ns.map V.int)
  | [] => .nil
  | _ :: _ => .cons rfl den_ints
theorem Has.up {lv lv' : Nat} {f : Str} {sp : Sp} (h : Has P w K mg base lv f sp) (l : lv ≤ lv') : Has P w K mg base lv' f sp := by
  obtain ⟨a, fd, ps, k, hk, q⟩ := h.ex
  exact ⟨a, fd, ps, k, Nat.le_trans hk l, q⟩
abbrev AllF (P : Program) (w : World) (K : PySem.W.Frag) (mg : Str → Option Value) (base : Heap) (lv : Nat) (l : List (Str × FSp)) : Prop := ∀ (i : Nat) (x : Str × FSp), l[i]? = some x → Has P w K mg base lv x.1 (spF K x.2)
abbrev AllB (P : Program) (w : World) (K : PySem.W.Frag) (mg : Str → Option Value) (base : Heap) (lv : Nat) (l : List (Str × BSp)) : Prop := ∀ (i : Nat) (x : Str × BSp), l[i]? = some x → Has P w K mg base lv x.1 (spB K x.2)
abbrev AllG (K : PySem.W.Frag) (mg : Str → Option Value) (l : List (Str × D)) : Prop := ∀ (i : Nat) (x : Str × D), l[i]? = some x → ∃ u v, mg x.1 = some u ∧ RelV v u ∧ ∀ H, Den K H x.2 v
theorem all_nil {α : Type} {p : α → Prop} : ∀ (i : Nat) (x : α), ([] : List α)[i]? = some x → p x := fun i x h => by simp at h
theorem all_cons {α : Type} {p : α → Prop} {a : α} {l : List α} (h : p a) (t : ∀ (i : Nat) (x : α), l[i]? = some x → p x) : ∀ (i : Nat) (x : α), (a :: l)[i]? = some x → p x
  | 0, x, e => by simp at e; subst e; exact h
  | i + 1, x, e => t i x (by simpa using e)
theorem has_is_tuple (Y : Fx K h mg) : Has P w K mg base 1 "is_tuple" (spF K sp_is_tuple) := by
  obtain ⟨fd, Fu⟩ := Y.c.def_ 0 (d := d_is_tuple) rfl
  exact def_F (sp := sp_is_tuple) (Φ := ⟨[], [], []⟩) (c := c_is_tuple) (body := b_is_tuple) Fu (Y.glo 0 rfl) f_is_tuple (FunD.bindsN Fu fun _ _ _ _ _ _ us hl => match us, hl with | [_, _, _], _ => rfl) rfl rfl rfl rfl m_is_tuple ⟨all_nil, all_nil, all_nil, Y.bn⟩ (w_is_tuple rfl)
theorem has_is_whole (Y : Fx K h mg) : Has P w K mg base 1 "is_whole" (spF K sp_is_whole) := by
  obtain ⟨fd, Fu⟩ := Y.c.def_ 1 (d := d_is_whole) rfl
  exact def_F (sp := sp_is_whole) (Φ := ⟨[], [], []⟩) (c := c_is_whole) (body := b_is_whole) Fu (Y.glo 1 rfl) f_is_whole (FunD.bindsN Fu fun _ _ _ _ _ _ us hl => match us, hl with | [_], _ => rfl) rfl rfl rfl rfl m_is_whole ⟨all_nil, all_nil, all_nil, Y.bn⟩ (w_is_whole rfl)
theorem has_is_integer (Y : Fx K h mg) : Has P w K mg base 2 "is_integer" (spF K sp_is_integer) := by
  obtain ⟨fd, Fu⟩ := Y.c.def_ 2 (d := d_is_integer) rfl
  exact def_F (sp := sp_is_integer) (Φ := ⟨[("is_whole", sp_is_whole)], [], []⟩) (c := c_is_integer) (body := b_is_integer) Fu (Y.glo 2 rfl) f_is_integer (FunD.bindsN Fu fun _ _ _ _ _ _ us hl => match us, hl with | [_, _, _], _ => rfl) rfl rfl rfl rfl m_is_integer ⟨(all_cons (p := fun x : Str × FSp => Has P w K mg base 1 x.1 (spF K x.2)) (Has.up (has_is_whole Y) (by omega)) all_nil), all_nil, all_nil, Y.bn⟩ (w_is_integer rfl)
theorem has_is_rising (Y : Fx K h mg) : Has P w K mg base 1 "is_rising" (spF K sp_rising_l) := by
  obtain ⟨fd, Fu⟩ := Y.c.def_ 3 (d := d_is_rising) rfl
  exact def_F (sp := sp_rising_l) (Φ := ⟨[], [], []⟩) (c := c_is_rising) (body := b_is_rising) Fu (Y.glo 3 rfl) f_is_rising (FunD.bindsN Fu fun _ _ _ _ _ _ us hl => match us, hl with | [_], _ => rfl) rfl rfl rfl rfl m_is_rising ⟨all_nil, all_nil, all_nil, Y.bn⟩ (w_is_rising)
theorem has_common_of (Y : Fx K h mg) : Has P w K mg base 1 "common_of" (spF K sp_common) := by
  obtain ⟨fd, Fu⟩ := Y.c.def_ 4 (d := d_common_of) rfl
  exact def_F (sp := sp_common) (Φ := ⟨[], [], []⟩) (c := c_common_of) (body := b_common_of) Fu (Y.glo 4 rfl) f_common_of (FunD.bindsN Fu fun _ _ _ _ _ _ us hl => match us, hl with | [_, _], _ => rfl) rfl rfl rfl rfl m_common_of ⟨all_nil, all_nil, all_nil, Y.bn⟩ (w_common rfl)
theorem has_ratio_of (Y : Fx K h mg) : Has P w K mg base 2 "ratio_of" (spF K sp_ratio) := by
  obtain ⟨fd, Fu⟩ := Y.c.def_ 5 (d := d_ratio_of) rfl
  exact def_F (sp := sp_ratio) (Φ := ⟨[("common_of", sp_common)], [], []⟩) (c := c_ratio_of) (body := b_ratio_of) Fu (Y.glo 5 rfl) f_ratio_of (FunD.bindsN Fu fun _ _ _ _ _ _ us hl => match us, hl with | [_, _], _ => rfl) rfl rfl rfl rfl m_ratio_of ⟨(all_cons (p := fun x : Str × FSp => Has P w K mg base 1 x.1 (spF K x.2)) (Has.up (has_common_of Y) (by omega)) all_nil), all_nil, all_nil, Y.bn⟩ (w_ratio rfl)
theorem has_plus_of (Y : Fx K h mg) : Has P w K mg base 3 "plus_of" (spF K sp_plus) := by
  obtain ⟨fd, Fu⟩ := Y.c.def_ 6 (d := d_plus_of) rfl
  exact def_F (sp := sp_plus) (Φ := ⟨[("ratio_of", sp_ratio)], [], []⟩) (c := c_plus_of) (body := b_plus_of) Fu (Y.glo 6 rfl) f_plus_of (FunD.bindsN Fu fun _ _ _ _ _ _ us hl => match us, hl with | [_, _], _ => rfl) rfl rfl rfl rfl m_plus_of ⟨(all_cons (p := fun x : Str × FSp => Has P w K mg base 2 x.1 (spF K x.2)) (Has.up (has_ratio_of Y) (by omega)) all_nil), all_nil, all_nil, Y.bn⟩ (w_plus rfl)
theorem has_minus_of (Y : Fx K h mg) : Has P w K mg base 3 "minus_of" (spF K sp_minus) := by
  obtain ⟨fd, Fu⟩ := Y.c.def_ 7 (d := d_minus_of) rfl
  exact def_F (sp := sp_minus) (Φ := ⟨[("ratio_of", sp_ratio)], [], []⟩) (c := c_minus_of) (body := b_minus_of) Fu (Y.glo 7 rfl) f_minus_of (FunD.bindsN Fu fun _ _ _ _ _ _ us hl => match us, hl with | [_, _], _ => rfl) rfl rfl rfl rfl m_minus_of ⟨(all_cons (p := fun x : Str × FSp => Has P w K mg base 2 x.1 (spF K x.2)) (Has.up (has_ratio_of Y) (by omega)) all_nil), all_nil, all_nil, Y.bn⟩ (w_minus_of)
theorem has_times_of (Y : Fx K h mg) : Has P w K mg base 3 "times_of" (spF K sp_times) := by
  obtain ⟨fd, Fu⟩ := Y.c.def_ 8 (d := d_times_of) rfl
  exact def_F (sp := sp_times) (Φ := ⟨[("ratio_of", sp_ratio)], [], []⟩) (c := c_times_of) (body := b_times_of) Fu (Y.glo 8 rfl) f_times_of (FunD.bindsN Fu fun _ _ _ _ _ _ us hl => match us, hl with | [_, _], _ => rfl) rfl rfl rfl rfl m_times_of ⟨(all_cons (p := fun x : Str × FSp => Has P w K mg base 2 x.1 (spF K x.2)) (Has.up (has_ratio_of Y) (by omega)) all_nil), all_nil, all_nil, Y.bn⟩ (w_times rfl)
theorem has_total_of (Y : Fx K h mg) : Has P w K mg base 4 "total_of" (spF K sp_total) := by
  obtain ⟨fd, Fu⟩ := Y.c.def_ 9 (d := d_total_of) rfl
  exact def_F (sp := sp_total) (Φ := ⟨[("plus_of", sp_plus)], [], [("NOUGHT", .tup [.int 0, .int 1]), ("PAIR_fractions", .int 2)]⟩) (c := c_total_of) (body := b_total_of) Fu (Y.glo 9 rfl) f_total_of (FunD.bindsN Fu fun _ _ _ _ _ _ us hl => match us, hl with | [_], _ => rfl) rfl rfl rfl rfl m_total_of ⟨(all_cons (p := fun x : Str × FSp => Has P w K mg base 3 x.1 (spF K x.2)) (Has.up (has_plus_of Y) (by omega)) all_nil), all_nil, (all_cons (p := fun x : Str × D => ∃ u v, mg x.1 = some u ∧ RelV v u ∧ ∀ H, Den K H x.2 v) (Y.tup (ns := [0, 1]) 0 rfl) (all_cons (p := fun x : Str × D => ∃ u v, mg x.1 = some u ∧ RelV v u ∧ ∀ H, Den K H x.2 v) (Y.int 0 rfl) all_nil)), Y.bn⟩ (w_total rfl)
theorem has_choose_of (Y : Fx K h mg) : Has P w K mg base 1 "choose_of" (spF K sp_choose) := by
  obtain ⟨fd, Fu⟩ := Y.c.def_ 10 (d := d_choose_of) rfl
  exact def_F (sp := sp_choose) (Φ := ⟨[], [], []⟩) (c := c_choose_of) (body := b_choose_of) Fu (Y.glo 10 rfl) f_choose_of (FunD.bindsN Fu fun _ _ _ _ _ _ us hl => match us, hl with | [_, _], _ => rfl) rfl rfl rfl rfl m_choose_of ⟨all_nil, all_nil, all_nil, Y.bn⟩ (w_choose_of)
theorem has_draws_of (Y : Fx K h mg) : Has P w K mg base 1 "draws_of" (spF K sp_draws_of) := by
  obtain ⟨fd, Fu⟩ := Y.c.def_ 11 (d := d_draws_of) rfl
  exact def_F (sp := sp_draws_of) (Φ := ⟨[], [], []⟩) (c := c_draws_of) (body := b_draws_of) Fu (Y.glo 11 rfl) f_draws_of (FunD.bindsN Fu fun _ _ _ _ _ _ us hl => match us, hl with | [_], _ => rfl) rfl rfl rfl rfl m_draws_of ⟨all_nil, all_nil, all_nil, Y.bn⟩ (w_draws_of)
theorem has_is_sample (Y : Fx K h mg) : Has P w K mg base 3 "is_sample" (spF K sp_is_sample) := by
  obtain ⟨fd, Fu⟩ := Y.c.def_ 12 (d := d_is_sample) rfl
  exact def_F (sp := sp_is_sample) (Φ := ⟨[("is_tuple", sp_is_tuple), ("is_integer", sp_is_integer), ("draws_of", sp_draws_of), ("is_rising", sp_rising_l)], [], [("PAIR_kinds", .int 2), ("MOST_TIMES", .int 200), ("MOST_DRAWS", .int 400)]⟩) (c := c_is_sample) (body := b_is_sample) Fu (Y.glo 12 rfl) f_is_sample (FunD.bindsN Fu fun _ _ _ _ _ _ us hl => match us, hl with | [_], _ => rfl) rfl rfl rfl rfl m_is_sample ⟨(all_cons (p := fun x : Str × FSp => Has P w K mg base 2 x.1 (spF K x.2)) (Has.up (has_is_tuple Y) (by omega)) (all_cons (p := fun x : Str × FSp => Has P w K mg base 2 x.1 (spF K x.2)) (Has.up (has_is_integer Y) (by omega)) (all_cons (p := fun x : Str × FSp => Has P w K mg base 2 x.1 (spF K x.2)) (Has.up (has_draws_of Y) (by omega)) (all_cons (p := fun x : Str × FSp => Has P w K mg base 2 x.1 (spF K x.2)) (Has.up (has_is_rising Y) (by omega)) all_nil)))), all_nil, (all_cons (p := fun x : Str × D => ∃ u v, mg x.1 = some u ∧ RelV v u ∧ ∀ H, Den K H x.2 v) (Y.int 1 rfl) (all_cons (p := fun x : Str × D => ∃ u v, mg x.1 = some u ∧ RelV v u ∧ ∀ H, Den K H x.2 v) (Y.int 2 rfl) (all_cons (p := fun x : Str × D => ∃ u v, mg x.1 = some u ∧ RelV v u ∧ ∀ H, Den K H x.2 v) (Y.int 3 rfl) all_nil))), Y.bn⟩ (w_is_sample)
theorem has_check_sample (Y : Fx K h mg) : Has P w K mg base 4 "check_sample" (spF K sp_check_sample) := by
  obtain ⟨fd, Fu⟩ := Y.c.def_ 13 (d := d_check_sample) rfl
  exact def_F (sp := sp_check_sample) (Φ := ⟨[("is_sample", sp_is_sample)], [], []⟩) (c := c_check_sample) (body := b_check_sample) Fu (Y.glo 13 rfl) f_check_sample (FunD.bindsN Fu fun _ _ _ _ _ _ us hl => match us, hl with | [_], _ => rfl) rfl rfl rfl rfl m_check_sample ⟨(all_cons (p := fun x : Str × FSp => Has P w K mg base 3 x.1 (spF K x.2)) (Has.up (has_is_sample Y) (by omega)) all_nil), all_nil, all_nil, Y.bn⟩ (w_check_sample)
theorem has_check_draws (Y : Fx K h mg) : Has P w K mg base 3 "check_draws" (spF K sp_check_draws) := by
  obtain ⟨fd, Fu⟩ := Y.c.def_ 14 (d := d_check_draws) rfl
  exact def_F (sp := sp_check_draws) (Φ := ⟨[("is_integer", sp_is_integer)], [], []⟩) (c := c_check_draws) (body := b_check_draws) Fu (Y.glo 14 rfl) f_check_draws (FunD.bindsN Fu fun _ _ _ _ _ _ us hl => match us, hl with | [_, _], _ => rfl) rfl rfl rfl rfl m_check_draws ⟨(all_cons (p := fun x : Str × FSp => Has P w K mg base 2 x.1 (spF K x.2)) (Has.up (has_is_integer Y) (by omega)) all_nil), all_nil, all_nil, Y.bn⟩ (w_check_draws)
theorem has_thinned_of (Y : Fx K h mg) : Has P w K mg base 5 "thinned_of" (spF K sp_thinned_of) := by
  obtain ⟨fd, Fu⟩ := Y.c.def_ 15 (d := d_thinned_of) rfl
  exact def_F (sp := sp_thinned_of) (Φ := ⟨[("draws_of", sp_draws_of), ("ratio_of", sp_ratio), ("choose_of", sp_choose), ("times_of", sp_times), ("minus_of", sp_minus), ("total_of", sp_total)], [], []⟩) (c := c_thinned_of) (body := b_thinned_of) Fu (Y.glo 15 rfl) f_thinned_of (FunD.bindsN Fu fun _ _ _ _ _ _ us hl => match us, hl with | [_, _], _ => rfl) rfl rfl rfl rfl m_thinned_of ⟨(all_cons (p := fun x : Str × FSp => Has P w K mg base 4 x.1 (spF K x.2)) (Has.up (has_draws_of Y) (by omega)) (all_cons (p := fun x : Str × FSp => Has P w K mg base 4 x.1 (spF K x.2)) (Has.up (has_ratio_of Y) (by omega)) (all_cons (p := fun x : Str × FSp => Has P w K mg base 4 x.1 (spF K x.2)) (Has.up (has_choose_of Y) (by omega)) (all_cons (p := fun x : Str × FSp => Has P w K mg base 4 x.1 (spF K x.2)) (Has.up (has_times_of Y) (by omega)) (all_cons (p := fun x : Str × FSp => Has P w K mg base 4 x.1 (spF K x.2)) (Has.up (has_minus_of Y) (by omega)) (all_cons (p := fun x : Str × FSp => Has P w K mg base 4 x.1 (spF K x.2)) (Has.up (has_total_of Y) (by omega)) all_nil)))))), all_nil, all_nil, Y.bn⟩ (w_thinned_of)
theorem has_check_fewer (Y : Fx K h mg) : Has P w K mg base 5 "check_fewer" (spF K sp_check_fewer) := by
  obtain ⟨fd, Fu⟩ := Y.c.def_ 16 (d := d_check_fewer) rfl
  exact def_F (sp := sp_check_fewer) (Φ := ⟨[("check_sample", sp_check_sample), ("check_draws", sp_check_draws), ("draws_of", sp_draws_of)], [], []⟩) (c := c_check_fewer) (body := b_check_fewer) Fu (Y.glo 16 rfl) f_check_fewer (FunD.bindsN Fu fun _ _ _ _ _ _ us hl => match us, hl with | [_, _], _ => rfl) rfl rfl rfl rfl m_check_fewer ⟨(all_cons (p := fun x : Str × FSp => Has P w K mg base 4 x.1 (spF K x.2)) (Has.up (has_check_sample Y) (by omega)) (all_cons (p := fun x : Str × FSp => Has P w K mg base 4 x.1 (spF K x.2)) (Has.up (has_check_draws Y) (by omega)) (all_cons (p := fun x : Str × FSp => Has P w K mg base 4 x.1 (spF K x.2)) (Has.up (has_draws_of Y) (by omega)) all_nil))), all_nil, all_nil, Y.bn⟩ (w_check_fewer)
theorem has_thinned (Y : Fx K h mg) : Has P w K mg base 6 "thinned" (spF K sp_thinned_of) := by
  obtain ⟨fd, Fu⟩ := Y.c.def_ 17 (d := d_thinned) rfl
  exact def_F (sp := sp_thinned_of) (Φ := ⟨[("check_fewer", sp_check_fewer), ("thinned_of", sp_thinned_of)], [], []⟩) (c := c_thinned) (body := b_thinned) Fu (Y.glo 17 rfl) f_thinned (FunD.bindsN Fu fun _ _ _ _ _ _ us hl => match us, hl with | [_, _], _ => rfl) rfl rfl rfl rfl m_thinned ⟨(all_cons (p := fun x : Str × FSp => Has P w K mg base 5 x.1 (spF K x.2)) (Has.up (has_check_fewer Y) (by omega)) (all_cons (p := fun x : Str × FSp => Has P w K mg base 5 x.1 (spF K x.2)) (Has.up (has_thinned_of Y) (by omega)) all_nil)), all_nil, all_nil, Y.bn⟩ (w_thinned)
theorem has_thinned_times (Y : Fx K h mg) : Has P w K mg base 6 "thinned_times" (spF K sp_thinned_times) := by
  obtain ⟨fd, Fu⟩ := Y.c.def_ 18 (d := d_thinned_times) rfl
  exact def_F (sp := sp_thinned_times) (Φ := ⟨[("check_fewer", sp_check_fewer), ("check_draws", sp_check_draws), ("draws_of", sp_draws_of), ("choose_of", sp_choose), ("ratio_of", sp_ratio), ("total_of", sp_total)], [], []⟩) (c := c_thinned_times) (body := b_thinned_times) Fu (Y.glo 18 rfl) f_thinned_times (FunD.bindsN Fu fun _ _ _ _ _ _ us hl => match us, hl with | [_, _, _], _ => rfl) rfl rfl rfl rfl m_thinned_times ⟨(all_cons (p := fun x : Str × FSp => Has P w K mg base 5 x.1 (spF K x.2)) (Has.up (has_check_fewer Y) (by omega)) (all_cons (p := fun x : Str × FSp => Has P w K mg base 5 x.1 (spF K x.2)) (Has.up (has_check_draws Y) (by omega)) (all_cons (p := fun x : Str × FSp => Has P w K mg base 5 x.1 (spF K x.2)) (Has.up (has_draws_of Y) (by omega)) (all_cons (p := fun x : Str × FSp => Has P w K mg base 5 x.1 (spF K x.2)) (Has.up (has_choose_of Y) (by omega)) (all_cons (p := fun x : Str × FSp => Has P w K mg base 5 x.1 (spF K x.2)) (Has.up (has_ratio_of Y) (by omega)) (all_cons (p := fun x : Str × FSp => Has P w K mg base 5 x.1 (spF K x.2)) (Has.up (has_total_of Y) (by omega)) all_nil)))))), all_nil, all_nil, Y.bn⟩ (w_thinned_times)
theorem has_thinned_curve (Y : Fx K h mg) : Has P w K mg base 6 "thinned_curve" (spF K sp_curve) := by
  obtain ⟨fd, Fu⟩ := Y.c.def_ 19 (d := d_thinned_curve) rfl
  exact def_F (sp := sp_curve) (Φ := ⟨[("check_sample", sp_check_sample), ("draws_of", sp_draws_of), ("thinned_of", sp_thinned_of)], [], []⟩) (c := c_thinned_curve) (body := b_thinned_curve) Fu (Y.glo 19 rfl) f_thinned_curve (FunD.bindsN Fu fun _ _ _ _ _ _ us hl => match us, hl with | [_], _ => rfl) rfl rfl rfl rfl m_thinned_curve ⟨(all_cons (p := fun x : Str × FSp => Has P w K mg base 5 x.1 (spF K x.2)) (Has.up (has_check_sample Y) (by omega)) (all_cons (p := fun x : Str × FSp => Has P w K mg base 5 x.1 (spF K x.2)) (Has.up (has_draws_of Y) (by omega)) (all_cons (p := fun x : Str × FSp => Has P w K mg base 5 x.1 (spF K x.2)) (Has.up (has_thinned_of Y) (by omega)) all_nil))), all_nil, all_nil, Y.bn⟩ (w_thinned_curve)
theorem has_new_by_last (Y : Fx K h mg) : Has P w K mg base 6 "new_by_last" (spF K sp_new_by_last) := by
  obtain ⟨fd, Fu⟩ := Y.c.def_ 20 (d := d_new_by_last) rfl
  exact def_F (sp := sp_new_by_last) (Φ := ⟨[("check_sample", sp_check_sample), ("draws_of", sp_draws_of), ("minus_of", sp_minus), ("thinned_of", sp_thinned_of)], [], []⟩) (c := c_new_by_last) (body := b_new_by_last) Fu (Y.glo 20 rfl) f_new_by_last (FunD.bindsN Fu fun _ _ _ _ _ _ us hl => match us, hl with | [_], _ => rfl) rfl rfl rfl rfl m_new_by_last ⟨(all_cons (p := fun x : Str × FSp => Has P w K mg base 5 x.1 (spF K x.2)) (Has.up (has_check_sample Y) (by omega)) (all_cons (p := fun x : Str × FSp => Has P w K mg base 5 x.1 (spF K x.2)) (Has.up (has_draws_of Y) (by omega)) (all_cons (p := fun x : Str × FSp => Has P w K mg base 5 x.1 (spF K x.2)) (Has.up (has_minus_of Y) (by omega)) (all_cons (p := fun x : Str × FSp => Has P w K mg base 5 x.1 (spF K x.2)) (Has.up (has_thinned_of Y) (by omega)) all_nil)))), all_nil, all_nil, Y.bn⟩ (w_new_by_last)
theorem has_thinned_both (Y : Fx K h mg) : Has P w K mg base 6 "thinned_both" (spF K sp_thinned_both) := by
  obtain ⟨fd, Fu⟩ := Y.c.def_ 21 (d := d_thinned_both) rfl
  exact def_F (sp := sp_thinned_both) (Φ := ⟨[("check_fewer", sp_check_fewer), ("draws_of", sp_draws_of), ("minus_of", sp_minus), ("total_of", sp_total), ("thinned_of", sp_thinned_of)], [], []⟩) (c := c_thinned_both) (body := b_thinned_both) Fu (Y.glo 21 rfl) f_thinned_both (FunD.bindsN Fu fun _ _ _ _ _ _ us hl => match us, hl with | [_, _], _ => rfl) rfl rfl rfl rfl m_thinned_both ⟨(all_cons (p := fun x : Str × FSp => Has P w K mg base 5 x.1 (spF K x.2)) (Has.up (has_check_fewer Y) (by omega)) (all_cons (p := fun x : Str × FSp => Has P w K mg base 5 x.1 (spF K x.2)) (Has.up (has_draws_of Y) (by omega)) (all_cons (p := fun x : Str × FSp => Has P w K mg base 5 x.1 (spF K x.2)) (Has.up (has_minus_of Y) (by omega)) (all_cons (p := fun x : Str × FSp => Has P w K mg base 5 x.1 (spF K x.2)) (Has.up (has_total_of Y) (by omega)) (all_cons (p := fun x : Str × FSp => Has P w K mg base 5 x.1 (spF K x.2)) (Has.up (has_thinned_of Y) (by omega)) all_nil))))), all_nil, all_nil, Y.bn⟩ (w_thinned_both)
theorem has_draws_for (Y : Fx K h mg) : Has P w K mg base 6 "draws_for" (spF K sp_draws_for) := by
  obtain ⟨fd, Fu⟩ := Y.c.def_ 22 (d := d_draws_for) rfl
  exact def_F (sp := sp_draws_for) (Φ := ⟨[("check_sample", sp_check_sample), ("is_integer", sp_is_integer), ("draws_of", sp_draws_of), ("thinned_of", sp_thinned_of)], [], []⟩) (c := c_draws_for) (body := b_draws_for) Fu (Y.glo 22 rfl) f_draws_for (FunD.bindsN Fu fun _ _ _ _ _ _ us hl => match us, hl with | [_, _], _ => rfl) rfl rfl rfl rfl m_draws_for ⟨(all_cons (p := fun x : Str × FSp => Has P w K mg base 5 x.1 (spF K x.2)) (Has.up (has_check_sample Y) (by omega)) (all_cons (p := fun x : Str × FSp => Has P w K mg base 5 x.1 (spF K x.2)) (Has.up (has_is_integer Y) (by omega)) (all_cons (p := fun x : Str × FSp => Has P w K mg base 5 x.1 (spF K x.2)) (Has.up (has_draws_of Y) (by omega)) (all_cons (p := fun x : Str × FSp => Has P w K mg base 5 x.1 (spF K x.2)) (Has.up (has_thinned_of Y) (by omega)) all_nil)))), all_nil, all_nil, Y.bn⟩ (w_draws_for)
theorem has_good_turing (Y : Fx K h mg) : Has P w K mg base 5 "good_turing" (spF K sp_good) := by
  obtain ⟨fd, Fu⟩ := Y.c.def_ 23 (d := d_good_turing) rfl
  exact def_F (sp := sp_good) (Φ := ⟨[("check_sample", sp_check_sample), ("ratio_of", sp_ratio), ("draws_of", sp_draws_of)], [], []⟩) (c := c_good_turing) (body := b_good_turing) Fu (Y.glo 23 rfl) f_good_turing (FunD.bindsN Fu fun _ _ _ _ _ _ us hl => match us, hl with | [_], _ => rfl) rfl rfl rfl rfl m_good_turing ⟨(all_cons (p := fun x : Str × FSp => Has P w K mg base 4 x.1 (spF K x.2)) (Has.up (has_check_sample Y) (by omega)) (all_cons (p := fun x : Str × FSp => Has P w K mg base 4 x.1 (spF K x.2)) (Has.up (has_ratio_of Y) (by omega)) (all_cons (p := fun x : Str × FSp => Has P w K mg base 4 x.1 (spF K x.2)) (Has.up (has_draws_of Y) (by omega)) all_nil))), all_nil, all_nil, Y.bn⟩ (w_good_turing)
theorem has_l_pot (Y : Fx K h mg) : Has P w K mg base 1 "_law_pot" (spB K sp_pot) := by
  obtain ⟨fd, Fu⟩ := Y.c.def_ 24 (d := d_l_pot) rfl
  exact def_N (sp := sp_pot) (Φ := ⟨[], [], []⟩) (c := c_l_pot) (body := b_l_pot) Fu (Y.glo 24 rfl) f_l_pot (FunD.bindsN Fu fun _ _ _ _ _ _ us hl => match us, hl with | [_, _], _ => rfl) rfl rfl rfl rfl m_l_pot ⟨all_nil, all_nil, all_nil, Y.bn⟩ (only_sp_pot) (w_pot (by decide) (by decide) (by decide) (by decide) (by decide) rfl)
theorem has_l_take (Y : Fx K h mg) : Has P w K mg base 1 "_law_take" (spB K sp_take) := by
  obtain ⟨fd, Fu⟩ := Y.c.def_ 25 (d := d_l_take) rfl
  exact def_B (sp := sp_take) (Φ := ⟨[], [], []⟩) (c := c_l_take) (body := b_l_take) Fu (Y.glo 25 rfl) f_l_take (FunD.bindsN Fu fun _ _ _ _ _ _ us hl => match us, hl with | [_, _], _ => rfl) rfl rfl rfl rfl m_l_take ⟨all_nil, all_nil, all_nil, Y.bn⟩ (no_sp_take) (w_take (by decide) (by decide) (by decide) rfl)
theorem has_l_of (Y : Fx K h mg) : Has P w K mg base 2 "_law_of" (spB K sp_of) := by
  obtain ⟨fd, Fu⟩ := Y.c.def_ 26 (d := d_l_of) rfl
  exact def_B (sp := sp_of) (Φ := ⟨[], [("_law_take", sp_take)], []⟩) (c := c_l_of) (body := b_l_of) Fu (Y.glo 26 rfl) f_l_of (FunD.bindsN Fu fun _ _ _ _ _ _ us hl => match us, hl with | [_, _], _ => rfl) rfl rfl rfl rfl m_l_of ⟨all_nil, (all_cons (p := fun x : Str × BSp => Has P w K mg base 1 x.1 (spB K x.2)) (Has.up (has_l_take Y) (by omega)) all_nil), all_nil, Y.bn⟩ (no_sp_of) (w_of rfl)
theorem has_l_cells (Y : Fx K h mg) : Has P w K mg base 1 "_law_cells" (spF K sp_cells) := by
  obtain ⟨fd, Fu⟩ := Y.c.def_ 27 (d := d_l_cells) rfl
  exact def_F (sp := sp_cells) (Φ := ⟨[], [], []⟩) (c := c_l_cells) (body := b_l_cells) Fu (Y.glo 27 rfl) f_l_cells (FunD.bindsN Fu fun _ _ _ _ _ _ us hl => match us, hl with | [_, _], _ => rfl) rfl rfl rfl rfl m_l_cells ⟨all_nil, all_nil, all_nil, Y.bn⟩ (w_cells rfl)
theorem has_l_gcd (Y : Fx K h mg) : Has P w K mg base 1 "_law_gcd" (spF K sp_lgcd) := by
  obtain ⟨fd, Fu⟩ := Y.c.def_ 28 (d := d_l_gcd) rfl
  exact def_F (sp := sp_lgcd) (Φ := ⟨[], [], []⟩) (c := c_l_gcd) (body := b_l_gcd) Fu (Y.glo 28 rfl) f_l_gcd (FunD.bindsN Fu fun _ _ _ _ _ _ us hl => match us, hl with | [_, _], _ => rfl) rfl rfl rfl rfl m_l_gcd ⟨all_nil, all_nil, all_nil, Y.bn⟩ (w_lgcd rfl)
theorem has_l_ratio (Y : Fx K h mg) : Has P w K mg base 2 "_law_ratio" (spF K sp_ratio) := by
  obtain ⟨fd, Fu⟩ := Y.c.def_ 29 (d := d_l_ratio) rfl
  exact def_F (sp := sp_ratio) (Φ := ⟨[("_law_gcd", sp_lgcd)], [], []⟩) (c := c_l_ratio) (body := b_l_ratio) Fu (Y.glo 29 rfl) f_l_ratio (FunD.bindsN Fu fun _ _ _ _ _ _ us hl => match us, hl with | [_, _], _ => rfl) rfl rfl rfl rfl m_l_ratio ⟨(all_cons (p := fun x : Str × FSp => Has P w K mg base 1 x.1 (spF K x.2)) (Has.up (has_l_gcd Y) (by omega)) all_nil), all_nil, all_nil, Y.bn⟩ (w_lratio rfl)
theorem has_l_plus (Y : Fx K h mg) : Has P w K mg base 3 "_law_plus" (spF K sp_plus) := by
  obtain ⟨fd, Fu⟩ := Y.c.def_ 30 (d := d_l_plus) rfl
  exact def_F (sp := sp_plus) (Φ := ⟨[("_law_ratio", sp_ratio)], [], []⟩) (c := c_l_plus) (body := b_l_plus) Fu (Y.glo 30 rfl) f_l_plus (FunD.bindsN Fu fun _ _ _ _ _ _ us hl => match us, hl with | [_, _], _ => rfl) rfl rfl rfl rfl m_l_plus ⟨(all_cons (p := fun x : Str × FSp => Has P w K mg base 2 x.1 (spF K x.2)) (Has.up (has_l_ratio Y) (by omega)) all_nil), all_nil, all_nil, Y.bn⟩ (w_plus rfl)
theorem has_l_times (Y : Fx K h mg) : Has P w K mg base 3 "_law_times" (spF K sp_times) := by
  obtain ⟨fd, Fu⟩ := Y.c.def_ 31 (d := d_l_times) rfl
  exact def_F (sp := sp_times) (Φ := ⟨[("_law_ratio", sp_ratio)], [], []⟩) (c := c_l_times) (body := b_l_times) Fu (Y.glo 31 rfl) f_l_times (FunD.bindsN Fu fun _ _ _ _ _ _ us hl => match us, hl with | [_, _], _ => rfl) rfl rfl rfl rfl m_l_times ⟨(all_cons (p := fun x : Str × FSp => Has P w K mg base 2 x.1 (spF K x.2)) (Has.up (has_l_ratio Y) (by omega)) all_nil), all_nil, all_nil, Y.bn⟩ (w_times rfl)
theorem has_l_below (Y : Fx K h mg) : Has P w K mg base 1 "_law_below" (spF K sp_below) := by
  obtain ⟨fd, Fu⟩ := Y.c.def_ 32 (d := d_l_below) rfl
  exact def_F (sp := sp_below) (Φ := ⟨[], [], []⟩) (c := c_l_below) (body := b_l_below) Fu (Y.glo 32 rfl) f_l_below (FunD.bindsN Fu fun _ _ _ _ _ _ us hl => match us, hl with | [_, _], _ => rfl) rfl rfl rfl rfl m_l_below ⟨all_nil, all_nil, all_nil, Y.bn⟩ (w_below rfl)
theorem has_l_choose (Y : Fx K h mg) : Has P w K mg base 1 "_law_choose" (spF K sp_choose) := by
  obtain ⟨fd, Fu⟩ := Y.c.def_ 33 (d := d_l_choose) rfl
  exact def_F (sp := sp_choose) (Φ := ⟨[], [], []⟩) (c := c_l_choose) (body := b_l_choose) Fu (Y.glo 33 rfl) f_l_choose (FunD.bindsN Fu fun _ _ _ _ _ _ us hl => match us, hl with | [_, _], _ => rfl) rfl rfl rfl rfl m_l_choose ⟨all_nil, all_nil, all_nil, Y.bn⟩ (w_l_choose)
theorem has_l_sample (Y : Fx K h mg) : Has P w K mg base 2 "_law_sample" (spB K sp_sample) := by
  obtain ⟨fd, Fu⟩ := Y.c.def_ 34 (d := d_l_sample) rfl
  exact def_B (sp := sp_sample) (Φ := ⟨[], [("_law_take", sp_take)], []⟩) (c := c_l_sample) (body := b_l_sample) Fu (Y.glo 34 rfl) f_l_sample (FunD.bindsN Fu fun _ _ _ _ _ _ us hl => match us, hl with | [_, _, _, _, _], _ => rfl) rfl rfl rfl rfl m_l_sample ⟨all_nil, (all_cons (p := fun x : Str × BSp => Has P w K mg base 1 x.1 (spB K x.2)) (Has.up (has_l_take Y) (by omega)) all_nil), all_nil, Y.bn⟩ (no_sp_sample) (w_l_sample)
theorem has_l_shown (Y : Fx K h mg) : Has P w K mg base 2 "_law_shown" (spF K sp_shown) := by
  obtain ⟨fd, Fu⟩ := Y.c.def_ 35 (d := d_l_shown) rfl
  exact def_F (sp := sp_shown) (Φ := ⟨[("_law_choose", sp_choose)], [], []⟩) (c := c_l_shown) (body := b_l_shown) Fu (Y.glo 35 rfl) f_l_shown (FunD.bindsN Fu fun _ _ _ _ _ _ us hl => match us, hl with | [_, _, _], _ => rfl) rfl rfl rfl rfl m_l_shown ⟨(all_cons (p := fun x : Str × FSp => Has P w K mg base 1 x.1 (spF K x.2)) (Has.up (has_l_choose Y) (by omega)) all_nil), all_nil, all_nil, Y.bn⟩ (w_l_shown)
theorem has_l_kinds_of (Y : Fx K h mg) : Has P w K mg base 3 "_law_kinds_of" (spF K sp_kinds_of) := by
  obtain ⟨fd, Fu⟩ := Y.c.def_ 36 (d := d_l_kinds_of) rfl
  exact def_F (sp := sp_kinds_of) (Φ := ⟨[("_law_choose", sp_choose), ("_law_shown", sp_shown), ("_law_ratio", sp_ratio)], [], []⟩) (c := c_l_kinds_of) (body := b_l_kinds_of) Fu (Y.glo 36 rfl) f_l_kinds_of (FunD.bindsN Fu fun _ _ _ _ _ _ us hl => match us, hl with | [_, _, _], _ => rfl) rfl rfl rfl rfl m_l_kinds_of ⟨(all_cons (p := fun x : Str × FSp => Has P w K mg base 2 x.1 (spF K x.2)) (Has.up (has_l_choose Y) (by omega)) (all_cons (p := fun x : Str × FSp => Has P w K mg base 2 x.1 (spF K x.2)) (Has.up (has_l_shown Y) (by omega)) (all_cons (p := fun x : Str × FSp => Has P w K mg base 2 x.1 (spF K x.2)) (Has.up (has_l_ratio Y) (by omega)) all_nil))), all_nil, all_nil, Y.bn⟩ (w_l_kinds_of)
theorem has_l_often (Y : Fx K h mg) : Has P w K mg base 3 "_law_often" (spF K sp_often) := by
  obtain ⟨fd, Fu⟩ := Y.c.def_ 37 (d := d_l_often) rfl
  exact def_F (sp := sp_often) (Φ := ⟨[("_law_choose", sp_choose), ("_law_ratio", sp_ratio)], [], []⟩) (c := c_l_often) (body := b_l_often) Fu (Y.glo 37 rfl) f_l_often (FunD.bindsN Fu fun _ _ _ _ _ _ us hl => match us, hl with | [_, _, _, _], _ => rfl) rfl rfl rfl rfl m_l_often ⟨(all_cons (p := fun x : Str × FSp => Has P w K mg base 2 x.1 (spF K x.2)) (Has.up (has_l_choose Y) (by omega)) (all_cons (p := fun x : Str × FSp => Has P w K mg base 2 x.1 (spF K x.2)) (Has.up (has_l_ratio Y) (by omega)) all_nil)), all_nil, all_nil, Y.bn⟩ (w_l_often)
theorem has_l_is_look_right (Y : Fx K h mg) : Has P w K mg base 7 "_law_is_look_right" (spB K sp_look) := by
  obtain ⟨fd, Fu⟩ := Y.c.def_ 38 (d := d_l_is_look_right) rfl
  exact def_B (sp := sp_look) (Φ := ⟨[("thinned", sp_thinned_of), ("_law_kinds_of", sp_kinds_of), ("thinned_times", sp_thinned_times), ("_law_often", sp_often), ("_law_plus", sp_plus), ("thinned_both", sp_thinned_both)], [("_law_take", sp_take)], []⟩) (c := c_l_is_look_right) (body := b_l_is_look_right) Fu (Y.glo 38 rfl) f_l_is_look_right (FunD.bindsN Fu fun _ _ _ _ _ _ us hl => match us, hl with | [_, _, _, _], _ => rfl) rfl rfl rfl rfl m_l_is_look_right ⟨(all_cons (p := fun x : Str × FSp => Has P w K mg base 6 x.1 (spF K x.2)) (Has.up (has_thinned Y) (by omega)) (all_cons (p := fun x : Str × FSp => Has P w K mg base 6 x.1 (spF K x.2)) (Has.up (has_l_kinds_of Y) (by omega)) (all_cons (p := fun x : Str × FSp => Has P w K mg base 6 x.1 (spF K x.2)) (Has.up (has_thinned_times Y) (by omega)) (all_cons (p := fun x : Str × FSp => Has P w K mg base 6 x.1 (spF K x.2)) (Has.up (has_l_often Y) (by omega)) (all_cons (p := fun x : Str × FSp => Has P w K mg base 6 x.1 (spF K x.2)) (Has.up (has_l_plus Y) (by omega)) (all_cons (p := fun x : Str × FSp => Has P w K mg base 6 x.1 (spF K x.2)) (Has.up (has_thinned_both Y) (by omega)) all_nil)))))), (all_cons (p := fun x : Str × BSp => Has P w K mg base 6 x.1 (spB K x.2)) (Has.up (has_l_take Y) (by omega)) all_nil), all_nil, Y.bn⟩ (no_sp_look) (w_look)
theorem has_l_are_steps_right (Y : Fx K h mg) : Has P w K mg base 7 "_law_are_steps_right" (spB K sp_steps) := by
  obtain ⟨fd, Fu⟩ := Y.c.def_ 39 (d := d_l_are_steps_right) rfl
  exact def_B (sp := sp_steps) (Φ := ⟨[("thinned_times", sp_thinned_times), ("_law_shown", sp_shown), ("_law_plus", sp_plus), ("_law_times", sp_times), ("_law_ratio", sp_ratio), ("thinned", sp_thinned_of)], [("_law_take", sp_take)], []⟩) (c := c_l_are_steps_right) (body := b_l_are_steps_right) Fu (Y.glo 39 rfl) f_l_are_steps_right (FunD.bindsN Fu fun _ _ _ _ _ _ us hl => match us, hl with | [_, _, _], _ => rfl) rfl rfl rfl rfl m_l_are_steps_right ⟨(all_cons (p := fun x : Str × FSp => Has P w K mg base 6 x.1 (spF K x.2)) (Has.up (has_thinned_times Y) (by omega)) (all_cons (p := fun x : Str × FSp => Has P w K mg base 6 x.1 (spF K x.2)) (Has.up (has_l_shown Y) (by omega)) (all_cons (p := fun x : Str × FSp => Has P w K mg base 6 x.1 (spF K x.2)) (Has.up (has_l_plus Y) (by omega)) (all_cons (p := fun x : Str × FSp => Has P w K mg base 6 x.1 (spF K x.2)) (Has.up (has_l_times Y) (by omega)) (all_cons (p := fun x : Str × FSp => Has P w K mg base 6 x.1 (spF K x.2)) (Has.up (has_l_ratio Y) (by omega)) (all_cons (p := fun x : Str × FSp => Has P w K mg base 6 x.1 (spF K x.2)) (Has.up (has_thinned Y) (by omega)) all_nil)))))), (all_cons (p := fun x : Str × BSp => Has P w K mg base 6 x.1 (spB K x.2)) (Has.up (has_l_take Y) (by omega)) all_nil), all_nil, Y.bn⟩ (no_sp_steps) (w_steps)
theorem has_l_is_curve_right (Y : Fx K h mg) : Has P w K mg base 7 "_law_is_curve_right" (spF K sp_curve_ok) := by
  obtain ⟨fd, Fu⟩ := Y.c.def_ 40 (d := d_l_is_curve_right) rfl
  exact def_F (sp := sp_curve_ok) (Φ := ⟨[("thinned_curve", sp_curve), ("_law_plus", sp_plus), ("_law_below", sp_below), ("_law_ratio", sp_ratio), ("good_turing", sp_good), ("new_by_last", sp_new_by_last)], [], []⟩) (c := c_l_is_curve_right) (body := b_l_is_curve_right) Fu (Y.glo 40 rfl) f_l_is_curve_right (FunD.bindsN Fu fun _ _ _ _ _ _ us hl => match us, hl with | [_, _], _ => rfl) rfl rfl rfl rfl m_l_is_curve_right ⟨(all_cons (p := fun x : Str × FSp => Has P w K mg base 6 x.1 (spF K x.2)) (Has.up (has_thinned_curve Y) (by omega)) (all_cons (p := fun x : Str × FSp => Has P w K mg base 6 x.1 (spF K x.2)) (Has.up (has_l_plus Y) (by omega)) (all_cons (p := fun x : Str × FSp => Has P w K mg base 6 x.1 (spF K x.2)) (Has.up (has_l_below Y) (by omega)) (all_cons (p := fun x : Str × FSp => Has P w K mg base 6 x.1 (spF K x.2)) (Has.up (has_l_ratio Y) (by omega)) (all_cons (p := fun x : Str × FSp => Has P w K mg base 6 x.1 (spF K x.2)) (Has.up (has_good_turing Y) (by omega)) (all_cons (p := fun x : Str × FSp => Has P w K mg base 6 x.1 (spF K x.2)) (Has.up (has_new_by_last Y) (by omega)) all_nil)))))), all_nil, all_nil, Y.bn⟩ (w_curve_ok)
theorem has_l_right (Y : Fx K h mg) : Has P w K mg base 8 "_law_right" (spB K sp_right) := by
  obtain ⟨fd, Fu⟩ := Y.c.def_ 41 (d := d_l_right) rfl
  exact def_B (sp := sp_right) (Φ := ⟨[("_law_is_curve_right", sp_curve_ok), ("draws_for", sp_draws_for), ("_law_below", sp_below), ("_law_kinds_of", sp_kinds_of)], [("_law_sample", sp_sample), ("_law_of", sp_of), ("_law_take", sp_take), ("_law_is_look_right", sp_look), ("_law_are_steps_right", sp_steps)], []⟩) (c := c_l_right) (body := b_l_right) Fu (Y.glo 41 rfl) f_l_right (FunD.bindsN Fu fun _ _ _ _ _ _ us hl => match us, hl with | [_], _ => rfl) rfl rfl rfl rfl m_l_right ⟨(all_cons (p := fun x : Str × FSp => Has P w K mg base 7 x.1 (spF K x.2)) (Has.up (has_l_is_curve_right Y) (by omega)) (all_cons (p := fun x : Str × FSp => Has P w K mg base 7 x.1 (spF K x.2)) (Has.up (has_draws_for Y) (by omega)) (all_cons (p := fun x : Str × FSp => Has P w K mg base 7 x.1 (spF K x.2)) (Has.up (has_l_below Y) (by omega)) (all_cons (p := fun x : Str × FSp => Has P w K mg base 7 x.1 (spF K x.2)) (Has.up (has_l_kinds_of Y) (by omega)) all_nil)))), (all_cons (p := fun x : Str × BSp => Has P w K mg base 7 x.1 (spB K x.2)) (Has.up (has_l_sample Y) (by omega)) (all_cons (p := fun x : Str × BSp => Has P w K mg base 7 x.1 (spB K x.2)) (Has.up (has_l_of Y) (by omega)) (all_cons (p := fun x : Str × BSp => Has P w K mg base 7 x.1 (spB K x.2)) (Has.up (has_l_take Y) (by omega)) (all_cons (p := fun x : Str × BSp => Has P w K mg base 7 x.1 (spB K x.2)) (Has.up (has_l_is_look_right Y) (by omega)) (all_cons (p := fun x : Str × BSp => Has P w K mg base 7 x.1 (spB K x.2)) (Has.up (has_l_are_steps_right Y) (by omega)) all_nil))))), all_nil, Y.bn⟩ (no_sp_right) (w_right)
theorem has_law (Y : Fx K h mg) : Has P w K mg base 9 "law" (spF K sp_law) := by
  obtain ⟨fd, Fu⟩ := Y.c.def_ 42 (d := d_law) rfl
  exact def_F (sp := sp_law) (Φ := ⟨[("_law_cells", sp_cells)], [("_law_pot", sp_pot), ("_law_right", sp_right)], []⟩) (c := c_law) (body := b_law) Fu (Y.glo 42 rfl) f_law (FunD.bindsN Fu fun _ _ _ _ _ _ us hl => match us, hl with | [_], _ => rfl) rfl rfl rfl rfl m_law ⟨(all_cons (p := fun x : Str × FSp => Has P w K mg base 8 x.1 (spF K x.2)) (Has.up (has_l_cells Y) (by omega)) all_nil), (all_cons (p := fun x : Str × BSp => Has P w K mg base 8 x.1 (spB K x.2)) (Has.up (has_l_pot Y) (by omega)) (all_cons (p := fun x : Str × BSp => Has P w K mg base 8 x.1 (spB K x.2)) (Has.up (has_l_right Y) (by omega)) all_nil)), all_nil, Y.bn⟩ (w_law)
theorem facts {f : Addr} (Y : Fx K h mg) (hfa : mg ("law" : Str) = some (.ref f)) : ∃ fd : FuncData, (∀ (s : Shared) (v : Value), BindsTo s fd ⟨[v], []⟩ [("script", v)]) ∧ ∀ base : Heap, FnOk P w K mg base CX0 9 f fd ["script"] (spF K sp_law) := by
  have e : some (Value.ref f) = some (Value.ref (He.ga K "law")) := hfa.symm.trans (Y.glo 42 rfl)
  cases e
  obtain ⟨fd, Fu⟩ := Y.c.def_ 42 (d := d_law) rfl
  have b := FunD.bindsA (ps := ["script"]) Fu fun _ _ _ _ _ _ us hl => match us, hl with | [_], _ => rfl
  refine ⟨fd, fun s v => b s [v] rfl, fun base => ?_⟩
  exact fn_F (sp := sp_law) (Φ := ⟨[("_law_cells", sp_cells)], [("_law_pot", sp_pot), ("_law_right", sp_right)], []⟩) (c := c_law) (body := b_law) Fu (Y.glo 42 rfl) f_law (FunD.bindsN Fu fun _ _ _ _ _ _ us hl => match us, hl with | [_], _ => rfl) rfl rfl rfl rfl m_law ⟨(all_cons (p := fun x : Str × FSp => Has P w K mg base 8 x.1 (spF K x.2)) (Has.up (has_l_cells Y) (by omega)) all_nil), (all_cons (p := fun x : Str × BSp => Has P w K mg base 8 x.1 (spB K x.2)) (Has.up (has_l_pot Y) (by omega)) (all_cons (p := fun x : Str × BSp => Has P w K mg base 8 x.1 (spB K x.2)) (Has.up (has_l_right Y) (by omega)) all_nil)), all_nil, Y.bn⟩ (w_law)
end
abbrev R : PySem.W.OpenRow := PySem.W.OpenLaw.row PySem.Challenge.rw_caughtbefore_k20_whole_looks_in_two_step
abbrev hk : PySem.W.Hook := hookT 4 fa fn tb
def ob (s : PySem.W.SharedT) : He.AlD × Bool := obT 4 fa fn tb (HandSHeadRun.getT s)
theorem ob_eq (s : PySem.W.SharedT) : ob s = hk.obs s.abs := obT_eq (HandSHeadRun.getT_eq s)
abbrev lo : List Str := [("is_tuple" : Str), ("is_whole" : Str), ("is_integer" : Str), ("is_rising" : Str), ("CatchError" : Str), ("BadNumber" : Str), ("BadSample" : Str), ("PAIR_fractions" : Str), ("NOUGHT" : Str), ("common_of" : Str), ("ratio_of" : Str), ("plus_of" : Str), ("minus_of" : Str), ("times_of" : Str), ("total_of" : Str), ("choose_of" : Str), ("PAIR_kinds" : Str), ("MOST_TIMES" : Str), ("MOST_DRAWS" : Str), ("is_sample" : Str), ("check_sample" : Str), ("check_draws" : Str), ("draws_of" : Str), ("thinned_of" : Str), ("check_fewer" : Str), ("thinned" : Str), ("thinned_times" : Str), ("thinned_curve" : Str), ("new_by_last" : Str), ("thinned_both" : Str), ("draws_for" : Str), ("good_turing" : Str), ("_law_pot" : Str), ("_law_take" : Str), ("_law_of" : Str), ("_law_cells" : Str), ("_law_gcd" : Str), ("_law_ratio" : Str), ("_law_plus" : Str), ("_law_times" : Str), ("_law_below" : Str), ("_law_choose" : Str), ("_law_sample" : Str), ("_law_shown" : Str), ("_law_kinds_of" : Str), ("_law_often" : Str), ("_law_is_look_right" : Str), ("_law_are_steps_right" : Str), ("_law_is_curve_right" : Str), ("_law_right" : Str)]
theorem run (w : World) : HandSHeadRun.RunEq R (PySem.W.view R.prog [57]) hk ob 4000 lo w := by
  intro os
  kernel_rfl
end K20
open PySem PySem.W PySem.Calls PyProof.Rows
theorem PySem.Challenge.cw_caughtbefore_k20_whole_looks_in_two_step_holds : PySem.Challenge.rw_caughtbefore_k20_whole_looks_in_two_step.Holds := by
  w_on; o_law
  refine HandSHeadRun.head_any (r := OpenLaw.row PySem.Challenge.rw_caughtbefore_k20_whole_looks_in_two_step) (q := view (OpenLaw.row PySem.Challenge.rw_caughtbefore_k20_whole_looks_in_two_step).prog [57]) (H := K20.hk) (ob := K20.ob) (M := 4000) (loose := K20.lo) (d := HandSHeadRun.topDef (OpenLaw.row PySem.Challenge.rw_caughtbefore_k20_whole_looks_in_two_step).prog 57) (kwd := []) K20.ob_eq
    (by kernel_rfl) (fun s => by kernel_rfl) K20.run (by kernel_rfl) (by kernel_rfl) (by kernel_rfl) (by rfl) (by first | assumption | decide +kernel) (by decide +kernel) ⟨rfl, rfl, rfl, rfl, rfl, by decide +kernel⟩ ?hw ?hc
  case hw => w_witness2
  case hc =>
    refine L2.walk_ofE (l := PySem.Challenge.rw_caughtbefore_k20_whole_looks_in_two_step) (n := 63) (k := 9) (x := "script") (CX := L2.CX0) rfl (by decide +kernel) (by kernel_rfl) ⟨rfl, by decide, by decide⟩ ?F (fun _ _ _ _ z => z)
    intro w mg fa h Y G hmg0
    obtain ⟨K, KX, c, t⟩ := Y
    have hmg : mg ("law" : PySem.Str) = some (.ref fa) := by
      have e : (HandSHeadRun.topDef (OpenLaw.row PySem.Challenge.rw_caughtbefore_k20_whole_looks_in_two_step).prog 57).name = ("law" : PySem.Str) := by kernel_rfl
      rw [← e]
      exact hmg0
    obtain ⟨fd, hb, hF⟩ := K20.facts (P := (PySem.Challenge.rw_caughtbefore_k20_whole_looks_in_two_step).prog) (w := w) ⟨KX, G, c, t⟩ hmg
    refine ⟨K, fd, PL.spF K K20.sp_law, KX, hb, fun H a ns hl _ hS => ?_, fun base _ _ => hF base⟩
    exact ⟨H, [.ro (ns.map PL.D.int)], fun d => d = .bl true, fun _ _ h => h, PL.DenL.cons ⟨a, _, rfl, hS, K20.den_ints⟩ .nil, ⟨ns, rfl, rfl⟩, fun v H' Hs' d _ _ _ _ dn e => by subst e; exact dn⟩
