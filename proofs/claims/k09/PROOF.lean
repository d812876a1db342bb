import PyProof.Rows.All
import Wide.All
import OpenK.AllK
import Wide.FinOn
import KE.KStateDown
import HandS.ForMost
import HandS.WordsExc
import HandS.ForExc
import HandS.TryMany
import HandS.IsInst
import HandS.Deep
import HandS.Style
import HandS.TupAny
import HandS.TupLe
import HandS.TupMul
import HandS.Wide
import HandS.Zip
import HandS.Flow
import HandS.Defaults
import HandS.NoneIn
import HandS.More
import HandS.Dict
import HandS.SortRule
import HandS.SortInts
import HandS.NamedTupSort
import KE.GoesEnum
import HandS.HeadHook2
import HandS.HeadEnd
import HandS.Head2
import HandS.HeadHook3
import PySem.Challenge.RW_wordsblasted_k09_whole_places
set_option Elab.async false
set_option linter.all false
set_option maxRecDepth 100000
set_option maxHeartbeats 0
/-! Values as trees, and what it is for a value of the heap to stand for one. -/
namespace Z
open PySem PySem.Spec PyProof.Rows L2

/-- a value as a tree -/
inductive D where
  | non | bl (b : Bool) | int (i : Int) | str (x : Str)
  | tup (xs : List D) | lst (xs : List D) | dic (ks vs : List D)
  | scr (ns : List Int)
  | obj (c : Nat) (ns : List Str) (vs : List D)

abbrev lim : Nat := 16777216
theorem lim_eq : lim = sizeLine := rfl

/-- a key as a tree -/
def keyD : Key → D
  | .inl i => .int i
  | .inr x => .str x

section
variable (K : PySem.W.Frag)
mutual
def Rep (F : Hp) : D → V → Prop
  | .non, v => v = .non
  | .bl b, v => v = .bl b
  | .int i, v => v = .int i
  | .str x, v => v = .str x
  | .tup ds, v => ∃ a vs, v = .ref a ∧ SqT K F a vs ∧ RepL F ds vs
  | .lst ds, v => ∃ a vs, v = .ref a ∧ F a = some (.lst vs) ∧ RepL F ds vs
  | .scr ns, v => ∃ a, v = .ref a ∧ SqL K F a (ns.map V.int)
  | .dic ks ds, v => ∃ a kvs, v = .ref a ∧ Rd F a (.dK kvs) ∧ ks = kvs.map (fun p => keyD p.1) ∧ (kvs.map (·.1)).Nodup ∧ RepL F ds (kvs.map (·.2))
  | .obj _ _ _, _ => False
def RepL (F : Hp) : List D → List V → Prop
  | [], vs => vs = []
  | d :: ds, vs => ∃ v r, vs = v :: r ∧ Rep F d v ∧ RepL F ds r
end
end

theorem Same.seqT {K : PySem.W.Frag} {H H' : Hp} {a : Addr} {xs : List V} (e : Same H H') (h : SqT K H a xs) : SqT K H' a xs := by
  rcases h with (h | ⟨o, h⟩) | h
  · exact .inl (.inl (e _ _ h))
  · exact .inl (.inr ⟨o, e _ _ h⟩)
  · exact .inr h
theorem Same.rd {H H' : Hp} {a : Addr} {u : HO} (e : Same H H') (h : Rd H a u) : Rd H' a u := by
  rcases h with h | ⟨o, h⟩
  · exact .inl (e _ _ h)
  · exact .inr ⟨o, e _ _ h⟩

section
variable {K : PySem.W.Frag} {F F' : Hp}
mutual
theorem Rep.mono (e : Same F F') : ∀ {d : D} {v : V}, Rep K F d v → Rep K F' d v
  | .non, _, h => by simpa only [Rep] using h
  | .bl _, _, h => by simpa only [Rep] using h
  | .int _, _, h => by simpa only [Rep] using h
  | .str _, _, h => by simpa only [Rep] using h
  | .tup _, _, h => by
    simp only [Rep] at h ⊢
    obtain ⟨a, vs, h1, h2, h3⟩ := h
    exact ⟨a, vs, h1, Same.seqT e h2, RepL.mono e h3⟩
  | .lst _, _, h => by
    simp only [Rep] at h ⊢
    obtain ⟨a, vs, h1, h2, h3⟩ := h
    exact ⟨a, vs, h1, e _ _ h2, RepL.mono e h3⟩
  | .dic _ _, _, h => by
    simp only [Rep] at h ⊢
    obtain ⟨a, vs, h1, h2, h3, h5, h4⟩ := h
    exact ⟨a, vs, h1, Same.rd e h2, h3, h5, RepL.mono e h4⟩
  | .scr _, _, h => by
    simp only [Rep] at h ⊢
    obtain ⟨a, h1, h2⟩ := h
    exact ⟨a, h1, Same.seq e h2⟩
  | .obj _ _ _, _, h => by
    simp only [Rep] at h
theorem RepL.mono (e : Same F F') : ∀ {ds : List D} {vs : List V}, RepL K F ds vs → RepL K F' ds vs
  | [], _, h => by simpa only [RepL] using h
  | _ :: _, _, h => by
    simp only [RepL] at h ⊢
    obtain ⟨v, r, h1, h2, h3⟩ := h
    exact ⟨v, r, h1, Rep.mono e h2, RepL.mono e h3⟩
end
theorem RepL.nil : RepL K F [] [] := by simp only [RepL]
theorem RepL.cons {d : D} {v : V} {ds : List D} {vs : List V} (h : Rep K F d v) (t : RepL K F ds vs) : RepL K F (d :: ds) (v :: vs) := by
  simp only [RepL]; exact ⟨v, vs, rfl, h, t⟩
theorem RepL.nil_inv {vs : List V} (h : RepL K F [] vs) : vs = [] := by simpa only [RepL] using h
theorem RepL.cons_inv {d : D} {ds : List D} {vs : List V} (h : RepL K F (d :: ds) vs) : ∃ v r, vs = v :: r ∧ Rep K F d v ∧ RepL K F ds r := by simpa only [RepL] using h
theorem RepL.length : ∀ {ds : List D} {vs : List V}, RepL K F ds vs → ds.length = vs.length
  | [], _, h => by rw [h.nil_inv]; rfl
  | d :: ds, _, h => by
    obtain ⟨v, r, rfl, _, t⟩ := h.cons_inv
    rw [List.length_cons, List.length_cons, RepL.length t]
theorem RepL.get : ∀ {ds : List D} {vs : List V} {i : Nat} {d : D}, RepL K F ds vs → ds[i]? = some d → ∃ v, vs[i]? = some v ∧ Rep K F d v
  | [], _, _, _, _, e => by simp at e
  | d :: ds, _, i, _, h, e => by
    obtain ⟨v, r, rfl, h1, t⟩ := h.cons_inv
    cases i with
    | zero => rw [List.getElem?_cons_zero] at e; cases e; exact ⟨v, rfl, h1⟩
    | succ i =>
      rw [List.getElem?_cons_succ] at e
      obtain ⟨u, hu, hr⟩ := RepL.get t e
      exact ⟨u, by rw [List.getElem?_cons_succ]; exact hu, hr⟩
theorem RepL.getV : ∀ {ds : List D} {vs : List V} {i : Nat} {v : V}, RepL K F ds vs → vs[i]? = some v → ∃ d, ds[i]? = some d ∧ Rep K F d v := fun {ds vs i v} h e => by
  have hl := h.length
  have hi : i < vs.length := by
    rcases Nat.lt_or_ge i vs.length with q | q
    · exact q
    · rw [List.getElem?_eq_none q] at e; cases e
  have hi2 : i < ds.length := by omega
  obtain ⟨u, hu, hr⟩ := h.get (List.getElem?_eq_getElem hi2)
  rw [hu] at e; cases e
  exact ⟨_, List.getElem?_eq_getElem hi2, hr⟩
theorem RepL.append : ∀ {ds es : List D} {vs us : List V}, RepL K F ds vs → RepL K F es us → RepL K F (ds ++ es) (vs ++ us)
  | [], _, _, _, h, g => by rw [h.nil_inv]; exact g
  | d :: ds, _, _, _, h, g => by
    obtain ⟨v, r, rfl, h1, t⟩ := h.cons_inv
    exact RepL.cons h1 (RepL.append t g)
theorem RepL.take : ∀ {ds : List D} {vs : List V} (n : Nat), RepL K F ds vs → RepL K F (ds.take n) (vs.take n)
  | _, _, 0, _ => RepL.nil
  | [], _, _ + 1, h => by rw [h.nil_inv]; exact RepL.nil
  | d :: ds, _, n + 1, h => by
    obtain ⟨v, r, rfl, h1, t⟩ := h.cons_inv
    exact RepL.cons h1 (RepL.take n t)
theorem RepL.drop : ∀ {ds : List D} {vs : List V} (n : Nat), RepL K F ds vs → RepL K F (ds.drop n) (vs.drop n)
  | _, _, 0, h => h
  | [], _, _ + 1, h => by rw [h.nil_inv]; exact RepL.nil
  | d :: ds, _, n + 1, h => by
    obtain ⟨v, r, rfl, h1, t⟩ := h.cons_inv
    exact RepL.drop n t
theorem RepL.set : ∀ {ds : List D} {vs : List V} {d : D} {v : V} (n : Nat), RepL K F ds vs → Rep K F d v → RepL K F (ds.set n d) (vs.set n v)
  | [], _, _, _, _, h, _ => by rw [h.nil_inv]; exact RepL.nil
  | d :: ds, _, _, _, 0, h, g => by
    obtain ⟨v, r, rfl, h1, t⟩ := h.cons_inv
    exact RepL.cons g t
  | d :: ds, _, _, _, n + 1, h, g => by
    obtain ⟨v, r, rfl, h1, t⟩ := h.cons_inv
    exact RepL.cons h1 (RepL.set n t g)
theorem RepL.reverse : ∀ {ds : List D} {vs : List V}, RepL K F ds vs → RepL K F ds.reverse vs.reverse
  | [], _, h => by rw [h.nil_inv]; exact RepL.nil
  | d :: ds, _, h => by
    obtain ⟨v, r, rfl, h1, t⟩ := h.cons_inv
    rw [List.reverse_cons, List.reverse_cons]
    exact RepL.append (RepL.reverse t) (RepL.cons h1 RepL.nil)
theorem RepL.one {d : D} {vs : List V} (h : RepL K F [d] vs) : ∃ v, vs = [v] ∧ Rep K F d v := by
  obtain ⟨v, r, rfl, h1, t⟩ := h.cons_inv
  rw [t.nil_inv]; exact ⟨v, rfl, h1⟩
theorem RepL.two {d e : D} {vs : List V} (h : RepL K F [d, e] vs) : ∃ v u, vs = [v, u] ∧ Rep K F d v ∧ Rep K F e u := by
  obtain ⟨v, r, rfl, h1, t⟩ := h.cons_inv
  obtain ⟨u, rfl, h2⟩ := t.one
  exact ⟨v, u, rfl, h1, h2⟩
/-- ints -/
theorem RepL.ints : ∀ {ns : List Int} {vs : List V}, RepL K F (ns.map D.int) vs → vs = ns.map V.int
  | [], _, h => h.nil_inv
  | n :: ns, _, h => by
    obtain ⟨v, r, rfl, h1, t⟩ := RepL.cons_inv (d := D.int n) (ds := ns.map D.int) h
    simp only [Rep] at h1
    rw [h1, RepL.ints t]; rfl
theorem RepL.of_ints : ∀ (ns : List Int), RepL K F (ns.map D.int) (ns.map V.int)
  | [] => RepL.nil
  | n :: ns => RepL.cons (by simp only [Rep]) (RepL.of_ints ns)
theorem RepL.bls : ∀ {ns : List Bool} {vs : List V}, RepL K F (ns.map D.bl) vs → vs = ns.map V.bl
  | [], _, h => h.nil_inv
  | n :: ns, _, h => by
    obtain ⟨v, r, rfl, h1, t⟩ := RepL.cons_inv (d := D.bl n) (ds := ns.map D.bl) h
    simp only [Rep] at h1
    rw [h1, RepL.bls t]; rfl
theorem RepL.strs : ∀ {ns : List Str} {vs : List V}, RepL K F (ns.map D.str) vs → vs = ns.map V.str
  | [], _, h => h.nil_inv
  | n :: ns, _, h => by
    obtain ⟨v, r, rfl, h1, t⟩ := RepL.cons_inv (d := D.str n) (ds := ns.map D.str) h
    simp only [Rep] at h1
    rw [h1, RepL.strs t]; rfl
theorem Rep.non_iff {v : V} : Rep K F .non v ↔ v = .non := by simp only [Rep]
theorem Rep.bl_iff {b : Bool} {v : V} : Rep K F (.bl b) v ↔ v = .bl b := by simp only [Rep]
theorem Rep.int_iff {i : Int} {v : V} : Rep K F (.int i) v ↔ v = .int i := by simp only [Rep]
theorem Rep.str_iff {x : Str} {v : V} : Rep K F (.str x) v ↔ v = .str x := by simp only [Rep]
theorem Rep.tup_iff {ds : List D} {v : V} : Rep K F (.tup ds) v ↔ ∃ a vs, v = .ref a ∧ SqT K F a vs ∧ RepL K F ds vs := by simp only [Rep]
theorem Rep.scr_iff {ns : List Int} {v : V} : Rep K F (.scr ns) v ↔ ∃ a, v = .ref a ∧ SqL K F a (ns.map V.int) := by simp only [Rep]
theorem Rep.lst_iff {ds : List D} {v : V} : Rep K F (.lst ds) v ↔ ∃ a vs, v = .ref a ∧ F a = some (.lst vs) ∧ RepL K F ds vs := by simp only [Rep]
theorem Rep.dic_iff {ks ds : List D} {v : V} : Rep K F (.dic ks ds) v ↔ ∃ a kvs, v = .ref a ∧ Rd F a (.dK kvs) ∧ ks = kvs.map (fun p => keyD p.1) ∧ (kvs.map (·.1)).Nodup ∧ RepL K F ds (kvs.map (·.2)) := by simp only [Rep]
theorem Rep.obj_iff {c : Nat} {ns : List Str} {ds : List D} {v : V} : Rep K F (.obj c ns ds) v ↔ False := by simp only [Rep]
end

/-! ### how a heap, and the part of it that nothing changes, go on -/
structure Ex (H F H' F' : Hp) : Prop where
  sH : Same H H'
  sF : Same F F'
  sFH : Same F' H'
  new : ∀ b o, F b = none → H b = some o → F' b = none
theorem Ex.refl {H F : Hp} (h : Same F H) : Ex H F H F := ⟨Same.refl _, Same.refl _, h, fun _ _ q _ => q⟩
theorem Ex.trans {H F H1 F1 H2 F2 : Hp} (a : Ex H F H1 F1) (b : Ex H1 F1 H2 F2) : Ex H F H2 F2 :=
  ⟨a.sH.trans b.sH, a.sF.trans b.sF, b.sFH, fun c o q r => b.new c o (a.new c o q r) (a.sH c o r)⟩
theorem same_upd {H : Hp} {p : Addr} {o : HO} (h : H p = none) : Same H (upd H p o) := fun b x e => by
  rw [upd_ne (ne_of_none e h)]
  exact e
theorem same_upd2 {F H : Hp} {p : Addr} {o : HO} (s : Same F H) : Same (upd F p o) (upd H p o) := fun b x e => by
  by_cases hb : b = p
  · subst hb; rw [upd_same] at e ⊢; exact e
  · rw [upd_ne hb] at e ⊢; exact s b x e
theorem Ex.alloc {H F : Hp} {p : Addr} {o : HO} (s : Same F H) (h : H p = none) : Ex H F (upd H p o) (upd F p o) :=
  ⟨same_upd h, same_upd (s.free h), same_upd2 s, fun b o' q r => by rw [upd_ne (ne_of_none r h)]; exact q⟩
theorem Ex.allocH {H F : Hp} {p : Addr} {o : HO} (s : Same F H) (h : H p = none) : Ex H F (upd H p o) F :=
  ⟨same_upd h, Same.refl _, fun b x e => same_upd h b x (s b x e), fun _ _ q _ => q⟩

/-! ### slots -/
inductive Slot where
  | un
  | im (d : D)
  | ow (d : D)
abbrev Env' := List Slot

section
variable (K : PySem.W.Frag)
/-- a list, a dict at p that only one name knows; its items stand for trees -/
def Own (F H : Hp) (p : Addr) : D → Prop
  | .lst ds => ∃ vs, H p = some (.lst vs) ∧ RepL K F ds vs
  | .dic ks ds => ∃ kvs, H p = some (.dK kvs) ∧ ks = kvs.map (fun q => keyD q.1) ∧ (kvs.map (·.1)).Nodup ∧ RepL K F ds (kvs.map (·.2))
  | _ => False
def SlotOk (F H : Hp) (A : Nat → Addr) (σ : L2.St) (i : Nat) : Slot → Prop
  | .un => True
  | .im d => ∃ v, σ[i]? = some (some v) ∧ Rep K F d v
  | .ow d => σ[i]? = some (some (.ref (A i))) ∧ F (A i) = none ∧ Own K F H (A i) d
structure Rl (H0 F0 : Hp) (ρ : Env') (σ : L2.St) (H F : Hp) (A : Nat → Addr) : Prop where
  ex : Ex H0 F0 H F
  len : ρ.length = σ.length
  slot : ∀ i s, ρ[i]? = some s → SlotOk K F H A σ i s
  old : ∀ i d, ρ[i]? = some (.ow d) → H0 (A i) = none
  apart : ∀ i j d e, ρ[i]? = some (.ow d) → ρ[j]? = some (.ow e) → i ≠ j → A i ≠ A j
end
section
variable {K : PySem.W.Frag} {H0 F0 H F H' F' : Hp} {ρ : Env'} {σ : L2.St} {A : Nat → Addr}
theorem Own.there {p : Addr} {d : D} (h : Own K F H p d) : ∃ o, H p = some o := by
  cases d <;> simp only [Own] at h
  · obtain ⟨vs, h, _⟩ := h; exact ⟨_, h⟩
  · obtain ⟨vs, h, _⟩ := h; exact ⟨_, h⟩
theorem Own.mono {p : Addr} {d : D} (sF : Same F F') (sH : Same H H') (h : Own K F H p d) : Own K F' H' p d := by
  cases d <;> simp only [Own] at h ⊢
  · obtain ⟨vs, h, g⟩ := h; exact ⟨vs, sH _ _ h, g.mono sF⟩
  · obtain ⟨vs, h, g1, g3, g2⟩ := h; exact ⟨vs, sH _ _ h, g1, g3, g2.mono sF⟩
/-- an expression's run keeps the relation -/
theorem Rl.go (r : Rl K H0 F0 ρ σ H F A) (e : Ex H F H' F') : Rl K H0 F0 ρ σ H' F' A := by
  refine ⟨r.ex.trans e, r.len, fun i s hs => ?_, r.old, r.apart⟩
  have q := r.slot i s hs
  cases s with
  | un => trivial
  | im d => obtain ⟨v, h1, h2⟩ := q; exact ⟨v, h1, h2.mono e.sF⟩
  | ow d =>
    obtain ⟨h1, h2, h3⟩ := q
    obtain ⟨o, ho⟩ := h3.there
    exact ⟨h1, e.new _ _ h2 ho, h3.mono e.sF e.sH⟩
theorem Rl.sFH (r : Rl K H0 F0 ρ σ H F A) : Same F H := r.ex.sFH
theorem Rl.im {i : Nat} {d : D} (r : Rl K H0 F0 ρ σ H F A) (h : ρ[i]? = some (.im d)) : ∃ v, σ[i]? = some (some v) ∧ Rep K F d v := r.slot i _ h
end
end Z
/-! tuple * int, by one or by none. -/
namespace Z
open PySem PySem.Spec PyProof.Rows L2
open PySem.AutoSeq1 (wpAny_loadPart')
open PySem.MeetsSeq PySem.MeetsSeq2 PySem.MeetsSeq3
theorem tuple_mulS (l : Addr) (items : Array Value) (n : Nat) (dd : Option Addr) (sl : Array (Option Value)) (x : Int) (u : Tok) (c0 : (decide (x < -(2 ^ 63)) || decide (x ≥ 2 ^ 63)) = false) (c1 : (items.isEmpty || x == 1) = true) :
    Meets (Builtin.«tuple.__mul__» ⟨[.ref l, .int x u], []⟩) (fun _ R s => s.heap.get? l = some { cls := .type "tuple", dict := dd, data := .seq items n, slots := sl } ∧
      R (.ok (.ret (Value.ref l))) s) :=
  .of_wp fun prog w A R s h => by
    obtain ⟨hp, g, d, tk, os⟩ := s
    obtain ⟨hl, h⟩ := h
    have f1 := AutoSeq1.idx_int
    wp_walk using wpAny_loadPart' hl
    refine wpAny_ite_false (decide_eq_false (by rw [c0]; exact Bool.false_ne_true)) ?_
    wp_walk using wpAny_loadPart' hl
    exact ⟨_, rfl, h⟩
theorem tuple_mul0 (l : Addr) (items : Array Value) (n : Nat) (dd : Option Addr) (sl : Array (Option Value)) (x : Int) (u : Tok) (c0 : (decide (x < -(2 ^ 63)) || decide (x ≥ 2 ^ 63)) = false) (c1 : (items.isEmpty || x == 1) = false) (c2 : (decide (x ≤ 0) || items.isEmpty) = true) :
    Meets (Builtin.«tuple.__mul__» ⟨[.ref l, .int x u], []⟩) (fun _ R s => s.heap.get? l = some { cls := .type "tuple", dict := dd, data := .seq items n, slots := sl } ∧
      R (.ok (.ret (Value.ref s.heap.objs.size))) { s with heap := s.heap.push { cls := Value.type "tuple", data := Data.seq #[] }, toks := s.toks }) :=
  .of_wp fun prog w A R s h => by
    obtain ⟨hp, g, d, tk, os⟩ := s
    obtain ⟨hl, h⟩ := h
    have f1 := AutoSeq1.idx_int
    wp_walk using wpAny_loadPart' hl
    refine wpAny_ite_false (decide_eq_false (by rw [c0]; exact Bool.false_ne_true)) ?_
    wp_walk using wpAny_loadPart' hl
    repeat (first
      | (refine wpAny_ite_false (decide_eq_false (by rw [c1]; exact Bool.false_ne_true)) ?_; wp_walk using wpAny_loadPart' hl)
      | (refine wpAny_ite_true (decide_eq_true c2) ?_; wp_walk using wpAny_loadPart' hl))
    exact ⟨_, rfl, h⟩
def rMulT (K : PySem.W.Frag) : R2 := fun x y H Q => ∃ l k xs, x = .ref l ∧ y = .int k ∧ SqT K H l xs ∧ -(2 ^ 63) ≤ k ∧ k ≤ 1000 ∧ xs.length ≤ 1000 ∧
  ((k = 1 ∨ xs = []) → Q (.ref l) H) ∧ (¬ (k = 1 ∨ xs = []) → ∀ p, H p = none → Q (.ref p) (upd H p (.tup (List.replicate k.toNat xs).flatten)))
section
variable {X : Cx}
theorem op_mulT : OpR X (binaryOp .Mult) (rMulT X.K) := by
  intro pins s σ H x y v u Q I rx ry h
  obtain ⟨l, k, xs, rfl, rfl, hT, hk0, hk1, hz, q1, q2⟩ := h
  by_cases big : 2 ≤ k ∧ xs ≠ []
  · exact op_repT pins s σ H _ _ v u Q I rx ry ⟨l, k, xs, rfl, rfl, hT, big.2, big.1, hk1, hz, q2 (by
      rintro (z | z)
      · omega
      · exact big.2 z)⟩
  cases rx
  obtain ⟨t, rfl⟩ := ry
  obtain ⟨its, r, ⟨⟨cls, dd, data, sl⟩, ho, hc, n, hd⟩, hs⟩ := I.tuple hT
  simp only at hc hd
  subst hc hd
  have hle : its.length = xs.length := r.length.symm
  have c0 : (decide (k < -(2 ^ 63)) || decide (k ≥ 2 ^ 63)) = false := by
    rw [decide_eq_false (by omega), decide_eq_false (by omega)] <;> rfl
  by_cases same : k = 1 ∨ xs = []
  · have c1 : (its.toArray.isEmpty || k == 1) = true := by
      rcases same with e | e
      · rw [e]; simp
      · have : its = [] := List.eq_nil_of_length_eq_zero (by rw [hle, e]; rfl)
        rw [this]; rfl
    refine wpAny_binaryOp_repeat_ref (T := "tuple") (U := "int") (by decide) ⟨_, ho, rfl⟩ (fun s' => typeIs_int s' k t) noFill_tuple_mul F.fills_int_mul F.slot_int_rmul repeat_tuple F.slot_int_index.lookup
      (call_meets F.slot_int_rmul (typeIs_int s k t) F.entry_int_rmul (F.args_int_rmul_2 _ _) (int_rmul_tuple k t l its.toArray n dd sl)
        ⟨ho, rfl, ⟨_, ho, rfl⟩, call_meets F.slot_tuple_mul ⟨_, ho, rfl⟩ F.entry_tuple_mul (F.args_tuple_mul_2 _ _) (tuple_mulS l its.toArray n dd sl k t c0 c1) ⟨ho, ?_⟩⟩)
    exact ⟨.ref l, H, I, rfl, q1 same⟩
  · have hne : xs ≠ [] := fun z => same (.inr z)
    have hk : k ≤ 0 := by
      have : ¬ 2 ≤ k := fun z => big ⟨z, hne⟩
      have : ¬ k = 1 := fun z => same (.inl z)
      omega
    have hn : its ≠ [] := fun e => hne (by
      rw [e] at hle
      exact List.eq_nil_of_length_eq_zero hle.symm)
    have hi : its.toArray.isEmpty = false := by
      cases its with
      | nil => exact absurd rfl hn
      | cons a b => rfl
    have c1 : (its.toArray.isEmpty || k == 1) = false := by
      rw [hi, Bool.false_or]
      exact beq_eq_false_iff_ne.mpr (by omega)
    have c2 : (decide (k ≤ 0) || its.toArray.isEmpty) = true := by
      rw [decide_eq_true hk]; rfl
    have ek : k.toNat = 0 := by omega
    have q2 := q2 same
    rw [ek, List.replicate_zero, List.flatten_nil] at q2
    refine wpAny_binaryOp_repeat_ref (T := "tuple") (U := "int") (by decide) ⟨_, ho, rfl⟩ (fun s' => typeIs_int s' k t) noFill_tuple_mul F.fills_int_mul F.slot_int_rmul repeat_tuple F.slot_int_index.lookup
      (call_meets F.slot_int_rmul (typeIs_int s k t) F.entry_int_rmul (F.args_int_rmul_2 _ _) (int_rmul_tuple k t l its.toArray n dd sl)
        ⟨ho, rfl, ⟨_, ho, rfl⟩, call_meets F.slot_tuple_mul ⟨_, ho, rfl⟩ F.entry_tuple_mul (F.args_tuple_mul_2 _ _) (tuple_mul0 l its.toArray n dd sl k t c0 c1 c2) ⟨ho, ?_⟩⟩)
    refine ⟨.ref s.heap.objs.size, _, I.laid (t' := s.toks) (o := .tup []) (fun b ob q => Heap.get?_push_of_some _ q) (Nat.le_refl _) ?_, rfl, q2 _ (I.hok.fresh (Nat.le_refl _))⟩
    exact ⟨Nat.zero_le _, [], .nil, IsTup.new _ _⟩
end
end Z
/-! What the operators do, on trees. -/
namespace Z
open PySem PySem.Spec PyProof.Rows L2

inductive BOp where
  | add | sub | mul | div | mod | pow | shl | shr | and | or | xor
inductive COp where
  | eq | ne | lt | le | gt | ge | is | isn | in_ | nin

/-! ### equality -/
mutual
def eqv : D → D → Bool
  | .non, .non => true
  | .bl a, .bl b => a == b
  | .bl a, .int j => (if a = true then (1 : Int) else 0) == j
  | .int i, .bl b => i == (if b = true then (1 : Int) else 0)
  | .int i, .int j => i == j
  | .str x, .str y => x == y
  | .tup xs, .tup ys => eqvL xs ys
  | .lst xs, .lst ys => eqvL xs ys
  | _, _ => false
def eqvL : List D → List D → Bool
  | [], [] => true
  | x :: xs, y :: ys => eqv x y && eqvL xs ys
  | _, _ => false
end
mutual
/-- data that == takes: no dict, no object within, so deep at most -/
def flat : Nat → D → Bool
  | _, .non => true
  | _, .bl _ => true
  | _, .int _ => true
  | _, .str x => PyData.strOk x
  | 0, .tup _ => false
  | 0, .lst _ => false
  | n + 1, .tup xs => flatL n xs
  | n + 1, .lst xs => flatL n xs
  | _, _ => false
def flatL : Nat → List D → Bool
  | _, [] => true
  | n, x :: xs => flat n x && flatL n xs
end
mutual
def py : D → PyData
  | .non => .none
  | .bl b => .bool b
  | .int i => .int i
  | .str x => .str x
  | .tup xs => .tuple (pyL xs)
  | .lst xs => .list (pyL xs)
  | _ => .dict []
def pyL : List D → List PyData
  | [] => []
  | x :: xs => py x :: pyL xs
end
mutual
theorem eqv_py : ∀ (n m : Nat) (d e : D), flat n d = true → flat m e = true → PyData.eqv (py d) (py e) = eqv d e
  | n, m, .tup xs, .tup ys, h, g => by
    cases n with
    | zero => simp [flat] at h
    | succ n =>
      cases m with
      | zero => simp [flat] at g
      | succ m =>
        simp only [flat] at h g
        simp only [py, eqv, PyData.eqv]
        exact eqvL_py n m xs ys h g
  | n, m, .lst xs, .lst ys, h, g => by
    cases n with
    | zero => simp [flat] at h
    | succ n =>
      cases m with
      | zero => simp [flat] at g
      | succ m =>
        simp only [flat] at h g
        simp only [py, eqv, PyData.eqv]
        exact eqvL_py n m xs ys h g
  | n, m, .non, e, h, g => by cases e <;> first | rfl | (simp only [py, eqv, PyData.eqv]) | (cases m <;> simp [flat] at g)
  | n, m, .bl _, e, h, g => by cases e <;> first | rfl | (simp only [py, eqv, PyData.eqv]) | (cases m <;> simp [flat] at g)
  | n, m, .int _, e, h, g => by cases e <;> first | rfl | (simp only [py, eqv, PyData.eqv]) | (cases m <;> simp [flat] at g)
  | n, m, .str _, e, h, g => by cases e <;> first | rfl | (simp only [py, eqv, PyData.eqv]) | (cases m <;> simp [flat] at g)
  | n, m, .tup _, .non, h, g => by simp only [py, eqv, PyData.eqv]
  | n, m, .tup _, .bl _, h, g => by simp only [py, eqv, PyData.eqv]
  | n, m, .tup _, .int _, h, g => by simp only [py, eqv, PyData.eqv]
  | n, m, .tup _, .str _, h, g => by simp only [py, eqv, PyData.eqv]
  | n, m, .tup _, .lst _, h, g => by simp only [py, eqv, PyData.eqv]
  | n, m, .lst _, .non, h, g => by simp only [py, eqv, PyData.eqv]
  | n, m, .lst _, .bl _, h, g => by simp only [py, eqv, PyData.eqv]
  | n, m, .lst _, .int _, h, g => by simp only [py, eqv, PyData.eqv]
  | n, m, .lst _, .str _, h, g => by simp only [py, eqv, PyData.eqv]
  | n, m, .lst _, .tup _, h, g => by simp only [py, eqv, PyData.eqv]
  | n, m, .tup _, .dic _ _, h, g => by cases m <;> simp [flat] at g
  | n, m, .tup _, .scr _, h, g => by cases m <;> simp [flat] at g
  | n, m, .tup _, .obj _ _ _, h, g => by cases m <;> simp [flat] at g
  | n, m, .lst _, .dic _ _, h, g => by cases m <;> simp [flat] at g
  | n, m, .lst _, .scr _, h, g => by cases m <;> simp [flat] at g
  | n, m, .lst _, .obj _ _ _, h, g => by cases m <;> simp [flat] at g
  | n, m, .dic _ _, _, h, g => by cases n <;> simp [flat] at h
  | n, m, .scr _, _, h, g => by cases n <;> simp [flat] at h
  | n, m, .obj _ _ _, _, h, g => by cases n <;> simp [flat] at h
theorem eqvL_py : ∀ (n m : Nat) (d e : List D), flatL n d = true → flatL m e = true → PyData.eqvAll (pyL d) (pyL e) = eqvL d e
  | _, _, [], [], _, _ => by simp only [pyL, eqvL, PyData.eqvAll]
  | _, _, [], _ :: _, _, _ => by simp only [pyL, eqvL, PyData.eqvAll]
  | _, _, _ :: _, [], _, _ => by simp only [pyL, eqvL, PyData.eqvAll]
  | n, m, x :: xs, y :: ys, h, g => by
    simp only [flatL, Bool.and_eq_true] at h g
    simp only [pyL, eqvL, PyData.eqvAll]
    rw [eqv_py n m x y h.1 g.1, eqvL_py n m xs ys h.2 g.2]
end

mutual
theorem flat_lay : ∀ (n : Nat) (d : D), flat n d = true → (py d).canLay0 = true ∧ (py d).depth ≤ n
  | n, .non, _ => by simp only [py, PyData.canLay0, PyData.depth]; exact ⟨trivial, Nat.zero_le _⟩
  | n, .bl _, _ => by simp only [py, PyData.canLay0, PyData.depth]; exact ⟨trivial, Nat.zero_le _⟩
  | n, .int _, _ => by simp only [py, PyData.canLay0, PyData.depth]; exact ⟨trivial, Nat.zero_le _⟩
  | n, .str x, h => by
    simp only [py, PyData.canLay0, PyData.depth]
    exact ⟨by cases n <;> simpa only [flat] using h, Nat.zero_le _⟩
  | 0, .tup _, h => by simp [flat] at h
  | 0, .lst _, h => by simp [flat] at h
  | n + 1, .tup xs, h => by
    simp only [flat] at h
    have q := flatL_lay n xs h
    simp only [py, PyData.canLay0, PyData.depth]
    exact ⟨q.1, Nat.succ_le_succ q.2⟩
  | n + 1, .lst xs, h => by
    simp only [flat] at h
    have q := flatL_lay n xs h
    simp only [py, PyData.canLay0, PyData.depth]
    exact ⟨q.1, Nat.succ_le_succ q.2⟩
  | n, .dic _ _, h => by cases n <;> simp [flat] at h
  | n, .scr _, h => by cases n <;> simp [flat] at h
  | n, .obj _ _ _, h => by cases n <;> simp [flat] at h
theorem flatL_lay : ∀ (n : Nat) (ds : List D), flatL n ds = true → PyData.canLayAll0 (pyL ds) = true ∧ PyData.depthAll (pyL ds) ≤ n
  | n, [], _ => by simp only [pyL, PyData.canLayAll0, PyData.depthAll]; exact ⟨trivial, Nat.zero_le _⟩
  | n, d :: ds, h => by
    simp only [flatL, Bool.and_eq_true] at h
    have q1 := flat_lay n d h.1
    have q2 := flatL_lay n ds h.2
    simp only [pyL, PyData.canLayAll0, PyData.depthAll]
    exact ⟨Bool.and_eq_true_iff.mpr ⟨q1.1, q2.1⟩, Nat.max_le.mpr ⟨q1.2, q2.2⟩⟩
end
theorem flat_shaped {d : D} (h : flat 60 d = true) : SeqAt.shaped (py d) = true := by
  have q := flat_lay 60 d h
  exact Bool.and_eq_true_iff.mpr ⟨q.1, decide_eq_true (by omega)⟩
section
variable {K : PySem.W.Frag} {F H : Hp}
mutual
theorem Rep.dp : ∀ (n : Nat) (d : D) (v : V), flat n d = true → Rep K F d v → Dp K F v (py d)
  | n, .non, v, _, r => by rw [Rep.non_iff.mp r]; exact .non
  | n, .bl _, v, _, r => by rw [Rep.bl_iff.mp r]; exact .bl _
  | n, .int _, v, _, r => by rw [Rep.int_iff.mp r]; exact .int _
  | n, .str _, v, _, r => by rw [Rep.str_iff.mp r]; exact .str _
  | 0, .tup _, _, h, _ => by simp [flat] at h
  | 0, .lst _, _, h, _ => by simp [flat] at h
  | n + 1, .tup xs, v, h, r => by
    simp only [flat] at h
    obtain ⟨a, vs, rfl, h1, h2⟩ := Rep.tup_iff.mp r
    simp only [py]
    exact .tup h1 (RepL.dp n xs vs h h2)
  | n + 1, .lst xs, v, h, r => by
    simp only [flat] at h
    obtain ⟨a, vs, rfl, h1, h2⟩ := Rep.lst_iff.mp r
    simp only [py]
    exact .lst (.inl (.inl h1)) (RepL.dp n xs vs h h2)
  | n, .dic _ _, _, h, _ => by cases n <;> simp [flat] at h
  | n, .scr _, _, h, _ => by cases n <;> simp [flat] at h
  | n, .obj _ _ _, _, h, _ => by cases n <;> simp [flat] at h
theorem RepL.dp : ∀ (n : Nat) (ds : List D) (vs : List V), flatL n ds = true → RepL K F ds vs → DpAll K F vs (pyL ds)
  | n, [], vs, _, r => by rw [r.nil_inv]; simp only [pyL]; exact .nil
  | n, d :: ds, vs, h, r => by
    simp only [flatL, Bool.and_eq_true] at h
    obtain ⟨v, t, rfl, h1, h2⟩ := r.cons_inv
    simp only [pyL]
    exact .cons (Rep.dp n d v h.1 h1) (RepL.dp n ds t h.2 h2)
end
mutual
theorem dp_mono (s : Same F H) : ∀ {v : V} {d : PyData}, Dp K F v d → Dp K H v d
  | _, _, .non => .non
  | _, _, .bl b => .bl b
  | _, _, .int i => .int i
  | _, _, .str x => .str x
  | _, _, .lst h t => .lst (Same.seq s h) (dpAll_mono s t)
  | _, _, .tup h t => .tup (Same.seqT s h) (dpAll_mono s t)
theorem dpAll_mono (s : Same F H) : ∀ {vs : List V} {ds : List PyData}, DpAll K F vs ds → DpAll K H vs ds
  | _, _, .nil => .nil
  | _, _, .cons h t => .cons (dp_mono s h) (dpAll_mono s t)
end
end

/-! ### comparisons -/
def isNon : D → Bool
  | .non => true
  | _ => false
def leaf : D → Bool
  | .non => true
  | .bl _ => true
  | .int _ => true
  | .str _ => true
  | _ => false
def intsOf : List D → Option (List Int)
  | [] => some []
  | .int i :: r => (intsOf r).map fun t => i :: t
  | _ :: _ => none
def ltD : D → D → Option Bool
  | .int i, .int j => some (decide (i < j))
  | .str x, .str y => some (decide (x.cps.toList < y.cps.toList))
  | .tup xs, .tup ys => (intsOf xs).bind fun ns => (intsOf ys).map fun ms => HT.lexLt ns ms
  | _, _ => none
def gtD : D → D → Option Bool
  | .int i, .int j => some (decide (j < i))
  | .str x, .str y => some (decide (y.cps.toList < x.cps.toList))
  | _, _ => none
def leD : D → D → Option Bool
  | .int i, .int j => some (decide (i ≤ j))
  | _, _ => none
def geD : D → D → Option Bool
  | .int i, .int j => some (decide (j ≤ i))
  | _, _ => none
def inD : D → D → Option Bool
  | d, .tup xs => if leaf d && xs.all leaf then some (xs.any fun y => eqv y d) else none
  | d, .lst xs => if (leaf d && xs.all leaf) || (flat 60 d && flatL 59 xs) then some (xs.any fun y => eqv y d) else none
  | .str x, .str y => some (!(Builtin.Str.occurrences y x 0 y.length 1).isEmpty)
  | _, _ => none
def cmpD : COp → D → D → Option Bool
  | .eq, d, e => if flat 60 d && flat 60 e then some (eqv d e) else none
  | .ne, d, e => if flat 60 d && flat 60 e then some (!eqv d e) else none
  | .lt, d, e => ltD d e
  | .gt, d, e => gtD d e
  | .le, d, e => leD d e
  | .ge, d, e => geD d e
  | .is, d, .non => some (isNon d)
  | .isn, d, .non => some (!isNon d)
  | .in_, d, e => inD d e
  | .nin, d, e => (inD d e).map (!·)
  | _, _, _ => none
def cOp : COp → CmpOp
  | .eq => .Eq | .ne => .NotEq | .lt => .Lt | .le => .LtE | .gt => .Gt | .ge => .GtE | .is => .Is | .isn => .IsNot | .in_ => .In | .nin => .NotIn

theorem intsOf_map : ∀ {ds : List D} {ns : List Int}, intsOf ds = some ns → ds = ns.map D.int
  | [], ns, h => by simp only [intsOf, Option.some.injEq] at h; subst h; rfl
  | .int i :: r, ns, h => by
    simp only [intsOf, Option.map_eq_some_iff] at h
    obtain ⟨t, h1, rfl⟩ := h
    rw [intsOf_map h1]; rfl
  | .non :: _, _, h => by simp [intsOf] at h
  | .bl _ :: _, _, h => by simp [intsOf] at h
  | .str _ :: _, _, h => by simp [intsOf] at h
  | .tup _ :: _, _, h => by simp [intsOf] at h
  | .lst _ :: _, _, h => by simp [intsOf] at h
  | .dic _ _ :: _, _, h => by simp [intsOf] at h
  | .scr _ :: _, _, h => by simp [intsOf] at h
  | .obj _ _ _ :: _, _, h => by simp [intsOf] at h
theorem intsOf_ints : ∀ ns : List Int, intsOf (ns.map D.int) = some ns
  | [] => rfl
  | n :: ns => by rw [List.map_cons, intsOf, intsOf_ints ns]; rfl

/-- the reading of a comparison, on trees -/
def rC (K : PySem.W.Frag) (o : COp) : R2 := fun x y H Q => ∃ F d e b, Same F H ∧ Rep K F d x ∧ Rep K F e y ∧ cmpD o d e = some b ∧ Q (.bl b) H
section
variable {X : Cx} {K : PySem.W.Frag} {F H : Hp}
theorem isNon_iff {d : D} {v : V} (r : Rep K F d v) : decide (v = .non) = isNon d := by
  cases d <;> simp only [Rep] at r
  · subst r; rfl
  · subst r; rfl
  · subst r; rfl
  · subst r; rfl
  · obtain ⟨_, _, rfl, _⟩ := r; rfl
  · obtain ⟨_, _, rfl, _⟩ := r; rfl
  · obtain ⟨_, _, rfl, _⟩ := r; rfl
  · obtain ⟨_, rfl, _⟩ := r; rfl
theorem leaf_flatV {d : D} {v : V} (r : Rep K F d v) (h : leaf d = true) : flatV v = true := by
  cases d <;> simp only [leaf, Bool.false_eq_true] at h <;> simp only [Rep] at r <;> subst r <;> rfl
theorem leaf_all : ∀ {ds : List D} {vs : List V}, RepL K F ds vs → ds.all leaf = true → vs.all flatV = true
  | [], _, r, _ => by rw [r.nil_inv]; rfl
  | d :: ds, _, r, h => by
    obtain ⟨v, t, rfl, h1, h2⟩ := r.cons_inv
    rw [List.all_cons, Bool.and_eq_true] at h
    rw [List.all_cons, Bool.and_eq_true]
    exact ⟨leaf_flatV h1 h.1, leaf_all h2 h.2⟩
theorem leaf_eqv {d e : D} {v u : V} (rd : Rep K F d v) (re : Rep K F e u) (hd : leaf d = true) (he : leaf e = true) : eqV v u = eqv d e := by
  cases d <;> simp only [leaf, Bool.false_eq_true] at hd <;> cases e <;> simp only [leaf, Bool.false_eq_true] at he <;> simp only [Rep] at rd re <;> subst rd <;> subst re <;> simp only [eqv] <;> rfl
theorem leaf_in {d : D} {v : V} (rd : Rep K F d v) (hd : leaf d = true) : ∀ {ds : List D} {vs : List V}, RepL K F ds vs → ds.all leaf = true → inV v vs = ds.any fun y => eqv y d
  | [], _, r, _ => by rw [r.nil_inv]; rfl
  | e :: ds, _, r, h => by
    obtain ⟨u, t, rfl, h1, h2⟩ := r.cons_inv
    rw [List.all_cons, Bool.and_eq_true] at h
    have ih := leaf_in rd hd h2 h.2
    show (u :: t).any (fun y => eqV y v) = _
    rw [List.any_cons, List.any_cons, leaf_eqv h1 rd h.1 hd, ← ih]
    rfl
theorem OpR.imp {f : Value → Value → Sem Value} {r r' : R2} (o : OpR X f r) (h : ∀ x y H Q, r' x y H Q → r x y H Q) : OpR X f r' :=
  fun pins s σ H x y v u Q I rx ry q => o pins s σ H x y v u Q I rx ry (h _ _ _ _ q)
theorem any_py (n m : Nat) (d : D) (hd : flat n d = true) : ∀ es : List D, flatL m es = true → ((pyL es).any fun z => PyData.eqv z (py d)) = es.any fun y => eqv y d
  | [], _ => rfl
  | e :: es, h => by
    simp only [flatL, Bool.and_eq_true] at h
    show (py e :: pyL es).any _ = _
    rw [List.any_cons, List.any_cons, any_py n m d hd es h.2, eqv_py m n e d h.1 hd]
theorem op_inn {f : Value → Value → Sem Value} {g : Bool → Bool} (o1 : OpR X f (fun x y H Q => ∃ p xs, y = .ref p ∧ (SqL X.K H p xs ∨ SqT X.K H p xs) ∧ flatV x = true ∧ xs.all flatV = true ∧ Q (.bl (g (inV x xs))) H))
    (o2 : OpR X f (fun x y H Q => ∃ i j, x = .str i ∧ y = .str j ∧ Q (.bl (g (!(Builtin.Str.occurrences j i 0 j.length 1).isEmpty))) H))
    (o3 : OpR X f (fun x y H Q => ∃ d ds, Dp X.K H x d ∧ Dp X.K H y (.list ds) ∧ SeqAt.shaped d = true ∧ SeqAt.shaped (.list ds) = true ∧ Q (.bl (g (ds.any fun z => PyData.eqv z d))) H)) :
    OpR X f (fun x y H Q => ∃ F d e b, Same F H ∧ Rep X.K F d x ∧ Rep X.K F e y ∧ inD d e = some b ∧ Q (.bl (g b)) H) := by
  intro pins s σ H x y v u Q I rx ry h
  obtain ⟨F, d, e, b, sF, rd, re, hb, q⟩ := h
  cases e with
  | tup es =>
    have hb' : (if (leaf d && es.all leaf) = true then some (es.any fun y => eqv y d) else none) = some b := by cases d <;> exact hb
    split at hb'
    · rename_i hc
      simp only [Bool.and_eq_true] at hc
      cases hb'
      obtain ⟨a, vs, rfl, h1, h2⟩ := Rep.tup_iff.mp re
      exact o1 pins s σ H x _ v u Q I rx ry ⟨a, vs, rfl, .inr (Same.seqT sF h1), leaf_flatV rd hc.1, leaf_all h2 hc.2, by rw [leaf_in rd hc.1 h2 hc.2]; exact q⟩
    · cases hb'
  | lst es =>
    have hb' : (if ((leaf d && es.all leaf) || (flat 60 d && flatL 59 es)) = true then some (es.any fun y => eqv y d) else none) = some b := by cases d <;> exact hb
    split at hb'
    · rename_i hc
      cases hb'
      by_cases hc : (leaf d && es.all leaf) = true
      · simp only [Bool.and_eq_true] at hc
        obtain ⟨a, vs, rfl, h1, h2⟩ := Rep.lst_iff.mp re
        exact o1 pins s σ H x _ v u Q I rx ry ⟨a, vs, rfl, .inl (.inl (.inl (sF _ _ h1))), leaf_flatV rd hc.1, leaf_all h2 hc.2, by rw [leaf_in rd hc.1 h2 hc.2]; exact q⟩
      · rename_i hd
        rw [Bool.or_eq_true] at hd
        have hd := hd.resolve_left hc
        rw [Bool.and_eq_true] at hd
        have h2 : flat 60 (.lst es) = true := hd.2
        exact o3 pins s σ H x y v u Q I rx ry ⟨py d, pyL es, dp_mono sF (Rep.dp _ d x hd.1 rd), dp_mono sF (Rep.dp _ (.lst es) y h2 re), flat_shaped hd.1, flat_shaped (d := .lst es) h2, by rw [any_py 60 59 d hd.1 es hd.2]; exact q⟩
    · cases hb'
  | str z =>
    cases d with
    | str w' =>
      have hb' : some (!(Builtin.Str.occurrences z w' 0 z.length 1).isEmpty) = some b := hb
      cases hb'
      exact o2 pins s σ H x y v u Q I rx ry ⟨w', z, Rep.str_iff.mp rd, Rep.str_iff.mp re, q⟩
    | _ => cases hb
  | _ => cases d <;> cases hb
theorem op_C (hu5 : X.A.units + 65 < cLine) : ∀ o : COp, OpR X (compareOp (cOp o)) (rC X.K o)
  | .eq => by
    refine OpR.imp (op_eqD (by omega)) fun x y H Q h => ?_
    obtain ⟨F, d, e, b, sF, rd, re, hb, q⟩ := h
    simp only [cmpD] at hb
    split at hb
    · rename_i hc
      simp only [Bool.and_eq_true] at hc
      cases hb
      exact ⟨_, _, dp_mono sF (Rep.dp _ d x hc.1 rd), dp_mono sF (Rep.dp _ e y hc.2 re), flat_shaped hc.1, flat_shaped hc.2, by rw [eqv_py _ _ d e hc.1 hc.2]; exact q⟩
    · cases hb
  | .ne => by
    refine OpR.imp (op_neD (by omega)) fun x y H Q h => ?_
    obtain ⟨F, d, e, b, sF, rd, re, hb, q⟩ := h
    simp only [cmpD] at hb
    split at hb
    · rename_i hc
      simp only [Bool.and_eq_true] at hc
      cases hb
      exact ⟨_, _, dp_mono sF (Rep.dp _ d x hc.1 rd), dp_mono sF (Rep.dp _ e y hc.2 re), flat_shaped hc.1, flat_shaped hc.2, by rw [eqv_py _ _ d e hc.1 hc.2]; exact q⟩
    · cases hb
  | .lt => by
    intro pins s σ H x y v u Q I rx ry h
    obtain ⟨F, d, e, b, sF, rd, re, hb, q⟩ := h
    simp only [cmpD] at hb
    cases d <;> cases e <;> simp only [ltD, Option.some.injEq, reduceCtorEq] at hb
    · subst hb
      exact op_lt pins s σ H x y v u Q I rx ry ⟨_, _, Rep.int_iff.mp rd, Rep.int_iff.mp re, q⟩
    · subst hb
      exact op_lt_str pins s σ H x y v u Q I rx ry ⟨_, _, Rep.str_iff.mp rd, Rep.str_iff.mp re, q⟩
    · simp only [Option.bind_eq_some_iff, Option.map_eq_some_iff] at hb
      obtain ⟨ns, e1, ms, e2, rfl⟩ := hb
      rw [intsOf_map e1] at rd
      rw [intsOf_map e2] at re
      obtain ⟨a, vs, rfl, h1, h2⟩ := Rep.tup_iff.mp rd
      obtain ⟨a', vs', rfl, h1', h2'⟩ := Rep.tup_iff.mp re
      rw [h2.ints] at h1
      rw [h2'.ints] at h1'
      exact op_ltT (by omega) pins s σ H _ _ v u Q I rx ry ⟨a, a', ns, ms, rfl, rfl, Same.seqT sF h1, Same.seqT sF h1', q⟩
  | .gt => by
    intro pins s σ H x y v u Q I rx ry h
    obtain ⟨F, d, e, b, sF, rd, re, hb, q⟩ := h
    simp only [cmpD] at hb
    cases d <;> cases e <;> simp only [gtD, Option.some.injEq, reduceCtorEq] at hb
    · subst hb
      exact op_gt pins s σ H x y v u Q I rx ry ⟨_, _, Rep.int_iff.mp rd, Rep.int_iff.mp re, q⟩
    · subst hb
      exact op_gt_str pins s σ H x y v u Q I rx ry ⟨_, _, Rep.str_iff.mp rd, Rep.str_iff.mp re, q⟩
  | .le => by
    intro pins s σ H x y v u Q I rx ry h
    obtain ⟨F, d, e, b, sF, rd, re, hb, q⟩ := h
    simp only [cmpD] at hb
    cases d <;> cases e <;> simp only [leD, Option.some.injEq, reduceCtorEq] at hb
    · subst hb
      exact op_le pins s σ H x y v u Q I rx ry ⟨_, _, Rep.int_iff.mp rd, Rep.int_iff.mp re, q⟩
  | .ge => by
    intro pins s σ H x y v u Q I rx ry h
    obtain ⟨F, d, e, b, sF, rd, re, hb, q⟩ := h
    simp only [cmpD] at hb
    cases d <;> cases e <;> simp only [geD, Option.some.injEq, reduceCtorEq] at hb
    · subst hb
      exact op_ge pins s σ H x y v u Q I rx ry ⟨_, _, Rep.int_iff.mp rd, Rep.int_iff.mp re, q⟩
  | .is => by
    refine OpR.imp op_isN fun x y H Q h => ?_
    obtain ⟨F, d, e, b, sF, rd, re, hb, q⟩ := h
    cases e <;> simp only [cmpD, Option.some.injEq, reduceCtorEq] at hb
    subst hb
    exact ⟨Rep.non_iff.mp re, by rw [isNon_iff rd]; exact q⟩
  | .isn => by
    refine OpR.imp op_notN fun x y H Q h => ?_
    obtain ⟨F, d, e, b, sF, rd, re, hb, q⟩ := h
    cases e <;> simp only [cmpD, Option.some.injEq, reduceCtorEq] at hb
    subst hb
    exact ⟨Rep.non_iff.mp re, by rw [isNon_iff rd]; exact q⟩
  | .in_ => op_inn (g := fun b => b) op_in_seq op_in_str (op_inD hu5)
  | .nin => by
    refine OpR.imp (op_inn (g := fun b => !b) op_notIn_seq op_notIn_str (op_notInD hu5)) fun x y H Q h => ?_
    obtain ⟨F, d, e, b, sF, rd, re, hb, q⟩ := h
    simp only [cmpD, Option.map_eq_some_iff] at hb
    obtain ⟨b', hb', rfl⟩ := hb
    exact ⟨F, d, e, b', sF, rd, re, hb', q⟩
end

/-! ### what is new -/
/-- v stands for d; if d is a list or a dict, it is new since H, and not of the part F' that stays -/
def RepF (K : PySem.W.Frag) (F' H H' : Hp) : D → V → Prop
  | .lst ds, v => ∃ p vs, v = .ref p ∧ H p = none ∧ H' p = some (.lst vs) ∧ F' p = none ∧ RepL K F' ds vs
  | .dic ks ds, v => ∃ p kvs, v = .ref p ∧ H p = none ∧ H' p = some (.dK kvs) ∧ F' p = none ∧ ks = kvs.map (fun q => keyD q.1) ∧ (kvs.map (·.1)).Nodup ∧ RepL K F' ds (kvs.map (·.2))
  | d, v => Rep K F' d v
/-- what is new becomes part of what stays -/
theorem RepF.rep {K : PySem.W.Frag} {F H F' H' : Hp} {d : D} {v : V} (e : Ex H F H' F') (r : RepF K F' H H' d v) : ∃ F2, Ex H F H' F2 ∧ Rep K F2 d v := by
  cases d <;> simp only [RepF] at r <;> try exact ⟨F', e, r⟩
  · obtain ⟨p, vs, rfl, h1, h2, h3, h4⟩ := r
    refine ⟨upd F' p (.lst vs), ⟨e.sH, e.sF.trans (same_upd h3), fun b o q => ?_, fun b o q1 q2 => ?_⟩, Rep.lst_iff.mpr ⟨p, vs, rfl, upd_same, h4.mono (same_upd h3)⟩⟩
    · by_cases hb : b = p
      · subst hb; rw [upd_same] at q; rw [← q]; exact h2
      · rw [upd_ne hb] at q; exact e.sFH _ _ q
    · rw [upd_ne (ne_of_none q2 h1)]; exact e.new _ _ q1 q2
  · obtain ⟨p, kvs, rfl, h1, h2, h3, h5, h6, h4⟩ := r
    refine ⟨upd F' p (.dK kvs), ⟨e.sH, e.sF.trans (same_upd h3), fun b o q => ?_, fun b o q1 q2 => ?_⟩, Rep.dic_iff.mpr ⟨p, kvs, rfl, .inl upd_same, h5, h6, h4.mono (same_upd h3)⟩⟩
    · by_cases hb : b = p
      · subst hb; rw [upd_same] at q; rw [← q]; exact h2
      · rw [upd_ne hb] at q; exact e.sFH _ _ q
    · rw [upd_ne (ne_of_none q2 h1)]; exact e.new _ _ q1 q2
/-- the reading of what makes a value -/
def rMk (K : PySem.W.Frag) (r : Option D) (F : Hp) (H : Hp) (Q : VK) : Prop := ∃ d, r = some d ∧ ∀ v H' F', Ex H F H' F' → RepF K F' H H' d v → Q v H'

/-! ### operators -/
def addD : D → D → Option D
  | .int i, .int j => some (.int (i + j))
  | .str x, .str y => if x.length + y.length ≤ lim then some (.str (x ++ y)) else none
  | .tup xs, .tup ys => if xs.length + ys.length ≤ lim then some (.tup (xs ++ ys)) else none
  | .lst xs, .lst ys => if xs.length + ys.length ≤ lim then some (.lst (xs ++ ys)) else none
  | _, _ => none
def mulD : D → D → Option D
  | .int i, .int j => if (-(2 ^ 64) < i ∧ i < 2 ^ 64) ∨ (-(2 ^ 64) < j ∧ j < 2 ^ 64) then some (.int (i * j)) else none
  | .lst xs, .int k => if -(2 ^ 63) ≤ k ∧ k < 2 ^ 63 ∧ xs.length * k.toNat ≤ lim then some (.lst (List.replicate k.toNat xs).flatten) else none
  | .tup xs, .int k => if -(2 ^ 63) ≤ k ∧ k ≤ 1000 ∧ xs.length ≤ 1000 then some (.tup (List.replicate k.toNat xs).flatten) else none
  | _, _ => none
def binD : BOp → D → D → Option D
  | .add, d, e => addD d e
  | .mul, d, e => mulD d e
  | .sub, .int i, .int j => some (.int (i - j))
  | .div, .int i, .int j => if 0 < j ∧ j < 1073741824 then some (.int (i / j)) else none
  | .mod, .int i, .int j => if 0 < j then some (.int (i % j)) else none
  | .pow, .int i, .int j => if 0 ≤ j ∧ j ≤ 1000000 ∧ i.natAbs < 2 ^ 64 then some (.int (i ^ j.toNat)) else none
  | .shl, .int i, .int j => if 0 ≤ j ∧ j ≤ 1000000 ∧ i.natAbs < 2 ^ 64 then some (.int (i * 2 ^ j.toNat)) else none
  | .shr, .int i, .int j => if 0 ≤ j then some (.int (i / 2 ^ j.toNat)) else none
  | .and, .int i, .int j => some (.int (Builtin.bitAnd i j))
  | .or, .int i, .int j => some (.int (Builtin.bitOr i j))
  | .xor, .int i, .int j => some (.int (Builtin.bitXor i j))
  | _, _, _ => none
def bOp : BOp → Operator
  | .add => .Add | .sub => .Sub | .mul => .Mult | .div => .FloorDiv | .mod => .Mod | .pow => .Pow | .shl => .LShift | .shr => .RShift | .and => .BitAnd | .or => .BitOr | .xor => .BitXor
def rB (K : PySem.W.Frag) (o : BOp) : R2 := fun x y H Q => ∃ F d e, Same F H ∧ Rep K F d x ∧ Rep K F e y ∧ rMk K (binD o d e) F H Q
section
variable {X : Cx} {K : PySem.W.Frag} {F H : Hp}
theorem rMk.int {i : Int} {Q : VK} (s : Same F H) (h : rMk K (some (.int i)) F H Q) : Q (.int i) H := by
  obtain ⟨d, e, q⟩ := h
  cases e
  exact q _ H F (Ex.refl s) (show Rep K F (.int i) (.int i) from Rep.int_iff.mpr rfl)
theorem rMk.str {i : Str} {Q : VK} (s : Same F H) (h : rMk K (some (.str i)) F H Q) : Q (.str i) H := by
  obtain ⟨d, e, q⟩ := h
  cases e
  exact q _ H F (Ex.refl s) (show Rep K F (.str i) (.str i) from Rep.str_iff.mpr rfl)
theorem rMk.bl {i : Bool} {Q : VK} (s : Same F H) (h : rMk K (some (.bl i)) F H Q) : Q (.bl i) H := by
  obtain ⟨d, e, q⟩ := h
  cases e
  exact q _ H F (Ex.refl s) (show Rep K F (.bl i) (.bl i) from Rep.bl_iff.mpr rfl)
theorem rMk.lst {ds : List D} {vs : List V} {Q : VK} (s : Same F H) (r : RepL K F ds vs) (h : rMk K (some (.lst ds)) F H Q) : ∀ p, H p = none → Q (.ref p) (upd H p (.lst vs)) := fun p hp => by
  obtain ⟨d, e, q⟩ := h
  cases e
  exact q _ _ F (Ex.allocH s hp) ⟨p, vs, rfl, hp, upd_same, s.free hp, r⟩
theorem rMk.tup {ds : List D} {vs : List V} {Q : VK} (s : Same F H) (r : RepL K F ds vs) (h : rMk K (some (.tup ds)) F H Q) : ∀ p, H p = none → Q (.ref p) (upd H p (.tup vs)) := fun p hp => by
  obtain ⟨d, e, q⟩ := h
  cases e
  exact q _ _ (upd F p (.tup vs)) (Ex.alloc s hp) (show Rep K (upd F p (.tup vs)) (.tup ds) (.ref p) from Rep.tup_iff.mpr ⟨p, vs, rfl, .inl (.inl upd_same), r.mono (same_upd (s.free hp))⟩)
theorem rMk.same {d : D} {v : V} {Q : VK} (s : Same F H) (hd : ∀ ds, d ≠ .lst ds) (hd2 : ∀ ks ds, d ≠ .dic ks ds) (r : Rep K F d v) (h : rMk K (some d) F H Q) : Q v H := by
  obtain ⟨d', e, q⟩ := h
  cases e
  refine q _ H F (Ex.refl s) ?_
  cases d <;> first | exact r | exact absurd rfl (hd _) | exact absurd rfl (hd2 _ _)
theorem RepL.flat {ds : List D} {vs : List V} (r : RepL K F ds vs) : ∀ n, RepL K F (List.replicate n ds).flatten (List.replicate n vs).flatten
  | 0 => RepL.nil
  | n + 1 => by
    rw [List.replicate_succ, List.replicate_succ, List.flatten_cons, List.flatten_cons]
    exact RepL.append r (RepL.flat r n)
theorem op_B : ∀ o : BOp, OpR X (binaryOp (bOp o)) (rB X.K o)
  | .add => by
    intro pins s σ H x y v u Q I rx ry h
    obtain ⟨F, d, e, sF, rd, re, m⟩ := h
    cases d <;> cases e <;> simp only [binD, addD] at m <;> try (obtain ⟨_, z, _⟩ := m; cases z; done)
    · exact op_add pins s σ H x y v u Q I rx ry ⟨_, _, Rep.int_iff.mp rd, Rep.int_iff.mp re, m.int sF⟩
    · split at m
      · rename_i hl
        exact op_add_str pins s σ H x y v u Q I rx ry ⟨_, _, Rep.str_iff.mp rd, Rep.str_iff.mp re, hl, m.str sF⟩
      · obtain ⟨_, z, _⟩ := m; cases z
    · rename_i ds es
      split at m
      · rename_i hl
        obtain ⟨a, vs, rfl, h1, h2⟩ := Rep.tup_iff.mp rd
        obtain ⟨a', us, rfl, h1', h2'⟩ := Rep.tup_iff.mp re
        have l1 := h2.length
        have l2 := h2'.length
        refine op_catA pins s σ H _ _ v u Q I rx ry ⟨a, a', vs, us, rfl, rfl, Same.seqT sF h1, Same.seqT sF h1', by rw [← l1, ← l2]; exact hl, fun z => ?_, fun _ z => ?_, fun _ _ => m.tup sF (h2.append h2')⟩
        · subst z
          have e0 : ds = [] := List.length_eq_zero_iff.mp l1
          subst e0
          exact m.same sF (by intro _ q; cases q) (by intro _ _ q; cases q) re
        · subst z
          have e0 : es = [] := List.length_eq_zero_iff.mp l2
          subst e0
          rw [List.append_nil] at m
          exact m.same sF (by intro _ q; cases q) (by intro _ _ q; cases q) rd
      · obtain ⟨_, z, _⟩ := m; cases z
    · split at m
      · rename_i hl
        obtain ⟨a, vs, rfl, h1, h2⟩ := Rep.lst_iff.mp rd
        obtain ⟨a', us, rfl, h1', h2'⟩ := Rep.lst_iff.mp re
        exact op_cat pins s σ H _ _ v u Q I rx ry ⟨a, a', vs, us, rfl, rfl, sF _ _ h1, sF _ _ h1', by rw [← h2.length, ← h2'.length]; exact hl, m.lst sF (h2.append h2')⟩
      · obtain ⟨_, z, _⟩ := m; cases z
  | .mul => by
    intro pins s σ H x y v u Q I rx ry h
    obtain ⟨F, d, e, sF, rd, re, m⟩ := h
    cases d <;> cases e <;> simp only [binD, mulD] at m <;> try (obtain ⟨_, z, _⟩ := m; cases z; done)
    · split at m
      · rename_i hl
        exact op_mul pins s σ H x y v u Q I rx ry ⟨_, _, Rep.int_iff.mp rd, Rep.int_iff.mp re, hl, m.int sF⟩
      · obtain ⟨_, z, _⟩ := m; cases z
    · split at m
      · rename_i hl
        obtain ⟨a, vs, rfl, h1, h2⟩ := Rep.tup_iff.mp rd
        refine op_mulT pins s σ H _ _ v u Q I rx ry ⟨a, _, vs, rfl, Rep.int_iff.mp re, Same.seqT sF h1, hl.1, hl.2.1, by rw [← h2.length]; exact hl.2.2, fun z => ?_, fun _ => m.tup sF (h2.flat _)⟩
        rcases z with z | z
        · subst z
          have e : (List.replicate (1 : Int).toNat ‹List D›).flatten = ‹List D› := by simp
          rw [e] at m
          exact m.same sF (by intro _ q; cases q) (by intro _ _ q; cases q) rd
        · subst z
          have e0 : ‹List D› = [] := List.length_eq_zero_iff.mp h2.length
          have e : ∀ k : Nat, (List.replicate k ([] : List D)).flatten = [] := fun k => by simp
          rw [e0] at m rd
          rw [e] at m
          exact m.same sF (by intro _ q; cases q) (by intro _ _ q; cases q) rd
      · obtain ⟨_, z, _⟩ := m; cases z
    · split at m
      · rename_i hl
        obtain ⟨a, vs, rfl, h1, h2⟩ := Rep.lst_iff.mp rd
        exact op_rep pins s σ H _ _ v u Q I rx ry ⟨a, _, vs, rfl, Rep.int_iff.mp re, sF _ _ h1, hl.1, hl.2.1, by rw [← h2.length]; exact hl.2.2, m.lst sF (h2.flat _)⟩
      · obtain ⟨_, z, _⟩ := m; cases z
  | .sub => by
    intro pins s σ H x y v u Q I rx ry h
    obtain ⟨F, d, e, sF, rd, re, m⟩ := h
    cases d <;> cases e <;> simp only [binD] at m <;> try (obtain ⟨_, z, _⟩ := m; cases z; done)
    exact op_sub pins s σ H x y v u Q I rx ry ⟨_, _, Rep.int_iff.mp rd, Rep.int_iff.mp re, m.int sF⟩
  | .div => by
    intro pins s σ H x y v u Q I rx ry h
    obtain ⟨F, d, e, sF, rd, re, m⟩ := h
    cases d <;> cases e <;> simp only [binD] at m <;> try (obtain ⟨_, z, _⟩ := m; cases z; done)
    split at m
    · rename_i hl
      exact op_fdiv pins s σ H x y v u Q I rx ry ⟨_, _, Rep.int_iff.mp rd, Rep.int_iff.mp re, hl, m.int sF⟩
    · obtain ⟨_, z, _⟩ := m; cases z
  | .mod => by
    intro pins s σ H x y v u Q I rx ry h
    obtain ⟨F, d, e, sF, rd, re, m⟩ := h
    cases d <;> cases e <;> simp only [binD] at m <;> try (obtain ⟨_, z, _⟩ := m; cases z; done)
    split at m
    · rename_i hl
      exact op_mod pins s σ H x y v u Q I rx ry ⟨_, _, Rep.int_iff.mp rd, Rep.int_iff.mp re, hl, m.int sF⟩
    · obtain ⟨_, z, _⟩ := m; cases z
  | .pow => by
    intro pins s σ H x y v u Q I rx ry h
    obtain ⟨F, d, e, sF, rd, re, m⟩ := h
    cases d <;> cases e <;> simp only [binD] at m <;> try (obtain ⟨_, z, _⟩ := m; cases z; done)
    split at m
    · rename_i hl
      exact op_pow pins s σ H x y v u Q I rx ry ⟨_, _, Rep.int_iff.mp rd, Rep.int_iff.mp re, hl, m.int sF⟩
    · obtain ⟨_, z, _⟩ := m; cases z
  | .shl => by
    intro pins s σ H x y v u Q I rx ry h
    obtain ⟨F, d, e, sF, rd, re, m⟩ := h
    cases d <;> cases e <;> simp only [binD] at m <;> try (obtain ⟨_, z, _⟩ := m; cases z; done)
    split at m
    · rename_i hl
      exact op_shl pins s σ H x y v u Q I rx ry ⟨_, _, Rep.int_iff.mp rd, Rep.int_iff.mp re, hl, m.int sF⟩
    · obtain ⟨_, z, _⟩ := m; cases z
  | .shr => by
    intro pins s σ H x y v u Q I rx ry h
    obtain ⟨F, d, e, sF, rd, re, m⟩ := h
    cases d <;> cases e <;> simp only [binD] at m <;> try (obtain ⟨_, z, _⟩ := m; cases z; done)
    split at m
    · rename_i hl
      exact op_shr pins s σ H x y v u Q I rx ry ⟨_, _, Rep.int_iff.mp rd, Rep.int_iff.mp re, hl, m.int sF⟩
    · obtain ⟨_, z, _⟩ := m; cases z
  | .and => by
    intro pins s σ H x y v u Q I rx ry h
    obtain ⟨F, d, e, sF, rd, re, m⟩ := h
    cases d <;> cases e <;> simp only [binD] at m <;> try (obtain ⟨_, z, _⟩ := m; cases z; done)
    exact op_and pins s σ H x y v u Q I rx ry ⟨_, _, Rep.int_iff.mp rd, Rep.int_iff.mp re, m.int sF⟩
  | .or => by
    intro pins s σ H x y v u Q I rx ry h
    obtain ⟨F, d, e, sF, rd, re, m⟩ := h
    cases d <;> cases e <;> simp only [binD] at m <;> try (obtain ⟨_, z, _⟩ := m; cases z; done)
    exact op_or pins s σ H x y v u Q I rx ry ⟨_, _, Rep.int_iff.mp rd, Rep.int_iff.mp re, m.int sF⟩
  | .xor => by
    intro pins s σ H x y v u Q I rx ry h
    obtain ⟨F, d, e, sF, rd, re, m⟩ := h
    cases d <;> cases e <;> simp only [binD] at m <;> try (obtain ⟨_, z, _⟩ := m; cases z; done)
    exact op_xor pins s σ H x y v u Q I rx ry ⟨_, _, Rep.int_iff.mp rd, Rep.int_iff.mp re, m.int sF⟩
/-! ### truth -/
def truD : D → Option Bool
  | .non => some false
  | .bl b => some b
  | .int i => some (i != 0)
  | .str x => if x.length ≤ lim then some ((x.length : Int) != 0) else none
  | .tup xs => some (!xs.isEmpty)
  | .lst xs => some (!xs.isEmpty)
  | _ => none
theorem tru_D {d : D} {v : V} {b : Bool} (s : Same F H) (r : Rep K F d v) (h : truD d = some b) : TruV K v H b := by
  cases d <;> simp only [truD, Option.some.injEq, reduceCtorEq] at h
  · rw [Rep.non_iff.mp r]; exact h.symm
  · rw [Rep.bl_iff.mp r]; exact h.symm
  · rw [Rep.int_iff.mp r]; exact h.symm
  · split at h
    · rename_i hl
      cases h
      rw [Rep.str_iff.mp r]; exact ⟨hl, rfl⟩
    · cases h
  · obtain ⟨a, vs, rfl, h1, h2⟩ := Rep.tup_iff.mp r
    have l := h2.length
    refine .inr (.inl ⟨vs, Same.seqT s h1, ?_⟩)
    rw [← h]
    cases vs <;> cases ‹List D› <;> simp at l <;> rfl
  · obtain ⟨a, vs, rfl, h1, h2⟩ := Rep.lst_iff.mp r
    have l := h2.length
    refine .inl ⟨vs, .inl (.inl (s _ _ h1)), ?_⟩
    rw [← h]
    cases vs <;> cases ‹List D› <;> simp at l <;> rfl
end
end Z
/-! The language between: its terms, what they yield, how the given syntax becomes such a term. -/
namespace Z
open PySem PySem.Spec PyProof.Rows L2

inductive Blt where
  | len | abs | min | max | sum | any | all | int
/-- built-ins that make a list, a tuple -/
inductive Mkb where
  | tuple | list | sorted
inductive Ty where
  | int | bool | str | tuple | list | dict
mutual
inductive Tg where
  | nm (i : Nat)
  | tp (ts : Tgs)
inductive Tgs where
  | nil
  | cons (t : Tg) (r : Tgs)
end
mutual
inductive E where
  | cst (d : D)
  | glb (x : Str) (d : D)
  | var (i : Nat)
  | bin (o : BOp) (a b : E)
  | neg (a : E)
  | cmp (o : COp) (a b : Bo)
  | chn (o p : COp) (a b c : E)
  | and_ (a b : E)
  | or_ (a b : E)
  | not_ (a : E)
  | ite (c a b : E)
  | tup (es : Es)
  | lst (es : Es)
  | call (f : Nat) (es : Es)
  | blt (b : Blt) (es : Bs)
  | mkb (b : Mkb) (es : Es)
  | isi (a : E) (t : Ty)
  | ix (a : Bo) (i : E)
  | sl (a : E) (lo hi : Bd)
  | rev (a : E)
  | comp (x : E) (own : List Nat) (t : Tg) (it : It) (c : E)
  | gget (x : Str) (tab : List (Str × D)) (k d : E)
  | gix (x : Str) (tab : List (Str × D)) (k : E)
  | dget1 (a : Bo) (k : E)
  | dget (a : Bo) (k d : E)
  | dis (ks : List Key) (vs : Es)
/-- what is read where it stands alone: a name's list may be its own there -/
inductive Bo where
  | own (i : Nat)
  | ev (e : E)
inductive Bd where
  | no
  | to (e : E)
inductive Bs where
  | nil
  | cons (e : Bo) (r : Bs)
inductive Es where
  | nil
  | cons (e : E) (r : Es)
inductive It where
  | seq (e : E)
  | rng1 (a : E)
  | rng2 (a b : E)
  | enm (e : E)
  | zip (a b : E)
end

/-! ### results -/
inductive R (α : Type) where
  | ok (a : α)
  | exc (c : Str)
  | bad
def R.bind {α β : Type} (r : R α) (f : α → R β) : R β := match r with
  | .ok a => f a
  | .exc c => .exc c
  | .bad => .bad
def R.of {α : Type} : Option α → R α
  | some a => .ok a
  | none => .bad
/-- no error may come out of it -/
def R.calm {α : Type} : R α → R α
  | .ok a => .ok a
  | _ => .bad
theorem R.ok_bind {α β : Type} (a : α) (f : α → R β) : (R.ok a).bind f = f a := rfl
theorem R.of_some {α : Type} (a : α) : R.of (some a) = .ok a := rfl

/-! ### builtins -/
def blsOf : List D → Option (List Bool)
  | [] => some []
  | .bl b :: r => (blsOf r).map fun t => b :: t
  | _ :: _ => none
def greatest : List Int → Option Int
  | [] => none
  | [x] => some x
  | x :: r => (greatest r).map fun m => if m > x then m else x
def least : List Int → Option Int
  | [] => none
  | [x] => some x
  | x :: r => (least r).map fun m => if m < x then m else x
def bltD : Blt → List D → Option D
  | .len, [.tup xs] => some (.int xs.length)
  | .len, [.lst xs] => some (.int xs.length)
  | .len, [.scr xs] => some (.int xs.length)
  | .len, [.str x] => if x.length ≤ lim then some (.int x.length) else none
  | .abs, [.int i] => some (.int (if i < 0 then -i else i))
  | .min, [.int i, .int j] => some (.int (if j < i then j else i))
  | .max, [.int i, .int j] => some (.int (if j > i then j else i))
  | .min, [.lst xs] => (intsOf xs).bind fun ns => (least ns).map .int
  | .max, [.lst xs] => (intsOf xs).bind fun ns => (greatest ns).map .int
  | .min, [.tup xs] => (intsOf xs).bind fun ns => (least ns).map .int
  | .max, [.tup xs] => (intsOf xs).bind fun ns => (greatest ns).map .int
  | .sum, [.lst xs] => (intsOf xs).map fun ns => .int ns.sum
  | .any, [.lst xs] => (blsOf xs).map fun bs => .bl (bs.any id)
  | .all, [.lst xs] => (blsOf xs).map fun bs => .bl (bs.all id)
  | .int, [.int i] => some (.int i)
  | .int, [.bl b] => some (.int (if b then 1 else 0))
  | _, _ => none
/-- tuples of ints -/
def tisOf : List D → Option (List (List Int))
  | [] => some []
  | .tup xs :: r => (intsOf xs).bind fun ns => (tisOf r).map fun t => ns :: t
  | _ :: _ => none
def tupI (ns : List Int) : D := .tup (ns.map .int)
def insI (x : Int) : List Int → List Int
  | [] => [x]
  | y :: r => if x ≤ y then x :: y :: r else y :: insI x r
def sortI : List Int → List Int
  | [] => []
  | x :: r => insI x (sortI r)
def insT (x : List Int) : List (List Int) → List (List Int)
  | [] => [x]
  | y :: r => if HT.lexLt y x = true then y :: insT x r else x :: y :: r
def sortT : List (List Int) → List (List Int)
  | [] => []
  | x :: r => insT x (sortT r)
def sortD (xs : List D) : Option (List D) := match intsOf xs with
  | some ns => some ((sortI ns).map .int)
  | none => (match tisOf xs with
    | some ([] :: nss) => some ((sortT ([] :: nss)).map tupI)
    | _ => none)
def eqKey : D → Key → Bool
  | .int i, .inl j => decide (i = j)
  | .str x, .inr y => decide (x = y)
  | _, _ => false
def keyOf : D → Option Key
  | .int i => some (.inl i)
  | .str x => some (.inr x)
  | _ => none
/-- what stands at a key -/
def lookK : List D → List D → Key → Option D
  | k :: ks, v :: vs, q => if eqKey k q = true then some v else lookK ks vs q
  | _, _, _ => none
def dgetD (ks vs : List D) (y z : D) : Option D := (keyOf y).map fun k => (lookK ks vs k).getD z
def asDic : D → Option (List D × List D)
  | .dic ks vs => some (ks, vs)
  | _ => none
def mkbD : Mkb → List D → Option D
  | .sorted, [.lst xs] => (sortD xs).map .lst
  | .tuple, [.tup xs] => some (.tup xs)
  | .tuple, [.lst xs] => some (.tup xs)
  | .list, [.tup xs] => some (.lst xs)
  | .list, [.lst xs] => some (.lst xs)
  | _, _ => none
def tyD : D → Ty → Option Bool
  | .non, t => some false
  | .bl _, .int => some true
  | .bl _, .bool => some true
  | .bl _, _ => some false
  | .int _, .int => some true
  | .int _, _ => some false
  | .str _, .str => some true
  | .str _, _ => some false
  | .tup _, .tuple => some true
  | .tup _, _ => some false
  | .lst _, .list => some true
  | .lst _, _ => some false
  | .dic _ _, .dict => some true
  | .dic _ _, _ => some false
  | _, _ => none
def cutD (xs : List D) (lo hi : Option Int) : List D := (xs.drop (HT.sIx xs.length 0 lo)).take (HT.sIx xs.length xs.length hi - HT.sIx xs.length 0 lo)
def ixD : D → D → Option D
  | .tup xs, .int i => atI xs i
  | .lst xs, .int i => atI xs i
  | .str x, .int i => if x.length ≤ lim then (atI x.cps.toList i).map fun c => .str ⟨#[c]⟩ else none
  | .dic ks vs, y => (keyOf y).bind fun k => lookK ks vs k
  | _, _ => none
def slD : D → Option Int → Option Int → Option D
  | .tup xs, lo, hi => some (.tup (cutD xs lo hi))
  | .lst xs, lo, hi => some (.lst (cutD xs lo hi))
  | .scr ns, lo, hi => some (.lst (cutD (ns.map .int) lo hi))
  | .str x, lo, hi => if x.length ≤ lim then some (.str (cutS x lo hi)) else none
  | _, _, _ => none
/-- back to front -/
def revD : D → Option D
  | .lst xs => some (.lst xs.reverse)
  | _ => none
def itemsD : D → Option (List D)
  | .tup xs => some xs
  | .lst xs => some xs
  | .str x => some (x.cps.toList.map fun c => .str ⟨#[c]⟩)
  | _ => none
def itemsT : D → Option (List D)
  | .tup xs => some xs
  | .lst xs => some xs
  | _ => none
def enumL : Nat → List D → List D
  | _, [] => []
  | n, x :: r => .tup [.int (n : Nat), x] :: enumL (n + 1) r
def zipL : List D → List D → List D
  | x :: xs, y :: ys => .tup [x, y] :: zipL xs ys
  | _, _ => []
def rngL (lo : Int) : Nat → List D
  | n => (List.range n).map fun i => D.int (lo + (i : Nat))
def inRng (i : Int) : Bool := decide (-(2 ^ 62) ≤ i) && decide (i < 2 ^ 62)

/-! ### what terms yield -/
def look (ρ : Env') (i : Nat) : R D := match ρ[i]? with
  | some (.im d) => .ok d
  | _ => .bad
def lookB (ρ : Env') (i : Nat) : R D := match ρ[i]? with
  | some (.im d) => .ok d
  | some (.ow d) => .ok d
  | _ => .bad
mutual
def dTg : Tg → D → Env' → Option Env'
  | .nm i, d, ρ => some (ρ.set i (.im d))
  | .tp ts, .tup ds, ρ => dTgs ts ds ρ
  | .tp ts, .lst ds, ρ => dTgs ts ds ρ
  | .tp _, _, _ => none
def dTgs : Tgs → List D → Env' → Option Env'
  | .nil, [], ρ => some ρ
  | .cons t r, d :: ds, ρ => (dTg t d ρ).bind fun ρ' => dTgs r ds ρ'
  | _, _, _ => none
end
def wipeE (ρ : Env') : List Nat → Env'
  | [] => ρ
  | v :: vs => (wipeE ρ vs).set v .un
/-- the items that come, one after another -/
def compL (tg : D → Option Env') (c : Env' → R Bool) (x : Env' → R D) : List D → R (List D)
  | [] => .ok []
  | d :: ds => (R.of (tg d)).bind fun ρ => (c ρ).bind fun b =>
    if b = true then (x ρ).bind fun y => (compL tg c x ds).bind fun ys => .ok (y :: ys) else compL tg c x ds
section
variable (T : Nat → List D → R D)
/-- a value, and whether it is true -/
def tr (v : R D) : R D × R Bool := (v, v.bind fun x => R.of (truD x))
mutual
def dP : E → Env' → R D × R Bool
  | .cst d, _ => tr (.ok d)
  | .glb _ d, _ => tr (.ok d)
  | .var i, ρ => tr (look ρ i)
  | .bin o a b, ρ => tr ((dP a ρ).1.bind fun x => (dP b ρ).1.bind fun y => R.of (binD o x y))
  | .neg a, ρ => tr ((dP a ρ).1.bind fun x => match x with
    | .int i => .ok (.int (-i))
    | _ => .bad)
  | .cmp o a b, ρ => tr (((dO a ρ).bind fun x => (dO b ρ).bind fun y => R.of (cmpD o x y)).bind fun r => .ok (.bl r))
  | .chn o p a b c, ρ => tr (((dP a ρ).1.bind fun x => (dP b ρ).1.bind fun y => (R.of (cmpD o x y)).bind fun r =>
    if r = true then (dP c ρ).1.bind fun z => R.of (cmpD p y z) else .ok false).bind fun r => .ok (.bl r))
  | .and_ a b, ρ => ((dP a ρ).1.bind fun x => match x with
    | .bl c => if c = true then (dP b ρ).1 else .ok (.bl false)
    | _ => .bad, (dP a ρ).2.bind fun x => if x = true then (dP b ρ).2 else .ok false)
  | .or_ a b, ρ => ((dP a ρ).1.bind fun x => match x with
    | .bl c => if c = true then .ok (.bl true) else (dP b ρ).1
    | _ => .bad, (dP a ρ).2.bind fun x => if x = true then .ok true else (dP b ρ).2)
  | .not_ a, ρ => ((dP a ρ).1.bind fun x => match x with
    | .bl c => .ok (.bl (!c))
    | _ => .bad, (dP a ρ).2.bind fun x => .ok (!x))
  | .ite c a b, ρ => tr ((dP c ρ).2.bind fun t => if t = true then (dP a ρ).1 else (dP b ρ).1)
  | .tup es, ρ => tr ((dEs es ρ).bind fun ds => if ds.length ≤ lim then .ok (.tup ds) else .bad)
  | .lst es, ρ => tr ((dEs es ρ).bind fun ds => if ds.length ≤ lim then .ok (.lst ds) else .bad)
  | .call f es, ρ => tr ((dEs es ρ).bind fun ds => T f ds)
  | .blt b es, ρ => tr ((dBs es ρ).bind fun ds => R.of (bltD b ds))
  | .mkb b es, ρ => tr ((dEs es ρ).bind fun ds => R.of (mkbD b ds))
  | .isi a t, ρ => tr ((dP a ρ).1.bind fun x => (R.of (tyD x t)).bind fun r => .ok (.bl r))
  | .ix a i, ρ => tr ((dO a ρ).bind fun x => (dP i ρ).1.bind fun y => R.of (ixD x y))
  | .sl a lo hi, ρ => tr ((dP a ρ).1.bind fun x => (dBd lo ρ).bind fun l => (dBd hi ρ).bind fun h => R.of (slD x l h))
  | .rev a, ρ => tr ((dP a ρ).1.bind fun x => R.of (revD x))
  | .comp x own t it c, ρ => tr ((dIt it ρ).bind fun ds => if ds.length < lim then ((compL (fun d => dTg t d (wipeE ρ own)) (fun ρ => (dP c ρ).2) (fun ρ => (dP x ρ).1) ds).calm).bind fun ys => .ok (.lst ys) else .bad)
  | .gget _ tab k d, ρ => tr ((dP k ρ).1.bind fun y => (dP d ρ).1.bind fun z => match y with
    | .str q => .ok ((tab.lookup q).getD z)
    | _ => .bad)
  | .gix _ tab k, ρ => tr ((dP k ρ).1.bind fun y => match y with
    | .str q => R.of (tab.lookup q)
    | _ => .bad)
  | .dget1 a k, ρ => tr ((dO a ρ).bind fun x => (R.of (asDic x)).bind fun p => (dP k ρ).1.bind fun y => R.of (dgetD p.1 p.2 y .non))
  | .dget a k d, ρ => tr ((dO a ρ).bind fun x => (R.of (asDic x)).bind fun p => (dP k ρ).1.bind fun y => (dP d ρ).1.bind fun z => R.of (dgetD p.1 p.2 y z))
  | .dis ks vs, ρ => tr ((dEs vs ρ).bind fun ds => .ok (.dic (ks.map keyD) ds))
def dO : Bo → Env' → R D
  | .own i, ρ => lookB ρ i
  | .ev e, ρ => (dP e ρ).1
def dBd : Bd → Env' → R (Option Int)
  | .no, _ => .ok none
  | .to e, ρ => (dP e ρ).1.bind fun x => match x with
    | .int i => .ok (some i)
    | _ => .bad
def dBs : Bs → Env' → R (List D)
  | .nil, _ => .ok []
  | .cons e r, ρ => (dO e ρ).bind fun x => (dBs r ρ).bind fun xs => .ok (x :: xs)
def dEs : Es → Env' → R (List D)
  | .nil, _ => .ok []
  | .cons e r, ρ => (dP e ρ).1.bind fun x => (dEs r ρ).bind fun xs => .ok (x :: xs)
def dIt : It → Env' → R (List D)
  | .seq e, ρ => (dP e ρ).1.bind fun x => R.of (itemsD x)
  | .rng1 a, ρ => (dP a ρ).1.bind fun x => match x with
    | .int j => if inRng j = true then .ok (rngL 0 j.toNat) else .bad
    | _ => .bad
  | .rng2 a b, ρ => (dP a ρ).1.bind fun x => (dP b ρ).1.bind fun y => match x, y with
    | .int i, .int j => if (inRng i && inRng j) = true then .ok (rngL i (j - i).toNat) else .bad
    | _, _ => .bad
  | .enm e, ρ => (dP e ρ).1.bind fun x => (R.of (itemsT x)).bind fun ds => .ok (enumL 0 ds)
  | .zip a b, ρ => (dP a ρ).1.bind fun x => (dP b ρ).1.bind fun y => match x, y with
    | .lst xs, .lst ys => .ok (zipL xs ys)
    | .tup xs, .tup ys => .ok (zipL xs ys)
    | _, _ => .bad
end
def dE (e : E) (ρ : Env') : R D := (dP T e ρ).1
def dT (e : E) (ρ : Env') : R Bool := (dP T e ρ).2
end
end Z
/-! Readings of terms; how they follow one another; targets; the context. -/
namespace Z
open PySem PySem.Spec PyProof.Rows L2

/-! ### readings -/
section
variable (K : PySem.W.Frag) (W : WX) (mg : Str → Option Value)
def PostX {α : Type} (σ : L2.St) (H F : Hp) (G : α → Prop) : R α → Prop
  | .ok a => G a
  | .exc c => ∀ H' F' C, Ex H F H' F' → mg c = some (.ref C) → W (.ref C) none σ H'
  | .bad => False
/-- fr: what comes is new, if it is a list or a dict -/
def GE (fr : Bool) (H F : Hp) (Q : VK) (d : D) : Prop := ∀ v H' F', Ex H F H' F' → (if fr = true then RepF K F' H H' d v else Rep K F' d v) → Q v H'
def GT (H F : Hp) (Q : Bool → Hp → Prop) (b : Bool) : Prop := ∀ H' F', Ex H F H' F' → Q b H'
def GL (H F : Hp) (Q : List V → Hp → Prop) (ds : List D) : Prop := ∀ vs H' F', Ex H F H' F' → RepL K F' ds vs → Q vs H'
def tE (fr : Bool) (r : Env' → R D) : TE := fun σ H Q => ∃ H0 F0 ρ F A, Rl K H0 F0 ρ σ H F A ∧ PostX W mg σ H F (GE K fr H F Q) (r ρ)
def tT (r : Env' → R Bool) : TT := fun σ H Q => ∃ H0 F0 ρ F A, Rl K H0 F0 ρ σ H F A ∧ PostX W mg σ H F (GT H F Q) (r ρ)
def tL (r : Env' → R (List D)) : TA := fun σ H Q => ∃ H0 F0 ρ F A, Rl K H0 F0 ρ σ H F A ∧ PostX W mg σ H F (GL K H F Q) (r ρ)
/-- what stays, with the lists and dicts that one name knows -/
noncomputable def Fpl (ρ : Env') (A : Nat → Addr) (F H : Hp) : Hp := fun b => @ite (Option HO) (∃ i d, ρ[i]? = some (.ow d) ∧ A i = b) (Classical.propDecidable _) (H b) (F b)
/-- v stands for d over Fp; what it holds, over F -/
def RepS (F Fp : Hp) : D → V → Prop
  | .lst ds, v => ∃ a vs, v = .ref a ∧ Fp a = some (.lst vs) ∧ RepL K F ds vs
  | .dic ks ds, v => ∃ a kvs, v = .ref a ∧ Rd Fp a (.dK kvs) ∧ ks = kvs.map (fun p => keyD p.1) ∧ (kvs.map (·.1)).Nodup ∧ RepL K F ds (kvs.map (·.2))
  | d, v => Rep K F d v
def GB (ρ : Env') (A : Nat → Addr) (H F : Hp) (Q : VK) (d : D) : Prop := ∀ v H' F', Ex H F H' F' → RepS K F' (Fpl ρ A F' H') d v → Q v H'
def GBL (ρ : Env') (A : Nat → Addr) (H F : Hp) (Q : List V → Hp → Prop) (ds : List D) : Prop := ∀ vs H' F', Ex H F H' F' → RepL K (Fpl ρ A F' H') ds vs → Q vs H'
def tB (r : Env' → R D) : TE := fun σ H Q => ∃ H0 F0 ρ F A, Rl K H0 F0 ρ σ H F A ∧ PostX W mg σ H F (GB K ρ A H F Q) (r ρ)
def tBL (r : Env' → R (List D)) : TA := fun σ H Q => ∃ H0 F0 ρ F A, Rl K H0 F0 ρ σ H F A ∧ PostX W mg σ H F (GBL K ρ A H F Q) (r ρ)
end
section
variable {K : PySem.W.Frag} {W : WX} {mg : Str → Option Value} {σ : L2.St} {H0 F0 H F H1 F1 : Hp} {ρ : Env'} {A : Nat → Addr}
theorem PostX.imp {α β : Type} {G : α → Prop} {G' : β → Prop} {r : R α} {k : α → R β} (p : PostX W mg σ H F G' (r.bind k)) (h : ∀ a, PostX W mg σ H F G' (k a) → G a) : PostX W mg σ H F G r := by
  cases r with
  | ok a => exact h a p
  | exc c => exact p
  | bad => exact p
theorem PostX.go {α : Type} {G G' : α → Prop} {r : R α} (p : PostX W mg σ H F G r) (e : Ex H F H1 F1) (h : ∀ a, G a → G' a) : PostX W mg σ H1 F1 G' r := by
  cases r with
  | ok a => exact h a p
  | exc c => exact fun H' F' C e' m => p H' F' C (e.trans e') m
  | bad => exact p
theorem GE.go {fr : Bool} {Q : VK} {d : D} (g : GE K fr H F Q d) (e : Ex H F H1 F1) : GE K fr H1 F1 Q d := fun v H' F' e' r => by
  refine g v H' F' (e.trans e') ?_
  cases fr with
  | false => exact r
  | true =>
    simp only [if_true] at r ⊢
    cases d <;> simp only [RepF] at r ⊢ <;> try exact r
    · obtain ⟨p, vs, h1, h2, h3⟩ := r; exact ⟨p, vs, h1, e.sH.free h2, h3⟩
    · obtain ⟨p, vs, h1, h2, h3⟩ := r; exact ⟨p, vs, h1, e.sH.free h2, h3⟩
theorem PostX.goE {fr : Bool} {Q : VK} {r : R D} (p : PostX W mg σ H F (GE K fr H F Q) r) (e : Ex H F H1 F1) : PostX W mg σ H1 F1 (GE K fr H1 F1 Q) r := p.go e fun _ g => g.go e
theorem PostX.goT {Q : Bool → Hp → Prop} {r : R Bool} (p : PostX W mg σ H F (GT H F Q) r) (e : Ex H F H1 F1) : PostX W mg σ H1 F1 (GT H1 F1 Q) r := p.go e fun _ g => fun H' F' e' => g H' F' (e.trans e')
theorem PostX.goL {Q : List V → Hp → Prop} {r : R (List D)} (p : PostX W mg σ H F (GL K H F Q) r) (e : Ex H F H1 F1) : PostX W mg σ H1 F1 (GL K H1 F1 Q) r := p.go e fun _ g => fun vs H' F' e' q => g vs H' F' (e.trans e') q
theorem PostX.goB {Q : VK} {r : R D} (p : PostX W mg σ H F (GB K ρ A H F Q) r) (e : Ex H F H1 F1) : PostX W mg σ H1 F1 (GB K ρ A H1 F1 Q) r := p.go e fun _ g => fun v H' F' e' q => g v H' F' (e.trans e') q
theorem PostX.goBL {Q : List V → Hp → Prop} {r : R (List D)} (p : PostX W mg σ H F (GBL K ρ A H F Q) r) (e : Ex H F H1 F1) : PostX W mg σ H1 F1 (GBL K ρ A H1 F1 Q) r := p.go e fun _ g => fun v H' F' e' q => g v H' F' (e.trans e') q
theorem PostX.val {fr : Bool} {Q : VK} {r : Option D} {s : Same F H} (p : PostX W mg σ H F (GE K fr H F Q) (R.of r)) (hf : fr = true) : rMk K r F H Q := by
  subst hf
  cases r with
  | none => exact p.elim
  | some d => exact ⟨d, rfl, fun v H' F' e q => p v H' F' e (by simp only [if_true]; exact q)⟩
theorem PostX.of {α β : Type} {G : β → Prop} {o : Option α} {k : α → R β} (p : PostX W mg σ H F G ((R.of o).bind k)) : ∃ a, o = some a ∧ PostX W mg σ H F G (k a) := by
  cases o with
  | none => exact p.elim
  | some a => exact ⟨a, rfl, p⟩
/-- a first value, then the rest -/
theorem tE.seq {r : Env' → R D} {β : Type} {k : D → R β} {G : β → Prop} {Q1 : VK} (rl : Rl K H0 F0 ρ σ H F A) (p : PostX W mg σ H F G ((r ρ).bind k))
    (h : ∀ d v H1 F1, Ex H F H1 F1 → Rep K F1 d v → PostX W mg σ H F G (k d) → Q1 v H1) : tE K W mg false r σ H Q1 :=
  ⟨H0, F0, ρ, F, A, rl, p.imp fun d q v H' F' e rr => h d v H' F' e (by simpa using rr) q⟩
theorem tT.seq {r : Env' → R Bool} {β : Type} {k : Bool → R β} {G : β → Prop} {Q1 : Bool → Hp → Prop} (rl : Rl K H0 F0 ρ σ H F A) (p : PostX W mg σ H F G ((r ρ).bind k))
    (h : ∀ b H1 F1, Ex H F H1 F1 → PostX W mg σ H F G (k b) → Q1 b H1) : tT K W mg r σ H Q1 :=
  ⟨H0, F0, ρ, F, A, rl, p.imp fun d q H' F' e => h d H' F' e q⟩
theorem tL.seq {r : Env' → R (List D)} {β : Type} {k : List D → R β} {G : β → Prop} {Q1 : List V → Hp → Prop} (rl : Rl K H0 F0 ρ σ H F A) (p : PostX W mg σ H F G ((r ρ).bind k))
    (h : ∀ ds vs H1 F1, Ex H F H1 F1 → RepL K F1 ds vs → PostX W mg σ H F G (k ds) → Q1 vs H1) : tL K W mg r σ H Q1 :=
  ⟨H0, F0, ρ, F, A, rl, p.imp fun d q v H' F' e rr => h d v H' F' e rr q⟩
theorem tB.seq {r : Env' → R D} {β : Type} {k : D → R β} {G : β → Prop} {Q1 : VK} (rl : Rl K H0 F0 ρ σ H F A) (p : PostX W mg σ H F G ((r ρ).bind k))
    (h : ∀ d v H1 F1, Ex H F H1 F1 → RepS K F1 (Fpl ρ A F1 H1) d v → PostX W mg σ H F G (k d) → Q1 v H1) : tB K W mg r σ H Q1 :=
  ⟨H0, F0, ρ, F, A, rl, p.imp fun d q v H' F' e rr => h d v H' F' e rr q⟩
theorem tBL.seq {r : Env' → R (List D)} {β : Type} {k : List D → R β} {G : β → Prop} {Q1 : List V → Hp → Prop} (rl : Rl K H0 F0 ρ σ H F A) (p : PostX W mg σ H F G ((r ρ).bind k))
    (h : ∀ ds vs H1 F1, Ex H F H1 F1 → RepL K (Fpl ρ A F1 H1) ds vs → PostX W mg σ H F G (k ds) → Q1 vs H1) : tBL K W mg r σ H Q1 :=
  ⟨H0, F0, ρ, F, A, rl, p.imp fun d q v H' F' e rr => h d v H' F' e rr q⟩
theorem PE.imp {X : Cx} {e : Expr} {t t' : TE} (h : PE X e t) (i : ∀ σ H Q, t' σ H Q → t σ H Q) : PE X e t' := ⟨fun pins s σ H Q I q => h.run pins s σ H Q I (i σ H Q q)⟩
theorem PT.imp {X : Cx} {e : Expr} {t t' : TT} (h : PT X e t) (i : ∀ σ H Q, t' σ H Q → t σ H Q) : PT X e t' := ⟨fun pins s σ H Q I q => h.run pins s σ H Q I (i σ H Q q)⟩
theorem PW.imp {X : Cx} {e : Expr} {t t' : TT} (h : PW X e t) (i : ∀ σ H Q, t' σ H Q → t σ H Q) : PW X e t' := ⟨fun wh pins s σ H Q I q => h.run wh pins s σ H Q I (i σ H Q q)⟩
theorem PA.imp {X : Cx} {e : List Expr} {t t' : TA} (h : PA X e t) (i : ∀ σ H Q, t' σ H Q → t σ H Q) : PA X e t' := ⟨fun pos pins s σ H Q I q => h.run pos pins s σ H Q I (i σ H Q q)⟩
theorem PG.imp {X : Cx} {e : Expr} {t t' : TG} (h : PG X e t) (i : ∀ v σ H Q, t' v σ H Q → t v σ H Q) : PG X e t' := ⟨fun pins s σ H v u Q I r q => h.run pins s σ H v u Q I r (i v σ H Q q)⟩
theorem PGs.imp {X : Cx} {e : List Expr} {t t' : TGs} (h : PGs X e t) (i : ∀ v σ H Q, t' v σ H Q → t v σ H Q) : PGs X e t' := ⟨fun pins s σ H v u Q I r q => h.run pins s σ H v u Q I r (i v σ H Q q)⟩
theorem PI.imp {X : Cx} {tg e : Expr} {t t' : TI} (h : PI X tg e t) (i : ∀ σ H Q, t' σ H Q → t σ H Q) : PI X tg e t' := ⟨fun pins s σ H Q I q => h.run pins s σ H Q I (i σ H Q q)⟩
theorem PTs.imp {X : Cx} {e : List Expr} {t t' : TT} (h : PTs X e t) (i : ∀ σ H Q, t' σ H Q → t σ H Q) : PTs X e t' := ⟨fun pins s σ H Q I q => h.run pins s σ H Q I (i σ H Q q)⟩
/-- what is new may be taken for what stays -/
theorem tE.weak {X : Cx} {e : Expr} {r : Env' → R D} (h : PE X e (tE K W mg true r)) : PE X e (tE K W mg false r) := PE.imp h fun σ H Q q => by
  obtain ⟨H0, F0, ρ, F, A, rl, p⟩ := q
  refine ⟨H0, F0, ρ, F, A, rl, p.go (Ex.refl rl.sFH) fun d g v H' F' e rr => ?_⟩
  simp only [if_true] at rr
  obtain ⟨F2, e2, r2⟩ := RepF.rep e rr
  exact g v H' F2 e2 (by simpa using r2)

/-! ### the borrowed part -/
theorem Fpl.sub (rl : Rl K H0 F0 ρ σ H F A) : Same F (Fpl ρ A F H) := fun b o h => by
  unfold Fpl
  split
  · rename_i hc
    obtain ⟨i, d, hi, rfl⟩ := hc
    rw [(rl.slot i _ hi).2.1] at h; cases h
  · exact h
theorem Fpl.sup (rl : Rl K H0 F0 ρ σ H F A) : Same (Fpl ρ A F H) H := fun b o h => by
  unfold Fpl at h
  split at h
  · exact h
  · exact rl.sFH _ _ h
theorem Fpl.go (e : Ex H F H1 F1) : Same (Fpl ρ A F H) (Fpl ρ A F1 H1) := fun b o h => by
  unfold Fpl at h ⊢
  split at h
  · rename_i hc; rw [if_pos hc]; exact e.sH _ _ h
  · rename_i hc; rw [if_neg hc]; exact e.sF _ _ h
theorem RepS.rep {F Fp : Hp} {d : D} {v : V} (s : Same F Fp) (r : RepS K F Fp d v) : Rep K Fp d v := by
  cases d <;> simp only [RepS] at r <;> try exact r.mono s
  · obtain ⟨a, vs, h1, h2, h3⟩ := r
    exact Rep.lst_iff.mpr ⟨a, vs, h1, h2, h3.mono s⟩
  · obtain ⟨a, vs, h1, h2, h4, h5, h3⟩ := r
    exact Rep.dic_iff.mpr ⟨a, vs, h1, h2, h4, h5, h3.mono s⟩
theorem Rep.toS {F Fp : Hp} {d : D} {v : V} (s : Same F Fp) (r : Rep K F d v) : RepS K F Fp d v := by
  cases d <;> simp only [RepS] <;> try exact r
  · obtain ⟨a, vs, h1, h2, h3⟩ := Rep.lst_iff.mp r
    exact ⟨a, vs, h1, s _ _ h2, h3⟩
  · obtain ⟨a, vs, h1, h2, h4, h5, h3⟩ := Rep.dic_iff.mp r
    exact ⟨a, vs, h1, Same.rd s h2, h4, h5, h3⟩
theorem RepS.go {F Fp F' Fp' : Hp} {d : D} {v : V} (sF : Same F F') (s : Same Fp Fp') (r : RepS K F Fp d v) : RepS K F' Fp' d v := by
  cases d <;> simp only [RepS] at r ⊢ <;> try exact r.mono sF
  · obtain ⟨a, vs, h1, h2, h3⟩ := r
    exact ⟨a, vs, h1, s _ _ h2, h3.mono sF⟩
  · obtain ⟨a, vs, h1, h2, h4, h5, h3⟩ := r
    exact ⟨a, vs, h1, Same.rd s h2, h4, h5, h3.mono sF⟩
theorem Own.repS {d : D} {i : Nat} (rl : Rl K H0 F0 ρ σ H F A) (h : ρ[i]? = some (.ow d)) : RepS K F (Fpl ρ A F H) d (.ref (A i)) := by
  obtain ⟨h1, h2, h3⟩ := rl.slot i _ h
  have there : ∀ o, H (A i) = some o → Fpl ρ A F H (A i) = some o := fun o q => by
    unfold Fpl; rw [if_pos ⟨i, d, h, rfl⟩]; exact q
  cases d <;> simp only [Own] at h3
  · obtain ⟨vs, q1, q2⟩ := h3
    exact ⟨_, vs, rfl, there _ q1, q2⟩
  · obtain ⟨kvs, q1, q2, q4, q3⟩ := h3
    exact ⟨_, kvs, rfl, .inl (there _ q1), q2, q4, q3⟩
theorem tB.of {X : Cx} {e : Expr} {r : Env' → R D} (h : PE X e (tE K W mg false r)) : PE X e (tB K W mg r) := PE.imp h fun σ H Q q => by
  obtain ⟨H0, F0, ρ, F, A, rl, p⟩ := q
  refine ⟨H0, F0, ρ, F, A, rl, p.go (Ex.refl rl.sFH) fun d g v H' F' e rr => ?_⟩
  exact g v H' F' e (Rep.toS (Fpl.sub (rl.go e)) (by simpa using rr))

/-! ### slots that change -/
theorem Rl.set (rl : Rl K H0 F0 ρ σ H F A) {i : Nat} {d : D} {v : V} (r : Rep K F d v) : Rl K H0 F0 (ρ.set i (.im d)) (σ.set i (some v)) H F A := by
  refine ⟨rl.ex, by rw [List.length_set, List.length_set]; exact rl.len, fun j s hs => ?_, fun j e he => ?_, fun j k d e hj hk hn => ?_⟩
  · by_cases hij : i = j
    · subst hij
      have hi : i < ρ.length := by
        rcases Nat.lt_or_ge i ρ.length with q | q
        · exact q
        · rw [List.getElem?_eq_none (by rw [List.length_set]; exact q)] at hs; cases hs
      rw [List.getElem?_set_self hi] at hs
      cases hs
      exact ⟨v, by rw [List.getElem?_set_self (by rw [← rl.len]; exact hi)], r⟩
    · rw [List.getElem?_set_ne hij] at hs
      have q := rl.slot j s hs
      cases s with
      | un => trivial
      | im d => obtain ⟨u, h1, h2⟩ := q; exact ⟨u, by rw [List.getElem?_set_ne hij]; exact h1, h2⟩
      | ow d => obtain ⟨h1, h2, h3⟩ := q; exact ⟨by rw [List.getElem?_set_ne hij]; exact h1, h2, h3⟩
  · by_cases hij : i = j
    · subst hij
      rcases Nat.lt_or_ge i ρ.length with q | q
      · rw [List.getElem?_set_self q] at he; cases he
      · rw [List.getElem?_eq_none (by rw [List.length_set]; exact q)] at he; cases he
    · rw [List.getElem?_set_ne hij] at he; exact rl.old j e he
  · have ne : ∀ {j : Nat} {e : D}, (ρ.set i (.im ‹D›))[j]? = some (.ow e) → i ≠ j := fun {j e} q z => by
      subst z
      rcases Nat.lt_or_ge i ρ.length with q' | q'
      · rw [List.getElem?_set_self q'] at q; cases q
      · rw [List.getElem?_eq_none (by rw [List.length_set]; exact q')] at q; cases q
    have n1 : i ≠ j := fun z => by
      subst z
      rcases Nat.lt_or_ge i ρ.length with q' | q'
      · rw [List.getElem?_set_self q'] at hj; cases hj
      · rw [List.getElem?_eq_none (by rw [List.length_set]; exact q')] at hj; cases hj
    have n2 : i ≠ k := fun z => by
      subst z
      rcases Nat.lt_or_ge i ρ.length with q' | q'
      · rw [List.getElem?_set_self q'] at hk; cases hk
      · rw [List.getElem?_eq_none (by rw [List.length_set]; exact q')] at hk; cases hk
    rw [List.getElem?_set_ne n1] at hj
    rw [List.getElem?_set_ne n2] at hk
    exact rl.apart j k _ _ hj hk hn
theorem Rl.un (rl : Rl K H0 F0 ρ σ H F A) (i : Nat) (x : Option V) : Rl K H0 F0 (ρ.set i .un) (σ.set i x) H F A := by
  have ne : ∀ {j : Nat} {e : D}, (ρ.set i .un)[j]? = some (.ow e) → i ≠ j := fun {j e} q z => by
    subst z
    rcases Nat.lt_or_ge i ρ.length with q' | q'
    · rw [List.getElem?_set_self q'] at q; cases q
    · rw [List.getElem?_eq_none (by rw [List.length_set]; exact q')] at q; cases q
  refine ⟨rl.ex, by rw [List.length_set, List.length_set]; exact rl.len, fun j s hs => ?_, fun j e he => ?_, fun j k d e hj hk hn => ?_⟩
  · by_cases hij : i = j
    · subst hij
      have hi : i < ρ.length := by
        rcases Nat.lt_or_ge i ρ.length with q | q
        · exact q
        · rw [List.getElem?_eq_none (by rw [List.length_set]; exact q)] at hs; cases hs
      rw [List.getElem?_set_self hi] at hs
      cases hs
      trivial
    · rw [List.getElem?_set_ne hij] at hs
      have q := rl.slot j s hs
      cases s with
      | un => trivial
      | im d => obtain ⟨u, h1, h2⟩ := q; exact ⟨u, by rw [List.getElem?_set_ne hij]; exact h1, h2⟩
      | ow d => obtain ⟨h1, h2, h3⟩ := q; exact ⟨by rw [List.getElem?_set_ne hij]; exact h1, h2, h3⟩
  · have n := ne he
    rw [List.getElem?_set_ne n] at he; exact rl.old j e he
  · have n1 := ne hj
    have n2 := ne hk
    rw [List.getElem?_set_ne n1] at hj
    rw [List.getElem?_set_ne n2] at hk
    exact rl.apart j k _ _ hj hk hn
theorem Rl.wipe (rl : Rl K H0 F0 ρ σ H F A) : ∀ vs : List Nat, Rl K H0 F0 (wipeE ρ vs) (L2.wipe σ vs) H F A
  | [] => rl
  | v :: vs => (Rl.wipe rl vs).un v none
end

/-! ### the context of compiling -/
structure SC where
  N : List Str
  sc : Scope
  own : List (Str × NameKind)
  fns : List (Str × Nat)
  cst : List (Str × D)
  muts : List Nat := []
  exc : List Str := []
  sub : List ((Str × Str) × Bool) := []
  dcs : List (Str × List (Str × D)) := []
def idxOf (x : Str) : List Str → Option Nat
  | [] => none
  | y :: r => if x = y then some 0 else (idxOf x r).map (· + 1)
theorem idxOf_get {x : Str} : ∀ {l : List Str} {i : Nat}, idxOf x l = some i → l[i]? = some x
  | [], _, h => by simp [idxOf] at h
  | y :: r, i, h => by
    simp only [idxOf] at h
    split at h
    · rename_i e; cases h; rw [e]; rfl
    · simp only [Option.map_eq_some_iff] at h
      obtain ⟨j, hj, rfl⟩ := h
      rw [List.getElem?_cons_succ]; exact idxOf_get hj
def isVis (S : SC) (x : Str) : Bool := match S.sc.names.lookup x with
  | some .local => true
  | some .cell => true
  | some .free => true
  | _ => false
def isOwn (S : SC) (x : Str) : Bool := match S.own.lookup x with
  | some .local => true
  | some .cell => true
  | _ => false
def isGl (S : SC) (x : Str) : Bool := match S.sc.names.lookup x with
  | some .globalImplicit => true
  | _ => false
/-- the promise of a def that computes a tree of trees -/
def spD (K : PySem.W.Frag) (mg : Str → Option Value) (den : List D → R D) (n : Nat) : Sp := fun vs H Q E => ∃ F ds, Same F H ∧ RepL K F ds vs ∧ vs.length = n ∧
  match den ds with
  | .ok d => ∀ v H' F', Ex H F H' F' → Rep K F' d v → Q v H'
  | .exc c => ∀ H' F' C, Ex H F H' F' → mg c = some (.ref C) → E (.ref C) none H'
  | .bad => False
/-- the built-in names that no def of the module takes -/
def bltNames : List Str := ["len", "abs", "min", "max", "sum", "any", "all", "int", "tuple", "list", "sorted", "range", "enumerate", "zip", "isinstance", "bool", "str", "dict", "set"]
structure FnT (X : Cx) (T : Nat → List D → R D) (lv : Nat) (i : Nat) (x : Str) (n : Nat) : Prop where
  ex : ∃ f fd ps, FnOk X.prog X.w X.K X.mg X.base (L2.CX X.prog X.w) lv f fd ps (spD X.K X.mg (T i) n) ∧ X.mg x = some (.ref f) ∧ PySem.W.keepIn X.K (.ref f) = true ∧ Binds X.K fd ps [] ∧ ps.length = n
/-- a written dict of the module, its keys texts -/
structure DcOk (K : PySem.W.Frag) (w : World) (mg : Str → Option Value) (x : Str) (tab : List (Str × D)) : Prop where
  nd : (x == ("__debug__" : Str)) = false
  ex : ∃ a es n, mg x = some (.ref a) ∧ KDict K w a es n ∧ (∀ z d, tab.lookup z = some d → ∃ u v, PySem.W.nsIn K a z = some (some u) ∧ RelV v u ∧ ∀ F, Rep K F d v) ∧ (∀ z, tab.lookup z = none → PySem.W.nsIn K a z = some none)
structure Okc (S : SC) (T : Nat → List D → R D) (lv : Nat) (W : WX) (X : Cx) : Prop where
  N : X.N = S.N
  sc : X.env.scope = S.sc
  nd : X.N.Nodup
  nm : ∀ x ∈ S.N, (x == ("__debug__" : Str)) = false ∧ (x == ("__classdict__" : Str)) = false
  own : ∀ x, isOwn S x = true → Loc X.env.scope x ∧ (X.fn x = true ∨ X.env.scope.names.lookup x = some .local)
  calm : X.calm = true
  room : Room lv X.A
  tk : Takes X W
  fns : ∀ i x n, S.fns[i]? = some (x, n) → FnT X T lv i x n ∧ (x == ("__debug__" : Str)) = false
  cst : ∀ x d, S.cst.lookup x = some d → (x == ("__debug__" : Str)) = false ∧ ∃ v u, X.mg x = some u ∧ RelV v u ∧ ∀ F, Rep X.K F d v
  blt : ∀ x ∈ bltNames, X.mg x = none
  dcs : ∀ x tab, S.dcs.lookup x = some tab → DcOk X.K X.w X.mg x tab
end Z
/-! From the given syntax to terms. -/
namespace Z
open PySem PySem.Spec PyProof.Rows L2

def binOf : Operator → Option BOp
  | .Add => some .add | .Sub => some .sub | .Mult => some .mul | .FloorDiv => some .div | .Mod => some .mod | .Pow => some .pow | .LShift => some .shl | .RShift => some .shr
  | .BitAnd => some .and | .BitOr => some .or | .BitXor => some .xor | _ => none
def cmpOf : CmpOp → COp
  | .Eq => .eq | .NotEq => .ne | .Lt => .lt | .LtE => .le | .Gt => .gt | .GtE => .ge | .Is => .is | .IsNot => .isn | .In => .in_ | .NotIn => .nin
theorem binOf_eq {o : Operator} {b : BOp} (h : binOf o = some b) : o = bOp b := by cases o <;> simp only [binOf, reduceCtorEq, Option.some.injEq] at h <;> subst h <;> rfl
theorem cmpOf_eq (o : CmpOp) : o = cOp (cmpOf o) := by cases o <;> rfl
def bltOf (x : Str) : Option Blt :=
  if x = "len" then some .len else if x = "int" then some .int else if x = "all" then some .all else if x = "any" then some .any
  else if x = "max" then some .max else if x = "min" then some .min else if x = "sum" then some .sum else if x = "abs" then some .abs else none
def mkbOf (x : Str) : Option Mkb := if x = "tuple" then some .tuple else if x = "list" then some .list else if x = "sorted" then some .sorted else none
def tyOf (x : Str) : Option Ty :=
  if x = "int" then some .int else if x = "bool" then some .bool else if x = "tuple" then some .tuple else if x = "str" then some .str else if x = "list" then some .list else if x = "dict" then some .dict else none
def bltStr : Blt → Str
  | .len => "len" | .abs => "abs" | .min => "min" | .max => "max" | .sum => "sum" | .any => "any" | .all => "all" | .int => "int"
def mkbStr : Mkb → Str
  | .tuple => "tuple" | .list => "list" | .sorted => "sorted"
def tyStr : Ty → String
  | .int => "int" | .bool => "bool" | .str => "str" | .tuple => "tuple" | .list => "list" | .dict => "dict"
def tyVal (t : Ty) : Str := Str.ofString (tyStr t)
theorem bltOf_eq {x : Str} {b : Blt} (h : bltOf x = some b) : x = bltStr b := by
  unfold bltOf at h
  repeat' split at h
  all_goals first | (cases h; assumption) | cases h
theorem mkbOf_eq {x : Str} {b : Mkb} (h : mkbOf x = some b) : x = mkbStr b := by
  unfold mkbOf at h
  repeat' split at h
  all_goals first | (cases h; assumption) | cases h
theorem tyOf_eq {x : Str} {b : Ty} (h : tyOf x = some b) : x = tyVal b := by
  unfold tyOf at h
  repeat' split at h
  all_goals first | (cases h; assumption) | cases h
def isStar : Expr → Bool
  | .Starred _ _ => true
  | _ => false
/-- the slice [::-1] -/
def isRev : Option Expr → Option Expr → Expr → Bool
  | none, none, .UnaryOp .USub (.Constant (.int i) _ _) _ => decide (i = 1)
  | _, _, _ => false
theorem isRev_eq {lo hi : Option Expr} {st : Expr} (h : isRev lo hi st = true) : lo = none ∧ hi = none ∧ ∃ k p1 p2, st = .UnaryOp .USub (.Constant (.int 1) k p1) p2 := by
  unfold isRev at h
  split at h
  · rw [of_decide_eq_true h]; exact ⟨rfl, rfl, _, _, _, rfl⟩
  · cases h
def isTup : Expr → Bool
  | .Tuple .. => true
  | _ => false
def isSet : Expr → Bool
  | .Set .. => true
  | _ => false
/-- what may stand within square brackets -/
def isPlainIx : Expr → Bool
  | .Slice .. => false
  | .Starred .. => false
  | _ => true
def fnIx (x : Str) : Nat → List (Str × Nat) → Option (Nat × Nat)
  | _, [] => none
  | k, (y, n) :: r => if x = y then some (k, n) else fnIx x (k + 1) r
theorem fnIx_get {x : Str} : ∀ {l : List (Str × Nat)} {k i n : Nat}, fnIx x k l = some (i, n) → ∃ j, i = k + j ∧ l[j]? = some (x, n)
  | [], _, _, _, h => by simp [fnIx] at h
  | (y, m) :: r, k, i, n, h => by
    simp only [fnIx] at h
    split at h
    · rename_i e; cases h; subst e; exact ⟨0, rfl, rfl⟩
    · obtain ⟨j, h1, h2⟩ := fnIx_get h
      exact ⟨j + 1, by omega, by rw [List.getElem?_cons_succ]; exact h2⟩
def cName (S : SC) (x : Str) : Option E := if isVis S x = true then (idxOf x S.N).map .var else if isGl S x = true then (S.cst.lookup x).map fun d => .glb x d else none
def ownOf (N : List Str) : List (Str × NameKind) → List (Str × Nat)
  | [] => []
  | (x, .local) :: r => (match idxOf x N with | some i => (x, i) :: ownOf N r | none => ownOf N r)
  | (x, .cell) :: r => (match idxOf x N with | some i => (x, i) :: ownOf N r | none => ownOf N r)
  | _ :: r => ownOf N r
def inner (S : SC) (scope : Scope) : SC := { S with sc := relS scope S.sc, own := scope.names }
mutual
def tgSlots : Tg → List Nat
  | .nm i => [i]
  | .tp ts => tgsSlots ts
def tgsSlots : Tgs → List Nat
  | .nil => []
  | .cons t r => tgSlots t ++ tgsSlots r
end
section
variable (cE cT : SC → Expr → Option E)
def cEs (S : SC) : List Expr → Option Es
  | [] => some .nil
  | e :: r => if isStar e = true then none else (cE S e).bind fun a => (cEs S r).map fun b => .cons a b
def cBo (S : SC) (e : Expr) : Option Bo := match e with
  | .Name x _ => if isVis S x = true then (idxOf x S.N).map .own else (cE S e).map .ev
  | _ => (cE S e).map .ev
def cBs (S : SC) : List Expr → Option Bs
  | [] => some .nil
  | e :: r => if isStar e = true then none else (cBo cE S e).bind fun a => (cBs S r).map fun b => .cons a b
def cAnd (S : SC) : List Expr → Option E
  | [] => none
  | [e] => cE S e
  | e :: r => (cE S e).bind fun a => (cAnd S r).map fun b => .and_ a b
def cOr (S : SC) : List Expr → Option E
  | [] => none
  | [e] => cE S e
  | e :: r => (cE S e).bind fun a => (cOr S r).map fun b => .or_ a b
def cBound (S : SC) : Option Expr → Option Bd
  | none => some .no
  | some e => (cE S e).map .to
end
def cKey : Option Expr → Option Key
  | some (.Constant (.int i) _ _) => some (.inl i)
  | some (.Constant (.str x) _ _) => some (.inr x)
  | _ => none
def cKeys : List (Option Expr) → Option (List Key)
  | [] => some []
  | e :: r => (cKey e).bind fun k => (cKeys r).map fun l => k :: l
/-- the module's written dict, by its name -/
def dcOf (S : SC) : Expr → Option (Str × List (Str × D))
  | .Name x _ => if isGl S x = true then (S.dcs.lookup x).map fun t => (x, t) else none
  | _ => none
def isCall0 : Expr → Bool
  | .Call (.Name _ _) [] [] _ => true
  | _ => false
def cMeth (cE : SC → Expr → Option E) (S : SC) (o : Expr) (m : Str) (args : List Expr) : Option E :=
  if m = "get" then (match args with
    | [k] => if isStar k = true then none else (match dcOf S o with
      | some (x, t) => none
      | none => (cBo cE S o).bind fun a => (cE S k).map fun y => .dget1 a y)
    | [k, d] => if isStar k = true then none else if isStar d = true then none else (match dcOf S o with
      | some (x, t) => (cE S k).bind fun y => (cE S d).map fun z => .gget x t y z
      | none => (cBo cE S o).bind fun a => (cE S k).bind fun y => (cE S d).map fun z => .dget a y z)
    | _ => none)
  else none
def cTgF : Nat → SC → Expr → Option Tg
  | 0, _, _ => none
  | n + 1, S, .Name x _ => if isOwn S x = true then (idxOf x S.N).map .nm else none
  | n + 1, S, .Tuple es _ _ => ((es.mapM (cTgF n S)).map fun l => .tp (l.foldr Tgs.cons .nil))
  | _, _, _ => none
mutual
def cE : Nat → SC → Expr → Option E
  | 0, _, _ => none
  | n + 1, S, e => match e with
    | .Constant (.int i) _ _ => some (.cst (.int i))
    | .Constant (.bool b) _ _ => some (.cst (.bl b))
    | .Constant .none _ _ => some (.cst .non)
    | .Constant (.str x) _ _ => some (.cst (.str x))
    | .Name x _ => cName S x
    | .BinOp a op b _ => (binOf op).bind fun o => (cE n S a).bind fun x => (cE n S b).map fun y => .bin o x y
    | .UnaryOp .USub a _ => (cE n S a).map .neg
    | .UnaryOp .Not a _ => (cE n S a).map .not_
    | .BoolOp .And vs _ => cAnd (cE n) S vs
    | .BoolOp .Or vs _ => cOr (cE n) S vs
    | .IfExp c a b _ => (cT n S c).bind fun z => (cE n S a).bind fun x => (cE n S b).map fun y => .ite z x y
    | .Compare a [op] [b] _ => if isSet b = true then none else (cBo (cE n) S a).bind fun x => (cBo (cE n) S b).map fun y => .cmp (cmpOf op) x y
    | .Compare a [op, op'] [b, c] _ => if isSet c = true then none else (cE n S a).bind fun x => (cE n S b).bind fun y => (cE n S c).map fun z => .chn (cmpOf op) (cmpOf op') x y z
    | .Tuple es _ _ => (cEs (cE n) S es).map .tup
    | .List es _ => (cEs (cE n) S es).map .lst
    | .Call (.Name f _) args [] _ => if isGl S f = true then (match fnIx f 0 S.fns with
      | some (i, k) => if args.length = k ∧ args ≠ [] then (cEs (cE n) S args).map fun l => .call i l else none
      | none => if f = "isinstance" then (match args with
          | [a, .Name t _] => if isStar a = true then none else if isGl S t = true then (tyOf t).bind fun t => (cE n S a).map fun x => .isi x t else none
          | _ => none)
        else (match bltOf f with
          | some b => if args ≠ [] then (cBs (cE n) S args).map fun l => .blt b l else none
          | none => (mkbOf f).bind fun b => if args ≠ [] then (cEs (cE n) S args).map fun l => .mkb b l else none)) else none
    | .Call (.Attribute o m ap) args [] cp => if ap.endLine = cp.line ∧ isCall0 o = false then cMeth (cE n) S o m args else none
    | .Dict keys values _ => (cKeys keys).bind fun ks => if ks.Nodup ∧ keys.length = values.length ∧ keys.length ≤ 15 then (cEs (cE n) S values).map fun vs => .dis ks vs else none
    | .Subscript a (.Slice lo hi none _) _ => (cE n S a).bind fun x => (cBound (cE n) S lo).bind fun l => (cBound (cE n) S hi).map fun h => .sl x l h
    | .Subscript a (.Slice lo hi (some st) _) _ => if isRev lo hi st = true then (cE n S a).map .rev else none
    | .Subscript a i _ => if isPlainIx i = true then (match dcOf S a with
      | some (x, t) => (cE n S i).map fun y => .gix x t y
      | none => (cBo (cE n) S a).bind fun x => (cE n S i).map fun y => .ix x y) else none
    | .ListComp x [⟨tg, iter, ifs, k⟩] scope _ =>
      if k = 0 ∧ blkC S.N S.sc scope (ownOf S.N scope.names) = true then
        (cTgF n (inner S scope) tg).bind fun t => (cIt n S tg iter).bind fun it => (cE n (inner S scope) x).bind fun y =>
          if ((tgSlots t).all fun i => ((ownOf S.N scope.names).map (·.2)).contains i) = true then
            (match ifs with
              | [] => some (.comp y ((ownOf S.N scope.names).map (·.2)) t it (.cst (.bl true)))
              | [c] => (cT n (inner S scope) c).map fun z => .comp y ((ownOf S.N scope.names).map (·.2)) t it z
              | _ => none)
          else none
      else none
    | _ => none
def cT : Nat → SC → Expr → Option E
  | 0, _, _ => none
  | n + 1, S, e => match e with
    | .BoolOp .And vs _ => cAnd (cT n) S vs
    | .BoolOp .Or vs _ => cOr (cT n) S vs
    | .UnaryOp .Not a _ => (cT n S a).map .not_
    | .Compare .. => cE n S e
    | .Name .. => cE n S e
    | .Call .. => cE n S e
    | .Subscript .. => cE n S e
    | .BinOp .. => cE n S e
    | .ListComp .. => cE n S e
    | _ => none
def cIt : Nat → SC → Expr → Expr → Option It
  | 0, _, _, _ => none
  | n + 1, S, tg, e => match e with
    | .Call (.Name f _) args [] _ => if isGl S f = true then
      (match fnIx f 0 S.fns with
      | some _ => (cE n S e).map .seq
      | none =>
        if f = "range" then (match args with
          | [a] => if isStar a = true then none else (cE n S a).map .rng1
          | [a, b] => if isStar a = true then none else if isStar b = true then none else (cE n S a).bind fun x => (cE n S b).map fun y => .rng2 x y
          | _ => none)
        else if f = "enumerate" then (match args with
          | [a] => if isTup tg = true then (if isStar a = true then none else (cE n S a).map .enm) else none
          | _ => none)
        else if f = "zip" then (match args with
          | [a, b] => if isTup tg = true then (if isStar a = true then none else if isStar b = true then none else (cE n S a).bind fun x => (cE n S b).map fun y => .zip x y) else none
          | _ => none)
        else (cE n S e).map .seq) else none
    | .Set .. => none
    | _ => (cE n S e).map .seq
end
end Z
/-! min, max of a tuple of ints. -/
namespace Z
open PySem PySem.Spec PyProof.Rows L2
section
variable {prog : Program} {w : World} {A : Around} {E : Value → Shared → Prop} {s : Shared} {l : Addr} {its : List Value} {ns : List Int} {Q : Value → Shared → Prop}
theorem old_keptT {h' : Heap} {o' : Obj} (hk : ∀ b o, b ∉ [s.heap.objs.size] → (s.heap.push o').get? b = some o → h'.get? b = some o) :
    ∀ b o, s.heap.get? b = some o → h'.get? b = some o := fun b o e => by
  refine hk b o (fun hm => ?_) (Heap.get?_push_of_some _ e)
  rcases List.mem_cons.mp hm with e1 | hm
  · exact absurd (e1 ▸ Heap.lt_size e) (Nat.lt_irrefl _)
  · cases hm
theorem in_push {o' : Obj} (hlt : l < s.heap.objs.size) : ∀ b ∈ [s.heap.objs.size, l], b < (s.heap.push o').objs.size := fun b hb => by
  rw [Heap.size_push]
  rcases List.mem_cons.mp hb with rfl | hb
  · exact Nat.lt_succ_self _
  · rcases List.mem_cons.mp hb with rfl | hb
    · exact Nat.lt_succ_of_lt hlt
    · cases hb
theorem maxT_raw (hh : A.handled = none) (hl : s.heap.IsTuple l its.toArray) (hi : IntsAre its ns) (hne : 0 < ns.length)
    (h : ∀ h' tk M t', (∀ b o, s.heap.get? b = some o → h'.get? b = some o) → M ∈ ns → (∀ a, a ∈ ns → a ≤ M) → Q (.int M t') { s with heap := h', toks := tk }) : wpAny (model prog w) A (call (.builtin "max") [.ref l]) Q E s := by
  obtain ⟨xs, e⟩ := hi.allInts.items
  have hn : numsOf (intItems xs).toList = ns := by rw [← e]; exact hi.numsOf
  rw [nums_intItems] at hn
  subst hn
  rw [e] at hl
  have hsz : 0 < xs.size := by simpa using hne
  have hlt : l < s.heap.objs.size := by obtain ⟨_, e, _⟩ := hl; exact Heap.lt_size e
  refine call_max_walk (wpAny_pyIter_tuple hl ?_)
  refine ⟨_, [_, l], [_], _, _, _, _, rfl, Walks.tuple (A := A.in1) hh _ l (Nat.ne_of_lt hlt) (intItems xs), ⟨⟨_, Heap.get?_push_size _ rfl, rfl, rfl⟩, hl.push _⟩, in_push hlt, by simpa [intItems] using hsz, CmpOf.ints_gt (numAt xs) (fun _ _ => intItems_at), fun v h' tk hP hk => ?_⟩
  have hv : (intItems xs)[argBest (fun i j => decide (numAt xs i > numAt xs j)) (xs.size - 1)]? = some v := by simpa [intItems] using hP
  obtain ⟨t, rfl⟩ := intItems_at hv
  obtain ⟨h1, h2⟩ := argBest_gt (numAt xs) (xs.size - 1)
  refine h h' tk _ t (old_keptT hk) ?_ fun a ha => ?_
  · rw [numAt_eq]; exact PySem.getD_mem (by rw [List.length_map, Array.length_toList]; omega)
  · obtain ⟨j, hj, rfl⟩ := mem_getD ha
    rw [List.length_map, Array.length_toList] at hj
    rw [← numAt_eq]; exact h2 j (by omega)
theorem minT_raw (hh : A.handled = none) (hl : s.heap.IsTuple l its.toArray) (hi : IntsAre its ns) (hne : 0 < ns.length)
    (h : ∀ h' tk M t', (∀ b o, s.heap.get? b = some o → h'.get? b = some o) → M ∈ ns → (∀ a, a ∈ ns → M ≤ a) → Q (.int M t') { s with heap := h', toks := tk }) : wpAny (model prog w) A (call (.builtin "min") [.ref l]) Q E s := by
  obtain ⟨xs, e⟩ := hi.allInts.items
  have hn : numsOf (intItems xs).toList = ns := by rw [← e]; exact hi.numsOf
  rw [nums_intItems] at hn
  subst hn
  rw [e] at hl
  have hsz : 0 < xs.size := by simpa using hne
  have hlt : l < s.heap.objs.size := by obtain ⟨_, e, _⟩ := hl; exact Heap.lt_size e
  refine call_min_walk (wpAny_pyIter_tuple hl ?_)
  refine ⟨_, [_, l], [_], _, _, _, _, rfl, Walks.tuple (A := A.in1) hh _ l (Nat.ne_of_lt hlt) (intItems xs), ⟨⟨_, Heap.get?_push_size _ rfl, rfl, rfl⟩, hl.push _⟩, in_push hlt, by simpa [intItems] using hsz, CmpOf.ints_lt (numAt xs) (fun _ _ => intItems_at), fun v h' tk hP hk => ?_⟩
  have hv : (intItems xs)[argBest (fun i j => decide (numAt xs i < numAt xs j)) (xs.size - 1)]? = some v := by simpa [intItems] using hP
  obtain ⟨t, rfl⟩ := intItems_at hv
  obtain ⟨h1, h2⟩ := argBest_lt (numAt xs) (xs.size - 1)
  refine h h' tk _ t (old_keptT hk) ?_ fun a ha => ?_
  · rw [numAt_eq]; exact PySem.getD_mem (by rw [List.length_map, Array.length_toList]; omega)
  · obtain ⟨j, hj, rfl⟩ := mem_getD ha
    rw [List.length_map, Array.length_toList] at hj
    rw [← numAt_eq]; exact h2 j (by omega)
end
section
variable {X : Cx}
def rMaxT (K : PySem.W.Frag) : List V → Hp → VK → Prop := fun vs H Q => ∃ (a : Addr) (ns : List Int), vs = [V.ref a] ∧ SqT K H a (ns.map V.int) ∧ 0 < ns.length ∧ ∀ m, m ∈ ns → (∀ y, y ∈ ns → y ≤ m) → Q (.int m) H
def rMinT (K : PySem.W.Frag) : List V → Hp → VK → Prop := fun vs H Q => ∃ (a : Addr) (ns : List Int), vs = [V.ref a] ∧ SqT K H a (ns.map V.int) ∧ 0 < ns.length ∧ ∀ m, m ∈ ns → (∀ y, y ∈ ns → m ≤ y) → Q (.int m) H
theorem cr_maxT (hc : X.calm = true) : CallR X (.builtin "max") (rMaxT X.K) := by
  intro pins s σ H vs us Q I r h
  obtain ⟨a, ns, rfl, hs, hne, q⟩ := h
  obtain ⟨its, rv, hl, _⟩ := I.tuple hs
  rw [Vals.ref1 r]
  exact maxT_raw (I.ok.hd hc) hl rv.ints hne fun h' tk m t' hk h1 h2 => ⟨.int _, H, I.kept hk, ⟨_, rfl⟩, q m h1 h2⟩
theorem cr_minT (hc : X.calm = true) : CallR X (.builtin "min") (rMinT X.K) := by
  intro pins s σ H vs us Q I r h
  obtain ⟨a, ns, rfl, hs, hne, q⟩ := h
  obtain ⟨its, rv, hl, _⟩ := I.tuple hs
  rw [Vals.ref1 r]
  exact minT_raw (I.ok.hd hc) hl rv.ints hne fun h' tk m t' hk h1 h2 => ⟨.int _, H, I.kept hk, ⟨_, rfl⟩, q m h1 h2⟩
end
end Z
/-! sorted of tuples of ints, an empty one in front. -/
namespace Z
open PySem PySem.Spec PyProof.Rows L2
open PySem.W (Looks)
/-- v is a tuple of these ints -/
def IsTI (h : Heap) (v : Value) (ns : List Int) : Prop := ∃ (a : Addr) (items : Array Value), v = .ref a ∧ IsTup h a items ∧ IntsAre items.toList ns
theorem IsTI.keeps {h h' : Heap} {v : Value} {ns : List Int} (x : IsTI h v ns) (k : ∀ b o, v = .ref b → h.get? b = some o → h'.get? b = some o) : IsTI h' v ns := by
  obtain ⟨a, items, e, ⟨o, g, c, n, d⟩, i⟩ := x
  exact ⟨a, items, e, ⟨o, k _ _ e g, c, n, d⟩, i⟩
section
variable {M : Model} {A : Around} {E : Value → Shared → Prop} {s : Shared}
theorem IsTI.type {h : Heap} {v : Value} {ns : List Int} (x : IsTI h v ns) : Looks M h (typeOf v) (.type "tuple") := by
  obtain ⟨a, items, rfl, ⟨o, g, c, n, d⟩, i⟩ := x
  rw [← c]
  exact (Looks.ld g).andThen .now
theorem mapM_f {α β : Type} {f : α → Sem β} {f' : α → β} : ∀ (l : List α) {Q : List β → Shared → Prop}, (∀ v ∈ l, ∀ (Q' : β → Shared → Prop), Q' (f' v) s → wpAny M A (f v) Q' E s) → Q (l.map f') s → wpAny M A (l.mapM f) Q E s
  | [], _, _, h => by rw [List.mapM_nil]; exact wpAny_pure h
  | x :: l, Q, hf, h => by
    rw [List.mapM_cons]
    exact wpAny_bind (hf x (.head _) _ (wpAny_bind (mapM_f l (Q := fun bs s' => wpAny M A (pure (f' x :: bs)) Q E s') (fun v hv => hf v (.tail _ hv)) (wpAny_pure h))))
noncomputable def fstV (h : Heap) (v : Value) : Option Value := match v with
  | .ref a => (match h.get? a with
    | some ⟨_, _, .seq its _, _⟩ => its[0]?
    | _ => none)
  | _ => none
theorem kind_tup {v₁ : Value} {vs : List Value} {k : Value → List Int} {Q : SortKind → Shared → Prop} (hv : ∀ v ∈ v₁ :: vs, IsTI s.heap v (k v)) (h0 : k v₁ = []) (h : Q oneType' s) : wpAny M A (keyKind' (v₁ :: vs).toArray) Q E s := by
  rw [kat_kind_eq, List.mapM_toArray, map_eq_pure_bind]
  have f1 : fstV s.heap v₁ = none := by
    obtain ⟨a, items, rfl, ⟨o, g, c, n, d⟩, i⟩ := hv v₁ List.mem_cons_self
    rw [h0] at i
    obtain ⟨oc, od, dt, sl⟩ := o
    simp only at d
    subst d
    unfold fstV
    simp only [g]
    have := i.length
    simp at this
    simp [this]
  refine wpAny_bind (wpAny_bind (mapM_f (f' := fstV s.heap) _ (fun v hm Q' hq => ?_) (wpAny_pure ?_)))
  · have ty := (hv v hm).type (M := M)
    rw [PySem.W.kas_first_eq]
    refine wpAny_bind (ty.here ?_)
    obtain ⟨a, items, rfl, ⟨o, g, c, n, d⟩, i⟩ := hv v hm
    rw [if_neg (by first | decide | simp)]
    refine wpAny_bind (listItems_at g d (wpAny_pure ?_))
    obtain ⟨oc, od, dt, sl⟩ := o
    simp only at d
    subst d
    unfold fstV at hq
    simp only [g] at hq
    exact hq
  · rw [if_neg (by simp [f1]), if_neg (by simp [f1])]
    rw [oneTypeOnly'_eq, List.mapM_toArray, map_eq_pure_bind]
    refine wpAny_bind (wpAny_bind (wpAny_bind (PySem.W.kas_mapM (r := .type "tuple") _ (fun v hm Q' hq => ((hv v hm).type (M := M)).here hq) (wpAny_pure ?_))))
    have hall : ((List.map (fun _ => Value.type "tuple") (v₁ :: vs)).toArray.all fun x => x == Value.type "tuple") = true := by
      simp only [List.all_toArray, List.all_map, List.all_eq_true]
      intro _ _
      simp
    have h0 : (List.map (fun _ => Value.type "tuple") (v₁ :: vs)).toArray[0]? = some (.type "tuple") := by simp
    rw [h0]
    simp only [hall, if_true]
    exact wpAny_pure (wpAny_pure h)
end
section
variable {prog : Program} {w : World} {A : Around} {E : Value → Shared → Prop} {s : Shared}
theorem lt_ti {v u : Value} {ns ms : List Int} {Q : Bool → Shared → Prop} (hu : A.units < cLine) (hv : IsTI s.heap v ns) (hw : IsTI s.heap u ms) (h : Q (HT.lexLt ns ms) s) : wpAny (model prog w) A (keyLt' oneType' v u) Q E s := by
  obtain ⟨a, items, rfl, ⟨o, g, c, n, d⟩, i⟩ := hv
  obtain ⟨b, items2, rfl, ⟨o2, g2, c2, n2, d2⟩, i2⟩ := hw
  rw [keyLt'_oneType, oneLt'_eq]
  simp only [if_true]
  refine wpAny_bind (wpAny_cRoomFor hu ?_)
  obtain ⟨oc, od, dt, sl⟩ := o
  obtain ⟨oc2, od2, dt2, sl2⟩ := o2
  simp only at c d c2 d2
  subst c d c2 d2
  refine wpAny_bind (wpAny_callSpecialIfBound?_slot ⟨_, g, rfl⟩ PySem.F.slot_tuple_lt ?_)
  refine call_meets PySem.F.slot_tuple_lt ⟨_, g, rfl⟩ PySem.F.entry_tuple_lt (PySem.F.args_tuple_lt_2 _ _) (HT.tuple_lt_ints a b items items2 n n2 od od2 sl sl2 ns ms i i2) ⟨g, g2, ?_⟩
  exact wpAny_truthy_bool h
theorem ti_cmp {vs : List Value} {k : Value → List Int} (hu : A.units < cLine) (hv : ∀ v ∈ vs, IsTI s.heap v (k v)) : SrtO.Cmp prog w A s oneType' (fun p => p.1 ∈ vs) (SrtO.lt2 fun v u => HT.lexLt (k v) (k u)) := by
  intro p q hp hq
  exact lt_ti (Q := fun r s' => s' = s ∧ r = HT.lexLt (k p.1) (k q.1)) (E := fun _ _ => False) hu (hv p.1 hp) (hv q.1 hq) ⟨rfl, rfl⟩
theorem ti_sortable {a : Addr} {vs : List Value} {k : Value → List Int} (h2 : 2 ≤ vs.length) (h0 : ∀ v r, vs = v :: r → k v = []) (hu : A.units < cLine) (hv : ∀ v ∈ vs, IsTI s.heap v (k v)) (ha : ∀ v ∈ vs, v ≠ .ref a) :
    SrtO.SortableO prog w A s a vs fun v u => HT.lexLt (k v) (k u) := by
  intro h' keep
  have hv' : ∀ v ∈ vs, IsTI h' v (k v) := fun v hm => (hv v hm).keeps fun b o e g => keep b o (fun z => ha v hm (by rw [e, z])) g
  refine ⟨oneType', fun Q E hq => ?_, ti_cmp (s := { s with heap := h' }) hu hv'⟩
  match vs, h2, h0, hv' with
  | v₁ :: vs, _, h0, hv' => exact kind_tup (s := { s with heap := h' }) hv' (h0 v₁ vs rfl) hq
  | [], h, _, _ => simp at h
end
/-- sorted(xs), xs a list of tuples of ints, an empty one in front -/
def rSortedTI (K : PySem.W.Frag) : List V → Hp → VK → Prop := fun vs H Q => ∃ (a : Addr) (xs : List V) (k : V → List Int), vs = [V.ref a] ∧ SqL K H a xs ∧ (∀ x ∈ xs, ∃ t, x = V.ref t ∧ SqT K H t ((k x).map V.int)) ∧ (∀ x r, xs = x :: r → k x = []) ∧
  ∀ ys p, ys.Perm xs → ys.Pairwise (fun x y => HT.lexLt (k y) (k x) = false) → H p = none → Q (.ref p) (upd H p (.lst ys))
section
variable {X : Cx}
theorem cr_sortedTI (hu : X.A.units + 64 < cLine) : CallR X (.builtin "sorted") (rSortedTI X.K) := by
  intro pins s σ H vs us Q I r h
  obtain ⟨a, xs, k, rfl, hs, hx, h0, q⟩ := h
  obtain ⟨its, rv, hl, hz⟩ := I.list hs
  obtain ⟨u, rfl, ru⟩ := vals1 r
  obtain rfl : u = Value.ref a := ru
  obtain ⟨e1, e2⟩ := refs_back rv fun x m => by
    obtain ⟨t, e, _⟩ := hx x m
    exact ⟨t, e⟩
  have hv : ∀ v ∈ its, IsTI s.heap v (k (backV v)) := fun v hv => by
    obtain ⟨t, rfl⟩ := e2 v hv
    have hm : V.ref t ∈ xs := by rw [e1]; exact List.mem_map.mpr ⟨_, hv, rfl⟩
    obtain ⟨t', e, ht⟩ := hx _ hm
    cases e
    obtain ⟨its2, r2, p2, _⟩ := I.tuple ht
    exact ⟨t, its2.toArray, rfl, p2, intsAre_of r2⟩
  refine SrtO.sorted_ord (NtL.swo_lexL fun u => k (backV u)) hl.isList (by rw [← rv.length]; exact hz) (fun h2 h₁ a' ha kk => ?_) fun out h1 h2 => ?_
  · refine ti_sortable (s := { s with heap := h₁ }) h2 (fun v r' e => ?_) (by simp only [Around.in1_units]; omega) (fun v hm => (hv v hm).keeps fun b o e g => (kk b o g).2) fun v hm e => ?_
    · have : xs = backV v :: r'.map backV := by rw [e1, e]; rfl
      exact h0 _ _ this
    · obtain ⟨t, items, e3, ⟨o, g, _⟩, _⟩ := hv v hm
      have e4 := e3.symm.trans e
      cases e4
      exact (kk _ _ g).1 rfl
  · obtain ⟨n, hn⟩ := PyProof.Rows.sortedAll_at s.heap its out.toArray
    have h3 : ∀ u ∈ out, ∃ a, u = Value.ref a := fun u hu => e2 u (h2.perm.mem_iff.mp hu)
    have hp : (out.map backV).Perm xs := by
      rw [e1]
      exact h2.perm.map backV
    refine ⟨.ref (s.heap.objs.size + 1), upd H (s.heap.objs.size + 1) (.lst (out.map backV)), I.laid (t' := s.toks) (fun _ _ => PyProof.Rows.sortedAll_old) (Nat.le_succ _) ⟨?_, out, n, vals_back h3, hn⟩, rfl, q _ _ hp (List.pairwise_map.mpr h1) (I.hok.fresh (Nat.le_succ _))⟩
    rw [hp.length_eq]
    exact hz
end
end Z
/-! sorted, on trees. -/
namespace Z
open PySem PySem.Spec PyProof.Rows L2
theorem insI_perm (x : Int) : ∀ l, (insI x l).Perm (x :: l)
  | [] => List.Perm.refl _
  | y :: r => by
    unfold insI
    split
    · exact List.Perm.refl _
    · exact ((insI_perm x r).cons y).trans (List.Perm.swap x y r)
theorem insI_sorted (x : Int) : ∀ l : List Int, l.Pairwise (· ≤ ·) → (insI x l).Pairwise (· ≤ ·)
  | [], _ => List.pairwise_singleton _ _
  | y :: r, h => by
    obtain ⟨h1, h2⟩ := List.pairwise_cons.mp h
    unfold insI
    split
    · rename_i hc
      exact List.pairwise_cons.mpr ⟨fun z hz => by
        rcases List.mem_cons.mp hz with e | e
        · omega
        · have := h1 z e; omega, h⟩
    · rename_i hc
      refine List.pairwise_cons.mpr ⟨fun z hz => ?_, insI_sorted x r h2⟩
      rcases List.mem_cons.mp ((insI_perm x r).mem_iff.mp hz) with e | e
      · omega
      · exact h1 z e
theorem sortI_perm : ∀ l, (sortI l).Perm l
  | [] => List.Perm.refl _
  | x :: r => (insI_perm x _).trans ((sortI_perm r).cons x)
theorem sortI_sorted : ∀ l, (sortI l).Pairwise (· ≤ ·)
  | [] => List.Pairwise.nil
  | x :: r => insI_sorted x _ (sortI_sorted r)
theorem sortI_uniq {l m : List Int} (p : m.Perm l) (s : m.Pairwise (· ≤ ·)) : m = sortI l :=
  List.Perm.eq_of_pairwise (fun a b _ _ h1 h2 => Int.le_antisymm h1 h2) s (sortI_sorted l) (p.trans (sortI_perm l).symm)
/-! tuples -/
theorem lex_anti : ∀ a b : List Int, HT.lexLt a b = false → HT.lexLt b a = false → a = b
  | [], [], _, _ => rfl
  | [], _ :: _, h, _ => by rw [HT.lexLt_nil_cons] at h; cases h
  | _ :: _, [], _, h => by rw [HT.lexLt_nil_cons] at h; cases h
  | x :: a, y :: b, h1, h2 => by
    rw [HT.lexLt_cons] at h1 h2
    by_cases e : x = y
    · rw [if_pos e] at h1
      rw [if_pos e.symm] at h2
      rw [e, lex_anti a b h1 h2]
    · rw [if_neg e] at h1
      rw [if_neg (fun z => e z.symm)] at h2
      have := of_decide_eq_false h1
      have := of_decide_eq_false h2
      omega
theorem insT_perm (x : List Int) : ∀ l, (insT x l).Perm (x :: l)
  | [] => List.Perm.refl _
  | y :: r => by
    unfold insT
    split
    · exact ((insT_perm x r).cons y).trans (List.Perm.swap x y r)
    · exact List.Perm.refl _
abbrev SrtdT (l : List (List Int)) : Prop := l.Pairwise fun x y => HT.lexLt y x = false
theorem insT_sorted (x : List Int) : ∀ l, SrtdT l → SrtdT (insT x l)
  | [], _ => List.pairwise_singleton _ _
  | y :: r, h => by
    obtain ⟨h1, h2⟩ := List.pairwise_cons.mp h
    unfold insT
    split
    · rename_i hc
      refine List.pairwise_cons.mpr ⟨fun z hz => ?_, insT_sorted x r h2⟩
      rcases List.mem_cons.mp ((insT_perm x r).mem_iff.mp hz) with e | e
      · rw [e]; exact NtL.lex_asym _ _ hc
      · exact h1 z e
    · rename_i hc
      have hc : HT.lexLt y x = false := by simpa using hc
      exact List.pairwise_cons.mpr ⟨fun z hz => by
        rcases List.mem_cons.mp hz with e | e
        · rw [e]; exact hc
        · exact NtL.lex_tr _ _ _ hc (h1 z e), h⟩
theorem sortT_perm : ∀ l, (sortT l).Perm l
  | [] => List.Perm.refl _
  | x :: r => (insT_perm x _).trans ((sortT_perm r).cons x)
theorem sortT_sorted : ∀ l, SrtdT (sortT l)
  | [] => List.Pairwise.nil
  | x :: r => insT_sorted x _ (sortT_sorted r)
theorem sortT_uniq {l m : List (List Int)} (p : m.Perm l) (s : SrtdT m) : m = sortT l :=
  List.Perm.eq_of_pairwise (le := fun x y => HT.lexLt y x = false) (fun a b _ _ h1 h2 => (lex_anti b a h1 h2).symm) s (sortT_sorted l) (p.trans (sortT_perm l).symm)
theorem tisOf_map : ∀ {ds : List D} {nss : List (List Int)}, tisOf ds = some nss → ds = nss.map tupI
  | [], _, h => by simp only [tisOf, Option.some.injEq] at h; subst h; rfl
  | .tup xs :: r, _, h => by
    simp only [tisOf, Option.bind_eq_some_iff, Option.map_eq_some_iff] at h
    obtain ⟨ns, h1, t, h2, rfl⟩ := h
    rw [tisOf_map h2, intsOf_map h1]; rfl
  | .non :: _, _, h => by simp [tisOf] at h
  | .bl _ :: _, _, h => by simp [tisOf] at h
  | .int _ :: _, _, h => by simp [tisOf] at h
  | .str _ :: _, _, h => by simp [tisOf] at h
  | .lst _ :: _, _, h => by simp [tisOf] at h
  | .dic _ _ :: _, _, h => by simp [tisOf] at h
  | .scr _ :: _, _, h => by simp [tisOf] at h
  | .obj _ _ _ :: _, _, h => by simp [tisOf] at h
section
variable {X : Cx} {K : PySem.W.Frag} {F H : Hp}
/-- the ints of a tuple -/
noncomputable def intsAt (K : PySem.W.Frag) (H : Hp) (v : V) : List Int := @dite _ (∃ (t : Addr) (ns : List Int), v = V.ref t ∧ SqT K H t (ns.map V.int)) (Classical.propDecidable _) (fun h => h.choose_spec.choose) (fun _ => [])
theorem sqT_uniq {pins : List (Addr × Obj)} {σ : L2.St} {s : Shared} (I : Inv X pins σ H s) {t : Addr} {ns ms : List Int} (h1 : SqT X.K H t (ns.map V.int)) (h2 : SqT X.K H t (ms.map V.int)) : ns = ms := by
  obtain ⟨its, r1, ⟨o1, g1, c1, n1, d1⟩, _⟩ := I.tuple h1
  obtain ⟨its2, r2, ⟨o2, g2, c2, n2, d2⟩, _⟩ := I.tuple h2
  rw [g1] at g2
  cases g2
  rw [d1] at d2
  have e : its.toArray = its2.toArray := by injection d2
  have e2 : its = its2 := by simpa using congrArg Array.toList e
  have i1 : IntsAre its ns := Vals.ints r1
  have i2 : IntsAre its2 ms := Vals.ints r2
  rw [e2] at i1
  rw [← SrtO.iv_ints i1, ← SrtO.iv_ints i2]
theorem intsAt_eq {pins : List (Addr × Obj)} {σ : L2.St} {s : Shared} (I : Inv X pins σ H s) {t : Addr} {ns : List Int} (h : SqT X.K H t (ns.map V.int)) : intsAt X.K H (.ref t) = ns := by
  have ex : ∃ (t' : Addr) (ns' : List Int), V.ref t = V.ref t' ∧ SqT X.K H t' (ns'.map V.int) := ⟨t, ns, rfl, h⟩
  unfold intsAt
  rw [dif_pos ex]
  have q := ex.choose_spec.choose_spec
  have e : t = ex.choose := V.ref.inj q.1
  have h' : SqT X.K H ex.choose (ns.map V.int) := by rw [← e]; exact h
  exact sqT_uniq I q.2 h'
theorem tups_map {pins : List (Addr × Obj)} {σ : L2.St} {s : Shared} (I : Inv X pins σ H s) (sF : Same F H) : ∀ {nss : List (List Int)} {vs : List V}, RepL X.K F (nss.map tupI) vs → vs.map (intsAt X.K H) = nss ∧ ∀ v ∈ vs, ∃ t, v = V.ref t ∧ SqT X.K H t ((intsAt X.K H v).map V.int) ∧ Rep X.K F (tupI (intsAt X.K H v)) v
  | [], vs, r => by rw [r.nil_inv]; exact ⟨rfl, fun v h => by cases h⟩
  | ns :: nss, vs, r => by
    obtain ⟨v, t, rfl, h1, h2⟩ := RepL.cons_inv (d := tupI ns) (ds := nss.map tupI) r
    obtain ⟨e1, e2⟩ := tups_map I sF h2
    obtain ⟨a, ws, rfl, q1, q2⟩ := Rep.tup_iff.mp (show Rep X.K F (.tup (ns.map .int)) v from h1)
    rw [q2.ints] at q1
    have e := intsAt_eq I (Same.seqT sF q1)
    refine ⟨by rw [List.map_cons, e1, e], fun v hv => ?_⟩
    rcases List.mem_cons.mp hv with z | z
    · subst z
      exact ⟨a, rfl, by rw [e]; exact Same.seqT sF q1, by rw [e]; exact h1⟩
    · exact e2 v z
theorem RepL.of_mem {g : V → D} : ∀ {ys : List V}, (∀ y ∈ ys, Rep K F (g y) y) → RepL K F (ys.map g) ys
  | [], _ => RepL.nil
  | y :: ys, h => RepL.cons (h y List.mem_cons_self) (RepL.of_mem fun z hz => h z (List.mem_cons_of_mem _ hz))
def rSo (K : PySem.W.Frag) : List V → Hp → VK → Prop := fun vs H Q => ∃ F ds, Same F H ∧ RepL K F ds vs ∧ rMk K (mkbD .sorted ds) F H Q
theorem op_sorted (hu : X.A.units + 64 < cLine) : CallR X (.builtin "sorted") (rSo X.K) := by
  intro pins s σ H vs us Q I r h
  obtain ⟨F, ds, sF, rd, m⟩ := h
  have no : ∀ {Q : VK}, rMk X.K none F H Q → False := fun ⟨_, z, _⟩ => by cases z
  match ds with
  | [] => exact (no m).elim
  | d :: e :: es => exact (show False by cases d <;> exact no m).elim
  | [d] =>
    obtain ⟨v, rfl, rv⟩ := rd.one
    cases d with
    | lst xs =>
      obtain ⟨a, ws, rfl, h1, h2⟩ := Rep.lst_iff.mp rv
      have m : rMk X.K ((sortD xs).map .lst) F H Q := m
      unfold sortD at m
      cases e1 : intsOf xs with
      | some ns =>
        rw [e1] at m
        rw [intsOf_map e1] at h2
        rw [h2.ints] at h1
        refine cr_sortedI pins s σ H _ us Q I r ⟨a, ns, rfl, .inl (.inl (sF _ _ h1)), fun ns' p q1 q2 hp => ?_⟩
        rw [sortI_uniq q1 q2]
        exact m.lst sF (RepL.of_ints _) p hp
      | none =>
        rw [e1] at m
        cases e2 : tisOf xs with
        | none => rw [e2] at m; exact (no m).elim
        | some nss =>
          rw [e2] at m
          match nss, m with
          | [], m => exact (no m).elim
          | (x :: r') :: nss, m => exact (no m).elim
          | [] :: nss, m =>
            have m : rMk X.K (some (.lst ((sortT ([] :: nss)).map tupI))) F H Q := m
            rw [tisOf_map e2] at h2
            obtain ⟨f1, f2⟩ := tups_map I sF h2
            refine cr_sortedTI hu pins s σ H _ us Q I r ⟨a, ws, intsAt X.K H, rfl, .inl (.inl (sF _ _ h1)), fun x hx => ?_, fun x r' e => ?_, fun ys p q1 q2 hp => ?_⟩
            · obtain ⟨t, g1, g2, _⟩ := f2 x hx
              exact ⟨t, g1, g2⟩
            · rw [e, List.map_cons] at f1
              injection f1
            · have e3 : ys.map (intsAt X.K H) = sortT ([] :: nss) := sortT_uniq (by rw [← f1]; exact q1.map _) (List.pairwise_map.mpr q2)
              refine m.lst sF ?_ p hp
              rw [← e3, List.map_map]
              exact RepL.of_mem fun y hy => (f2 y (q1.mem_iff.mp hy)).choose_spec.2.2
    | _ => exact (no m).elim
end
end Z
/-! Built-in functions, isinstance, subscripts, slices on trees. -/
namespace Z
open PySem PySem.Spec PyProof.Rows L2

def isTyB : Blt → Bool
  | .int => true | _ => false
def bltId : Blt → String
  | .len => "len" | .abs => "abs" | .min => "min" | .max => "max" | .sum => "sum" | .any => "any" | .all => "all" | .int => "int"
def mkbId : Mkb → String
  | .tuple => "tuple" | .list => "list" | .sorted => "sorted"
def mkbV : Mkb → Value
  | .sorted => .builtin "sorted"
  | b => .type (mkbId b)
def rMb (K : PySem.W.Frag) (b : Mkb) : List V → Hp → VK → Prop := fun vs H Q => ∃ F ds, Same F H ∧ RepL K F ds vs ∧ rMk K (mkbD b ds) F H Q
def bltV (b : Blt) : Value := if isTyB b = true then .type (bltId b) else .builtin (bltId b)
def rBl (K : PySem.W.Frag) (b : Blt) : List V → Hp → VK → Prop := fun vs H Q => ∃ F ds, Same F H ∧ RepL K F ds vs ∧ rMk K (bltD b ds) F H Q
theorem blsOf_map : ∀ {ds : List D} {ns : List Bool}, blsOf ds = some ns → ds = ns.map D.bl
  | [], ns, h => by simp only [blsOf, Option.some.injEq] at h; subst h; rfl
  | .bl i :: r, ns, h => by
    simp only [blsOf, Option.map_eq_some_iff] at h
    obtain ⟨t, h1, rfl⟩ := h
    rw [blsOf_map h1]; rfl
  | .non :: _, _, h => by simp [blsOf] at h
  | .int _ :: _, _, h => by simp [blsOf] at h
  | .str _ :: _, _, h => by simp [blsOf] at h
  | .tup _ :: _, _, h => by simp [blsOf] at h
  | .lst _ :: _, _, h => by simp [blsOf] at h
  | .dic _ _ :: _, _, h => by simp [blsOf] at h
  | .scr _ :: _, _, h => by simp [blsOf] at h
  | .obj _ _ _ :: _, _, h => by simp [blsOf] at h
theorem greatest_is : ∀ {ns : List Int} {m : Int}, greatest ns = some m → m ∈ ns ∧ ∀ y ∈ ns, y ≤ m
  | [], _, h => by simp [greatest] at h
  | [x], m, h => by simp only [greatest, Option.some.injEq] at h; subst h; simp
  | x :: y :: r, m, h => by
    simp only [greatest, Option.map_eq_some_iff] at h
    obtain ⟨k, hk, rfl⟩ := h
    obtain ⟨h1, h2⟩ := greatest_is (ns := y :: r) hk
    split
    · rename_i hc
      exact ⟨List.mem_cons_of_mem _ h1, fun z hz => by
        rcases List.mem_cons.mp hz with e | e
        · omega
        · exact h2 z e⟩
    · rename_i hc
      exact ⟨List.mem_cons_self, fun z hz => by
        rcases List.mem_cons.mp hz with e | e
        · omega
        · have := h2 z e; omega⟩
theorem least_is : ∀ {ns : List Int} {m : Int}, least ns = some m → m ∈ ns ∧ ∀ y ∈ ns, m ≤ y
  | [], _, h => by simp [least] at h
  | [x], m, h => by simp only [least, Option.some.injEq] at h; subst h; simp
  | x :: y :: r, m, h => by
    simp only [least, Option.map_eq_some_iff] at h
    obtain ⟨k, hk, rfl⟩ := h
    obtain ⟨h1, h2⟩ := least_is (ns := y :: r) hk
    split
    · rename_i hc
      exact ⟨List.mem_cons_of_mem _ h1, fun z hz => by
        rcases List.mem_cons.mp hz with e | e
        · omega
        · exact h2 z e⟩
    · rename_i hc
      exact ⟨List.mem_cons_self, fun z hz => by
        rcases List.mem_cons.mp hz with e | e
        · omega
        · have := h2 z e; omega⟩
section
variable {X : Cx} {K : PySem.W.Frag} {F H : Hp}
theorem rMk.no {Q : VK} (h : rMk K none F H Q) : False := by obtain ⟨_, z, _⟩ := h; cases z
theorem RepL.list_of {ds : List D} {vs : List V} {Q : VK} (s : Same F H) {v : V} (r : Rep K F (.lst ds) v) : ∃ a vs, v = .ref a ∧ H a = some (.lst vs) ∧ RepL K F ds vs := by
  obtain ⟨a, vs, h1, h2, h3⟩ := Rep.lst_iff.mp r
  exact ⟨a, vs, h1, s _ _ h2, h3⟩
theorem op_Blt (hc : X.calm = true) : ∀ b : Blt, CallR X (bltV b) (rBl X.K b)
  | .len => by
    intro pins s σ H vs us Q I r h
    obtain ⟨F, ds, sF, rd, m⟩ := h
    match ds with
    | [] => exact m.no.elim
    | d :: e :: es => exact (show False by cases d <;> exact m.no).elim
    | [d] =>
      obtain ⟨v, rfl, rv⟩ := rd.one
      cases d with
      | tup xs =>
        obtain ⟨a, us', rfl, h1, h2⟩ := Rep.tup_iff.mp rv
        have m' := m.int (i := xs.length) sF
        rw [h2.length] at m'
        exact call_len_seq pins s σ H _ us Q I r ⟨a, us', rfl, .inr (Same.seqT sF h1), m'⟩
      | lst xs =>
        obtain ⟨a, us', rfl, h1, h2⟩ := Rep.lst_iff.mp rv
        have m' := m.int (i := xs.length) sF
        rw [h2.length] at m'
        exact call_len_seq pins s σ H _ us Q I r ⟨a, us', rfl, .inl (.inl (.inl (sF _ _ h1))), m'⟩
      | scr ns =>
        obtain ⟨a, rfl, h1⟩ := Rep.scr_iff.mp rv
        have m' := m.int (i := ns.length) sF
        rw [← List.length_map (f := V.int)] at m'
        exact call_len_seq pins s σ H _ us Q I r ⟨a, _, rfl, .inl (Same.seq sF h1), m'⟩
      | str x =>
        rw [Rep.str_iff.mp rv] at r
        simp only [bltD] at m
        split at m
        · rename_i hl
          exact call_len_str pins s σ H _ us Q I r ⟨x, rfl, hl, m.int sF⟩
        · exact m.no.elim
      | _ => exact m.no.elim
  | .abs => by
    intro pins s σ H vs us Q I r h
    obtain ⟨F, ds, sF, rd, m⟩ := h
    match ds with
    | [] => exact m.no.elim
    | d :: e :: es => exact (show False by cases d <;> exact m.no).elim
    | [d] =>
      obtain ⟨v, rfl, rv⟩ := rd.one
      cases d with
      | int i =>
        rw [Rep.int_iff.mp rv] at r
        exact call_abs pins s σ H _ us Q I r ⟨i, rfl, m.int sF⟩
      | _ => exact m.no.elim
  | .min => by
    intro pins s σ H vs us Q I r h
    obtain ⟨F, ds, sF, rd, m⟩ := h
    match ds with
    | [] => exact m.no.elim
    | d :: e :: f :: es => exact (show False by cases d <;> cases e <;> exact m.no).elim
    | [d, e] =>
      obtain ⟨v, u, rfl, rv, ru⟩ := rd.two
      cases d with
      | int i =>
        cases e with
        | int j =>
          rw [Rep.int_iff.mp rv, Rep.int_iff.mp ru] at r
          exact call_min2 hc pins s σ H _ us Q I r ⟨i, j, rfl, m.int sF⟩
        | _ => exact m.no.elim
      | _ => exact m.no.elim
    | [d] =>
      obtain ⟨v, rfl, rv⟩ := rd.one
      cases d with
      | lst xs =>
        obtain ⟨a, us', rfl, h1, h2⟩ := Rep.lst_iff.mp rv
        simp only [bltD] at m
        cases e1 : intsOf xs with
        | none => rw [e1] at m; exact m.no.elim
        | some ns =>
          rw [e1] at m
          rw [intsOf_map e1] at h2
          rw [h2.ints] at h1
          have m : rMk X.K ((least ns).map .int) F H Q := m
          cases e2 : least ns with
          | none => rw [e2] at m; exact m.no.elim
          | some k =>
            rw [e2] at m
            obtain ⟨q1, q2⟩ := least_is e2
            refine cr_min hc pins s σ H _ us Q I r ⟨a, ns, rfl, .inl (.inl (sF _ _ h1)), List.length_pos_of_mem q1, fun k' g1 g2 => ?_⟩
            have e3 : k' = k := by have := g2 k q1; have := q2 k' g1; omega
            rw [e3]; exact m.int sF
      | tup xs =>
        obtain ⟨a, us', rfl, h1, h2⟩ := Rep.tup_iff.mp rv
        simp only [bltD] at m
        cases e1 : intsOf xs with
        | none => rw [e1] at m; exact m.no.elim
        | some ns =>
          rw [e1] at m
          rw [intsOf_map e1] at h2
          rw [h2.ints] at h1
          have m : rMk X.K ((least ns).map .int) F H Q := m
          cases e2 : least ns with
          | none => rw [e2] at m; exact m.no.elim
          | some k =>
            rw [e2] at m
            obtain ⟨q1, q2⟩ := least_is e2
            refine cr_minT hc pins s σ H _ us Q I r ⟨a, ns, rfl, Same.seqT sF h1, List.length_pos_of_mem q1, fun k' g1 g2 => ?_⟩
            have e3 : k' = k := by have := g2 k q1; have := q2 k' g1; omega
            rw [e3]; exact m.int sF
      | _ => exact m.no.elim
  | .max => by
    intro pins s σ H vs us Q I r h
    obtain ⟨F, ds, sF, rd, m⟩ := h
    match ds with
    | [] => exact m.no.elim
    | d :: e :: f :: es => exact (show False by cases d <;> cases e <;> exact m.no).elim
    | [d, e] =>
      obtain ⟨v, u, rfl, rv, ru⟩ := rd.two
      cases d with
      | int i =>
        cases e with
        | int j =>
          rw [Rep.int_iff.mp rv, Rep.int_iff.mp ru] at r
          exact call_max2 hc pins s σ H _ us Q I r ⟨i, j, rfl, m.int sF⟩
        | _ => exact m.no.elim
      | _ => exact m.no.elim
    | [d] =>
      obtain ⟨v, rfl, rv⟩ := rd.one
      cases d with
      | lst xs =>
        obtain ⟨a, us', rfl, h1, h2⟩ := Rep.lst_iff.mp rv
        simp only [bltD] at m
        cases e1 : intsOf xs with
        | none => rw [e1] at m; exact m.no.elim
        | some ns =>
          rw [e1] at m
          rw [intsOf_map e1] at h2
          rw [h2.ints] at h1
          have m : rMk X.K ((greatest ns).map .int) F H Q := m
          cases e2 : greatest ns with
          | none => rw [e2] at m; exact m.no.elim
          | some k =>
            rw [e2] at m
            obtain ⟨q1, q2⟩ := greatest_is e2
            refine cr_max hc pins s σ H _ us Q I r ⟨a, ns, rfl, .inl (.inl (sF _ _ h1)), List.length_pos_of_mem q1, fun k' g1 g2 => ?_⟩
            have e3 : k' = k := by have := g2 k q1; have := q2 k' g1; omega
            rw [e3]; exact m.int sF
      | tup xs =>
        obtain ⟨a, us', rfl, h1, h2⟩ := Rep.tup_iff.mp rv
        simp only [bltD] at m
        cases e1 : intsOf xs with
        | none => rw [e1] at m; exact m.no.elim
        | some ns =>
          rw [e1] at m
          rw [intsOf_map e1] at h2
          rw [h2.ints] at h1
          have m : rMk X.K ((greatest ns).map .int) F H Q := m
          cases e2 : greatest ns with
          | none => rw [e2] at m; exact m.no.elim
          | some k =>
            rw [e2] at m
            obtain ⟨q1, q2⟩ := greatest_is e2
            refine cr_maxT hc pins s σ H _ us Q I r ⟨a, ns, rfl, Same.seqT sF h1, List.length_pos_of_mem q1, fun k' g1 g2 => ?_⟩
            have e3 : k' = k := by have := g2 k q1; have := q2 k' g1; omega
            rw [e3]; exact m.int sF
      | _ => exact m.no.elim
  | .sum => by
    intro pins s σ H vs us Q I r h
    obtain ⟨F, ds, sF, rd, m⟩ := h
    match ds with
    | [] => exact m.no.elim
    | d :: e :: es => exact (show False by cases d <;> exact m.no).elim
    | [d] =>
      obtain ⟨v, rfl, rv⟩ := rd.one
      cases d with
      | lst xs =>
        obtain ⟨a, us', rfl, h1, h2⟩ := Rep.lst_iff.mp rv
        simp only [bltD] at m
        cases e1 : intsOf xs with
        | none => rw [e1] at m; exact m.no.elim
        | some ns =>
          rw [e1] at m
          rw [intsOf_map e1] at h2
          rw [h2.ints] at h1
          exact cr_sum hc pins s σ H _ us Q I r ⟨a, ns, rfl, .inl (.inl (sF _ _ h1)), rMk.int sF m⟩
      | _ => exact m.no.elim
  | .any => by
    intro pins s σ H vs us Q I r h
    obtain ⟨F, ds, sF, rd, m⟩ := h
    match ds with
    | [] => exact m.no.elim
    | d :: e :: es => exact (show False by cases d <;> exact m.no).elim
    | [d] =>
      obtain ⟨v, rfl, rv⟩ := rd.one
      cases d with
      | lst xs =>
        obtain ⟨a, us', rfl, h1, h2⟩ := Rep.lst_iff.mp rv
        simp only [bltD] at m
        cases e1 : blsOf xs with
        | none => rw [e1] at m; exact m.no.elim
        | some ns =>
          rw [e1] at m
          rw [blsOf_map e1] at h2
          rw [h2.bls] at h1
          exact cr_any hc pins s σ H _ us Q I r ⟨a, ns, rfl, .inl (.inl (sF _ _ h1)), rMk.bl sF m⟩
      | _ => exact m.no.elim
  | .all => by
    intro pins s σ H vs us Q I r h
    obtain ⟨F, ds, sF, rd, m⟩ := h
    match ds with
    | [] => exact m.no.elim
    | d :: e :: es => exact (show False by cases d <;> exact m.no).elim
    | [d] =>
      obtain ⟨v, rfl, rv⟩ := rd.one
      cases d with
      | lst xs =>
        obtain ⟨a, us', rfl, h1, h2⟩ := Rep.lst_iff.mp rv
        simp only [bltD] at m
        cases e1 : blsOf xs with
        | none => rw [e1] at m; exact m.no.elim
        | some ns =>
          rw [e1] at m
          rw [blsOf_map e1] at h2
          rw [h2.bls] at h1
          exact cr_all hc pins s σ H _ us Q I r ⟨a, ns, rfl, .inl (.inl (sF _ _ h1)), rMk.bl sF m⟩
      | _ => exact m.no.elim
  | .int => by
    intro pins s σ H vs us Q I r h
    obtain ⟨F, ds, sF, rd, m⟩ := h
    match ds with
    | [] => exact m.no.elim
    | d :: e :: es => exact (show False by cases d <;> exact m.no).elim
    | [d] =>
      obtain ⟨v, rfl, rv⟩ := rd.one
      cases d with
      | int i =>
        rw [Rep.int_iff.mp rv] at r
        exact call_int1 pins s σ H _ us Q I r (.inl ⟨i, rfl, m.int sF⟩)
      | bl b =>
        rw [Rep.bl_iff.mp rv] at r
        exact call_int1 pins s σ H _ us Q I r (.inr ⟨b, rfl, m.int sF⟩)
      | _ => exact m.no.elim
theorem op_Mkb (hu : X.A.units + 64 < cLine) : ∀ b : Mkb, CallR X (mkbV b) (rMb X.K b)
  | .sorted => op_sorted hu
  | .tuple => by
    intro pins s σ H vs us Q I r h
    obtain ⟨F, ds, sF, rd, m⟩ := h
    match ds with
    | [] => exact m.no.elim
    | d :: e :: es => exact (show False by cases d <;> exact m.no).elim
    | [d] =>
      obtain ⟨v, rfl, rv⟩ := rd.one
      cases d with
      | lst xs =>
        obtain ⟨a, us', rfl, h1, h2⟩ := Rep.lst_iff.mp rv
        exact call_tuple_of pins s σ H _ us Q I r ⟨a, us', rfl, .inl ⟨.inl (.inl (sF _ _ h1)), rMk.tup sF h2 m⟩⟩
      | tup xs =>
        obtain ⟨a, us', rfl, h1, h2⟩ := Rep.tup_iff.mp rv
        exact call_tuple_of pins s σ H _ us Q I r ⟨a, us', rfl, .inr ⟨Same.seqT sF h1, m.same sF (by intro _ q; cases q) (by intro _ _ q; cases q) rv⟩⟩
      | _ => exact m.no.elim
  | .list => by
    intro pins s σ H vs us Q I r h
    obtain ⟨F, ds, sF, rd, m⟩ := h
    match ds with
    | [] => exact m.no.elim
    | d :: e :: es => exact (show False by cases d <;> exact m.no).elim
    | [d] =>
      obtain ⟨v, rfl, rv⟩ := rd.one
      cases d with
      | lst xs =>
        obtain ⟨a, us', rfl, h1, h2⟩ := Rep.lst_iff.mp rv
        exact call_list_of pins s σ H _ us Q I r ⟨a, us', rfl, .inl (.inl (.inl (sF _ _ h1))), rMk.lst sF h2 m⟩
      | tup xs =>
        obtain ⟨a, us', rfl, h1, h2⟩ := Rep.tup_iff.mp rv
        exact call_list_of pins s σ H _ us Q I r ⟨a, us', rfl, .inr (Same.seqT sF h1), rMk.lst sF h2 m⟩
      | _ => exact m.no.elim
theorem op_MkbT {b : Mkb} {r : List V → Hp → VK → Prop} (h : CallR X (mkbV b) r) (hb : b ≠ .sorted) : CallR X (.type (mkbId b)) r := by
  cases b with
  | sorted => exact absurd rfl hb
  | tuple => exact h
  | list => exact h
/-! ### isinstance -/
def kindD : D → String
  | .non => "NoneType" | .bl _ => "bool" | .int _ => "int" | .str _ => "str" | .tup _ => "tuple" | .lst _ => "list" | .dic _ _ => "dict" | .scr _ => "list" | .obj _ _ _ => ""
theorem ty_D {d : D} {v : V} (s : Same F H) (r : Rep K F d v) (hs : ∀ ns, d ≠ .scr ns) : TyX K H v (.type (kindD d)) := by
  cases d with
  | non => rw [Rep.non_iff.mp r]; exact .base .non
  | bl b => rw [Rep.bl_iff.mp r]; exact .base (.bl b)
  | int i => rw [Rep.int_iff.mp r]; exact .base (.int i)
  | str x => rw [Rep.str_iff.mp r]; exact .base (.str x)
  | tup xs =>
    obtain ⟨a, vs, rfl, h1, h2⟩ := Rep.tup_iff.mp r
    rcases Same.seqT s h1 with (h | ⟨o, h⟩) | ⟨o, its, n, h, c, _⟩
    · exact .base (.tup h)
    · exact .fTuple h
    · exact .kTuple h c
  | lst xs =>
    obtain ⟨a, vs, rfl, h1, h2⟩ := Rep.lst_iff.mp r
    exact .base (.lst (s _ _ h1))
  | dic ks xs =>
    obtain ⟨a, vs, rfl, h1, h2⟩ := Rep.dic_iff.mp r
    rcases Same.rd s h1 with h | ⟨o, h⟩
    · exact .base (.dK h)
    · exact .fDict h
  | scr ns => exact absurd rfl (hs ns)
  | obj c ns vs => exact (Rep.obj_iff.mp r).elim
theorem tyD_kit {d : D} {t : Ty} {b : Bool} (h : tyD d t = some b) : PySem.W.kitOne K (.type (kindD d)) (.type (tyStr t)) = some b := by
  cases d <;> cases t <;> simp only [tyD, Option.some.injEq, reduceCtorEq] at h <;> subst h <;> exact kit_ty (by simp only [kindD, tyStr]; decide +kernel)
def rIs (K : PySem.W.Frag) (t : Ty) : List V → Hp → VK → Prop := fun vs H Q => ∃ F d v b, vs = [v, .ty (tyStr t)] ∧ Same F H ∧ Rep K F d v ∧ tyD d t = some b ∧ Q (.bl b) H
theorem op_Is (t : Ty) : CallR X (.builtin "isinstance") (rIs X.K t) := by
  intro pins s σ H vs us Q I r h
  obtain ⟨F, d, v, b, rfl, sF, rd, hb, q⟩ := h
  refine call_isi pins s σ H _ us Q I r ⟨v, .ty (tyStr t), _, _, b, rfl, .ty _, ty_D sF rd ?_, tyD_kit hb, q⟩
  intro ns e; subst e; cases t <;> cases hb

/-! ### subscripts, slices -/
theorem ixN_lt {n : Nat} {i : Int} {j : Nat} (h : ixN n i = some j) : j < n := (ixN_seq h).2.1
theorem RepL.atI {ds : List D} {vs : List V} {i : Int} {d : D} (r : RepL K F ds vs) (h : L2.atI ds i = some d) : ∃ v, L2.atI vs i = some v ∧ Rep K F d v := by
  unfold L2.atI at h ⊢
  rw [Option.bind_eq_some_iff] at h
  obtain ⟨j, h1, h2⟩ := h
  obtain ⟨v, h3, h4⟩ := r.get h2
  rw [r.length] at h1
  exact ⟨v, by rw [h1]; exact h3, h4⟩
def rIxD (K : PySem.W.Frag) : R2 := fun x y H Q => ∃ F d e r, Same F H ∧ Rep K F d x ∧ Rep K F e y ∧ ixD d e = some r ∧ ∀ v, (∀ F', Rep K F' d x → Rep K F' r v) ∨ Rep K F r v → Q v H
theorem RepL.cut {ds : List D} {vs : List V} (r : RepL K F ds vs) (lo hi : Option Int) : RepL K F (cutD ds lo hi) (cutV vs lo hi) := by
  unfold cutD cutV
  rw [r.length]
  exact (r.drop _).take _
def rSlD (K : PySem.W.Frag) : V → Option Int → Option Int → Hp → VK → Prop := fun x lo hi H Q => ∃ F d, Same F H ∧ Rep K F d x ∧ rMk K (slD d lo hi) F H Q
theorem SlR.imp {r r' : V → Option Int → Option Int → Hp → VK → Prop} (o : SlR X r) (h : ∀ x lo hi H Q, r' x lo hi H Q → r x lo hi H Q) : SlR X r' :=
  fun pins s σ H x v vl vu lo hi sl Q I rx hs pl pu q => o pins s σ H x v vl vu lo hi sl Q I rx hs pl pu (h _ _ _ _ _ q)
theorem cut_all {α : Type} (xs : List α) (lo hi : Option Int) (h1 : HT.sIx xs.length 0 lo = 0) (h2 : HT.sIx xs.length xs.length hi = xs.length) : (xs.drop (HT.sIx xs.length 0 lo)).take (HT.sIx xs.length xs.length hi - HT.sIx xs.length 0 lo) = xs := by
  rw [h1, h2, List.drop_zero, Nat.sub_zero, List.take_length]
theorem op_Sl : SlR X (rSlD X.K) := by
  refine SlR.imp (SlR.or sl_list (SlR.or sl_tupA sl_str)) fun x lo hi H Q h => ?_
  obtain ⟨F, d, sF, rd, m⟩ := h
  cases d with
  | lst xs =>
    obtain ⟨a, vs, rfl, h1, h2⟩ := Rep.lst_iff.mp rd
    exact .inl ⟨a, vs, rfl, .inl (.inl (sF _ _ h1)), rMk.lst sF (h2.cut lo hi) m⟩
  | scr ns =>
    obtain ⟨a, rfl, h1⟩ := Rep.scr_iff.mp rd
    exact .inl ⟨a, _, rfl, Same.seq sF h1, rMk.lst sF ((RepL.of_ints ns).cut lo hi) m⟩
  | tup xs =>
    obtain ⟨a, vs, rfl, h1, h2⟩ := Rep.tup_iff.mp rd
    refine .inr (.inl ⟨a, vs, rfl, Same.seqT sF h1, fun hw => ?_, fun _ => rMk.tup sF (h2.cut lo hi) m⟩)
    have e : cutD xs lo hi = xs := cut_all xs lo hi (by rw [h2.length]; exact hw.1) (by rw [h2.length]; exact hw.2)
    have m : rMk X.K (some (.tup (cutD xs lo hi))) F H Q := m
    rw [e] at m
    exact m.same sF (by intro _ q; cases q) (by intro _ _ q; cases q) rd
  | str z =>
    simp only [slD] at m
    split at m
    · rename_i hl
      exact .inr (.inr ⟨z, Rep.str_iff.mp rd, hl, m.str sF⟩)
    · exact m.no.elim
  | _ => exact m.no.elim
end
end Z
/-! Dicts: what stands at a key. -/
namespace Z
open PySem PySem.Spec PyProof.Rows L2
theorem eqKey_iff {d : D} {k j : Key} (h : d = keyD k) : eqKey d j = decide (k = j) := by
  subst h
  cases k <;> cases j <;> simp [keyD, eqKey]
theorem key_rep {K : PySem.W.Frag} {F : Hp} {d : D} {v : V} {k : Key} (h : keyOf d = some k) (r : Rep K F d v) : v = kV k := by
  cases d <;> simp only [keyOf, Option.some.injEq, reduceCtorEq] at h
  · subst h; exact Rep.int_iff.mp r
  · subst h; exact Rep.str_iff.mp r
theorem lookK_rel {K : PySem.W.Frag} {F : Hp} {k : Key} : ∀ {kvs : List (Key × V)} {ds : List D}, RepL K F ds (kvs.map (·.2)) → (∀ v, valV kvs k = some v → ∃ d, lookK (kvs.map fun p => keyD p.1) ds k = some d ∧ Rep K F d v) ∧ (valV kvs k = none → lookK (kvs.map fun p => keyD p.1) ds k = none)
  | [], ds, r => by
    have e : ds = [] := List.length_eq_zero_iff.mp r.length
    subst e
    constructor
    · intro v h
      rw [valV_nil] at h
      cases h
    · intro _
      rfl
  | p :: kvs, ds, r => by
    cases ds with
    | nil => have := r.length; simp at this
    | cons d ds =>
      obtain ⟨v, t, e, h1, h2⟩ := r.cons_inv
      rw [List.map_cons] at e
      injection e with e1 e2
      subst e1 e2
      have ih := lookK_rel (k := k) h2
      have ek := eqKey_iff (d := keyD p.1) (k := p.1) (j := k) rfl
      have un : lookK (keyD p.1 :: kvs.map fun p => keyD p.1) (d :: ds) k = if eqKey (keyD p.1) k = true then some d else lookK (kvs.map fun p => keyD p.1) ds k := rfl
      rw [List.map_cons, un, ek]
      by_cases z : p.1 = k
      · rw [decide_eq_true z, if_pos rfl]
        rw [valV_pos z]
        exact ⟨fun v hv => by cases hv; exact ⟨d, rfl, h1⟩, fun h => by cases h⟩
      · rw [decide_eq_false z, if_neg (by decide)]
        rw [valV_neg z]
        exact ih
theorem lookK_some {K : PySem.W.Frag} {F : Hp} {k : Key} {kvs : List (Key × V)} {ds : List D} {d : D} (r : RepL K F ds (kvs.map (·.2))) (h : lookK (kvs.map fun p => keyD p.1) ds k = some d) : ∃ v, valV kvs k = some v ∧ Rep K F d v := by
  obtain ⟨h1, h2⟩ := lookK_rel (k := k) r
  cases q : valV kvs k with
  | none => rw [h2 q] at h; cases h
  | some v =>
    obtain ⟨d', e, h3⟩ := h1 v q
    rw [e] at h
    cases h
    exact ⟨v, rfl, h3⟩
theorem lookK_getD {K : PySem.W.Frag} {F : Hp} {k : Key} {kvs : List (Key × V)} {ds : List D} {z : D} {u : V} (r : RepL K F ds (kvs.map (·.2))) (rz : Rep K F z u) : Rep K F ((lookK (kvs.map fun p => keyD p.1) ds k).getD z) ((valV kvs k).getD u) := by
  obtain ⟨h1, h2⟩ := lookK_rel (k := k) r
  cases q : valV kvs k with
  | none => rw [h2 q]; exact rz
  | some v =>
    obtain ⟨d', e, h3⟩ := h1 v q
    rw [e]
    exact h3
/-- d[k], there -/
def rIxDic : R2 := fun x y H Q => ∃ a k kvs v, x = .ref a ∧ y = kV k ∧ Rd H a (.dK kvs) ∧ valV kvs k = some v ∧ Q v H
section
variable {X : Cx} {o e f : Expr} {apos cpos : Pos} {ty tx : TE} {a : Addr} {es : Array DictEntry} {n : Nat}
theorem ix_dic (hu : X.A.units + 1 < cLine) : IxR X rIxDic := by
  intro value slice pins s σ H x y v u Q I rx ry h hs
  obtain ⟨p, k, kvs, w, rfl, rfl, hd, hk, q⟩ := h
  obtain rfl : v = Value.ref p := rx
  have g : DGet H p (kV k) (some w) := .inl ⟨kvs, k, hd, rfl, hk.symm⟩
  exact tail_any (dict_typeIs I g) PySem.F.slot_dict_getitem.lookup (d_getItem hu I g ry fun w' s3 I3 rw' => ⟨w, H, I3, rw', q⟩) hs
/-- NAME.get(k, d) of the module's dict -/
theorem pe_kget2 (D : KDict X.K X.w a es n) (ho : PE X o (tC (.ref a))) (he : PE X e ty) (hf : PE X f tx) (m : M2 X o "get" apos e f cpos) :
    PE X (.Call (.Attribute o "get" apos) [e, f] [] cpos) (fun σ H Q => ty σ H fun y H1 => tx σ H1 fun z H2 => ∃ q, y = .str q ∧ ∃ r, PySem.W.nsIn X.K a q = some r ∧ (match r with
      | none => Q z H2
      | some u => ∃ w, RelV w u ∧ Q w H2)) := by
  refine ⟨fun pins s σ H Q I h => ?_⟩
  refine wpAny_Call_method m.base m.few m.line PySem.F.plainAttrs_dict PySem.F.slot_dict_get PySem.F.type_dict_get (thn (ho.run pins s σ H (fun x H1 => x = .ref a ∧ ty σ H1 fun y H1 => tx σ H1 fun z H2 => ∃ q, y = .str q ∧ ∃ r, PySem.W.nsIn X.K a q = some r ∧ (match r with
      | none => Q z H2
      | some u => ∃ w, RelV w u ∧ Q w H2)) I ⟨rfl, h⟩) fun u s1 ⟨x, H1, I1, rx, ex, q1⟩ => ?_)
  subst ex
  obtain rfl : u = Value.ref a := rx
  have hm := PySem.W.mapOf_K (prog := X.prog) (w := X.w) I1.kIn D.at_ D.lit
  refine ⟨kd_type D I1, hm.noDict, ?_⟩
  rw [m.trees]
  refine Calls.callWith_builtin rfl (Calls.evalArgs_plain (Calls.spliced_cons (thn (he.run pins s1 σ H1 _ I1 q1) fun iv s2 ⟨y, H2, I2, ry, q2⟩ =>
    Calls.spliced_cons (thn (hf.run pins s2 σ H2 _ I2 q2) fun fv s3 ⟨z, H3, I3, rz, q, eq, r, hr, q3⟩ => Calls.spliced_nil ?_))))
  subst eq
  obtain ⟨t, rfl⟩ := ry
  have hm3 := PySem.W.mapOf_K (prog := X.prog) (w := X.w) I3.kIn D.at_ D.lit
  have fd := PySem.W.find_K D.at_ hr
  refine call_meetsIn PySem.F.slot_dict_get (kd_type D I3) PySem.F.entry_dict_get (PySem.F.args_dict_get_3 _ _ _) (meets_dict_get_default (strKind X.prog X.w) a (strKind_is X.prog X.w q t) D.low fv) ⟨_, hm3, ?_⟩
  show wants _ _ _ _
  rw [fd]
  cases r with
  | none => exact ⟨z, H3, I3.tok _, rz, q3⟩
  | some u =>
    obtain ⟨w, rw', q3⟩ := q3
    exact ⟨w, H3, I3.tok _, rw', q3⟩
end
end Z
/-! Terms say what the syntax does: expressions. -/
namespace Z
open PySem PySem.Spec PyProof.Rows L2

def isFr : E → Bool
  | .bin _ _ _ => true
  | .lst _ => true
  | .sl _ _ _ => true
  | .rev _ => true
  | .comp _ _ _ _ _ => true
  | .mkb _ _ => true
  | .dis _ _ => true
  | _ => false
section
variable {X : Cx} {T : Nat → List D → R D} {W : WX} {S : SC} {lv : Nat}
abbrev SE (X : Cx) (T : Nat → List D → R D) (W : WX) (e : Expr) (ir : E) : Prop := PE X e (tE X.K W X.mg (isFr ir) (dE T ir))
abbrev ST (X : Cx) (T : Nat → List D → R D) (W : WX) (e : Expr) (ir : E) : Prop := PT X e (tT X.K W X.mg (dT T ir))
abbrev SB (X : Cx) (T : Nat → List D → R D) (W : WX) (e : Expr) (b : Bo) : Prop := PE X e (tB X.K W X.mg (dO T b))
theorem SE.weak {e : Expr} {ir : E} (h : SE X T W e ir) : PE X e (tE X.K W X.mg false (dE T ir)) := by
  unfold SE at h
  cases hf : isFr ir with
  | false => rw [hf] at h; exact h
  | true => rw [hf] at h; exact tE.weak h
/-- a value that is known, and no heap that changes -/
theorem tE.pure {e : Expr} {r : Env' → R D} {t : TE} (h : PE X e t) (i : ∀ {H0 F0 ρ σ H F A} {Q : VK}, Rl X.K H0 F0 ρ σ H F A → PostX W X.mg σ H F (GE X.K false H F Q) (r ρ) → t σ H Q) : PE X e (tE X.K W X.mg false r) :=
  PE.imp h fun σ H Q q => by
    obtain ⟨H0, F0, ρ, F, A, rl, p⟩ := q
    exact i rl p
theorem GE.here {K : PySem.W.Frag} {H F : Hp} {Q : VK} {d : D} {v : V} (g : GE K false H F Q d) (s : Same F H) (r : Rep K F d v) : Q v H := g v H F (Ex.refl s) (by simpa using r)
theorem se_cst {e : Expr} {d : D} {v : V} (h : PE X e (tC v)) (r : ∀ F, Rep X.K F d v) : PE X e (tE X.K W X.mg false (fun _ => .ok d)) :=
  tE.pure h fun rl p => GE.here p rl.sFH (r _)
theorem se_var {x : Str} {pos : Pos} {i : Nat} (c : Okc S T lv W X) (hv : isVis S x = true) (hi : idxOf x S.N = some i) : SE X T W (.Name x pos) (.var i) := by
  have hN : X.N[i]? = some x := by rw [c.N]; exact idxOf_get hi
  have hx : Vis X.env.scope x := by
    rw [c.sc]
    unfold isVis at hv
    cases q : S.sc.names.lookup x with
    | none => rw [q] at hv; cases hv
    | some k => rw [q] at hv; cases k <;> first | exact .inl q | exact .inr (.inl q) | exact .inr (.inr q) | cases hv
  have nm := c.nm x (by rw [← c.N]; exact List.mem_of_getElem? hN)
  refine tE.pure (pe_var hN hx nm.1 nm.2) fun {H0 F0 ρ σ H F A Q} rl p => ?_
  have p : PostX W X.mg σ H F (GE X.K false H F Q) (look ρ i) := p
  unfold look at p
  split at p
  · rename_i d hd
    obtain ⟨v, h1, h2⟩ := rl.im hd
    exact ⟨v, h1, GE.here p rl.sFH h2⟩
  · exact p.elim
theorem sb_own {x : Str} {pos : Pos} {i : Nat} (c : Okc S T lv W X) (hv : isVis S x = true) (hi : idxOf x S.N = some i) : SB X T W (.Name x pos) (.own i) := by
  have hN : X.N[i]? = some x := by rw [c.N]; exact idxOf_get hi
  have hx : Vis X.env.scope x := by
    rw [c.sc]
    unfold isVis at hv
    cases q : S.sc.names.lookup x with
    | none => rw [q] at hv; cases hv
    | some k => rw [q] at hv; cases k <;> first | exact .inl q | exact .inr (.inl q) | exact .inr (.inr q) | cases hv
  have nm := c.nm x (by rw [← c.N]; exact List.mem_of_getElem? hN)
  refine PE.imp (pe_var hN hx nm.1 nm.2) fun σ H Q q => ?_
  obtain ⟨H0, F0, ρ, F, A, rl, p⟩ := q
  have p : PostX W X.mg σ H F (GB X.K ρ A H F Q) (lookB ρ i) := p
  unfold lookB at p
  split at p
  · rename_i d hd
    obtain ⟨v, h1, h2⟩ := rl.im hd
    exact ⟨v, h1, p v H F (Ex.refl rl.sFH) (Rep.toS (Fpl.sub rl) h2)⟩
  · rename_i d hd
    exact ⟨_, (rl.slot i _ hd).1, p _ H F (Ex.refl rl.sFH) (Own.repS rl hd)⟩
  · exact p.elim
theorem gl_of {x : Str} (c : Okc S T lv W X) (h : isGl S x = true) : Gl X x := by
  show X.env.scope.names.lookup x = _
  rw [c.sc]
  unfold isGl at h
  cases q : S.sc.names.lookup x with
  | none => rw [q] at h; cases h
  | some k => rw [q] at h; cases k <;> first | rfl | cases h
theorem se_glb {x : Str} {pos : Pos} {d : D} (c : Okc S T lv W X) (hg : isGl S x = true) (hd : S.cst.lookup x = some d) : SE X T W (.Name x pos) (.glb x d) := by
  obtain ⟨hdb, v, u, hm, r, rep⟩ := c.cst x d hd
  exact se_cst (pe_glob (gl_of c hg) hm r hdb) rep
theorem se_bin {a b : Expr} {x y : E} {o : BOp} {pos : Pos} (ha : SE X T W a x) (hb : SE X T W b y) : SE X T W (.BinOp a (bOp o) b pos) (.bin o x y) := by
  refine PE.imp (pe_op (op_B o) ha.weak hb.weak) fun σ H Q q => ?_
  obtain ⟨H0, F0, ρ, F, A, rl, p⟩ := q
  refine tE.seq rl p fun d v H1 F1 e1 r1 p1 => ?_
  refine tE.seq (rl.go e1) (p1.goE e1) fun d2 v2 H2 F2 e2 r2 p2 => ?_
  exact ⟨F2, d, d2, e2.sFH, r1.mono e2.sF, r2, PostX.val (s := e2.sFH) (p2.goE e2) rfl⟩
theorem se_neg {a : Expr} {x : E} {pos : Pos} (ha : SE X T W a x) : SE X T W (.UnaryOp .USub a pos) (.neg x) := by
  refine PE.imp (pe_un un_neg ha.weak) fun σ H Q q => ?_
  obtain ⟨H0, F0, ρ, F, A, rl, p⟩ := q
  refine tE.seq rl p fun d v H1 F1 e1 r1 p1 => ?_
  cases d with
  | int i => exact ⟨i, Rep.int_iff.mp r1, GE.here (p1.goE e1) e1.sFH (Rep.int_iff.mpr rfl)⟩
  | _ => exact p1.elim
theorem se_not {a : Expr} {x : E} {pos : Pos} (ha : SE X T W a x) : SE X T W (.UnaryOp .Not a pos) (.not_ x) := by
  refine PE.imp (pe_not ha.weak) fun σ H Q q => ?_
  obtain ⟨H0, F0, ρ, F, A, rl, p⟩ := q
  refine tE.seq rl p fun d v H1 F1 e1 r1 p1 => ?_
  cases d with
  | bl i => exact ⟨i, Rep.bl_iff.mp r1, GE.here (p1.goE e1) e1.sFH (Rep.bl_iff.mpr rfl)⟩
  | _ => exact p1.elim
theorem se_and {a b : Expr} {rest : List Expr} {x y : E} {pos : Pos} (ha : SE X T W a x) (hb : SE X T W (.BoolOp .And (b :: rest) pos) y) : SE X T W (.BoolOp .And (a :: b :: rest) pos) (.and_ x y) := by
  refine PE.imp (pe_and ha.weak hb.weak) fun σ H Q q => ?_
  obtain ⟨H0, F0, ρ, F, A, rl, p⟩ := q
  refine tE.seq rl p fun d v H1 F1 e1 r1 p1 => ?_
  cases d with
  | bl c =>
    refine ⟨c, Rep.bl_iff.mp r1, ?_⟩
    cases c with
    | true => exact ⟨H0, F0, ρ, F1, A, rl.go e1, p1.goE e1⟩
    | false => exact GE.here (p1.goE e1) e1.sFH (Rep.bl_iff.mpr rfl)
  | _ => exact p1.elim
theorem se_or {a b : Expr} {rest : List Expr} {x y : E} {pos : Pos} (ha : SE X T W a x) (hb : SE X T W (.BoolOp .Or (b :: rest) pos) y) : SE X T W (.BoolOp .Or (a :: b :: rest) pos) (.or_ x y) := by
  refine PE.imp (pe_or ha.weak hb.weak) fun σ H Q q => ?_
  obtain ⟨H0, F0, ρ, F, A, rl, p⟩ := q
  refine tE.seq rl p fun d v H1 F1 e1 r1 p1 => ?_
  cases d with
  | bl c =>
    refine ⟨c, Rep.bl_iff.mp r1, ?_⟩
    cases c with
    | false => exact ⟨H0, F0, ρ, F1, A, rl.go e1, p1.goE e1⟩
    | true => exact GE.here (p1.goE e1) e1.sFH (Rep.bl_iff.mpr rfl)
  | _ => exact p1.elim
theorem se_ite {c a b : Expr} {z x y : E} {pos : Pos} (hc : ST X T W c z) (ha : SE X T W a x) (hb : SE X T W b y) : SE X T W (.IfExp c a b pos) (.ite z x y) := by
  refine PE.imp (pe_ifExp hc ha.weak hb.weak) fun σ H Q q => ?_
  obtain ⟨H0, F0, ρ, F, A, rl, p⟩ := q
  refine tT.seq rl p fun t H1 F1 e1 p1 => ?_
  cases t with
  | true => exact ⟨H0, F0, ρ, F1, A, rl.go e1, p1.goE e1⟩
  | false => exact ⟨H0, F0, ρ, F1, A, rl.go e1, p1.goE e1⟩
/-- a bool, from values that may be borrowed -/
theorem fin_bl {K : PySem.W.Frag} {mg : Str → Option Value} {σ : L2.St} {H F : Hp} {Q : VK} {b : Bool} (s : Same F H) (p : PostX W mg σ H F (GE K false H F Q) (.ok (.bl b))) : Q (.bl b) H := GE.here p s (Rep.bl_iff.mpr rfl)
theorem bind_bl (r : R Bool) : ((r.bind fun b => R.ok (D.bl b)).bind fun x => R.of (truD x)) = r := by cases r <;> rfl
/-- a comparison's outcome, as a value -/
theorem val_of {σ : L2.St} {H F : Hp} {Q : VK} {r : R Bool} (s : Same F H) (p : PostX W X.mg σ H F (GE X.K false H F Q) (r.bind fun b => .ok (.bl b))) : PostX W X.mg σ H F (GT H F fun b H' => Q (.bl b) H') r := by
  cases r with
  | ok b => exact fun H' F' e => p _ H' F' e (show Rep X.K F' (.bl b) (.bl b) from Rep.bl_iff.mpr rfl)
  | exc c => exact p
  | bad => exact p
theorem cmp_core {a b : Expr} {x y : Bo} {o : COp} {σ : L2.St} {H : Hp} {Q : Bool → Hp → Prop} (q : tT X.K W X.mg (fun ρ => (dO T x ρ).bind fun d1 => (dO T y ρ).bind fun d2 => R.of (cmpD o d1 d2)) σ H Q) :
    tOp (rC X.K o) (tB X.K W X.mg (dO T x)) (tB X.K W X.mg (dO T y)) σ H (fun v H' => ∃ k, v = .bl k ∧ Q k H') := by
  obtain ⟨H0, F0, ρ, F, A, rl, p⟩ := q
  refine tB.seq rl p fun d v H1 F1 e1 r1 p1 => ?_
  refine tB.seq (rl.go e1) (p1.goT e1) fun d2 v2 H2 F2 e2 r2 p2 => ?_
  cases hb : cmpD o d d2 with
  | none => rw [hb] at p2; exact p2.elim
  | some bb =>
    rw [hb] at p2
    exact ⟨Fpl ρ A F2 H2, d, d2, bb, Fpl.sup ((rl.go e1).go e2), (r1.rep (Fpl.sub (rl.go e1))).mono (Fpl.go e2), r2.rep (Fpl.sub ((rl.go e1).go e2)), hb, bb, rfl, p2 _ _ e2⟩
theorem tOp.mono {r : R2} {ta tb : TE} {σ : L2.St} {H : Hp} {Q Q' : VK} (ma : ∀ σ H Q Q', (∀ v H, Q v H → Q' v H) → ta σ H Q → ta σ H Q') (mb : ∀ σ H Q Q', (∀ v H, Q v H → Q' v H) → tb σ H Q → tb σ H Q') (mr : ∀ x y H Q Q', (∀ v H, Q v H → Q' v H) → r x y H Q → r x y H Q')
    (h : ∀ v H, Q v H → Q' v H) (q : tOp r ta tb σ H Q) : tOp r ta tb σ H Q' := ma _ _ _ _ (fun _ _ q1 => mb _ _ _ _ (fun _ _ q2 => mr _ _ _ _ _ h q2) q1) q
theorem tB.mono {r : Env' → R D} (σ : L2.St) (H : Hp) (Q Q' : VK) (h : ∀ v H, Q v H → Q' v H) (q : tB X.K W X.mg r σ H Q) : tB X.K W X.mg r σ H Q' := by
  obtain ⟨H0, F0, ρ, F, A, rl, p⟩ := q
  exact ⟨H0, F0, ρ, F, A, rl, p.go (Ex.refl rl.sFH) fun d g v H' F' e r => h _ _ (g v H' F' e r)⟩
theorem tE.mono {r : Env' → R D} (σ : L2.St) (H : Hp) (Q Q' : VK) (h : ∀ v H, Q v H → Q' v H) (q : tE X.K W X.mg false r σ H Q) : tE X.K W X.mg false r σ H Q' := by
  obtain ⟨H0, F0, ρ, F, A, rl, p⟩ := q
  exact ⟨H0, F0, ρ, F, A, rl, p.go (Ex.refl rl.sFH) fun d g v H' F' e r => h _ _ (g v H' F' e r)⟩
theorem rC.mono {K : PySem.W.Frag} {o : COp} (x y : V) (H : Hp) (Q Q' : VK) (h : ∀ v H, Q v H → Q' v H) (q : rC K o x y H Q) : rC K o x y H Q' := by
  obtain ⟨F, d, e, b, h1, h2, h3, h4, h5⟩ := q
  exact ⟨F, d, e, b, h1, h2, h3, h4, h _ _ h5⟩
theorem se_cmp {a b : Expr} {x y : Bo} {o : COp} {pos : Pos} (hu : X.A.units + 65 < cLine) (hm : behindInMarks (cOp o) b = false) (ha : SB X T W a x) (hb : SB X T W b y) : SE X T W (.Compare a [cOp o] [b] pos) (.cmp o x y) := by
  refine PE.imp (pe_cmpR (op_C hu o) ha hb hm) fun σ H Q q => ?_
  obtain ⟨H0, F0, ρ, F, A, rl, p⟩ := q
  refine tOp.mono tB.mono tB.mono rC.mono (fun v H' h => ?_) (cmp_core (a := a) (b := b) ⟨H0, F0, ρ, F, A, rl, val_of rl.sFH p⟩)
  obtain ⟨k, rfl, h⟩ := h
  exact h
theorem st_cmp {a b : Expr} {x y : Bo} {o : COp} {pos : Pos} (hu : X.A.units + 65 < cLine) (hm : behindInMarks (cOp o) b = false) (ha : SB X T W a x) (hb : SB X T W b y) : ST X T W (.Compare a [cOp o] [b] pos) (.cmp o x y) := by
  refine PT.imp (pt_cmpR (op_C hu o) ha hb hm) fun σ H Q q => ?_
  obtain ⟨H0, F0, ρ, F, A, rl, p⟩ := q
  refine cmp_core (a := a) (b := b) ⟨H0, F0, ρ, F, A, rl, ?_⟩
  have e : dT T (.cmp o x y) ρ = _ := bind_bl _
  rw [e] at p
  exact p
theorem chn_core {a b c : Expr} {x y z : E} {o p : COp} {σ : L2.St} {H : Hp} {Q : Bool → Hp → Prop} (q : tT X.K W X.mg (fun ρ => (dE T x ρ).bind fun d1 => (dE T y ρ).bind fun d2 => (R.of (cmpD o d1 d2)).bind fun r =>
    if r = true then (dE T z ρ).bind fun d3 => R.of (cmpD p d2 d3) else .ok false) σ H Q) :
    tChain (rC X.K o) (rC X.K p) (tE X.K W X.mg false (dE T x)) (tE X.K W X.mg false (dE T y)) (tE X.K W X.mg false (dE T z)) σ H (fun v H' => ∃ k, v = .bl k ∧ Q k H') := by
  obtain ⟨H0, F0, ρ, F, A, rl, p⟩ := q
  refine tE.seq rl p fun d v H1 F1 e1 r1 p1 => ?_
  refine tE.seq (rl.go e1) (p1.goT e1) fun d2 v2 H2 F2 e2 r2 p2 => ?_
  obtain ⟨bb, hb, p3⟩ := PostX.of p2
  have rl2 := (rl.go e1).go e2
  refine ⟨F2, d, d2, bb, e2.sFH, r1.mono e2.sF, r2, hb, bb, rfl, ?_⟩
  cases bb with
  | false => exact ⟨false, rfl, p3 _ _ e2⟩
  | true =>
    refine tE.seq rl2 (p3.goT e2) fun d3 v3 H3 F3 e3 r3 p4 => ?_
    cases hb2 : cmpD ‹_› d2 d3 with
    | none => rw [hb2] at p4; exact p4.elim
    | some b2 =>
      rw [hb2] at p4
      exact ⟨F3, d2, d3, b2, e3.sFH, r2.mono e3.sF, r3, hb2, b2, rfl, p4 _ _ e3⟩
theorem tChain.mono {r r' : R2} {ta tb tc : TE} {σ : L2.St} {H : Hp} {Q Q' : VK} (ma : ∀ σ H Q Q', (∀ v H, Q v H → Q' v H) → ta σ H Q → ta σ H Q') (mb : ∀ σ H Q Q', (∀ v H, Q v H → Q' v H) → tb σ H Q → tb σ H Q') (mc : ∀ σ H Q Q', (∀ v H, Q v H → Q' v H) → tc σ H Q → tc σ H Q')
    (mr : ∀ x y H Q Q', (∀ v H, Q v H → Q' v H) → r x y H Q → r x y H Q') (mr' : ∀ x y H Q Q', (∀ v H, Q v H → Q' v H) → r' x y H Q → r' x y H Q')
    (h : ∀ v H, Q v H → Q' v H) (q : tChain r r' ta tb tc σ H Q) : tChain r r' ta tb tc σ H Q' := by
  refine ma _ _ _ _ (fun _ _ q1 => mb _ _ _ _ (fun _ _ q2 => mr _ _ _ _ _ (fun v H' q3 => ?_) q2) q1) q
  obtain ⟨k, e, q3⟩ := q3
  refine ⟨k, e, ?_⟩
  cases k with
  | true => exact mc _ _ _ _ (fun _ _ q4 => mr' _ _ _ _ _ h q4) q3
  | false => exact h _ _ q3
theorem last2 {o p : CmpOp} {b c : Expr} (h : isSet c = false) : lastMarks [o, p] [b, c] = false := by
  show behindInMarks p c = false
  cases c <;> first | rfl | cases h
theorem notSet {o : CmpOp} {b : Expr} (h : isSet b = false) : behindInMarks o b = false := by cases b <;> first | rfl | cases h
theorem se_chn {a b c : Expr} {x y z : E} {o p : COp} {pos : Pos} (hu : X.A.units + 65 < cLine) (hs : isSet c = false) (ha : SE X T W a x) (hb : SE X T W b y) (hc : SE X T W c z) : SE X T W (.Compare a [cOp o, cOp p] [b, c] pos) (.chn o p x y z) := by
  refine PE.imp (pe_chain (op_C hu o) (op_C hu p) ha.weak hb.weak hc.weak (last2 hs)) fun σ H Q q => ?_
  obtain ⟨H0, F0, ρ, F, A, rl, p⟩ := q
  refine tChain.mono tE.mono tE.mono tE.mono rC.mono rC.mono (fun v H' h => ?_) (chn_core (a := a) (b := b) (c := c) ⟨H0, F0, ρ, F, A, rl, val_of rl.sFH p⟩)
  obtain ⟨k, rfl, h⟩ := h
  exact h
theorem st_chn {a b c : Expr} {x y z : E} {o p : COp} {pos : Pos} (hu : X.A.units + 65 < cLine) (hs : isSet c = false) (ha : SE X T W a x) (hb : SE X T W b y) (hc : SE X T W c z) : ST X T W (.Compare a [cOp o, cOp p] [b, c] pos) (.chn o p x y z) := by
  refine PT.imp (pt_chain (op_C hu o) (op_C hu p) ha.weak hb.weak hc.weak (last2 hs)) fun σ H Q q => ?_
  obtain ⟨H0, F0, ρ, F, A, rl, q⟩ := q
  refine chn_core (a := a) (b := b) (c := c) ⟨H0, F0, ρ, F, A, rl, ?_⟩
  have e : dT T (.chn o p x y z) ρ = _ := bind_bl _
  rw [e] at q
  exact q
/-! ### argument lists, displays, calls -/
theorem starEach_cons {e : Expr} {es : List Expr} {env : Env} (h : isStar e = false) : starEach (e :: es) env = (false, eval e env) :: starEach es env := by
  cases e <;> first | rfl | cases h
abbrev SEs (X : Cx) (T : Nat → List D → R D) (W : WX) (es : List Expr) (irs : Es) : Prop := PA X es (tL X.K W X.mg (dEs T irs))
abbrev SBs (X : Cx) (T : Nat → List D → R D) (W : WX) (es : List Expr) (irs : Bs) : Prop := PA X es (tBL X.K W X.mg (dBs T irs))
theorem ses_nil : SEs X T W [] .nil := PA.imp pa_nil fun σ H Q q => by
  obtain ⟨H0, F0, ρ, F, A, rl, p⟩ := q
  exact p [] H F (Ex.refl rl.sFH) RepL.nil
theorem ses_cons {e : Expr} {es : List Expr} {x : E} {xs : Es} (hs : isStar e = false) (h : SE X T W e x) (t : SEs X T W es xs) : SEs X T W (e :: es) (.cons x xs) := by
  refine PA.imp (pa_cons h.weak t (starEach_cons hs)) fun σ H Q q => ?_
  obtain ⟨H0, F0, ρ, F, A, rl, p⟩ := q
  refine tE.seq rl p fun d v H1 F1 e1 r1 p1 => ?_
  refine tL.seq (rl.go e1) (p1.goL e1) fun ds vs H2 F2 e2 r2 p2 => ?_
  exact (p2.goL e2) _ _ _ (Ex.refl e2.sFH) (RepL.cons (r1.mono e2.sF) r2)
theorem sbs_nil : SBs X T W [] .nil := PA.imp pa_nil fun σ H Q q => by
  obtain ⟨H0, F0, ρ, F, A, rl, p⟩ := q
  exact p [] H F (Ex.refl rl.sFH) RepL.nil
theorem sbs_cons {e : Expr} {es : List Expr} {x : Bo} {xs : Bs} (hs : isStar e = false) (h : SB X T W e x) (t : SBs X T W es xs) : SBs X T W (e :: es) (.cons x xs) := by
  refine PA.imp (pa_cons h t (starEach_cons hs)) fun σ H Q q => ?_
  obtain ⟨H0, F0, ρ, F, A, rl, p⟩ := q
  refine tB.seq rl p fun d v H1 F1 e1 r1 p1 => ?_
  refine tBL.seq (rl.go e1) (p1.goBL e1) fun ds vs H2 F2 e2 r2 p2 => ?_
  exact (p2.goBL e2) _ _ _ (Ex.refl e2.sFH) (RepL.cons ((r1.rep (Fpl.sub (rl.go e1))).mono (Fpl.go e2)) r2)
theorem se_tup {es : List Expr} {xs : Es} {k : Nat} {pos : Pos} (h : SEs X T W es xs) : SE X T W (.Tuple es k pos) (.tup xs) := by
  refine PE.imp (pe_tup h) fun σ H Q q => ?_
  obtain ⟨H0, F0, ρ, F, A, rl, p⟩ := q
  refine tL.seq rl p fun ds vs H1 F1 e1 r1 p1 => ?_
  split at p1
  · rename_i hl
    refine ⟨by rw [← r1.length]; exact hl, fun a ha => ?_⟩
    exact p1 _ _ (upd F1 a (.tup vs)) (e1.trans (Ex.alloc e1.sFH ha)) (by
      show Rep X.K (upd F1 a (.tup vs)) (.tup ds) (.ref a)
      exact Rep.tup_iff.mpr ⟨a, vs, rfl, .inl (.inl upd_same), r1.mono (same_upd (e1.sFH.free ha))⟩)
  · exact p1.elim
theorem se_lst {es : List Expr} {xs : Es} {pos : Pos} (h : SEs X T W es xs) : SE X T W (.List es pos) (.lst xs) := by
  refine PE.imp (pe_lst h) fun σ H Q q => ?_
  obtain ⟨H0, F0, ρ, F, A, rl, p⟩ := q
  refine tL.seq rl p fun ds vs H1 F1 e1 r1 p1 => ?_
  split at p1
  · rename_i hl
    refine ⟨by rw [← r1.length]; exact hl, fun a ha => ?_⟩
    exact p1 _ _ F1 (e1.trans (Ex.allocH e1.sFH ha)) (by
      show RepF X.K F1 H (upd H1 a (.lst vs)) (.lst ds) (.ref a)
      exact ⟨a, vs, rfl, e1.sH.free ha, upd_same, e1.sFH.free ha, r1⟩)
  · exact p1.elim
theorem backTo_any {es : List Expr} {env : Env} {pos : Pos} (h : ∀ e ∈ es, isStar e = false) : (backTo pos (starEach es env)).any (·.1) = false := by
  have q : (starEach es env).map (·.1) = es.map fun _ => false := by
    induction es with
    | nil => rfl
    | cons e es ih =>
      rw [starEach_cons (h e List.mem_cons_self), List.map_cons, List.map_cons, ih fun x hx => h x (List.mem_cons_of_mem _ hx)]
  have b : (backTo pos (starEach es env)).map (·.1) = (starEach es env).map (·.1) := by
    unfold backTo
    simp [List.map_map]
  have c : ∀ {l : List (Bool × Sem Value)}, l.map (·.1) = es.map (fun _ => false) → l.any (·.1) = false := fun {l} hl => by
    rw [List.any_eq_false]
    intro x hx
    have : x.1 ∈ l.map (·.1) := List.mem_map_of_mem hx
    rw [hl] at this
    obtain ⟨_, _, e⟩ := List.mem_map.mp this
    rw [← e]; simp
  exact c (b.trans q)
theorem tL.seqE {H0 F0 H F : Hp} {ρ : Env'} {A : Nat → Addr} {σ : L2.St} {r : Env' → R (List D)} {β : Type} {k : List D → R β} {G : β → Prop} {Q1 : List V → Hp → Prop} (rl : Rl X.K H0 F0 ρ σ H F A) (p : PostX W X.mg σ H F G ((r ρ).bind k))
    (h : ∀ ds vs H1 F1, r ρ = .ok ds → Ex H F H1 F1 → RepL X.K F1 ds vs → PostX W X.mg σ H F G (k ds) → Q1 vs H1) : tL X.K W X.mg r σ H Q1 := by
  refine ⟨H0, F0, ρ, F, A, rl, ?_⟩
  cases hr : r ρ with
  | ok ds => rw [hr] at p; exact fun vs H' F' e rr => h ds vs H' F' hr e rr p
  | exc c => rw [hr] at p; exact p
  | bad => rw [hr] at p; exact p
def esLen : Es → Nat
  | .nil => 0
  | .cons _ r => esLen r + 1
theorem dEs_len {ρ : Env'} : ∀ {xs : Es} {ds : List D}, dEs T xs ρ = .ok ds → ds.length = esLen xs
  | .nil, ds, h => by
    have h : R.ok [] = R.ok ds := h
    cases h; rfl
  | .cons e r, ds, h => by
    have h : ((dP T e ρ).1.bind fun x => (dEs T r ρ).bind fun xs => .ok (x :: xs)) = .ok ds := h
    cases h1 : (dP T e ρ).1 with
    | ok d =>
      rw [h1] at h
      cases h2 : dEs T r ρ with
      | ok xs =>
        rw [h2] at h
        have h : R.ok (d :: xs) = R.ok ds := h
        cases h
        rw [List.length_cons, dEs_len h2]; rfl
      | exc c => rw [h2] at h; cases h
      | bad => rw [h2] at h; cases h
    | exc c => rw [h1] at h; cases h
    | bad => rw [h1] at h; cases h
theorem se_call {x : Str} {i n : Nat} {p pos : Pos} {e : Expr} {es : List Expr} {xs : Es} (c : Okc S T lv W X) (hg : isGl S x = true) (hf : S.fns[i]? = some (x, n)) (hst : ∀ e' ∈ e :: es, isStar e' = false) (hl : esLen xs = n) (h : SEs X T W (e :: es) xs) :
    SE X T W (.Call (.Name x p) (e :: es) [] pos) (.call i xs) := by
  obtain ⟨⟨f, fd, ps, F, hm, kp, hb, hn⟩, hdb⟩ := c.fns i x n hf
  refine PE.imp (pe_callS F c.room (gl_of c hg) hm kp hb (fun σ => passAt c.tk σ) h hdb (starEach_cons (hst e List.mem_cons_self)) (backTo_any fun e' he => hst e' (List.mem_cons_of_mem _ he))) fun σ H Q q => ?_
  obtain ⟨H0, F0, ρ, FF, A, rl, p⟩ := q
  refine tL.seqE rl p fun ds vs H1 F1 hd e1 r1 p1 => ?_
  refine ⟨F1, ds, e1.sFH, r1, by rw [← r1.length, dEs_len hd, hl], ?_⟩
  cases hr : T i ds with
  | ok d =>
    rw [hr] at p1
    exact fun v H' F' e2 r => p1 v H' F' (e1.trans e2) r
  | exc cc =>
    rw [hr] at p1
    exact fun H' F' C e2 m => p1 H' F' C (e1.trans e2) m
  | bad => rw [hr] at p1; exact p1.elim
theorem blt_free {b : Blt} (c : Okc S T lv W X) : X.mg (bltStr b) = none := c.blt _ (by cases b <;> decide)
theorem bltD_sc {b : Blt} {ds : List D} {d : D} (h : bltD b ds = some d) : (∃ i, d = .int i) ∨ ∃ k, d = .bl k := by
  unfold bltD at h
  split at h <;> first
    | (simp only [Option.some.injEq] at h; subst h; exact .inl ⟨_, rfl⟩)
    | (split at h <;> simp only [Option.some.injEq, reduceCtorEq] at h; subst h; exact .inl ⟨_, rfl⟩)
    | (simp only [Option.bind_eq_some_iff, Option.map_eq_some_iff] at h; obtain ⟨_, _, _, _, rfl⟩ := h; exact .inl ⟨_, rfl⟩)
    | (simp only [Option.map_eq_some_iff] at h; obtain ⟨_, _, rfl⟩ := h; exact .inl ⟨_, rfl⟩)
    | (simp only [Option.map_eq_some_iff] at h; obtain ⟨_, _, rfl⟩ := h; exact .inr ⟨_, rfl⟩)
    | cases h
theorem blt_boot (b : Blt) : bootBuiltins (bltStr b) = some (bltV b) := by cases b <;> decide +kernel
theorem se_blt {b : Blt} {p pos : Pos} {e : Expr} {es : List Expr} {xs : Bs} (c : Okc S T lv W X) (hg : isGl S (bltStr b) = true) (hst : ∀ e' ∈ e :: es, isStar e' = false) (h : SBs X T W (e :: es) xs) :
    SE X T W (.Call (.Name (bltStr b) p) (e :: es) [] pos) (.blt b xs) := by
  have i : ∀ σ H Q, tE X.K W X.mg false (dE T (.blt b xs)) σ H Q → tCB (rBl X.K b) (tBL X.K W X.mg (dBs T xs)) σ H Q := fun σ H Q q => by
    obtain ⟨H0, F0, ρ, FF, A, rl, p⟩ := q
    refine tBL.seq rl p fun ds vs H1 F1 e1 r1 p1 => ?_
    refine ⟨Fpl ρ A F1 H1, ds, Fpl.sup (rl.go e1), r1, ?_⟩
    cases hd : bltD b ds with
    | none => rw [hd] at p1; exact p1.elim
    | some d =>
      rw [hd] at p1
      refine ⟨d, rfl, fun v H' F' e2 r2 => ?_⟩
      have e3 : Ex H1 F1 H' F1 := ⟨e2.sH, Same.refl _, fun b o q => e2.sH _ _ (e1.sFH _ _ q), fun _ _ q _ => q⟩
      refine p1 v H' F1 (e1.trans e3) ?_
      show Rep X.K F1 d v
      rcases bltD_sc hd with ⟨k, rfl⟩ | ⟨k, rfl⟩
      · exact Rep.int_iff.mpr (Rep.int_iff.mp (show Rep X.K F' (.int k) v from r2))
      · exact Rep.bl_iff.mpr (Rep.bl_iff.mp (show Rep X.K F' (.bl k) v from r2))
  have hs := starEach_cons (env := X.env) (es := es) (hst e List.mem_cons_self)
  have ha := fun (ps : Pos) => backTo_any (env := X.env) (pos := ps) fun e' he => hst e' (List.mem_cons_of_mem _ he)
  have op := op_Blt c.calm b
  have bo := blt_boot b
  unfold bltV at op bo
  cases hb : isTyB b with
  | true =>
    rw [hb] at op bo
    exact PE.imp (pe_callTy op (gl_of c hg) (blt_free c) bo h (by cases b <;> decide) (by cases b <;> decide) hs (ha _)) i
  | false =>
    rw [hb] at op bo
    exact PE.imp (pe_callB op (gl_of c hg) (blt_free c) bo h (by cases b <;> decide) (by cases b <;> decide) hs (ha _)) i
theorem se_mkb {b : Mkb} {p pos : Pos} {e : Expr} {es : List Expr} {xs : Es} (c : Okc S T lv W X) (hg : isGl S (mkbStr b) = true) (hst : ∀ e' ∈ e :: es, isStar e' = false) (h : SEs X T W (e :: es) xs) :
    SE X T W (.Call (.Name (mkbStr b) p) (e :: es) [] pos) (.mkb b xs) := by
  have hs := starEach_cons (env := X.env) (es := es) (hst e List.mem_cons_self)
  have ha := fun (ps : Pos) => backTo_any (env := X.env) (pos := ps) fun e' he => hst e' (List.mem_cons_of_mem _ he)
  have i : ∀ σ H Q, tE X.K W X.mg true (dE T (.mkb b xs)) σ H Q → tCB (rMb X.K b) (tL X.K W X.mg (dEs T xs)) σ H Q := fun σ H Q q => by
    obtain ⟨H0, F0, ρ, FF, A, rl, p⟩ := q
    refine tL.seq rl p fun ds vs H1 F1 e1 r1 p1 => ?_
    exact ⟨F1, ds, e1.sFH, r1, PostX.val (s := e1.sFH) (p1.goE e1) rfl⟩
  have op := op_Mkb c.room.units b
  cases b with
  | sorted => exact PE.imp (pe_callB op (gl_of c hg) (c.blt _ (by decide)) (by decide +kernel) h (by decide) (by decide) hs (ha _)) i
  | tuple => exact PE.imp (pe_callTy op (gl_of c hg) (c.blt _ (by decide)) (by decide +kernel) h (by decide) (by decide) hs (ha _)) i
  | list => exact PE.imp (pe_callTy op (gl_of c hg) (c.blt _ (by decide)) (by decide +kernel) h (by decide) (by decide) hs (ha _)) i
theorem se_isi {t : Ty} {p pt pos : Pos} {a : Expr} {x : E} (c : Okc S T lv W X) (hg : isGl S "isinstance" = true) (ht : isGl S (tyVal t) = true) (hst : isStar a = false) (h : SE X T W a x) :
    SE X T W (.Call (.Name "isinstance" p) [a, .Name (tyVal t) pt] [] pos) (.isi x t) := by
  have hty : PE X (.Name (tyVal t) pt) (tC (.ty (tyStr t))) := pe_bltn (u := .type (tyStr t)) (gl_of c ht) (c.blt _ (by cases t <;> decide)) (by cases t <;> decide +kernel) rfl (by cases t <;> decide) (by cases t <;> decide)
  refine PE.imp (pe_callB (op_Is t) (gl_of c hg) (c.blt _ (by decide)) (by decide +kernel) (pa_cons h.weak (pa_cons hty pa_nil) (starEach_cons hst)) (by decide) (by decide) (starEach_cons hst) rfl) fun σ H Q q => ?_
  obtain ⟨H0, F0, ρ, FF, A, rl, p⟩ := q
  refine tE.seq rl p fun d v H1 F1 e1 r1 p1 => ?_
  obtain ⟨bb, hb, p2⟩ := PostX.of p1
  exact ⟨F1, d, v, bb, rfl, e1.sFH, r1, hb, fin_bl e1.sFH (p2.goE e1)⟩
/-! ### subscripts -/
theorem plainIx {b : Expr} (h : isPlainIx b = true) : PlainIx b := by cases b <;> first | exact fun _ _ => rfl | cases h
theorem ixR_in : IxR X (rIx X.K) := ix_list.or (ix_tup.or ix_str)
theorem ixR_all (hu : X.A.units + 1 < cLine) : IxR X (fun x y H Q => rIx X.K x y H Q ∨ rIxDic x y H Q) := ixR_in.or (ix_dic hu)
theorem se_ix {a i : Expr} {x : Bo} {y : E} {pos : Pos} (hu : X.A.units + 1 < cLine) (hp : isPlainIx i = true) (ha : SB X T W a x) (hi : SE X T W i y) : SE X T W (.Subscript a i pos) (.ix x y) := by
  refine PE.imp (pe_ix (ixR_all hu) ha hi.weak (plainIx hp)) fun σ H Q q => ?_
  obtain ⟨H0, F0, ρ, F, A, rl, p⟩ := q
  refine tB.seq rl p fun d v H1 F1 e1 r1 p1 => ?_
  refine tE.seq (rl.go e1) (p1.goE e1) fun d2 v2 H2 F2 e2 r2 p2 => ?_
  have rl2 := (rl.go e1).go e2
  have r1 := r1.go e2.sF (Fpl.go e2)
  have p3 := p2.goE e2
  cases hr : ixD d d2 with
  | none => rw [hr] at p3; exact p3.elim
  | some r =>
    rw [hr] at p3
    cases d with
    | tup ds =>
      cases d2 with
      | int i =>
        obtain ⟨a, vs, rfl, h1, h2⟩ := Rep.tup_iff.mp (show Rep X.K F2 (.tup ds) v from r1)
        obtain ⟨u, h3, h4⟩ := h2.atI (show atI ds i = some r from hr)
        exact .inl (.inr (.inl ⟨a, vs, i, u, rfl, Rep.int_iff.mp r2, Same.seqT e2.sFH h1, h3, GE.here p3 e2.sFH h4⟩))
      | _ => cases hr
    | lst ds =>
      cases d2 with
      | int i =>
        obtain ⟨a, vs, rfl, h1, h2⟩ := r1
        obtain ⟨u, h3, h4⟩ := h2.atI (show atI ds i = some r from hr)
        exact .inl (.inl ⟨a, vs, i, u, rfl, Rep.int_iff.mp r2, .inl (.inl (Fpl.sup rl2 _ _ h1)), h3, GE.here p3 e2.sFH h4⟩)
      | _ => cases hr
    | str z =>
      cases d2 with
      | int i =>
        simp only [ixD] at hr
        split at hr
        · rename_i hl
          rw [Option.map_eq_some_iff] at hr
          obtain ⟨cc, h3, rfl⟩ := hr
          exact .inl (.inr (.inr ⟨z, i, cc, Rep.str_iff.mp (show Rep X.K F2 (.str z) v from r1), Rep.int_iff.mp r2, hl, h3, GE.here p3 e2.sFH (Rep.str_iff.mpr rfl)⟩))
        · cases hr
      | _ => cases hr
    | dic ks ds =>
      obtain ⟨a, kvs, rfl, h1, h2, _, h3⟩ := r1
      have hr : ((keyOf d2).bind fun k => lookK ks ds k) = some r := hr
      rw [Option.bind_eq_some_iff] at hr
      obtain ⟨k, hk, hl⟩ := hr
      rw [h2] at hl
      obtain ⟨u, hu1, hu2⟩ := lookK_some h3 hl
      exact .inr ⟨a, k, kvs, u, rfl, key_rep hk r2, Same.rd (Fpl.sup rl2) h1, hu1, GE.here p3 e2.sFH hu2⟩
    | _ => cases d2 <;> cases hr
/-! ### dicts -/
/-- each of the terms says what its expression does -/
def SEsL (X : Cx) (T : Nat → List D → R D) (W : WX) : List Expr → Es → Prop
  | [], .nil => True
  | e :: es, .cons x xs => SE X T W e x ∧ SEsL X T W es xs
  | _, _ => False
theorem few2 {a b : Expr} {env : Env} {cp : Pos} (ha : isStar a = false) (hb : isStar b = false) : ((backTo cp (starEach [a, b] env)).all (fun x => !x.1) && (backToKw cp (keywordEach [] env)).all (fun x => x.1.isSome)
      && decide ([a, b].length + ([] : List Keyword).length + (if ([] : List Keyword).isEmpty then 0 else 1) < 30)) = true := by
  rw [starEach_cons (es := [b]) ha, starEach_cons (es := []) hb]; rfl
theorem few1' {a : Expr} {env : Env} {cp : Pos} (h : isStar a = false) : ((backTo cp (starEach [a] env)).all (fun x => !x.1) && (backToKw cp (keywordEach [] env)).all (fun x => x.1.isSome)
      && decide ([a].length + ([] : List Keyword).length + (if ([] : List Keyword).isEmpty then 0 else 1) < 30)) = true := by
  rw [starEach_cons (es := []) h]; rfl
theorem trees2 {a b : Expr} {env : Env} {cp : Pos} (ha : isStar a = false) (hb : isStar b = false) : backTo cp (starEach [a, b] env) = [(false, eval a env), (false, eval b env)] := by
  rw [starEach_cons (es := [b]) ha, starEach_cons (es := []) hb]; rfl
theorem trees1 {a : Expr} {env : Env} {cp : Pos} (ha : isStar a = false) : backTo cp (starEach [a] env) = [(false, eval a env)] := by
  rw [starEach_cons (es := []) ha]; rfl
theorem dcOf_eq {o : Expr} {x : Str} {t : List (Str × D)} (h : dcOf S o = some (x, t)) : ∃ p, o = .Name x p ∧ isGl S x = true ∧ S.dcs.lookup x = some t := by
  cases o with
  | Name y p =>
    simp only [dcOf] at h
    split at h
    · rename_i hg
      rw [Option.map_eq_some_iff] at h
      obtain ⟨t', h1, h2⟩ := h
      cases h2
      exact ⟨p, rfl, hg, h1⟩
    · cases h
  | _ => cases h
theorem se_gget {x : Str} {p ap cp : Pos} {tab : List (Str × D)} {k d : Expr} {y z : E} (c : Okc S T lv W X) (hg : isGl S x = true) (ht : S.dcs.lookup x = some tab) (hl : ap.endLine = cp.line) (sk : isStar k = false) (sd : isStar d = false)
    (hk : SE X T W k y) (hd : SE X T W d z) : SE X T W (.Call (.Attribute (.Name x p) "get" ap) [k, d] [] cp) (.gget x tab y z) := by
  obtain ⟨hdb, a, es, n, hm, D, h1, h2⟩ := c.dcs x tab ht
  refine PE.imp (pe_kget2 D (pe_glob (v := .ref a) (gl_of c hg) hm rfl hdb) hk.weak hd.weak ⟨rfl, few2 sk sd, by rw [hl]; exact beq_self_eq_true _, trees2 sk sd⟩) fun σ H Q q => ?_
  obtain ⟨H0, F0, ρ, F, A, rl, p⟩ := q
  refine tE.seq rl p fun dk v H1 F1 e1 r1 p1 => ?_
  refine tE.seq (rl.go e1) (p1.goE e1) fun dd v2 H2 F2 e2 r2 p2 => ?_
  have p3 := p2.goE e2
  cases dk with
  | str q =>
    have p3 : PostX W X.mg σ H2 F2 (GE X.K false H2 F2 Q) (.ok ((tab.lookup q).getD dd)) := p3
    refine ⟨q, Rep.str_iff.mp r1, ?_⟩
    cases hq : tab.lookup q with
    | none =>
      rw [hq] at p3
      exact ⟨none, h2 q hq, GE.here p3 e2.sFH r2⟩
    | some d' =>
      rw [hq] at p3
      obtain ⟨u, w, g1, g2, g3⟩ := h1 q d' hq
      exact ⟨some u, g1, w, g2, GE.here p3 e2.sFH (g3 _)⟩
  | _ => exact p3.elim
theorem se_gix {x : Str} {p pos : Pos} {tab : List (Str × D)} {k : Expr} {y : E} (c : Okc S T lv W X) (hg : isGl S x = true) (ht : S.dcs.lookup x = some tab) (hp : isPlainIx k = true)
    (hk : SE X T W k y) : SE X T W (.Subscript (.Name x p) k pos) (.gix x tab y) := by
  obtain ⟨hdb, a, es, n, hm, D, h1, h2⟩ := c.dcs x tab ht
  refine PE.imp (pe_ix ix_kdict (pe_glob (v := .ref a) (gl_of c hg) hm rfl hdb) hk.weak (plainIx hp)) fun σ H Q q => ?_
  obtain ⟨H0, F0, ρ, F, A, rl, p⟩ := q
  refine tE.seq rl p fun dk v H1 F1 e1 r1 p1 => ?_
  have p3 := p1.goE e1
  cases dk with
  | str q =>
    have p3 : PostX W X.mg σ H1 F1 (GE X.K false H1 F1 Q) (R.of (tab.lookup q)) := p3
    cases hq : tab.lookup q with
    | none => rw [hq] at p3; exact p3.elim
    | some d' =>
      rw [hq] at p3
      obtain ⟨u, w, g1, g2, g3⟩ := h1 q d' hq
      exact ⟨a, q, w, rfl, Rep.str_iff.mp r1, ⟨es, n, u, D.at_, D.lit, g1, g2⟩, GE.here p3 e1.sFH (g3 _)⟩
  | _ => exact p3.elim
theorem asDic_eq {d : D} {p : List D × List D} (h : asDic d = some p) : d = .dic p.1 p.2 := by
  cases d <;> simp only [asDic, Option.some.injEq, reduceCtorEq] at h
  subst h; rfl
theorem se_dget1 {o k : Expr} {a : Bo} {y : E} {ap cp : Pos} (c : Okc S T lv W X) (hb : attributeBase o "get" X.env (eval o X.env) = eval o X.env) (hl : ap.endLine = cp.line) (sk : isStar k = false) (ho : SB X T W o a) (hk : SE X T W k y) :
    SE X T W (.Call (.Attribute o "get" ap) [k] [] cp) (.dget1 a y) := by
  refine PE.imp (pe_dget1 (by have := c.room.units; omega) ho hk.weak ⟨hb, few1' sk, by rw [hl]; exact beq_self_eq_true _, trees1 sk⟩) fun σ H Q q => ?_
  obtain ⟨H0, F0, ρ, F, A, rl, p⟩ := q
  refine tB.seq rl p fun d v H1 F1 e1 r1 p1 => ?_
  have rl1 := rl.go e1
  obtain ⟨pr, hpr, p1⟩ := PostX.of (p1.goE e1)
  rw [asDic_eq hpr] at r1
  obtain ⟨a, kvs, rfl, h1, h2, _, h3⟩ := r1
  have g1 := Same.rd (Fpl.sup rl1) h1
  refine ⟨a, rfl, .inl ⟨kvs, g1⟩, tE.seq rl1 p1 fun dk v2 H2 F2 e2 r2 p2 => ?_⟩
  have p3 := p2.goE e2
  cases hk : keyOf dk with
  | none => rw [dgetD, hk] at p3; exact p3.elim
  | some k =>
  rw [dgetD, hk] at p3
  refine ⟨valV kvs k, .inl ⟨kvs, k, Same.rd e2.sH g1, key_rep hk r2, rfl⟩, ?_⟩
  rw [h2] at p3
  exact GE.here p3 e2.sFH (lookK_getD (h3.mono e2.sF) (Rep.non_iff.mpr rfl))
theorem se_dget {o k d : Expr} {a : Bo} {y z : E} {ap cp : Pos} (c : Okc S T lv W X) (hb : attributeBase o "get" X.env (eval o X.env) = eval o X.env) (hl : ap.endLine = cp.line) (sk : isStar k = false) (sd : isStar d = false) (ho : SB X T W o a) (hk : SE X T W k y) (hd : SE X T W d z) :
    SE X T W (.Call (.Attribute o "get" ap) [k, d] [] cp) (.dget a y z) := by
  refine PE.imp (pe_dget2 (by have := c.room.units; omega) ho hk.weak hd.weak ⟨hb, few2 sk sd, by rw [hl]; exact beq_self_eq_true _, trees2 sk sd⟩) fun σ H Q q => ?_
  obtain ⟨H0, F0, ρ, F, A, rl, p⟩ := q
  refine tB.seq rl p fun d v H1 F1 e1 r1 p1 => ?_
  have rl1 := rl.go e1
  obtain ⟨pr, hpr, p1⟩ := PostX.of (p1.goE e1)
  rw [asDic_eq hpr] at r1
  obtain ⟨a, kvs, rfl, h1, h2, _, h3⟩ := r1
  have g1 := Same.rd (Fpl.sup rl1) h1
  refine ⟨a, rfl, .inl ⟨kvs, g1⟩, tE.seq rl1 p1 fun dk v2 H2 F2 e2 r2 p2 => tE.seq (rl1.go e2) (p2.goE e2) fun dd v3 H3 F3 e3 r3 p3 => ?_⟩
  have p4 := p3.goE e3
  cases hk : keyOf dk with
  | none => rw [dgetD, hk] at p4; exact p4.elim
  | some k =>
  rw [dgetD, hk] at p4
  refine ⟨valV kvs k, .inl ⟨kvs, k, Same.rd (e2.sH.trans e3.sH) g1, key_rep hk (r2.mono e3.sF), rfl⟩, ?_⟩
  rw [h2] at p4
  exact GE.here p4 e3.sFH (lookK_getD (h3.mono (e2.sF.trans e3.sF)) r3)
/-! displays of dicts -/
theorem key_pe {e : Option Expr} {k : Key} (h : cKey e = some k) : ∃ e', e = some e' ∧ PE X e' (tC (kV k)) := by
  cases e with
  | none => cases h
  | some e =>
    cases e with
    | Constant v kk p =>
      cases v <;> simp only [cKey, Option.some.injEq, reduceCtorEq] at h
      · subst h; exact ⟨_, rfl, pe_int⟩
      · subst h; exact ⟨_, rfl, pe_str⟩
    | _ => cases h
theorem pps_of {pos : Pos} : ∀ {keys : List (Option Expr)} {ks : List Key} {values : List Expr} {xs : Es}, cKeys keys = some ks → keys.length = values.length → (∀ e ∈ values, isStar e = false) → (∀ (l : List Expr) (ys : Es), True) → SEsL X T W values xs → keys.all (·.isSome) = true ∧
    ∃ trs, PPs X pos keys values trs ∧ ∀ σ H (Q : List (V × V) → Hp → Prop), tL X.K W X.mg (dEs T xs) σ H (fun vs H' => Q ((ks.map kV).zip vs) H') → tPairs trs σ H Q
  | [], ks, values, xs, hk, hl, hs, _, hx => by
    have hk : some [] = some ks := hk
    cases hk
    cases values with
    | nil =>
      cases xs with
      | nil =>
        refine ⟨rfl, [], pps_nil, fun σ H Q q => ?_⟩
        obtain ⟨H0, F0, ρ, F, A, rl, p⟩ := q
        exact p [] H F (Ex.refl rl.sFH) RepL.nil
      | cons => exact hx.elim
    | cons _ _ => cases hl
  | e :: keys, ks, values, xs, hk, hl, hs, _, hx => by
    simp only [cKeys, Option.bind_eq_some_iff, Option.map_eq_some_iff] at hk
    obtain ⟨k, h1, ks', h2, rfl⟩ := hk
    cases values with
    | nil => cases hl
    | cons v values =>
      cases xs with
      | nil => exact hx.elim
      | cons x xs =>
        obtain ⟨hx1, hx2⟩ := hx
        obtain ⟨i1, trs, i2, i3⟩ := pps_of (pos := pos) h2 (by simpa using hl) (fun e he => hs e (List.mem_cons_of_mem _ he)) (fun _ _ => trivial) hx2
        obtain ⟨e', rfl, pk⟩ := key_pe (X := X) h1
        refine ⟨by rw [List.all_cons, i1]; rfl, _, pps_cons pk hx1.weak i2, fun σ H Q q => ?_⟩
        obtain ⟨H0, F0, ρ, F, A, rl, p⟩ := q
        refine tE.seq rl p fun d w H1 F1 e1 r1 p1 => i3 _ _ _ ?_
        refine tL.seq (rl.go e1) (p1.goL e1) fun ds ws H2 F2 e2 r2 p2 => ?_
        exact (p2.goL e2) _ _ _ (Ex.refl e2.sFH) (RepL.cons (r1.mono e2.sF) r2)
theorem putK_nd : ∀ {acc : List (Key × V)} {p : Key × V}, ¬ p.1 ∈ acc.map (·.1) → putK acc p.1 p.2 = acc ++ [p] := fun {acc p} h => by
  have : valV acc p.1 = none := by
    cases q : valV acc p.1 with
    | none => rfl
    | some v => exact absurd (valV_in q) h
  exact putK_new _ this
theorem mergeK_nd : ∀ (kvs acc : List (Key × V)), ((acc ++ kvs).map (·.1)).Nodup → mergeK acc kvs = acc ++ kvs
  | [], acc, _ => by rw [List.append_nil]; rfl
  | p :: kvs, acc, h => by
    have e : mergeK acc (p :: kvs) = mergeK (putK acc p.1 p.2) kvs := rfl
    have h0 := h
    rw [List.map_append, List.map_cons, List.nodup_append] at h0
    rw [e, putK_nd (fun z => h0.2.2 _ z _ List.mem_cons_self rfl), mergeK_nd kvs (acc ++ [p]) (by rw [List.append_assoc]; exact h), List.append_assoc]
    rfl
theorem zip_kvs : ∀ (ks : List Key) (vs : List V), ((ks.map kV).zip vs) = ((ks.zip vs).map fun kv => (kV kv.1, kv.2))
  | [], _ => rfl
  | _ :: _, [] => rfl
  | k :: ks, v :: vs => by
    rw [List.map_cons, List.zip_cons_cons, List.zip_cons_cons, List.map_cons, zip_kvs ks vs]
theorem se_dis {keys : List (Option Expr)} {values : List Expr} {ks : List Key} {xs : Es} {pos : Pos} (hk : cKeys keys = some ks) (nd : ks.Nodup) (hl : keys.length = values.length) (h15 : keys.length ≤ 15) (hs : ∀ e ∈ values, isStar e = false) (hx : SEsL X T W values xs) :
    SE X T W (.Dict keys values pos) (.dis ks xs) := by
  have kl : ∀ {keys : List (Option Expr)} {ks : List Key}, cKeys keys = some ks → ks.length = keys.length := by
    intro keys
    induction keys with
    | nil => intro ks h; have h : some [] = some ks := h; cases h; rfl
    | cons e r ih =>
      intro ks h
      simp only [cKeys, Option.bind_eq_some_iff, Option.map_eq_some_iff] at h
      obtain ⟨k, _, l, h2, rfl⟩ := h
      rw [List.length_cons, List.length_cons, ih h2]
  have hkl := kl hk
  obtain ⟨i1, trs, i2, i3⟩ := pps_of (pos := pos) hk hl hs (fun _ _ => trivial) hx
  cases keys with
  | nil =>
    have hk : some [] = some ks := hk
    cases hk
    cases values with
    | cons _ _ => cases hl
    | nil =>
      cases xs with
      | cons => exact hx.elim
      | nil =>
        refine PE.imp pe_dnewK fun σ H Q q => ?_
        obtain ⟨H0, F0, ρ, F, A, rl, p⟩ := q
        exact fun a ha => p _ _ F (Ex.allocH rl.sFH ha) (by
          show RepF X.K F H (upd H a (.dK [])) (.dic [] []) (.ref a)
          exact ⟨a, [], rfl, ha, upd_same, rl.sFH.free ha, rfl, List.nodup_nil, RepL.nil⟩)
  | cons e keys =>
    refine PE.imp (pe_disp i2 i1 hl (by simp) h15) fun σ H Q q => ?_
    obtain ⟨H0, F0, ρ, F, A, rl, p⟩ := q
    intro a ha
    have e0 : Ex H F (upd H a (.dK [])) F := Ex.allocH rl.sFH ha
    refine i3 _ _ _ (tL.seqE (rl.go e0) (p.goE e0) fun ds vs H2 F2 hd e2 r2 p2 => ?_)
    have ha2 : H2 a = some (.dK []) := e2.sH _ _ upd_same
    have fa2 := e2.new a _ (rl.sFH.free ha) upd_same
    have lv : vs.length = ks.length := by
      rw [← r2.length, dEs_len hd, hkl]
      have : ∀ {vals : List Expr} {ys : Es}, SEsL X T W vals ys → esLen ys = vals.length := by
        intro vals
        induction vals with
        | nil => intro ys h; cases ys with
          | nil => rfl
          | cons => exact h.elim
        | cons v r ih => intro ys h; cases ys with
          | nil => exact h.elim
          | cons y ys => show esLen ys + 1 = _; rw [ih h.2]; rfl
      rw [this hx, ← hl]
    have zk : (ks.zip vs).map (·.1) = ks := List.map_fst_zip (by omega)
    have zv : (ks.zip vs).map (·.2) = vs := List.map_snd_zip (by omega)
    have mk : mergeK [] (ks.zip vs) = ks.zip vs := by
      have := mergeK_nd (ks.zip vs) [] (by rw [List.nil_append, zk]; exact nd)
      rw [List.nil_append] at this
      exact this
    refine ⟨ha2, ks.zip vs, zip_kvs ks vs, by rw [List.length_zip]; omega, ?_⟩
    rw [mk]
    have p3 := p2.goE e2
    have sH2 : Same (upd H a (.dK [])) H2 := e2.sH
    have e3 : Ex H F (upd H2 a (.dK (ks.zip vs))) F2 := by
      refine ⟨fun b x q => ?_, e2.sF, fun b x q => ?_, fun b o q1 q2 => e2.new b o q1 (same_upd ha b o q2)⟩
      · have nb := ne_of_none q ha
        rw [upd_ne nb]
        exact sH2 b x (by rw [upd_ne nb]; exact q)
      · have nb := ne_of_none q fa2
        rw [upd_ne nb]
        exact e2.sFH b x q
    have p : PostX W X.mg σ H F (GE X.K true H F Q) ((dEs T xs ρ).bind fun ds => .ok (.dic (ks.map keyD) ds)) := p
    rw [hd] at p
    refine p _ _ F2 e3 ?_
    show RepF X.K F2 H (upd H2 a (.dK (ks.zip vs))) (.dic (ks.map keyD) ds) (.ref a)
    refine ⟨a, ks.zip vs, rfl, ha, upd_same, fa2, ?_, by rw [zk]; exact nd, by rw [zv]; exact r2⟩
    have : ((ks.zip vs).map fun p => keyD p.1) = ((ks.zip vs).map (·.1)).map keyD := by rw [List.map_map]; rfl
    rw [this, zk]
end
end Z
/-! Terms say what the syntax does: slices, tests, targets, what a loop goes over. -/
namespace Z
open PySem PySem.Spec PyProof.Rows L2
section
variable {X : Cx} {T : Nat → List D → R D} {W : WX} {S : SC} {lv : Nat}
/-- the reading of a bound -/
def tO (K : PySem.W.Frag) (W : WX) (mg : Str → Option Value) (r : Env' → R (Option Int)) : TO := fun σ H Q => ∃ H0 F0 ρ F A, Rl K H0 F0 ρ σ H F A ∧ PostX W mg σ H F (fun o => ∀ H' F', Ex H F H' F' → Q o H') (r ρ)
abbrev SO (X : Cx) (T : Nat → List D → R D) (W : WX) (e : Option Expr) (b : Bd) : Prop := PO X e (tO X.K W X.mg (dBd T b))
theorem so_none : SO X T W none .no := ⟨fun pins s σ H Q I q => po_none.run pins s σ H Q I (by
  obtain ⟨H0, F0, ρ, F, A, rl, p⟩ := q
  exact p H F (Ex.refl rl.sFH))⟩
theorem so_some {e : Expr} {x : E} (h : SE X T W e x) : SO X T W (some e) (.to x) := ⟨fun pins s σ H Q I q => (po_some h.weak).run pins s σ H Q I (by
  obtain ⟨H0, F0, ρ, F, A, rl, p⟩ := q
  refine tE.seq rl p fun d v H1 F1 e1 r1 p1 => ?_
  cases d with
  | int i => exact ⟨i, Rep.int_iff.mp r1, p1 _ _ e1⟩
  | _ => exact p1.elim)⟩
theorem tO.seq {r : Env' → R (Option Int)} {H0 F0 H F : Hp} {ρ : Env'} {A : Nat → Addr} {σ : L2.St} {β : Type} {k : Option Int → R β} {G : β → Prop} {Q1 : Option Int → Hp → Prop} (rl : Rl X.K H0 F0 ρ σ H F A) (p : PostX W X.mg σ H F G ((r ρ).bind k))
    (h : ∀ o H1 F1, Ex H F H1 F1 → PostX W X.mg σ H F G (k o) → Q1 o H1) : tO X.K W X.mg r σ H Q1 :=
  ⟨H0, F0, ρ, F, A, rl, p.imp fun d q H' F' e => h d H' F' e q⟩
theorem se_sl {a : Expr} {lo hi : Option Expr} {x : E} {l h : Bd} {p2 pos : Pos} (ha : SE X T W a x) (hl : SO X T W lo l) (hh : SO X T W hi h) :
    SE X T W (.Subscript a (.Slice lo hi none p2) pos) (.sl x l h) := by
  refine PE.imp (pe_slice op_Sl ha.weak hl hh) fun σ H Q q => ?_
  obtain ⟨H0, F0, ρ, F, A, rl, p⟩ := q
  refine tE.seq rl p fun d v H1 F1 e1 r1 p1 => ?_
  refine tO.seq (rl.go e1) (p1.goE e1) fun o H2 F2 e2 p2 => ?_
  refine tO.seq ((rl.go e1).go e2) (p2.goE e2) fun o' H3 F3 e3 p3 => ?_
  exact ⟨F3, d, e3.sFH, r1.mono (e2.sF.trans e3.sF), PostX.val (s := e3.sFH) (p3.goE e3) rfl⟩
theorem se_rev {a : Expr} {x : E} {k : Nat} {p1 p2 p3 pos : Pos} (ha : SE X T W a x) : SE X T W (.Subscript a (.Slice none none (some (.UnaryOp .USub (.Constant (.int 1) k p1) p2)) p3) pos) (.rev x) := by
  refine PE.imp (pe_revL ha.weak) fun σ H Q q => ?_
  obtain ⟨H0, F0, ρ, F, A, rl, p⟩ := q
  refine tE.seq rl p fun d v H1 F1 e1 r1 p1 => ?_
  cases d with
  | lst ds =>
    obtain ⟨a, vs, rfl, h1, h2⟩ := Rep.lst_iff.mp r1
    have q : rMk X.K (some (.lst ds.reverse)) F1 H1 Q := PostX.val (s := e1.sFH) (p1.goE e1) rfl
    exact ⟨a, vs, rfl, .inl (.inl (e1.sFH _ _ h1)), q.lst e1.sFH h2.reverse⟩
  | _ => exact p1.elim
/-! ### tests -/
theorem st_tru {e : Expr} {x : E} (he : ∀ whole, PySem.isTrue e X.env whole = (do let v ← whole; standAt e.pos; holding [v] (truthy v))) (ht : ∀ ρ, dT T x ρ = (dE T x ρ).bind fun d => R.of (truD d)) (h : SE X T W e x) : ST X T W e x := by
  refine PT.imp (pt_truth h.weak he) fun σ H Q q => ?_
  obtain ⟨H0, F0, ρ, F, A, rl, p⟩ := q
  rw [ht] at p
  refine tE.seq rl p fun d v H1 F1 e1 r1 p1 => ?_
  cases hb : truD d with
  | none => rw [hb] at p1; exact p1.elim
  | some b =>
    rw [hb] at p1
    exact ⟨b, tru_D e1.sFH r1 hb, p1 _ _ e1⟩
theorem st_not {a : Expr} {x : E} {pos : Pos} (h : ST X T W a x) : ST X T W (.UnaryOp .Not a pos) (.not_ x) := by
  refine PT.imp (pt_not h) fun σ H Q q => ?_
  obtain ⟨H0, F0, ρ, F, A, rl, p⟩ := q
  exact tT.seq rl p fun b H1 F1 e1 p1 => p1 _ _ e1
abbrev SW (X : Cx) (T : Nat → List D → R D) (W : WX) (e : Expr) (ir : E) : Prop := PW X e (tT X.K W X.mg (dT T ir))
theorem sw_and1 {a : Expr} {x : E} {pos : Pos} (h : ST X T W a x) : SW X T W (.BoolOp .And [a] pos) x := pw_and1 h
theorem sw_or1 {a : Expr} {x : E} {pos : Pos} (h : ST X T W a x) : SW X T W (.BoolOp .Or [a] pos) x := pw_or1 h
theorem sw_and {a b : Expr} {rest : List Expr} {x y : E} {pos : Pos} (h : ST X T W a x) (t : SW X T W (.BoolOp .And (b :: rest) pos) y) : SW X T W (.BoolOp .And (a :: b :: rest) pos) (.and_ x y) := by
  refine PW.imp (pw_and h t) fun σ H Q q => ?_
  obtain ⟨H0, F0, ρ, F, A, rl, p⟩ := q
  refine tT.seq rl p fun b H1 F1 e1 p1 => ?_
  cases b with
  | true => exact ⟨H0, F0, ρ, F1, A, rl.go e1, p1.goT e1⟩
  | false => exact p1 _ _ e1
theorem sw_or {a b : Expr} {rest : List Expr} {x y : E} {pos : Pos} (h : ST X T W a x) (t : SW X T W (.BoolOp .Or (b :: rest) pos) y) : SW X T W (.BoolOp .Or (a :: b :: rest) pos) (.or_ x y) := by
  refine PW.imp (pw_or h t) fun σ H Q q => ?_
  obtain ⟨H0, F0, ρ, F, A, rl, p⟩ := q
  refine tT.seq rl p fun b H1 F1 e1 p1 => ?_
  cases b with
  | false => exact ⟨H0, F0, ρ, F1, A, rl.go e1, p1.goT e1⟩
  | true => exact p1 _ _ e1
/-! ### targets -/
/-- storing a value that stands for d: the slots go on so, and no other slot than those of the target changes -/
def tG (K : PySem.W.Frag) (t : Tg) : TG := fun v σ H Q => ∃ H0 F0 ρ F A d ρ', Rl K H0 F0 ρ σ H F A ∧ Rep K F d v ∧ dTg t d ρ = some ρ' ∧ ∀ σ', Rl K H0 F0 ρ' σ' H F A → (∀ j, j ∉ tgSlots t → σ'[j]? = σ[j]?) → σ'.length = σ.length → Q σ' H
def tGs (K : PySem.W.Frag) (t : Tgs) : TGs := fun vs σ H Q => ∃ H0 F0 ρ F A ds ρ', Rl K H0 F0 ρ σ H F A ∧ RepL K F ds vs ∧ dTgs t ds ρ = some ρ' ∧ ∀ σ', Rl K H0 F0 ρ' σ' H F A → (∀ j, j ∉ tgsSlots t → σ'[j]? = σ[j]?) → σ'.length = σ.length → Q σ' H
theorem pg_nm {x : Str} {pos : Pos} {i : Nat} (c : Okc S T lv W X) (ho : isOwn S x = true) (hi : idxOf x S.N = some i) : PG X (.Name x pos) (tG X.K (.nm i)) := by
  have hN : X.N[i]? = some x := by rw [c.N]; exact idxOf_get hi
  obtain ⟨h1, h2⟩ := c.own x ho
  refine PG.imp (pg_name c.nd hN h1 h2) fun v σ H Q q => ?_
  obtain ⟨H0, F0, ρ, F, A, d, ρ', rl, rd, hd, k⟩ := q
  have hd : some (ρ.set i (.im d)) = some ρ' := hd
  cases hd
  exact k _ (rl.set rd) (fun j hj => List.getElem?_set_ne (fun e => hj (by rw [e]; exact List.mem_singleton.mpr rfl))) (List.length_set ..)
theorem assignEach_cons {e : Expr} {es : List Expr} {env : Env} (h : isStar e = false) : assignEach (e :: es) env = (false, assign e env) :: assignEach es env := by
  cases e <;> first | rfl | cases h
theorem assignEach_len : ∀ {es : List Expr} {env : Env}, (∀ e ∈ es, isStar e = false) → (assignEach es env).length = es.length ∧ (assignEach es env).findIdx? (·.1) = none
  | [], _, _ => ⟨rfl, rfl⟩
  | e :: es, env, h => by
    rw [assignEach_cons (h e List.mem_cons_self)]
    have ih := assignEach_len (env := env) fun x hx => h x (List.mem_cons_of_mem _ hx)
    exact ⟨by rw [List.length_cons, List.length_cons, ih.1], by rw [List.findIdx?_cons]; simp [ih.2]⟩
theorem pgs_no : PGs X [] (tGs X.K .nil) := PGs.imp pgs_nil fun vs σ H Q q => by
  obtain ⟨H0, F0, ρ, F, A, ds, ρ', rl, rd, hd, k⟩ := q
  cases ds with
  | nil =>
    have hd : some ρ = some ρ' := hd
    cases hd
    exact ⟨rd.nil_inv, k σ rl (fun _ _ => rfl) rfl⟩
  | cons d ds => cases hd
theorem pgs_and {e : Expr} {es : List Expr} {t : Tg} {r : Tgs} (hs : isStar e = false) (h1 : PG X e (tG X.K t)) (h2 : PGs X es (tGs X.K r)) : PGs X (e :: es) (tGs X.K (.cons t r)) := by
  refine PGs.imp (pgs_cons h1 h2 (by rw [assignEach_cons hs]; rfl)) fun vs σ H Q q => ?_
  obtain ⟨H0, F0, ρ, F, A, ds, ρ', rl, rd, hd, k⟩ := q
  cases ds with
  | nil => cases hd
  | cons d ds =>
    have hd : ((dTg t d ρ).bind fun ρ' => dTgs r ds ρ') = some ρ' := hd
    rw [Option.bind_eq_some_iff] at hd
    obtain ⟨ρ1, hd1, hd2⟩ := hd
    obtain ⟨v, vr, rfl, r1, r2⟩ := rd.cons_inv
    refine ⟨v, vr, rfl, H0, F0, ρ, F, A, d, ρ1, rl, r1, hd1, fun σ1 rl1 k1 l1 => ?_⟩
    refine ⟨H0, F0, ρ1, F, A, ds, ρ', rl1, r2, hd2, fun σ2 rl2 k2 l2 => ?_⟩
    refine k σ2 rl2 (fun j hj => ?_) (l2.trans l1)
    have hj : j ∉ tgSlots t ++ tgsSlots r := hj
    rw [List.mem_append, not_or] at hj
    exact (k2 j hj.2).trans (k1 j hj.1)
def tgsLen : Tgs → Nat
  | .nil => 0
  | .cons _ r => tgsLen r + 1
theorem dTgs_len : ∀ {ts : Tgs} {ds : List D} {ρ ρ' : Env'}, dTgs ts ds ρ = some ρ' → ds.length = tgsLen ts
  | .nil, [], _, _, _ => rfl
  | .nil, _ :: _, _, _, h => by cases h
  | .cons _ _, [], _, _, h => by cases h
  | .cons t r, d :: ds, ρ, ρ', h => by
    have h : ((dTg t d ρ).bind fun ρ' => dTgs r ds ρ') = some ρ' := h
    rw [Option.bind_eq_some_iff] at h
    obtain ⟨ρ1, _, h2⟩ := h
    show ds.length + 1 = tgsLen r + 1
    rw [dTgs_len h2]
theorem PG.or {e : Expr} {t t' : TG} (h : PG X e t) (h' : PG X e t') : PG X e (fun v σ H Q => t v σ H Q ∨ t' v σ H Q) := ⟨fun pins s σ H v u Q I r q => q.elim (h.run pins s σ H v u Q I r) (h'.run pins s σ H v u Q I r)⟩
theorem pg_tp {es : List Expr} {k : Nat} {pos : Pos} {ts : Tgs} (c : Okc S T lv W X) (hst : ∀ e ∈ es, isStar e = false) (hl : tgsLen ts = es.length) (h : PGs X es (tGs X.K ts)) : PG X (.Tuple es k pos) (tG X.K (.tp ts)) := by
  obtain ⟨l1, l2⟩ := assignEach_len (env := X.env) hst
  refine PG.imp (PG.or (pg_tup c.calm h l1 l2) (pg_unl c.calm h l1 l2)) fun v σ H Q q => ?_
  obtain ⟨H0, F0, ρ, F, A, d, ρ', rl, rd, hd, k⟩ := q
  cases d with
  | tup ds =>
    have hd : dTgs ts ds ρ = some ρ' := hd
    obtain ⟨a, vs, rfl, h1, h2⟩ := Rep.tup_iff.mp rd
    exact .inl ⟨a, vs, rfl, Same.seqT rl.sFH h1, by rw [← h2.length, dTgs_len hd, hl], H0, F0, ρ, F, A, ds, ρ', rl, h2, hd, k⟩
  | lst ds =>
    have hd : dTgs ts ds ρ = some ρ' := hd
    obtain ⟨a, vs, rfl, h1, h2⟩ := Rep.lst_iff.mp rd
    exact .inr ⟨a, vs, rfl, .inl (.inl (rl.sFH _ _ h1)), by rw [← h2.length, dTgs_len hd, hl], H0, F0, ρ, F, A, ds, ρ', rl, h2, hd, k⟩
  | _ => cases hd
def tgsOf (l : List Tg) : Tgs := l.foldr Tgs.cons .nil
theorem cTgF_ok (c : Okc S T lv W X) : ∀ (n : Nat) (e : Expr) (t : Tg), cTgF n S e = some t → PG X e (tG X.K t)
  | 0, _, _, h => by cases h
  | n + 1, e, t, h => by
    cases e with
    | Name x p =>
      simp only [cTgF] at h
      split at h
      · rename_i ho
        rw [Option.map_eq_some_iff] at h
        obtain ⟨i, hi, rfl⟩ := h
        exact pg_nm c ho hi
      · cases h
    | Tuple es k p =>
      simp only [cTgF] at h
      rw [Option.map_eq_some_iff] at h
      obtain ⟨l, hl, rfl⟩ := h
      have all : ∀ (es : List Expr) (l : List Tg), es.mapM (cTgF n S) = some l → PGs X es (tGs X.K (tgsOf l)) ∧ tgsLen (tgsOf l) = es.length ∧ ∀ e ∈ es, isStar e = false := fun es => by
        induction es with
        | nil =>
          intro l hl
          have hl : some [] = some l := hl
          cases hl
          exact ⟨pgs_no, rfl, fun e he => by cases he⟩
        | cons e es ih =>
          intro l hl
          rw [List.mapM_cons] at hl
          have hl : ((cTgF n S e).bind fun a => (es.mapM (cTgF n S)).bind fun b => some (a :: b)) = some l := hl
          rw [Option.bind_eq_some_iff] at hl
          obtain ⟨t, ht, hl⟩ := hl
          rw [Option.bind_eq_some_iff] at hl
          obtain ⟨r, hr, hl⟩ := hl
          cases hl
          obtain ⟨h1, h2, h3⟩ := ih r hr
          have hs : isStar e = false := by
            cases e <;> first | rfl | (cases n <;> cases ht)
          exact ⟨pgs_and hs (cTgF_ok c n e t ht) h1, by show tgsLen (tgsOf r) + 1 = _; rw [h2]; rfl, fun e' he => by
            rcases List.mem_cons.mp he with q | q
            · rw [q]; exact hs
            · exact h3 e' q⟩
      obtain ⟨h1, h2, h3⟩ := all es l hl
      exact pg_tp c h3 h2 h1
    | _ => cases h
/-! ### what a loop goes over -/
/-- an iterator gives the items one after another -/
def Walk (K : PySem.W.Frag) (J : L2.It) (ds : List D) (F : Hp) : Prop := ∀ i H' F', Same F F' → Same F' H' →
  (∀ d, ds[i]? = some d → J.go i H' ∧ ∀ x H2, J.yld i H' x H2 → ∃ F2, Ex H' F' H2 F2 ∧ Rep K F2 d x) ∧ (i = ds.length → J.stop i H')
def tI (K : PySem.W.Frag) (W : WX) (mg : Str → Option Value) (r : Env' → R (List D)) : TI := fun σ H Q => ∃ H0 F0 ρ F A, Rl K H0 F0 ρ σ H F A ∧ PostX W mg σ H F (fun ds => ∀ J H' F', Ex H F H' F' → Walk K J ds F' → Q J H') (r ρ)
abbrev SI (X : Cx) (T : Nat → List D → R D) (W : WX) (tg e : Expr) (it : Z.It) : Prop := PI X tg e (tI X.K W X.mg (dIt T it))
theorem PI.or {tg e : Expr} {t t' : TI} (h : PI X tg e t) (h' : PI X tg e t') : PI X tg e (fun σ H Q => t σ H Q ∨ t' σ H Q) := ⟨fun pins s σ H Q I q => q.elim (h.run pins s σ H Q I) (h'.run pins s σ H Q I)⟩
theorem walk_lst {K : PySem.W.Frag} {F : Hp} {a : Addr} {vs : List V} {ds : List D} (h : F a = some (.lst vs)) (r : RepL K F ds vs) : Walk K (Itl K a) ds F := fun i H' F' s1 s2 => by
  have hq : SqL K H' a vs := .inl (.inl (s2 _ _ (s1 _ _ h)))
  refine ⟨fun d hd => ?_, fun hl => ⟨vs, hq, by rw [← r.length]; omega⟩⟩
  obtain ⟨v, h1, h2⟩ := r.get hd
  refine ⟨⟨vs, v, hq, h1⟩, fun x H2 y => ?_⟩
  obtain ⟨rfl, y⟩ := y
  have := (y vs hq).symm.trans h1
  cases this
  exact ⟨F', Ex.refl s2, h2.mono s1⟩
theorem walk_tup {K : PySem.W.Frag} {F : Hp} {a : Addr} {vs : List V} {ds : List D} (h : SqT K F a vs) (r : RepL K F ds vs) : Walk K (Itt K a) ds F := fun i H' F' s1 s2 => by
  have hq : SqT K H' a vs := Same.seqT s2 (Same.seqT s1 h)
  refine ⟨fun d hd => ?_, fun hl => ⟨vs, hq, by rw [← r.length]; omega⟩⟩
  obtain ⟨v, h1, h2⟩ := r.get hd
  refine ⟨⟨vs, v, hq, h1⟩, fun x H2 y => ?_⟩
  obtain ⟨rfl, y⟩ := y
  have := (y vs hq).symm.trans h1
  cases this
  exact ⟨F', Ex.refl s2, h2.mono s1⟩
theorem walk_str {K : PySem.W.Frag} {F : Hp} {x : Str} : Walk K (Its x) (x.cps.toList.map fun c => D.str ⟨#[c]⟩) F := fun i H' F' s1 s2 => by
  refine ⟨fun d hd => ?_, fun hl => ?_⟩
  · rw [List.getElem?_map, Option.map_eq_some_iff] at hd
    obtain ⟨c, hc, rfl⟩ := hd
    have h2 : x.cps[i]? = some c := by simpa using hc
    refine ⟨(Array.getElem?_eq_some_iff.mp h2).1, fun v H2 y => ?_⟩
    obtain ⟨rfl, c', h1, rfl⟩ := y
    have e : c' = c := by
      rw [h1] at h2
      exact Option.some.inj h2
    subst e
    exact ⟨F', Ex.refl s2, Rep.str_iff.mpr rfl⟩
  · rw [List.length_map, Array.length_toList] at hl
    show x.cps.size ≤ i
    omega
theorem si_seq {tg e : Expr} {x : E} (h : SE X T W e x) : SI X T W tg e (.seq x) := by
  refine PI.imp (PI.or (PI.or (pi_list h.weak) (pi_tup h.weak)) (pi_str h.weak)) fun σ H Q q => ?_
  obtain ⟨H0, F0, ρ, F, A, rl, p⟩ := q
  have p : PostX W X.mg σ H F (fun ds => ∀ J H' F', Ex H F H' F' → Walk X.K J ds F' → Q J H') ((dE T x ρ).bind fun x => R.of (itemsD x)) := p
  cases hd : dE T x ρ with
  | exc c =>
    rw [hd] at p
    exact .inl (.inl ⟨H0, F0, ρ, F, A, rl, by rw [hd]; exact p⟩)
  | bad => rw [hd] at p; exact p.elim
  | ok d =>
    rw [hd] at p
    cases d with
    | lst ds =>
      refine .inl (.inl ⟨H0, F0, ρ, F, A, rl, by
        rw [hd]
        intro v H' F' e r
        obtain ⟨a, vs, rfl, h1, h2⟩ := Rep.lst_iff.mp (show Rep X.K F' (.lst ds) v from r)
        exact ⟨a, rfl, ⟨vs, .inl (.inl (e.sFH _ _ h1))⟩, p _ H' F' e (walk_lst h1 h2)⟩⟩)
    | tup ds =>
      refine .inl (.inr ⟨H0, F0, ρ, F, A, rl, by
        rw [hd]
        intro v H' F' e r
        obtain ⟨a, vs, rfl, h1, h2⟩ := Rep.tup_iff.mp (show Rep X.K F' (.tup ds) v from r)
        exact ⟨a, rfl, ⟨vs, Same.seqT e.sFH h1⟩, p _ H' F' e (walk_tup h1 h2)⟩⟩)
    | str z =>
      refine .inr ⟨H0, F0, ρ, F, A, rl, by
        rw [hd]
        intro v H' F' e r
        exact ⟨z, Rep.str_iff.mp (show Rep X.K F' (.str z) v from r), p _ H' F' e walk_str⟩⟩
    | _ => exact p.elim
theorem walk_rng {K : PySem.W.Frag} {F : Hp} {lo : Int} {n : Nat} : Walk K (Itr lo n) (rngL lo n) F := fun i H' F' s1 s2 => by
  have hl : (rngL lo n).length = n := by unfold rngL; rw [List.length_map, List.length_range]
  refine ⟨fun d hd => ?_, fun h => by rw [hl] at h; exact Nat.le_of_eq h.symm⟩
  have hi : i < n := by
    rcases Nat.lt_or_ge i n with q | q
    · exact q
    · rw [List.getElem?_eq_none (by rw [hl]; exact q)] at hd; cases hd
  unfold rngL at hd
  rw [List.getElem?_map, List.getElem?_range hi] at hd
  cases hd
  refine ⟨hi, fun x H2 y => ?_⟩
  obtain ⟨rfl, rfl⟩ := y
  exact ⟨F', Ex.refl s2, Rep.int_iff.mpr rfl⟩
theorem inRng_ok {i : Int} (h : inRng i = true) : -(2 ^ 62) ≤ i ∧ i < 2 ^ 62 := by
  unfold inRng at h
  rw [Bool.and_eq_true] at h
  exact ⟨of_decide_eq_true h.1, of_decide_eq_true h.2⟩
theorem si_rng1 {tg a : Expr} {x : E} {p pos : Pos} (c : Okc S T lv W X) (hg : isGl S "range" = true) (hst : isStar a = false) (h : SE X T W a x) : SI X T W tg (.Call (.Name "range" p) [a] [] pos) (.rng1 x) := by
  refine PI.imp (pi_range1 (gl_of c hg) (c.blt _ (by decide)) (ses_cons hst h ses_nil) (starEach_cons hst)) fun σ H Q q => ?_
  obtain ⟨H0, F0, ρ, F, A, rl, p⟩ := q
  have p : PostX W X.mg σ H F (fun ds => ∀ J H' F', Ex H F H' F' → Walk X.K J ds F' → Q J H') ((dE T x ρ).bind fun x => match x with
    | .int j => if inRng j = true then .ok (rngL 0 j.toNat) else .bad
    | _ => .bad) := p
  have p : PostX W X.mg σ H F (fun ds => ∀ J H' F', Ex H F H' F' → Walk X.K J ds F' → Q J H') ((dEs T (.cons x .nil) ρ).bind fun l => match l with
    | [.int j] => if inRng j = true then .ok (rngL 0 j.toNat) else .bad
    | _ => .bad) := by
    have e : dEs T (.cons x .nil) ρ = (dE T x ρ).bind fun d => .ok [d] := rfl
    rw [e]
    cases hd : dE T x ρ with
    | ok d => rw [hd] at p; cases d <;> exact p
    | exc c => rw [hd] at p; exact p
    | bad => rw [hd] at p; exact p
  refine tL.seq rl p fun ds vs H1 F1 e1 r1 p1 => ?_
  match ds with
  | [.int j] =>
    obtain ⟨v, rfl, rv⟩ := r1.one
    by_cases hj : inRng j = true
    · simp only [hj, if_true] at p1
      exact ⟨j, by rw [Rep.int_iff.mp rv], (inRng_ok hj).1, (inRng_ok hj).2, p1 _ _ _ e1 walk_rng⟩
    · simp only [hj] at p1; exact p1.elim
  | [] => exact p1.elim
  | [.non] => exact p1.elim
  | [.bl _] => exact p1.elim
  | [.str _] => exact p1.elim
  | [.tup _] => exact p1.elim
  | [.lst _] => exact p1.elim
  | [.dic _ _] => exact p1.elim
  | [.scr _] => exact p1.elim
  | [.obj _ _ _] => exact p1.elim
  | d :: _ :: _ => exact (show False by cases d <;> exact p1).elim
end
end Z
/-! enumerate of a tuple. -/
namespace Z
open PySem PySem.Spec PyProof.Rows L2
open PySem.Sem (wp)
/-- the record of a new enumerate object over the iterator at i -/
abbrev enumO (i : Addr) : Obj := { cls := .type "enumerate", data := .fields #[.none, .bool false, .ref i, rawInt 0, .none, .none] }
theorem meets_enum1 {v : Value} {o : Obj} {G : Heap → Prop} (B : Begins v o G) :
    Meets (Builtin.«enumerate.__new__» ⟨[.type "enumerate", v], []⟩) (fun _ R s => G s.heap ∧ R (.ok (.ret (.ref (s.heap.push o).objs.size))) { s with heap := (s.heap.push o).push (enumO s.heap.objs.size) }) :=
  .of_wp fun prog w A R s h => by
    obtain ⟨hp, g, d, tk, os⟩ := s
    obtain ⟨h1, h⟩ := h
    have sub := sub_enumerate
    have start : ∀ {A' : Around} {E : Value → Shared → Prop} {Q : Value → Shared → Prop}, Q (.ref hp.objs.size) ⟨hp.push o, g, d, tk, os⟩ → wpAny (model prog w) A' (pyIter v) Q E ⟨hp, g, d, tk, os⟩ := fun q => B.iter prog w _ _ _ _ h1 q
    wp_walk using start
    refine wpAny_stack_any fun st => wpAny_pure ?_
    split
    · rename_i c _ _ _ _ _
      cases (c == Value.type "enumerate") <;> (wp_walk using start; exact ⟨_, rfl, h⟩)
    · wp_walk using start
      exact ⟨_, rfl, h⟩
theorem call_enum1 {prog : Program} {w : World} {A : Around} {E : Value → Shared → Prop} {s : Shared} {v : Value} {o : Obj} {G : Heap → Prop} {Q : Value → Shared → Prop} (B : Begins v o G) (h1 : G s.heap)
    (h : ∀ h', IsEnum h' (s.heap.objs.size + 1) s.heap.objs.size 0 .none → h'.get? s.heap.objs.size = some o → (∀ b u, s.heap.get? b = some u → h'.get? b = some u) → Q (.ref (s.heap.objs.size + 1)) { s with heap := h' }) :
    wpAny (model prog w) A (call (.type "enumerate") [v]) Q E s := by
  refine callType_new F.called_enumerate (by decide) (F.typeCall_enumerate_1 _) (F.newCall_enumerate_1 _) (fun obj => F.args_object_init_2 obj _) F.entry_enumerate_new (meets_enum1 B) ⟨h1, ?_⟩
  have z : (s.heap.push o).objs.size = s.heap.objs.size + 1 := Heap.size_push ..
  have e : IsEnum ((s.heap.push o).push (enumO s.heap.objs.size)) (s.heap.objs.size + 1) s.heap.objs.size 0 .none := by
    have q := Heap.get?_push_size (s.heap.push o) (o := enumO s.heap.objs.size) rfl
    rw [z] at q
    exact q
  show _ ∧ _
  rw [z]
  exact ⟨⟨_, e, rfl⟩, h _ e (Heap.get?_push_of_some _ (Heap.get?_push_size _ B.free)) fun b u x => Heap.get?_push_of_some _ (Heap.get?_push_of_some _ x)⟩
/-- the tuple at a, its items in new pairs, n of them -/
def IteT (K : PySem.W.Frag) (a : Addr) (xs : List V) : L2.It :=
  ⟨fun i H => SqT K H a xs ∧ i < xs.length, fun i H v H' => ∃ p x, v = .ref p ∧ H p = none ∧ xs[i]? = some x ∧ H' = upd H p (.tup [.int (i : Nat), x]), fun i H => SqT K H a xs ∧ i = xs.length⟩
theorem enum_draws {P : Program} {w : World} {A : Around} (hh : A.handled = none) {a e it : Addr} (its : Array Value) (n1 : e ≠ it) (n2 : a ≠ it) (n3 : e ≠ a) :
    WalksT P w A e (e :: [it, a]) [e, it] its.size (fun i vals => ∃ t x, its[i]? = some x ∧ vals = #[.int i t, x]) (fun i h => (∃ old, IsEnum h e it i old) ∧ h.IsTupleIter it a i ∧ h.IsTuple a its)
      (fun i T h => (∃ x, IsEnumOut h e it ((i : Int) + 1) x T) ∧ (h.IsTupleIter it a (i + 1) ∧ h.IsTuple a its) ∧ T ≠ e ∧ T ≠ it) :=
  WalksT.enumerateD (A := A) (Draws.tuple (A := A.in1) hh it a n2 its) e n1 (by simp only [List.mem_cons, List.not_mem_nil, or_false, not_or]; exact ⟨n1, n3⟩) (by simp)
theorem turn_enumT {P : Program} {w : World} {K : PySem.W.Frag} {elts : List Expr} {kk : Nat} {tpos : Pos} {a e it : Addr} {xs : List V} (n1 : e ≠ it) (n2 : a ≠ it) (n3 : e ≠ a) :
    Turn P w K (.Tuple elts kk tpos) (IteT K a xs) [e, it] e (fun i h => (∃ old, IsEnum h e it ((i : Nat) : Int) old) ∧ h.IsTupleIter it a i) where
  mem := by simp
  obj := fun i h st b hb => by
    obtain ⟨⟨old, he⟩, o, ho, _, hd⟩ := st
    rcases List.mem_cons.mp hb with z | z
    · rw [z]; exact ⟨_, he, fun v q => nomatch q⟩
    · rw [List.mem_singleton.mp z]
      exact ⟨o, ho, fun v q => by rw [hd] at q; cases q⟩
  keep := fun i h h' st k => ⟨let ⟨old, he⟩ := st.1; ⟨old, k e (by simp) _ he⟩, st.2.at fun o q => k it (by simp) o q⟩
  item := by
    intro X hP hw hK hc i pins s σ H E I hf st hg
    subst hP hw hK
    obtain ⟨hq, hi⟩ := hg
    obtain ⟨its, rv, p, hz⟩ := I.tuple hq
    have hl := rv.length
    have W := enum_draws (P := X.prog) (w := X.w) (A := X.A) (I.ok.hd hc) its.toArray n1 n2 n3
    refine W.item i s _ E (by rw [List.size_toArray]; omega) ⟨st.1, st.2, p⟩ fun t vals h' tk hp ht hT mid hk => ⟨_, rfl, ?_⟩
    have tw := W.apart _ _ _ mid
    refine W.go elts kk tpos i t { s with heap := h', toks := tk } _ E mid fun h'' st'' hk2 => ?_
    obtain ⟨tk0, u, hu, rfl⟩ := hp
    have hu' : its[i]? = some u := by simpa using hu
    have hx : xs[i]? = some xs[i] := List.getElem?_eq_getElem hi
    obtain ⟨u2, g1, ru⟩ := rv.get hx
    have eu : u2 = u := Option.some.inj (g1.symm.trans hu')
    rw [eu] at ru
    obtain ⟨o, ho, hcl, n, hd⟩ := hT
    have new : ObjOk X.prog X.w (upd H t (.tup [.int (i : Nat), xs[i]])) h'' t (.tup [.int (i : Nat), xs[i]]) := ⟨by show 2 ≤ sizeLine; decide, [.int i tk0, u], .cons ⟨_, rfl⟩ (.cons ru .nil), ⟨o, hk2 _ _ tw ho, hcl, n, hd⟩⟩
    have I1 : Inv X pins σ (upd H t (.tup [.int (i : Nat), xs[i]])) { s with heap := h'', toks := tk } := I.turnedNew (ch := [e, it]) (fun b ob hb q => hk2 _ _ hb (hk _ _ hb q)) hf ht new
    refine ⟨.ref t, _, I1, rfl, ⟨t, xs[i], rfl, I.hok.fresh ht, hx, rfl⟩, ⟨st''.1, st''.2.1⟩, fun b hb => ?_⟩
    have nb : b ≠ t := fun q => tw (q ▸ hb)
    rw [upd_ne nb]
    exact (hf b hb).1
  done := by
    intro X hP hw hK hc i pins s σ H E I hf st hg
    subst hP hw hK
    obtain ⟨hq, rfl⟩ := hg
    obtain ⟨its, rv, p, hz⟩ := I.tuple hq
    have hl := rv.length
    have W := enum_draws (P := X.prog) (w := X.w) (A := X.A) (I.ok.hd hc) its.toArray n1 n2 n3
    have e1 : its.toArray.size = xs.length := by rw [List.size_toArray]; omega
    refine W.done s _ E (by rw [e1]; exact ⟨st.1, st.2, p⟩) fun h' tk hk => ⟨rfl, I.turnedL (ch := [e, it]) (fun b o hb q => hk b o hb q) hf⟩
  self := fun A i s Q E st h => let ⟨⟨_, he⟩, _⟩ := st; wpAny_pyIter_enum he h
def iEnumT (K : PySem.W.Frag) (ta : TA) : TI := fun σ H R => ta σ H fun vs H1 => ∃ a xs, vs = [.ref a] ∧ SqT K H1 a xs ∧ R (IteT K a xs) H1
theorem pi_enumT {X : Cx} {e : Expr} {ta : TA} {p pos tpos : Pos} {elts : List Expr} {kk : Nat} (hg : Gl X "enumerate") (hm : X.mg "enumerate" = none) (ha : PA X [e] ta) (hs : starEach [e] X.env = [(false, eval e X.env)]) :
    PI X (.Tuple elts kk tpos) (.Call (.Name "enumerate" p) [e] [] pos) (iEnumT X.K ta) := by
  refine ⟨fun pins s σ H R I h => ?_⟩
  refine Call_ (ld_blt I hg hm boot_enumerate (PyProof.Rows.callWith_type1 (thn (ha.run pos pins s σ H _ I h) fun us s1 ⟨vs, H1, I1, r1, a, xs, ex, hq, q⟩ => ?_) hs rfl))
  rw [ex] at r1
  rw [Vals.ref1 r1]
  obtain ⟨its, rv, p', hz⟩ := I1.tuple hq
  have la : a < s1.heap.objs.size := by obtain ⟨o, ho, _⟩ := id p'; exact Heap.lt_size ho
  refine call_enum1 (begins_tuple a its.toArray) p' fun h' he hit hk => wpAny_pyIter_enum he ?_
  have fresh : ∀ b ∈ [s1.heap.objs.size + 1, s1.heap.objs.size], FpOk X pins H1 b := fun b hb => by
    have hle : s1.heap.objs.size ≤ b := by
      rcases List.mem_cons.mp hb with z | z
      · rw [z]; exact Nat.le_succ _
      · rw [List.mem_singleton.mp z]; exact Nat.le_refl _
    exact I1.fpOk hle (I1.hok.fresh hle)
  exact ⟨s1.heap.objs.size + 1, [s1.heap.objs.size + 1, s1.heap.objs.size], _, _, H1, rfl, I1.kept (t' := s1.toks) hk, turn_enumT (xs := xs) (Nat.succ_ne_self _) (Nat.ne_of_lt la) (Ne.symm (Nat.ne_of_lt (Nat.lt_succ_of_lt la))), ⟨⟨.none, he⟩, ⟨_, hit, rfl, rfl⟩⟩, fresh, q⟩
end Z
/-! Terms say what the syntax does: enumerate, zip, range of two ends, comprehensions. -/
namespace Z
open PySem PySem.Spec PyProof.Rows L2
section
variable {X : Cx} {T : Nat → List D → R D} {W : WX} {S : SC} {lv : Nat}
/-- one value as an argument list's -/
theorem one_arg {α : Type} {x : E} {ρ : Env'} {k : D → R α} {z : List D → R α} (h : ∀ d, z [d] = k d) : ((dE T x ρ).bind k) = (dEs T (.cons x .nil) ρ).bind z := by
  have e : dEs T (.cons x .nil) ρ = (dE T x ρ).bind fun d => .ok [d] := rfl
  rw [e]
  cases dE T x ρ with
  | ok d => exact (h d).symm
  | exc c => rfl
  | bad => rfl
theorem two_arg {α : Type} {x y : E} {ρ : Env'} {k : D → D → R α} {z : List D → R α} (h : ∀ d e, z [d, e] = k d e) : ((dE T x ρ).bind fun d => (dE T y ρ).bind fun e => k d e) = (dEs T (.cons x (.cons y .nil)) ρ).bind z := by
  have e : dEs T (.cons x (.cons y .nil)) ρ = (dE T x ρ).bind fun d => ((dE T y ρ).bind fun e => .ok [e]).bind fun l => .ok (d :: l) := rfl
  rw [e]
  cases dE T x ρ with
  | ok d =>
    cases dE T y ρ with
    | ok e => exact (h d e).symm
    | exc c => rfl
    | bad => rfl
  | exc c => rfl
  | bad => rfl
theorem si_rng2 {tg a b : Expr} {x y : E} {p pos : Pos} (c : Okc S T lv W X) (hg : isGl S "range" = true) (hst : isStar a = false) (hst2 : isStar b = false) (h : SE X T W a x) (h2 : SE X T W b y) : SI X T W tg (.Call (.Name "range" p) [a, b] [] pos) (.rng2 x y) := by
  refine PI.imp (pi_range2 (gl_of c hg) (c.blt _ (by decide)) (ses_cons hst h (ses_cons hst2 h2 ses_nil)) (by rw [starEach_cons hst, starEach_cons hst2]; rfl) (starEach_cons hst2)) fun σ H Q q => ?_
  obtain ⟨H0, F0, ρ, F, A, rl, p⟩ := q
  have e : dIt T (.rng2 x y) ρ = (dEs T (.cons x (.cons y .nil)) ρ).bind fun l => match l with
    | [.int i, .int j] => if (inRng i && inRng j) = true then .ok (rngL i (j - i).toNat) else .bad
    | _ => .bad := two_arg (k := fun x y => match x, y with
    | .int i, .int j => if (inRng i && inRng j) = true then .ok (rngL i (j - i).toNat) else .bad
    | _, _ => .bad) fun d e => by cases d <;> cases e <;> rfl
  rw [e] at p
  refine tL.seq rl p fun ds vs H1 F1 e1 r1 p1 => ?_
  split at p1
  · rename_i i j
    obtain ⟨v, u, rfl, rv, ru⟩ := r1.two
    split at p1
    · rename_i hj
      rw [Bool.and_eq_true] at hj
      exact ⟨i, j, by rw [Rep.int_iff.mp rv, Rep.int_iff.mp ru], ⟨(inRng_ok hj.1).1, (inRng_ok hj.1).2, (inRng_ok hj.2).1, (inRng_ok hj.2).2⟩, p1 _ _ _ e1 walk_rng⟩
    · exact p1.elim
  · exact p1.elim
theorem enumL_get : ∀ {ds : List D} {n i : Nat}, (enumL n ds)[i]? = (ds[i]?).map fun d => D.tup [.int ((n + i : Nat) : Int), d]
  | [], n, i => by simp [enumL]
  | d :: ds, n, 0 => rfl
  | d :: ds, n, i + 1 => by
    show (enumL (n + 1) ds)[i]? = _
    rw [enumL_get (ds := ds), List.getElem?_cons_succ]
    congr 1
    funext d
    have e : n + 1 + i = n + (i + 1) := by omega
    rw [e]
theorem enumL_len : ∀ {ds : List D} {n : Nat}, (enumL n ds).length = ds.length
  | [], _ => rfl
  | d :: ds, n => by show (enumL (n + 1) ds).length + 1 = _; rw [enumL_len (ds := ds)]; rfl
theorem rep_pair {K : PySem.W.Frag} {F H : Hp} {p : Addr} {d e : D} {v u : V} (s : Same F H) (hp : H p = none) (r1 : Rep K F d v) (r2 : Rep K F e u) : Ex H F (upd H p (.tup [v, u])) (upd F p (.tup [v, u])) ∧ Rep K (upd F p (.tup [v, u])) (.tup [d, e]) (.ref p) := by
  have m := same_upd (o := .tup [v, u]) (s.free hp)
  exact ⟨Ex.alloc s hp, Rep.tup_iff.mpr ⟨p, _, rfl, .inl (.inl upd_same), RepL.cons (r1.mono m) (RepL.cons (r2.mono m) RepL.nil)⟩⟩
theorem walk_enm {K : PySem.W.Frag} {F : Hp} {a : Addr} {vs : List V} {ds : List D} (h : F a = some (.lst vs)) (r : RepL K F ds vs) : Walk K (Ite K a) (enumL 0 ds) F := fun i H' F' s1 s2 => by
  have hq : SqL K H' a vs := .inl (.inl (s2 _ _ (s1 _ _ h)))
  refine ⟨fun d hd => ?_, fun hl => ⟨vs, hq, by rw [← r.length]; rw [enumL_len] at hl; omega⟩⟩
  rw [enumL_get, Option.map_eq_some_iff] at hd
  obtain ⟨d', hd', rfl⟩ := hd
  obtain ⟨v, h1, h2⟩ := r.get hd'
  refine ⟨⟨vs, v, hq, h1⟩, fun x H2 y => ?_⟩
  obtain ⟨p, u, rfl, hp, rfl, y⟩ := y
  have := (y vs hq).symm.trans h1
  cases this
  rw [Nat.zero_add]
  obtain ⟨e, q⟩ := rep_pair (d := .int (i : Nat)) (v := .int (i : Nat)) s2 hp (Rep.int_iff.mpr rfl) (h2.mono s1)
  exact ⟨_, e, q⟩
theorem walk_enmT {K : PySem.W.Frag} {F : Hp} {a : Addr} {vs : List V} {ds : List D} (h : SqT K F a vs) (r : RepL K F ds vs) : Walk K (IteT K a vs) (enumL 0 ds) F := fun i H' F' s1 s2 => by
  have hq : SqT K H' a vs := Same.seqT s2 (Same.seqT s1 h)
  refine ⟨fun d hd => ?_, fun hl => ⟨hq, by rw [enumL_len] at hl; rw [hl, r.length]⟩⟩
  rw [enumL_get, Option.map_eq_some_iff] at hd
  obtain ⟨d', hd', rfl⟩ := hd
  obtain ⟨v, h1, h2⟩ := r.get hd'
  have hi : i < vs.length := by
    rcases Nat.lt_or_ge i vs.length with q | q
    · exact q
    · rw [List.getElem?_eq_none q] at h1; cases h1
  refine ⟨⟨hq, hi⟩, fun x H2 y => ?_⟩
  obtain ⟨p, u, rfl, hp, y, rfl⟩ := y
  have := y.symm.trans h1
  cases this
  rw [Nat.zero_add]
  obtain ⟨e, q⟩ := rep_pair (d := .int (i : Nat)) (v := .int (i : Nat)) s2 hp (Rep.int_iff.mpr rfl) (h2.mono s1)
  exact ⟨_, e, q⟩
theorem si_enm {a : Expr} {x : E} {p pos tpos : Pos} {elts : List Expr} {kk : Nat} (c : Okc S T lv W X) (hg : isGl S "enumerate" = true) (hst : isStar a = false) (h : SE X T W a x) :
    SI X T W (.Tuple elts kk tpos) (.Call (.Name "enumerate" p) [a] [] pos) (.enm x) := by
  have hs : starEach [a] X.env = [(false, eval a X.env)] := starEach_cons hst
  refine PI.imp (PI.or (pi_enum (gl_of c hg) (c.blt _ (by decide)) (ses_cons hst h ses_nil) hs) (pi_enumT (gl_of c hg) (c.blt _ (by decide)) (ses_cons hst h ses_nil) hs)) fun σ H Q q => ?_
  obtain ⟨H0, F0, ρ, F, A, rl, p⟩ := q
  have p : PostX W X.mg σ H F (fun ds => ∀ J H' F', Ex H F H' F' → Walk X.K J ds F' → Q J H') ((dE T x ρ).bind fun x => (R.of (itemsT x)).bind fun ds => .ok (enumL 0 ds)) := p
  have es : dEs T (.cons x .nil) ρ = (dE T x ρ).bind fun d => .ok [d] := rfl
  cases hd : dE T x ρ with
  | exc c =>
    rw [hd] at p
    exact .inl ⟨H0, F0, ρ, F, A, rl, by rw [es, hd]; exact p⟩
  | bad => rw [hd] at p; exact p.elim
  | ok d =>
    rw [hd] at p
    cases d with
    | lst ds =>
      refine .inl ⟨H0, F0, ρ, F, A, rl, by
        rw [es, hd]
        intro vs H' F' e r
        obtain ⟨v, rfl, rv⟩ := RepL.one r
        obtain ⟨a, vs, rfl, h1, h2⟩ := Rep.lst_iff.mp rv
        exact ⟨a, vs, rfl, .inl (.inl (e.sFH _ _ h1)), p _ H' F' e (walk_enm h1 h2)⟩⟩
    | tup ds =>
      refine .inr ⟨H0, F0, ρ, F, A, rl, by
        rw [es, hd]
        intro vs H' F' e r
        obtain ⟨v, rfl, rv⟩ := RepL.one r
        obtain ⟨a, vs, rfl, h1, h2⟩ := Rep.tup_iff.mp rv
        exact ⟨a, vs, rfl, Same.seqT e.sFH h1, p _ H' F' e (walk_enmT h1 h2)⟩⟩
    | _ => exact p.elim
theorem zipL_get : ∀ {xs ys : List D} {i : Nat} {d : D}, (zipL xs ys)[i]? = some d → ∃ x y, xs[i]? = some x ∧ ys[i]? = some y ∧ d = .tup [x, y]
  | [], _, _, _, h => by simp [zipL] at h
  | _ :: _, [], _, _, h => by simp [zipL] at h
  | x :: xs, y :: ys, 0, d, h => by
    have h : some (D.tup [x, y]) = some d := h
    cases h
    exact ⟨x, y, rfl, rfl, rfl⟩
  | x :: xs, y :: ys, i + 1, d, h => zipL_get (xs := xs) (ys := ys) (i := i) h
theorem zipL_len : ∀ {xs ys : List D}, xs.length ≤ (zipL xs ys).length ∨ ys.length ≤ (zipL xs ys).length
  | [], _ => .inl (Nat.zero_le _)
  | _ :: _, [] => .inr (Nat.zero_le _)
  | x :: xs, y :: ys => by
    rcases zipL_len (xs := xs) (ys := ys) with h | h
    · exact .inl (Nat.succ_le_succ h)
    · exact .inr (Nat.succ_le_succ h)
theorem walk_zip {K : PySem.W.Frag} {F : Hp} {a b : Addr} {vs us : List V} {ds es : List D} (h : F a = some (.lst vs)) (r : RepL K F ds vs) (h' : F b = some (.lst us)) (r' : RepL K F es us) : Walk K (Itz K a b) (zipL ds es) F := fun i H' F' s1 s2 => by
  have hq : SqL K H' a vs := .inl (.inl (s2 _ _ (s1 _ _ h)))
  have hq' : SqL K H' b us := .inl (.inl (s2 _ _ (s1 _ _ h')))
  refine ⟨fun d hd => ?_, fun hl => ⟨vs, us, hq, hq', by rw [← r.length, ← r'.length, hl]; exact zipL_len⟩⟩
  obtain ⟨d1, d2, g1, g2, rfl⟩ := zipL_get hd
  obtain ⟨v, h1, h2⟩ := r.get g1
  obtain ⟨u, h3, h4⟩ := r'.get g2
  refine ⟨⟨vs, us, v, u, hq, hq', h1, h3⟩, fun x H2 y => ?_⟩
  obtain ⟨p, x1, x2, rfl, hp, rfl, y1, y2⟩ := y
  have q1 := (y1 vs hq).symm.trans h1
  have q2 := (y2 us hq').symm.trans h3
  cases q1
  cases q2
  obtain ⟨e, q⟩ := rep_pair s2 hp (h2.mono s1) (h4.mono s1)
  exact ⟨_, e, q⟩
theorem walk_zipT {K : PySem.W.Frag} {F : Hp} {a b : Addr} {vs us : List V} {ds es : List D} (h : SqT K F a vs) (r : RepL K F ds vs) (h' : SqT K F b us) (r' : RepL K F es us) : Walk K (RZ.ItzT K a b) (zipL ds es) F := fun i H' F' s1 s2 => by
  have hq : SqT K H' a vs := Same.seqT s2 (Same.seqT s1 h)
  have hq' : SqT K H' b us := Same.seqT s2 (Same.seqT s1 h')
  refine ⟨fun d hd => ?_, fun hl => ⟨vs, us, hq, hq', by rw [← r.length, ← r'.length, hl]; exact zipL_len⟩⟩
  obtain ⟨d1, d2, g1, g2, rfl⟩ := zipL_get hd
  obtain ⟨v, h1, h2⟩ := r.get g1
  obtain ⟨u, h3, h4⟩ := r'.get g2
  refine ⟨⟨vs, us, v, u, hq, hq', h1, h3⟩, fun x H2 y => ?_⟩
  obtain ⟨p, x1, x2, rfl, hp, rfl, y1, y2⟩ := y
  have q1 := (y1 vs hq).symm.trans h1
  have q2 := (y2 us hq').symm.trans h3
  cases q1
  cases q2
  obtain ⟨e, q⟩ := rep_pair s2 hp (h2.mono s1) (h4.mono s1)
  exact ⟨_, e, q⟩
theorem si_zip {a b : Expr} {x y : E} {p pos tpos : Pos} {elts : List Expr} {kk : Nat} (c : Okc S T lv W X) (hg : isGl S "zip" = true) (hst : isStar a = false) (hst2 : isStar b = false) (h : SE X T W a x) (h2 : SE X T W b y) :
    SI X T W (.Tuple elts kk tpos) (.Call (.Name "zip" p) [a, b] [] pos) (.zip x y) := by
  refine PI.imp (RZ.pi_zipA (gl_of c hg) (c.blt _ (by decide)) (ses_cons hst h (ses_cons hst2 h2 ses_nil)) (starEach_cons hst) (backTo_any fun e he => by rw [List.mem_singleton.mp he]; exact hst2)) fun σ H Q q => ?_
  obtain ⟨H0, F0, ρ, F, A, rl, p⟩ := q
  have e : dIt T (.zip x y) ρ = (dEs T (.cons x (.cons y .nil)) ρ).bind fun l => match l with
    | [.lst xs, .lst ys] => .ok (zipL xs ys)
    | [.tup xs, .tup ys] => .ok (zipL xs ys)
    | _ => .bad := two_arg (k := fun x y => match x, y with
    | .lst xs, .lst ys => .ok (zipL xs ys)
    | .tup xs, .tup ys => .ok (zipL xs ys)
    | _, _ => .bad) fun d e => by cases d <;> cases e <;> rfl
  rw [e] at p
  refine tL.seq rl p fun ds vs H1 F1 e1 r1 p1 => ?_
  split at p1
  · obtain ⟨v, u, rfl, rv, ru⟩ := r1.two
    obtain ⟨a, vs, rfl, g1, g2⟩ := Rep.lst_iff.mp rv
    obtain ⟨b, us, rfl, g3, g4⟩ := Rep.lst_iff.mp ru
    exact ⟨a, b, vs, us, rfl, .inl ⟨.inl (.inl (e1.sFH _ _ g1)), .inl (.inl (e1.sFH _ _ g3)), p1 _ _ _ e1 (walk_zip g1 g2 g3 g4)⟩⟩
  · obtain ⟨v, u, rfl, rv, ru⟩ := r1.two
    obtain ⟨a, vs, rfl, g1, g2⟩ := Rep.tup_iff.mp rv
    obtain ⟨b, us, rfl, g3, g4⟩ := Rep.tup_iff.mp ru
    exact ⟨a, b, vs, us, rfl, .inr ⟨Same.seqT e1.sFH g1, Same.seqT e1.sFH g3, p1 _ _ _ e1 (walk_zipT g1 g2 g3 g4)⟩⟩
  · exact p1.elim
/-! ### comprehensions -/
theorem wipe_at {σ : L2.St} {j : Nat} : ∀ {vs : List Nat}, j ∈ vs → (L2.wipe σ vs)[j]? = if j < σ.length then some none else none
  | [], h => by cases h
  | v :: vs, h => by
    show ((L2.wipe σ vs).set v none)[j]? = _
    by_cases hv : v = j
    · subst hv
      by_cases hl : v < σ.length
      · rw [List.getElem?_set_self (by rw [wipe_length]; exact hl), if_pos hl]
      · rw [List.getElem?_eq_none (by rw [List.length_set, wipe_length]; omega), if_neg hl]
    · rw [List.getElem?_set_ne hv]
      rcases List.mem_cons.mp h with q | q
      · exact absurd q.symm hv
      · exact wipe_at q
theorem wipe_ext {σ σ2 : L2.St} {vs : List Nat} (hl : σ2.length = (L2.wipe σ vs).length) (h : ∀ j, j ∉ vs → σ2[j]? = (L2.wipe σ vs)[j]?) : L2.wipe σ2 vs = L2.wipe σ vs := by
  rw [wipe_length] at hl
  refine List.ext_getElem? fun j => ?_
  by_cases hj : j ∈ vs
  · rw [wipe_at hj, wipe_at hj, hl]
  · rw [wipe_out hj, h j hj]
theorem inner_ok {scope : Scope} (c : Okc S T lv W X) (s : Shared) (H : Hp) (C : Addr) (cl : List (Str × Addr)) (fp : List Addr) : Okc (inner S scope) T lv (fun _ _ _ _ => False) (X.blk s H scope (compEnvC scope cl C X.env) fp) where
  N := c.N
  sc := by
    show relabel scope X.env = relS scope S.sc
    rw [← c.sc]
    rfl
  nd := c.nd
  nm := c.nm
  own := fun x hx => by
    unfold isOwn at hx
    have hx : (match scope.names.lookup x with
      | some .local => true
      | some .cell => true
      | _ => false) = true := hx
    have e : (compEnvC scope cl C X.env).scope = relS scope X.env.scope := rfl
    cases q : scope.names.lookup x with
    | none => rw [q] at hx; cases hx
    | some k =>
      rw [q] at hx
      cases k <;> first | cases hx | skip
      · have z : (relS scope X.env.scope).names.lookup x = some .local := lookup_relS_keep (by decide) q
        exact ⟨.inl (by show (compEnvC scope cl C X.env).scope.names.lookup x = _; rw [e]; exact z), .inr (by show (compEnvC scope cl C X.env).scope.names.lookup x = _; rw [e]; exact z)⟩
      · have z : (relS scope X.env.scope).names.lookup x = some .cell := lookup_relS_keep (by decide) q
        exact ⟨.inr (by show (compEnvC scope cl C X.env).scope.names.lookup x = _; rw [e]; exact z), .inl (by show (scope.names.lookup x == some .cell) = true; rw [q]; rfl)⟩
  calm := c.calm
  room := c.room
  tk := takes0
  fns := fun i x n h => ⟨⟨(c.fns i x n h).1.ex⟩, (c.fns i x n h).2⟩
  cst := c.cst
  blt := c.blt
  dcs := c.dcs
theorem compL_cons {tg : D → Option Env'} {cc : Env' → R Bool} {xx : Env' → R D} {d : D} {ds ys : List D} (h : compL tg cc xx (d :: ds) = .ok ys) :
    ∃ ρ b, tg d = some ρ ∧ cc ρ = .ok b ∧ ((b = true ∧ ∃ y r, xx ρ = .ok y ∧ compL tg cc xx ds = .ok r ∧ ys = y :: r) ∨ (b = false ∧ compL tg cc xx ds = .ok ys)) := by
  have h : ((R.of (tg d)).bind fun ρ => (cc ρ).bind fun b => if b = true then (xx ρ).bind fun y => (compL tg cc xx ds).bind fun ys => .ok (y :: ys) else compL tg cc xx ds) = .ok ys := h
  cases h1 : tg d with
  | none => rw [h1] at h; cases h
  | some ρ =>
    rw [h1] at h
    have h : ((cc ρ).bind fun b => if b = true then (xx ρ).bind fun y => (compL tg cc xx ds).bind fun ys => .ok (y :: ys) else compL tg cc xx ds) = .ok ys := h
    cases h2 : cc ρ with
    | exc c => rw [h2] at h; cases h
    | bad => rw [h2] at h; cases h
    | ok b =>
      rw [h2] at h
      have h : (if b = true then (xx ρ).bind fun y => (compL tg cc xx ds).bind fun ys => .ok (y :: ys) else compL tg cc xx ds) = .ok ys := h
      refine ⟨ρ, b, rfl, h2, ?_⟩
      cases b with
      | false => exact .inr ⟨rfl, h⟩
      | true =>
        have h : ((xx ρ).bind fun y => (compL tg cc xx ds).bind fun ys => .ok (y :: ys)) = .ok ys := h
        cases h3 : xx ρ with
        | exc c => rw [h3] at h; cases h
        | bad => rw [h3] at h; cases h
        | ok y =>
          rw [h3] at h
          cases h4 : compL tg cc xx ds with
          | exc c => rw [h4] at h; cases h
          | bad => rw [h4] at h; cases h
          | ok r =>
            rw [h4] at h
            cases h
            exact .inl ⟨rfl, y, r, rfl, rfl, rfl⟩
/-- the reading of a comprehension, whatever comes behind it -/
theorem comp_core {K : PySem.W.Frag} {W : WX} {mg : Str → Option Value} {T : Nat → List D → R D} {x : E} {t : Tg} {it : Z.It} {cd : E} {own : List Nat} (hin : ∀ i ∈ tgSlots t, i ∈ own) {σ : L2.St} {H : Hp} {Q : VK} (q : tE K W mg true (dE T (.comp x own t it cd)) σ H Q) :
    tLc (tI K W mg (dIt T it)) (tG K t) (tT K (fun _ _ _ _ => False) mg (dT T cd)) (tE K (fun _ _ _ _ => False) mg false (dE T x)) own σ H Q := by
  obtain ⟨H0, F0, ρ, F, A, rl, p⟩ := q
  refine ⟨H0, F0, ρ, F, A, rl, PostX.imp (k := fun ds => if ds.length < lim then ((compL (fun d => dTg t d (wipeE ρ own)) (dT T cd) (dE T x) ds).calm).bind fun ys => R.ok (D.lst ys) else R.bad) p fun ds q J H1 F1 e1 wk => ?_⟩
  by_cases hlim : ds.length < lim
  · rw [if_pos hlim] at q
    obtain ⟨ys, hys, q⟩ : ∃ ys, compL (fun d => dTg t d (wipeE ρ own)) (dT T cd) (dE T x) ds = .ok ys ∧ GE K true H F Q (.lst ys) := by
      cases h : compL (fun d => dTg t d (wipeE ρ own)) (dT T cd) (dE T x) ds with
      | ok ys => rw [h] at q; exact ⟨ys, rfl, q⟩
      | exc c => rw [h] at q; exact q.elim
      | bad => rw [h] at q; exact q.elim
    intro L hL
    let Pv : Nat → Hp → Prop := fun i Hc => ∃ Fc aD aV, Ex H1 F1 Hc Fc ∧ Hc L = some (.lst aV) ∧ Fc L = none ∧ RepL K Fc aD aV ∧ aD.length ≤ i ∧ ∃ r, compL (fun d => dTg t d (wipeE ρ own)) (dT T cd) (dE T x) (ds.drop i) = .ok r ∧ aD ++ r = ys
    refine ⟨fun i m Hc => m = ds.length - i ∧ i ≤ ds.length ∧ Pv i Hc, ⟨ds.length, rfl, Nat.zero_le _, F1, [], [], Ex.allocH e1.sFH hL, upd_same, e1.sFH.free hL, RepL.nil, Nat.le_refl _, ys, hys, rfl⟩, ?_⟩
    rintro i m Hc ⟨rfl, hi, Fc, aD, aV, ex, hcL, hfL, ra, hla, r, hr, hsum⟩
    have w := wk i Hc Fc ex.sF ex.sFH
    by_cases hlt : i < ds.length
    · obtain ⟨go, yl⟩ := w.1 ds[i] (List.getElem?_eq_getElem hlt)
      refine .inr ⟨go, fun Hn => Pv (i + 1) Hn, fun H' hn => ⟨ds.length - (i + 1), by omega, rfl, hlt, hn⟩, fun z H2 hz => ?_⟩
      obtain ⟨F2, e2, rz⟩ := yl z H2 hz
      rw [List.drop_eq_getElem_cons hlt] at hr
      obtain ⟨ρ1, b, g1, g2, g3⟩ := compL_cons hr
      refine ⟨H0, F0, wipeE ρ own, F2, A, ds[i], ρ1, ((rl.go e1).go (ex.trans e2)).wipe own, rz, g1, fun σ2 rl2 k2 l2 => ⟨wipe_ext l2 fun j hj => k2 j fun hm => hj (hin j hm), ?_⟩⟩
      refine ⟨H0, F0, ρ1, F2, A, rl2, ?_⟩
      rw [g2]
      intro H3 F3 e3
      have e23 := e2.trans e3
      have hL3 : H3 L = some (.lst aV) := e23.sH _ _ hcL
      have hF3 : F3 L = none := e23.new _ _ hfL hcL
      rcases g3 with ⟨rfl, y, r', gy, gr, rfl⟩ | ⟨rfl, gr⟩
      · rw [if_pos rfl]
        refine ⟨H0, F0, ρ1, F3, A, rl2.go e3, ?_⟩
        rw [gy]
        intro v H4 F4 e4 rv
        have e24 := e23.trans e4
        have hL4 : H4 L = some (.lst aV) := e4.sH _ _ hL3
        have hF4 : F4 L = none := e4.new _ _ hF3 hL3
        refine ⟨aV, hL4, by rw [← ra.length]; exact Nat.lt_of_le_of_lt hla (Nat.lt_trans hlt hlim), F4, aD ++ [y], aV ++ [v], ?_, upd_same, hF4, RepL.append (ra.mono e24.sF) (RepL.cons rv RepL.nil), by rw [List.length_append]; exact Nat.succ_le_succ hla, r', gr, by rw [List.append_assoc]; exact hsum⟩
        have full := ex.trans e24
        refine ⟨fun b o hb => ?_, full.sF, fun b o hb => ?_, full.new⟩
        · rw [upd_ne (ne_of_none hb hL)]; exact full.sH _ _ hb
        · have nb : b ≠ L := fun z => by rw [z, hF4] at hb; cases hb
          rw [upd_ne nb]; exact full.sFH _ _ hb
      · rw [if_neg (by decide)]
        exact ⟨F3, aD, aV, ex.trans e23, hL3, hF3, ra.mono e23.sF, Nat.le_succ_of_le hla, r, gr, hsum⟩
    · have e0 : i = ds.length := by omega
      refine .inl ⟨w.2 e0, ?_⟩
      rw [List.drop_of_length_le (by omega)] at hr
      cases hr
      rw [List.append_nil] at hsum
      subst hsum
      exact q (.ref L) Hc Fc (e1.trans ex) (by simp only [if_true]; exact ⟨L, aV, rfl, e1.sH.free hL, hcL, hfL, ra⟩)
  · rw [if_neg hlim] at q; exact q.elim
end
end Z
/-! The theorem about expressions. -/
namespace Z
open PySem PySem.Spec PyProof.Rows L2
section
variable {T : Nat → List D → R D} {lv : Nat}
/-- what is known at a depth -/
def Snd (T : Nat → List D → R D) (lv : Nat) (n : Nat) : Prop := ∀ (S : SC) (W : WX) (X : Cx), Okc S T lv W X →
  (∀ e ir, cE n S e = some ir → SE X T W e ir) ∧ (∀ e ir, cT n S e = some ir → ST X T W e ir) ∧ ∀ tg e it, cIt n S tg e = some it → SI X T W tg e it
variable {S : SC} {W : WX} {X : Cx} {n : Nat}
theorem ses_ok (sn : Snd T lv n) (c : Okc S T lv W X) : ∀ {es : List Expr} {xs : Es}, cEs (cE n) S es = some xs → SEs X T W es xs ∧ esLen xs = es.length ∧ ∀ e ∈ es, isStar e = false
  | [], xs, h => by
    have h : some Es.nil = some xs := h
    cases h
    exact ⟨ses_nil, rfl, fun e he => by cases he⟩
  | e :: es, xs, h => by
    simp only [cEs] at h
    split at h
    · cases h
    · rename_i hs
      have hs : isStar e = false := by simpa using hs
      rw [Option.bind_eq_some_iff] at h
      obtain ⟨a, ha, h⟩ := h
      rw [Option.map_eq_some_iff] at h
      obtain ⟨b, hb, rfl⟩ := h
      obtain ⟨h1, h2, h3⟩ := ses_ok sn c hb
      exact ⟨ses_cons hs ((sn S W X c).1 e a ha) h1, by show esLen b + 1 = _; rw [h2]; rfl, fun e' he => by
        rcases List.mem_cons.mp he with q | q
        · rw [q]; exact hs
        · exact h3 e' q⟩
theorem sesL_ok (sn : Snd T lv n) (c : Okc S T lv W X) : ∀ {es : List Expr} {xs : Es}, cEs (cE n) S es = some xs → SEsL X T W es xs ∧ ∀ e ∈ es, isStar e = false
  | [], xs, h => by
    have h : some Es.nil = some xs := h
    cases h
    exact ⟨trivial, fun e he => by cases he⟩
  | e :: es, xs, h => by
    simp only [cEs] at h
    split at h
    · cases h
    · rename_i hs
      have hs : isStar e = false := by simpa using hs
      rw [Option.bind_eq_some_iff] at h
      obtain ⟨a, ha, h⟩ := h
      rw [Option.map_eq_some_iff] at h
      obtain ⟨b, hb, rfl⟩ := h
      obtain ⟨h1, h3⟩ := sesL_ok sn c hb
      exact ⟨⟨(sn S W X c).1 e a ha, h1⟩, fun e' he => by
        rcases List.mem_cons.mp he with q | q
        · rw [q]; exact hs
        · exact h3 e' q⟩
theorem base_ok {o : Expr} {m : Str} {env : Env} (h : isCall0 o = false) : attributeBase o m env (eval o env) = eval o env := by
  unfold attributeBase
  split
  · cases h
  · rfl
theorem sb_ok (sn : Snd T lv n) (c : Okc S T lv W X) {e : Expr} {b : Bo} (h : cBo (cE n) S e = some b) : SB X T W e b := by
  have ev : ∀ {e : Expr} {b : Bo}, (cE n S e).map Bo.ev = some b → SB X T W e b := fun {e b} h => by
    rw [Option.map_eq_some_iff] at h
    obtain ⟨x, hx, rfl⟩ := h
    exact tB.of ((sn S W X c).1 e x hx).weak
  cases e with
  | Name x p =>
    simp only [cBo] at h
    split at h
    · rename_i hv
      rw [Option.map_eq_some_iff] at h
      obtain ⟨i, hi, rfl⟩ := h
      exact sb_own c hv hi
    · exact ev h
  | _ => exact ev h
theorem sbs_ok (sn : Snd T lv n) (c : Okc S T lv W X) : ∀ {es : List Expr} {xs : Bs}, cBs (cE n) S es = some xs → SBs X T W es xs ∧ ∀ e ∈ es, isStar e = false
  | [], xs, h => by
    have h : some Bs.nil = some xs := h
    cases h
    exact ⟨sbs_nil, fun e he => by cases he⟩
  | e :: es, xs, h => by
    simp only [cBs] at h
    split at h
    · cases h
    · rename_i hs
      have hs : isStar e = false := by simpa using hs
      rw [Option.bind_eq_some_iff] at h
      obtain ⟨a, ha, h⟩ := h
      rw [Option.map_eq_some_iff] at h
      obtain ⟨b, hb, rfl⟩ := h
      obtain ⟨h1, h3⟩ := sbs_ok sn c hb
      exact ⟨sbs_cons hs (sb_ok sn c ha) h1, fun e' he => by
        rcases List.mem_cons.mp he with q | q
        · rw [q]; exact hs
        · exact h3 e' q⟩
theorem so_ok (sn : Snd T lv n) (c : Okc S T lv W X) {e : Option Expr} {b : Bd} (h : cBound (cE n) S e = some b) : SO X T W e b := by
  cases e with
  | none =>
    have h : some Bd.no = some b := h
    cases h
    exact so_none
  | some e =>
    have h : (cE n S e).map Bd.to = some b := h
    rw [Option.map_eq_some_iff] at h
    obtain ⟨x, hx, rfl⟩ := h
    exact so_some ((sn S W X c).1 e x hx)
theorem and_ok (sn : Snd T lv n) (c : Okc S T lv W X) {pos : Pos} : ∀ {es : List Expr} {x : E}, cAnd (cE n) S es = some x → SE X T W (.BoolOp .And es pos) x
  | [], x, h => by cases h
  | [e], x, h => pe_one ((sn S W X c).1 e x h)
  | e :: e' :: es, x, h => by
    have h : (cE n S e).bind (fun a => (cAnd (cE n) S (e' :: es)).map fun b => .and_ a b) = some x := h
    rw [Option.bind_eq_some_iff] at h
    obtain ⟨a, ha, h⟩ := h
    rw [Option.map_eq_some_iff] at h
    obtain ⟨b, hb, rfl⟩ := h
    exact se_and ((sn S W X c).1 e a ha) (and_ok sn c hb)
theorem or_ok (sn : Snd T lv n) (c : Okc S T lv W X) {pos : Pos} : ∀ {es : List Expr} {x : E}, cOr (cE n) S es = some x → SE X T W (.BoolOp .Or es pos) x
  | [], x, h => by cases h
  | [e], x, h => pe_one ((sn S W X c).1 e x h)
  | e :: e' :: es, x, h => by
    have h : (cE n S e).bind (fun a => (cOr (cE n) S (e' :: es)).map fun b => .or_ a b) = some x := h
    rw [Option.bind_eq_some_iff] at h
    obtain ⟨a, ha, h⟩ := h
    rw [Option.map_eq_some_iff] at h
    obtain ⟨b, hb, rfl⟩ := h
    exact se_or ((sn S W X c).1 e a ha) (or_ok sn c hb)
theorem andT_ok (sn : Snd T lv n) (c : Okc S T lv W X) {pos : Pos} : ∀ {es : List Expr} {x : E}, cAnd (cT n) S es = some x → SW X T W (.BoolOp .And es pos) x
  | [], x, h => by cases h
  | [e], x, h => sw_and1 ((sn S W X c).2.1 e x h)
  | e :: e' :: es, x, h => by
    have h : (cT n S e).bind (fun a => (cAnd (cT n) S (e' :: es)).map fun b => .and_ a b) = some x := h
    rw [Option.bind_eq_some_iff] at h
    obtain ⟨a, ha, h⟩ := h
    rw [Option.map_eq_some_iff] at h
    obtain ⟨b, hb, rfl⟩ := h
    exact sw_and ((sn S W X c).2.1 e a ha) (andT_ok sn c hb)
theorem orT_ok (sn : Snd T lv n) (c : Okc S T lv W X) {pos : Pos} : ∀ {es : List Expr} {x : E}, cOr (cT n) S es = some x → SW X T W (.BoolOp .Or es pos) x
  | [], x, h => by cases h
  | [e], x, h => sw_or1 ((sn S W X c).2.1 e x h)
  | e :: e' :: es, x, h => by
    have h : (cT n S e).bind (fun a => (cOr (cT n) S (e' :: es)).map fun b => .or_ a b) = some x := h
    rw [Option.bind_eq_some_iff] at h
    obtain ⟨a, ha, h⟩ := h
    rw [Option.map_eq_some_iff] at h
    obtain ⟨b, hb, rfl⟩ := h
    exact sw_or ((sn S W X c).2.1 e a ha) (orT_ok sn c hb)
theorem name_ok (c : Okc S T lv W X) {x : Str} {pos : Pos} {ir : E} (h : cName S x = some ir) : SE X T W (.Name x pos) ir := by
  unfold cName at h
  split at h
  · rename_i hv
    rw [Option.map_eq_some_iff] at h
    obtain ⟨i, hi, rfl⟩ := h
    exact se_var c hv hi
  · split at h
    · rename_i hg
      rw [Option.map_eq_some_iff] at h
      obtain ⟨d, hd, rfl⟩ := h
      exact se_glb c hg hd
    · cases h
/-- of these forms a test is the truth of the value -/
def plainE : E → Bool
  | .and_ _ _ => false
  | .or_ _ _ => false
  | .not_ _ => false
  | _ => true
theorem meth_ok (sn : Snd T lv n) (c : Okc S T lv W X) {o : Expr} {m : Str} {args : List Expr} {ap cp : Pos} {ir : E} (hl : ap.endLine = cp.line) (ho : isCall0 o = false) (h : cMeth (cE n) S o m args = some ir) : SE X T W (.Call (.Attribute o m ap) args [] cp) ir := by
  have ih := sn S W X c
  unfold cMeth at h
  split at h
  · rename_i hm
    subst hm
    split at h
    · rename_i k
      split at h
      · cases h
      · rename_i sk
        have sk : isStar k = false := by simpa using sk
        split at h
        · cases h
        · simp only [Option.bind_eq_some_iff, Option.map_eq_some_iff] at h
          obtain ⟨a, ha, y, hy, rfl⟩ := h
          exact se_dget1 c (base_ok ho) hl sk (sb_ok sn c ha) (ih.1 k y hy)
    · rename_i k d
      split at h
      · cases h
      · rename_i sk
        have sk : isStar k = false := by simpa using sk
        split at h
        · cases h
        · rename_i sd
          have sd : isStar d = false := by simpa using sd
          split at h
          · rename_i x t hx
            simp only [Option.bind_eq_some_iff, Option.map_eq_some_iff] at h
            obtain ⟨y, hy, z, hz, rfl⟩ := h
            obtain ⟨p, rfl, hg, ht⟩ := dcOf_eq hx
            exact se_gget c hg ht hl sk sd (ih.1 k y hy) (ih.1 d z hz)
          · simp only [Option.bind_eq_some_iff, Option.map_eq_some_iff] at h
            obtain ⟨a, ha, y, hy, z, hz, rfl⟩ := h
            exact se_dget c (base_ok ho) hl sk sd (sb_ok sn c ha) (ih.1 k y hy) (ih.1 d z hz)
    · cases h
  · cases h
theorem meth_plain {cE : SC → Expr → Option E} {o : Expr} {m : Str} {args : List Expr} {ir : E} (h : cMeth cE S o m args = some ir) : plainE ir = true := by
  unfold cMeth at h
  repeat' split at h
  all_goals first
    | cases h
    | (simp only [Option.bind_eq_some_iff, Option.map_eq_some_iff] at h; obtain ⟨_, _, _, _, rfl⟩ := h; rfl)
    | (simp only [Option.bind_eq_some_iff, Option.map_eq_some_iff] at h; obtain ⟨_, _, _, _, _, _, rfl⟩ := h; rfl)
/-- what a comprehension's parts ask -/
structure CompOk (S : SC) (n : Nat) (x : Expr) (tg iter : Expr) (ifs : List Expr) (scope : Scope) (y : E) (own : List Nat) (t : Tg) (it : Z.It) (z : E) : Prop where
  blk : blkC S.N S.sc scope (ownOf S.N scope.names) = true
  eo : own = (ownOf S.N scope.names).map (·.2)
  htg : cTgF n (inner S scope) tg = some t
  hit : cIt n S tg iter = some it
  hx : cE n (inner S scope) x = some y
  sub : ∀ i ∈ tgSlots t, i ∈ own
  hifs : (ifs = [] ∧ z = .cst (.bl true)) ∨ ∃ c, ifs = [c] ∧ cT n (inner S scope) c = some z
theorem compOk_of {x tg iter : Expr} {ifs : List Expr} {k : Int} {scope : Scope} {pos : Pos} {ir : E} (h : cE (n + 1) S (.ListComp x [⟨tg, iter, ifs, k⟩] scope pos) = some ir) : k = 0 ∧ ∃ y own t it z, ir = .comp y own t it z ∧ CompOk S n x tg iter ifs scope y own t it z := by
  simp only [cE] at h
  split at h
  · rename_i hb
    obtain ⟨hk, hb⟩ := hb
    refine ⟨hk, ?_⟩
    rw [Option.bind_eq_some_iff] at h
    obtain ⟨t, ht, h⟩ := h
    rw [Option.bind_eq_some_iff] at h
    obtain ⟨it, hit, h⟩ := h
    rw [Option.bind_eq_some_iff] at h
    obtain ⟨y, hy, h⟩ := h
    split at h
    · rename_i hs
      have hs : ∀ i ∈ tgSlots t, i ∈ (ownOf S.N scope.names).map (·.2) := fun i hi => by
        have := List.all_eq_true.mp hs i hi
        exact List.contains_iff_mem.mp this
      split at h
      · cases h
        exact ⟨y, _, t, it, _, rfl, hb, rfl, ht, hit, hy, hs, .inl ⟨rfl, rfl⟩⟩
      · rw [Option.map_eq_some_iff] at h
        obtain ⟨z, hz, rfl⟩ := h
        exact ⟨y, _, t, it, z, rfl, hb, rfl, ht, hit, hy, hs, .inr ⟨_, rfl, hz⟩⟩
      · cases h
    · cases h
  · cases h
theorem pts_ok (sn : Snd T lv n) {S' : SC} {W' : WX} {X' : Cx} (c : Okc S' T lv W' X') {ifs : List Expr} {z : E} (h : (ifs = [] ∧ z = .cst (.bl true)) ∨ ∃ c, ifs = [c] ∧ cT n S' c = some z) : PTs X' ifs (tT X'.K W' X'.mg (dT T z)) := by
  rcases h with ⟨rfl, rfl⟩ | ⟨e, rfl, he⟩
  · refine PTs.imp pts_nil fun σ H Q q => ?_
    obtain ⟨H0, F0, ρ, F, A, rl, p⟩ := q
    exact p H F (Ex.refl rl.sFH)
  · exact pts_one ((sn S' W' X' c).2.1 e z he)
theorem notSetIter {e : Expr} {env : Env} (h : isSet e = false) : ∀ x, foldedSetIterable e env x = pure x := by cases e <;> first | (intro _; rfl) | cases h
theorem cIt_notSet {tg e : Expr} {it : Z.It} (h : cIt n S tg e = some it) : isSet e = false := by
  cases e <;> first | rfl | (cases n <;> cases h)
theorem se_comp (sn : Snd T lv n) (c : Okc S T lv W X) {x tg iter : Expr} {ifs : List Expr} {scope : Scope} {pos : Pos} {y : E} {own : List Nat} {t : Tg} {it : Z.It} {z : E} (k : CompOk S n x tg iter ifs scope y own t it z) :
    SE X T W (.ListComp x [⟨tg, iter, ifs, 0⟩] scope pos) (.comp y own t it z) := by
  have i := fun s H C cl fp => inner_ok (scope := scope) c s H C cl fp
  have eo := k.eo
  subst eo
  refine PE.imp (pe_lc (own := ownOf S.N scope.names) c.calm c.nd ((sn S W X c).2.2 tg iter it k.hit) (by rw [c.N, c.sc]; exact blkOk_by k.blk)
    (fun s H C cl fp => cTgF_ok (i s H C cl fp) n tg t k.htg) (fun s H C cl fp => pts_ok sn (i s H C cl fp) k.hifs)
    (fun s H C cl fp => ((sn _ _ _ (i s H C cl fp)).1 x y k.hx).weak) (notSetIter (cIt_notSet k.hit))) fun σ H Q q => comp_core k.sub q
theorem isTrue_plain' {e : Expr} {env : Env} (h : match e with | .Name .. => True | .Call .. => True | .Subscript .. => True | .BinOp .. => True | .ListComp .. => True | _ => False) :
    ∀ whole, PySem.isTrue e env whole = (do let v ← whole; standAt e.pos; holding [v] (truthy v)) := by
  cases e <;> first | exact h.elim | (intro _; rfl)
theorem plain_tru {x : E} (h : plainE x = true) (ρ : Env') : dT T x ρ = (dE T x ρ).bind fun d => R.of (truD d) := by
  cases x <;> first | rfl | cases h
theorem tru_of {e : Expr} {ir : E} (he : match e with | .Name .. => True | .Call .. => True | .Subscript .. => True | .BinOp .. => True | .ListComp .. => True | _ => False) (h : cE n S e = some ir) (ρ : Env') : dT T ir ρ = (dE T ir ρ).bind fun d => R.of (truD d) := by
  refine plain_tru ?_ ρ
  cases n with
  | zero => cases h
  | succ n =>
    cases e with
    | Name x p =>
      have h : cName S x = some ir := h
      unfold cName at h
      split at h
      · rw [Option.map_eq_some_iff] at h
        obtain ⟨i, hi, rfl⟩ := h
        rfl
      · split at h
        · rw [Option.map_eq_some_iff] at h
          obtain ⟨i, hi, rfl⟩ := h
          rfl
        · cases h
    | BinOp a op b p =>
      simp only [cE] at h
      rw [Option.bind_eq_some_iff] at h
      obtain ⟨o, ho, h⟩ := h
      rw [Option.bind_eq_some_iff] at h
      obtain ⟨x, hx, h⟩ := h
      rw [Option.map_eq_some_iff] at h
      obtain ⟨y, hy, rfl⟩ := h
      rfl
    | Subscript a i p =>
      simp only [cE] at h
      split at h <;> first
        | cases ‹Expr.Subscript _ _ _ = _›
        | skip
      all_goals first
        | (split at h
           · split at h <;> (simp only [Option.bind_eq_some_iff, Option.map_eq_some_iff] at h; first | (obtain ⟨_, _, rfl⟩ := h; rfl) | (obtain ⟨_, _, _, _, rfl⟩ := h; rfl))
           · cases h)
        | (simp only [Option.bind_eq_some_iff, Option.map_eq_some_iff] at h; obtain ⟨_, _, _, _, _, _, rfl⟩ := h; rfl)
        | (split at h
           · simp only [Option.bind_eq_some_iff, Option.map_eq_some_iff] at h; obtain ⟨_, _, _, _, rfl⟩ := h; rfl
           · cases h)
        | cases h
    | Call f args kws p =>
      simp only [cE] at h
      split at h <;> first
        | cases ‹Expr.Call _ _ _ _ = _›
        | skip
      all_goals first
        | cases h
        | (split at h
           · exact meth_plain h
           · cases h)
        | skip
      all_goals (repeat' split at h) <;> first
        | cases h
        | (simp only [Option.bind_eq_some_iff, Option.map_eq_some_iff] at h; obtain ⟨_, _, rfl⟩ := h; rfl)
        | (simp only [Option.bind_eq_some_iff, Option.map_eq_some_iff] at h; obtain ⟨_, _, _, _, rfl⟩ := h; rfl)
        | (simp only [Option.bind_eq_some_iff] at h; obtain ⟨_, _, h⟩ := h; first | (cases h; done) | (rw [Option.map_eq_some_iff] at h; obtain ⟨_, _, rfl⟩ := h; rfl) | (split at h <;> first | (cases h; done) | (rw [Option.map_eq_some_iff] at h; obtain ⟨_, _, rfl⟩ := h; rfl)))
    | ListComp x gens scope p =>
      match gens, h with
      | [⟨tg, iter, ifs, k⟩], h =>
        obtain ⟨_, y, own, t, it, z, rfl, ok⟩ := compOk_of h
        rfl
      | [], h => simp [cE] at h
      | _ :: _ :: _, h => simp [cE] at h
    | _ => exact he.elim
theorem snd : ∀ n, Snd T lv n
  | 0 => fun S W X c => ⟨fun _ _ h => (by cases h), fun _ _ h => (by cases h), fun _ _ _ h => (by cases h)⟩
  | n + 1 => fun S W X c => by
    have sn := snd n
    have ih := sn S W X c
    have hu : X.A.units + 65 < cLine := by have := c.room.un; omega
    -- expressions
    have hE : ∀ e ir, cE (n + 1) S e = some ir → SE X T W e ir := fun e ir h => by
      cases e with
      | Constant v k p =>
        cases v with
        | int i => cases h; exact se_cst pe_int fun _ => Rep.int_iff.mpr rfl
        | bool i => cases h; exact se_cst pe_bl fun _ => Rep.bl_iff.mpr rfl
        | none => cases h; exact se_cst pe_non fun _ => Rep.non_iff.mpr rfl
        | str i => cases h; exact se_cst pe_str fun _ => Rep.str_iff.mpr rfl
        | _ => cases h
      | Name x p => exact name_ok c h
      | BinOp a op b p =>
        simp only [cE] at h
        rw [Option.bind_eq_some_iff] at h
        obtain ⟨o, ho, h⟩ := h
        rw [Option.bind_eq_some_iff] at h
        obtain ⟨x, hx, h⟩ := h
        rw [Option.map_eq_some_iff] at h
        obtain ⟨y, hy, rfl⟩ := h
        rw [binOf_eq ho]
        exact se_bin (ih.1 a x hx) (ih.1 b y hy)
      | UnaryOp op a p =>
        cases op with
        | USub =>
          simp only [cE] at h
          rw [Option.map_eq_some_iff] at h
          obtain ⟨x, hx, rfl⟩ := h
          exact se_neg (ih.1 a x hx)
        | Not =>
          simp only [cE] at h
          rw [Option.map_eq_some_iff] at h
          obtain ⟨x, hx, rfl⟩ := h
          exact se_not (ih.1 a x hx)
        | _ => cases h
      | BoolOp op vs p =>
        cases op with
        | And => exact and_ok sn c (show cAnd (cE n) S vs = some ir from h)
        | Or => exact or_ok sn c (show cOr (cE n) S vs = some ir from h)
      | IfExp q a b p =>
        simp only [cE] at h
        rw [Option.bind_eq_some_iff] at h
        obtain ⟨z, hz, h⟩ := h
        rw [Option.bind_eq_some_iff] at h
        obtain ⟨x, hx, h⟩ := h
        rw [Option.map_eq_some_iff] at h
        obtain ⟨y, hy, rfl⟩ := h
        exact se_ite (ih.2.1 q z hz) (ih.1 a x hx) (ih.1 b y hy)
      | Compare a ops bs p =>
        match ops, bs, h with
        | [op], [b], h =>
          simp only [cE] at h
          split at h
          · cases h
          · rename_i hs
            have hs : isSet b = false := by simpa using hs
            rw [Option.bind_eq_some_iff] at h
            obtain ⟨x, hx, h⟩ := h
            rw [Option.map_eq_some_iff] at h
            obtain ⟨y, hy, rfl⟩ := h
            rw [cmpOf_eq op]
            have r := se_cmp (o := cmpOf op) (pos := p) hu (notSet hs) (sb_ok sn c hx) (sb_ok sn c hy)
            rw [← cmpOf_eq op] at r ⊢
            exact r
        | [op, op'], [b, q], h =>
          simp only [cE] at h
          split at h
          · cases h
          · rename_i hs
            have hs : isSet q = false := by simpa using hs
            rw [Option.bind_eq_some_iff] at h
            obtain ⟨x, hx, h⟩ := h
            rw [Option.bind_eq_some_iff] at h
            obtain ⟨y, hy, h⟩ := h
            rw [Option.map_eq_some_iff] at h
            obtain ⟨z, hz, rfl⟩ := h
            have r := se_chn (o := cmpOf op) (p := cmpOf op') (pos := p) hu hs (ih.1 a x hx) (ih.1 b y hy) (ih.1 q z hz)
            rw [← cmpOf_eq op, ← cmpOf_eq op'] at r
            exact r
      | Tuple es k p =>
        simp only [cE] at h
        rw [Option.map_eq_some_iff] at h
        obtain ⟨x, hx, rfl⟩ := h
        exact se_tup (ses_ok sn c hx).1
      | List es p =>
        simp only [cE] at h
        rw [Option.map_eq_some_iff] at h
        obtain ⟨x, hx, rfl⟩ := h
        exact se_lst (ses_ok sn c hx).1
      | Call f args kws p =>
        cases f with
        | Name f fp =>
          cases kws with
          | nil =>
            simp only [cE] at h
            split at h
            · rename_i hg
              split at h
              · rename_i i k hf
                split at h
                · rename_i hl
                  rw [Option.map_eq_some_iff] at h
                  obtain ⟨x, hx, rfl⟩ := h
                  obtain ⟨h1, h2, h3⟩ := ses_ok sn c hx
                  obtain ⟨j, rfl, hj⟩ := fnIx_get hf
                  rw [Nat.zero_add]
                  cases args with
                  | nil => exact absurd rfl hl.2
                  | cons e es => exact se_call c hg hj h3 (h2.trans hl.1) h1
                · cases h
              · split at h
                · rename_i hi
                  subst hi
                  split at h
                  · split at h
                    · cases h
                    · rename_i hs
                      split at h
                      · rename_i ht
                        rw [Option.bind_eq_some_iff] at h
                        obtain ⟨t, htt, h⟩ := h
                        rw [Option.map_eq_some_iff] at h
                        obtain ⟨x, hx, rfl⟩ := h
                        have e := tyOf_eq htt
                        subst e
                        exact se_isi c hg ht (by simpa using hs) (ih.1 _ x hx)
                      · cases h
                  · cases h
                · split at h
                  · rename_i b hb
                    split at h
                    · rename_i hne
                      rw [Option.map_eq_some_iff] at h
                      obtain ⟨x, hx, rfl⟩ := h
                      have e := bltOf_eq hb
                      subst e
                      obtain ⟨h1, h3⟩ := sbs_ok sn c hx
                      cases args with
                      | nil => exact absurd rfl hne
                      | cons e es => exact se_blt c hg h3 h1
                    · cases h
                  · rw [Option.bind_eq_some_iff] at h
                    obtain ⟨b, hb, h⟩ := h
                    split at h
                    · rename_i hne
                      rw [Option.map_eq_some_iff] at h
                      obtain ⟨x, hx, rfl⟩ := h
                      have e := mkbOf_eq hb
                      subst e
                      obtain ⟨h1, h2, h3⟩ := ses_ok sn c hx
                      cases args with
                      | nil => exact absurd rfl hne
                      | cons e es => exact se_mkb c hg h3 h1
                    · cases h
            · cases h
          | cons _ _ => cases h
        | Attribute o m ap =>
          cases kws with
          | nil =>
            simp only [cE] at h
            split at h
            · rename_i hc
              exact meth_ok sn c hc.1 hc.2 h
            · cases h
          | cons _ _ => cases h
        | _ => cases h
      | Dict keys values p =>
        simp only [cE] at h
        rw [Option.bind_eq_some_iff] at h
        obtain ⟨ks, hk, h⟩ := h
        split at h
        · rename_i hc
          rw [Option.map_eq_some_iff] at h
          obtain ⟨xs, hx, rfl⟩ := h
          obtain ⟨h1, h2⟩ := sesL_ok sn c hx
          exact se_dis hk hc.1 hc.2.1 hc.2.2 h2 h1
        · cases h
      | Subscript a i p =>
        have plain : ∀ {i : Expr}, (if isPlainIx i = true then (match dcOf S a with
            | some (x, t) => (cE n S i).map fun y => E.gix x t y
            | none => (cBo (cE n) S a).bind fun x => (cE n S i).map fun y => E.ix x y) else none) = some ir → SE X T W (.Subscript a i p) ir := fun {i} h => by
          split at h
          · rename_i hp
            split at h
            · rename_i x t hx
              rw [Option.map_eq_some_iff] at h
              obtain ⟨y, hy, rfl⟩ := h
              obtain ⟨q, rfl, hg, ht⟩ := dcOf_eq hx
              exact se_gix c hg ht hp (ih.1 i y hy)
            · rw [Option.bind_eq_some_iff] at h
              obtain ⟨x, hx, h⟩ := h
              rw [Option.map_eq_some_iff] at h
              obtain ⟨y, hy, rfl⟩ := h
              exact se_ix (by omega) hp (sb_ok sn c hx) (ih.1 i y hy)
          · cases h
        cases i with
        | Slice lo hi st p2 =>
          cases st with
          | none =>
            simp only [cE] at h
            rw [Option.bind_eq_some_iff] at h
            obtain ⟨x, hx, h⟩ := h
            rw [Option.bind_eq_some_iff] at h
            obtain ⟨l, hl, h⟩ := h
            rw [Option.map_eq_some_iff] at h
            obtain ⟨u, hu', rfl⟩ := h
            exact se_sl (ih.1 a x hx) (so_ok sn c hl) (so_ok sn c hu')
          | some st =>
            simp only [cE] at h
            split at h
            · rename_i hr
              rw [Option.map_eq_some_iff] at h
              obtain ⟨x, hx, rfl⟩ := h
              obtain ⟨rfl, rfl, k, p1, p3, rfl⟩ := isRev_eq hr
              exact se_rev (ih.1 a x hx)
            · cases h
        | _ => exact plain h
      | ListComp x gens scope p =>
        match gens, h with
        | [⟨tg, iter, ifs, k⟩], h =>
          obtain ⟨rfl, y, own, t, it, z, rfl, ok⟩ := compOk_of h
          exact se_comp sn c ok
        | [], h => simp [cE] at h
        | _ :: _ :: _, h => simp [cE] at h
      | _ => cases h
    refine ⟨hE, fun e ir h => ?_, fun tg e it h => ?_⟩
    · -- tests
      cases e with
      | BoolOp op vs p =>
        cases op with
        | And => exact (andT_ok sn c (show cAnd (cT n) S vs = some ir from h)).pt
        | Or => exact (orT_ok sn c (show cOr (cT n) S vs = some ir from h)).pt
      | UnaryOp op a p =>
        cases op with
        | Not =>
          simp only [cT] at h
          rw [Option.map_eq_some_iff] at h
          obtain ⟨x, hx, rfl⟩ := h
          exact st_not (ih.2.1 a x hx)
        | _ => cases h
      | Compare a ops bs p =>
        have h : cE n S (.Compare a ops bs p) = some ir := h
        cases n with
        | zero => cases h
        | succ m =>
        have sm : Snd T lv m := snd m
        have im := sm S W X c
        match ops, bs, h with
        | [op], [b], h =>
          simp only [cE] at h
          split at h
          · cases h
          · rename_i hs
            have hs : isSet b = false := by simpa using hs
            rw [Option.bind_eq_some_iff] at h
            obtain ⟨x, hx, h⟩ := h
            rw [Option.map_eq_some_iff] at h
            obtain ⟨y, hy, rfl⟩ := h
            have r := st_cmp (o := cmpOf op) (pos := p) hu (notSet hs) (sb_ok sm c hx) (sb_ok sm c hy)
            rw [← cmpOf_eq op] at r
            exact r
        | [op, op'], [b, q], h =>
          simp only [cE] at h
          split at h
          · cases h
          · rename_i hs
            have hs : isSet q = false := by simpa using hs
            rw [Option.bind_eq_some_iff] at h
            obtain ⟨x, hx, h⟩ := h
            rw [Option.bind_eq_some_iff] at h
            obtain ⟨y, hy, h⟩ := h
            rw [Option.map_eq_some_iff] at h
            obtain ⟨z, hz, rfl⟩ := h
            have r := st_chn (o := cmpOf op) (p := cmpOf op') (pos := p) hu hs (im.1 a x hx) (im.1 b y hy) (im.1 q z hz)
            rw [← cmpOf_eq op, ← cmpOf_eq op'] at r
            exact r
      | Name x p => exact st_tru (fun _ => rfl) (tru_of (n := n) (S := S) (e := .Name x p) trivial h) (ih.1 _ ir h)
      | Call a b d p => exact st_tru (fun _ => rfl) (tru_of (n := n) (S := S) (e := .Call a b d p) trivial h) (ih.1 _ ir h)
      | Subscript a b p => exact st_tru (fun _ => rfl) (tru_of (n := n) (S := S) (e := .Subscript a b p) trivial h) (ih.1 _ ir h)
      | BinOp a b d p => exact st_tru (fun _ => rfl) (tru_of (n := n) (S := S) (e := .BinOp a b d p) trivial h) (ih.1 _ ir h)
      | ListComp a b d p => exact st_tru (fun _ => rfl) (tru_of (n := n) (S := S) (e := .ListComp a b d p) trivial h) (ih.1 _ ir h)
      | _ => cases h
    · -- what a loop goes over
      have sq : ∀ {e : Expr} {it : Z.It}, (cE n S e).map Z.It.seq = some it → SI X T W tg e it := fun {e it} h => by
        rw [Option.map_eq_some_iff] at h
        obtain ⟨x, hx, rfl⟩ := h
        exact si_seq (ih.1 e x hx)
      cases e with
      | Set a b d => cases h
      | Call f args kws p =>
        cases f with
        | Name f fp =>
          cases kws with
          | nil =>
            simp only [cIt] at h
            split at h
            · rename_i hg
              split at h
              · exact sq h
              · split at h
                · rename_i hf
                  subst hf
                  split at h
                  · split at h
                    · cases h
                    · rename_i hs
                      rw [Option.map_eq_some_iff] at h
                      obtain ⟨x, hx, rfl⟩ := h
                      exact si_rng1 c hg (by simpa using hs) (ih.1 _ x hx)
                  · split at h
                    · cases h
                    · rename_i hs
                      split at h
                      · cases h
                      · rename_i hs2
                        rw [Option.bind_eq_some_iff] at h
                        obtain ⟨x, hx, h⟩ := h
                        rw [Option.map_eq_some_iff] at h
                        obtain ⟨y, hy, rfl⟩ := h
                        exact si_rng2 c hg (by simpa using hs) (by simpa using hs2) (ih.1 _ x hx) (ih.1 _ y hy)
                  · cases h
                · split at h
                  · rename_i hf
                    subst hf
                    split at h
                    · split at h
                      · rename_i ht
                        split at h
                        · cases h
                        · rename_i hs
                          rw [Option.map_eq_some_iff] at h
                          obtain ⟨x, hx, rfl⟩ := h
                          cases tg <;> first | (cases ht; done) | exact si_enm c hg (by simpa using hs) (ih.1 _ x hx)
                      · cases h
                    · cases h
                  · split at h
                    · rename_i hf
                      subst hf
                      split at h
                      · split at h
                        · rename_i ht
                          split at h
                          · cases h
                          · rename_i hs
                            split at h
                            · cases h
                            · rename_i hs2
                              rw [Option.bind_eq_some_iff] at h
                              obtain ⟨x, hx, h⟩ := h
                              rw [Option.map_eq_some_iff] at h
                              obtain ⟨y, hy, rfl⟩ := h
                              cases tg <;> first | (cases ht; done) | exact si_zip c hg (by simpa using hs) (by simpa using hs2) (ih.1 _ x hx) (ih.1 _ y hy)
                        · cases h
                      · cases h
                    · exact sq h
            · cases h
          | cons _ _ => exact sq h
        | _ => exact sq h
      | _ => exact sq h
end
end Z
/-! Statements: their terms, what these do, their readings. -/
namespace Z
open PySem PySem.Spec PyProof.Rows L2

mutual
inductive Sm where
  | set (fz : List Nat) (i : Nat) (own : Bool) (e : E)
  | unp (fz : List Nat) (t : Tg) (e : E)
  | par (fz : List Nat) (i j : Nat) (es : Es)
  | par3 (fz : List Nat) (i j k : Nat) (es : Es)
  | aug (fz : List Nat) (i : Nat) (o : BOp) (e : E)
  | app (fz : List Nat) (i : Nat) (e : E)
  | ext (fz : List Nat) (i : Nat) (e : E)
  | ret (fz : List Nat) (e : E)
  | retN
  | ite (fz : List Nat) (c : E) (a b : Sms)
  | fo (fz : List Nat) (t : Tg) (it : It) (b : Sms)
  | wh (fz : List Nat) (c : E) (b : Sms)
  | pass
  | brk
  | cnt
  | exp (fz : List Nat) (e : E)
  | rai (c : Str)
  | tr (b : Sms) (h : Hs)
inductive Sms where
  | nil
  | cons (s : Sm) (r : Sms)
/-- the clauses of a try: a class, and what is handed back (or nothing is done) -/
inductive Hs where
  | nil
  | ret (c : Str) (d : D) (r : Hs)
  | pass (c : Str) (r : Hs)
end
/-- how a statement ends -/
inductive Fl where
  | nx (ρ : Env')
  | rt (d : D)
  | bk (ρ : Env')
  | ct (ρ : Env')
  | exc (c : Str) (ρ : Env')
  | bad
/-- a name's own list or dict is shared from here on -/
def frz1 (ρ : Env') (i : Nat) : Env' := match ρ[i]? with
  | some (.ow d) => ρ.set i (.im d)
  | _ => ρ
def frzL (ρ : Env') : List Nat → Env'
  | [] => ρ
  | i :: r => frzL (frz1 ρ i) r
def R.fl {α : Type} (r : R α) (ρ : Env') (k : α → Fl) : Fl := match r with
  | .ok a => k a
  | .exc c => .exc c ρ
  | .bad => .bad
def Fl.of (o : Option Env') : Fl := match o with
  | some ρ => .nx ρ
  | none => .bad
def forL (tg : D → Env' → Option Env') (b : Env' → Fl) : List D → Env' → Fl
  | [], ρ => .nx ρ
  | d :: ds, ρ => match tg d ρ with
    | none => .bad
    | some ρ1 => match b ρ1 with
      | .nx ρ2 => forL tg b ds ρ2
      | .ct ρ2 => forL tg b ds ρ2
      | .bk ρ2 => .nx ρ2
      | f => f
def whL (c : Env' → R Bool) (fz : List Nat) (b : Env' → Fl) : Nat → Env' → Fl
  | 0, _ => .bad
  | n + 1, ρ => (c (frzL ρ fz)).fl (frzL ρ fz) fun t => if t = true then (match b (frzL ρ fz) with
      | .nx ρ2 => whL c fz b n ρ2
      | .ct ρ2 => whL c fz b n ρ2
      | .bk ρ2 => .nx ρ2
      | f => f) else .nx (frzL ρ fz)
def fuel : Nat := 1000000
def augD : BOp → D → D → Option D
  | .add, .int i, .int j => some (.int (i + j))
  | .sub, .int i, .int j => some (.int (i - j))
  | .mul, .int i, .int j => if (-(2 ^ 64) < i ∧ i < 2 ^ 64) ∨ (-(2 ^ 64) < j ∧ j < 2 ^ 64) then some (.int (i * j)) else none
  | .div, .int i, .int j => if 0 < j ∧ j < 1073741824 then some (.int (i / j)) else none
  | .mod, .int i, .int j => if 0 < j then some (.int (i % j)) else none
  | _, _, _ => none
def ownList (d : D) (own : Bool) : Slot := match d, own with
  | .lst xs, true => .ow (.lst xs)
  | .dic ks vs, true => .ow (.dic ks vs)
  | d, _ => .im d
section
variable (T : Nat → List D → R D) (sub : Str → Str → Option Bool)
/-- the clause that takes an error -/
def dHs (c : Str) (ρ : Env') : Hs → Fl
  | .nil => .exc c ρ
  | .ret y d r => match sub c y with
    | some true => .rt d
    | some false => dHs c ρ r
    | none => .bad
  | .pass y r => match sub c y with
    | some true => .nx ρ
    | some false => dHs c ρ r
    | none => .bad
mutual
def dS : Sm → Env' → Fl
  | .set fz i own e, ρ => (dE T e (frzL ρ fz)).fl (frzL ρ fz) fun d => .nx ((frzL ρ fz).set i (ownList d (own && isFr e)))
  | .unp fz t e, ρ => (dE T e (frzL ρ fz)).fl (frzL ρ fz) fun d => Fl.of (dTg t d (frzL ρ fz))
  | .par fz i j es, ρ => (dEs T es (frzL ρ fz)).fl (frzL ρ fz) fun ds => match ds with
    | [d, e] => .nx (((frzL ρ fz).set i (.im d)).set j (.im e))
    | _ => .bad
  | .par3 fz i j k es, ρ => (dEs T es (frzL ρ fz)).fl (frzL ρ fz) fun ds => match ds with
    | [d, e, f] => .nx ((((frzL ρ fz).set i (.im d)).set j (.im e)).set k (.im f))
    | _ => .bad
  | .aug fz i o e, ρ => (look (frzL ρ fz) i).fl (frzL ρ fz) fun x => (dE T e (frzL ρ fz)).fl (frzL ρ fz) fun y => match augD o x y with
    | some z => .nx ((frzL ρ fz).set i (.im z))
    | none => .bad
  | .app fz i e, ρ => match (frzL ρ fz)[i]? with
    | some (.ow (.lst ds)) => (dE T e (frzL ρ fz)).fl (frzL ρ fz) fun d => if ds.length < lim then .nx ((frzL ρ fz).set i (.ow (.lst (ds ++ [d])))) else .bad
    | _ => .bad
  | .ext fz i e, ρ => match (frzL ρ fz)[i]? with
    | some (.ow (.lst ds)) => (dE T e (frzL ρ fz)).fl (frzL ρ fz) fun d => match d with
      | .lst es => if ds.length + es.length ≤ lim then .nx ((frzL ρ fz).set i (.ow (.lst (ds ++ es)))) else .bad
      | _ => .bad
    | _ => .bad
  | .ret fz e, ρ => (dE T e (frzL ρ fz)).fl (frzL ρ fz) fun d => .rt d
  | .retN, _ => .rt .non
  | .ite fz c a b, ρ => (dT T c (frzL ρ fz)).fl (frzL ρ fz) fun t => if t = true then dSs a (frzL ρ fz) else dSs b (frzL ρ fz)
  | .fo fz t it b, ρ => (dIt T it (frzL ρ fz)).fl (frzL ρ fz) fun ds => forL (dTg t) (dSs b) ds (frzL ρ fz)
  | .wh fz c b, ρ => whL (dT T c) fz (dSs b) fuel ρ
  | .pass, ρ => .nx ρ
  | .brk, ρ => .bk ρ
  | .cnt, ρ => .ct ρ
  | .exp fz e, ρ => (dE T e (frzL ρ fz)).fl (frzL ρ fz) fun _ => .nx (frzL ρ fz)
  | .rai c, ρ => .exc c ρ
  | .tr b h, ρ => match dSs b ρ with
    | .exc c ρ' => dHs sub c ρ' h
    | f => f
def dSs : Sms → Env' → Fl
  | .nil, ρ => .nx ρ
  | .cons s r, ρ => match dS s ρ with
    | .nx ρ' => dSs r ρ'
    | f => f
end
end

/-! ### readings -/
section
variable (K : PySem.W.Frag) (W : WX) (mg : Str → Option Value) (H0 F0 : Hp)
def PostS (De : Ends) (F : Hp) : Fl → Prop
  | .nx ρ => ∀ σ H F' A, Rl K H0 F0 ρ σ H F' A → Same F F' → De.nx σ H
  | .rt d => ∀ v H F', Ex H0 F0 H F' → Rep K F' d v → De.rt v H
  | .bk ρ => ∀ σ H F' A, Rl K H0 F0 ρ σ H F' A → Same F F' → De.bk σ H
  | .ct ρ => ∀ σ H F' A, Rl K H0 F0 ρ σ H F' A → Same F F' → De.ct σ H
  | .exc c ρ => ∀ σ H F' A C, Rl K H0 F0 ρ σ H F' A → Same F F' → mg c = some (.ref C) → W (.ref C) none σ H
  | .bad => False
def tS (r : Env' → Fl) : TS := fun De σ H => ∃ ρ F A, Rl K H0 F0 ρ σ H F A ∧ PostS K W mg H0 F0 De F (r ρ)
end
section
variable {K : PySem.W.Frag} {W : WX} {mg : Str → Option Value} {H0 F0 H F H1 F1 : Hp} {σ : L2.St} {ρ : Env'} {A : Nat → Addr} {De : Ends}
theorem PostS.sub {f : Fl} (p : PostS K W mg H0 F0 De F f) (s : Same F F1) : PostS K W mg H0 F0 De F1 f := by
  cases f with
  | nx ρ => exact fun σ H F' A r q => p σ H F' A r (s.trans q)
  | rt d => exact p
  | bk ρ => exact fun σ H F' A r q => p σ H F' A r (s.trans q)
  | ct ρ => exact fun σ H F' A r q => p σ H F' A r (s.trans q)
  | exc c ρ => exact fun σ H F' A C r q => p σ H F' A C r (s.trans q)
  | bad => exact p
/-- a name's own list becomes part of what stays -/
theorem Rl.frz1 (rl : Rl K H0 F0 ρ σ H F A) (i : Nat) : ∃ F', Rl K H0 F0 (frz1 ρ i) σ H F' A ∧ Same F F' := by
  unfold Z.frz1
  cases hi : ρ[i]? with
  | none => exact ⟨F, rl, Same.refl _⟩
  | some s =>
    cases s with
    | un => exact ⟨F, rl, Same.refl _⟩
    | im d => exact ⟨F, rl, Same.refl _⟩
    | ow d =>
      obtain ⟨h1, h2, h3⟩ := rl.slot i _ hi
      have h0 := rl.old i d hi
      obtain ⟨o, ho⟩ := h3.there
      have sF : Same F (upd F (A i) o) := same_upd h2
      have rep : Rep K (upd F (A i) o) d (.ref (A i)) := by
        cases d <;> simp only [Own] at h3
        · obtain ⟨vs, q1, q2⟩ := h3
          rw [q1] at ho
          cases ho
          exact Rep.lst_iff.mpr ⟨_, vs, rfl, upd_same, q2.mono sF⟩
        · obtain ⟨kvs, q1, q2, q4, q3⟩ := h3
          rw [q1] at ho
          cases ho
          exact Rep.dic_iff.mpr ⟨_, kvs, rfl, .inl upd_same, q2, q4, q3.mono sF⟩
      have hlt : i < ρ.length := by
        rcases Nat.lt_or_ge i ρ.length with q | q
        · exact q
        · rw [List.getElem?_eq_none q] at hi; cases hi
      have ow : ∀ {j : Nat} {e : D}, (ρ.set i (.im d))[j]? = some (.ow e) → i ≠ j ∧ ρ[j]? = some (.ow e) := fun {j e} q => by
        by_cases hij : i = j
        · subst hij; rw [List.getElem?_set_self hlt] at q; cases q
        · rw [List.getElem?_set_ne hij] at q; exact ⟨hij, q⟩
      refine ⟨upd F (A i) o, ⟨⟨rl.ex.sH, rl.ex.sF.trans sF, fun b u q => ?_, fun b u q1 q2 => ?_⟩, by rw [List.length_set]; exact rl.len, fun j s hs => ?_, fun j e he => rl.old j e (ow he).2, fun j k e f hj hk hn => rl.apart j k e f (ow hj).2 (ow hk).2 hn⟩, sF⟩
      · by_cases hb : b = A i
        · subst hb; rw [upd_same] at q; rw [← q]; exact ho
        · rw [upd_ne hb] at q; exact rl.ex.sFH _ _ q
      · rw [upd_ne (fun z => by rw [z, h0] at q2; cases q2)]; exact rl.ex.new _ _ q1 q2
      · by_cases hij : i = j
        · subst hij
          rw [List.getElem?_set_self hlt] at hs
          cases hs
          exact ⟨_, h1, rep⟩
        · rw [List.getElem?_set_ne hij] at hs
          have q := rl.slot j s hs
          cases s with
          | un => trivial
          | im e => obtain ⟨v, g1, g2⟩ := q; exact ⟨v, g1, g2.mono sF⟩
          | ow e =>
            obtain ⟨g1, g2, g3⟩ := q
            refine ⟨g1, ?_, g3.mono sF (Same.refl _)⟩
            rw [upd_ne (rl.apart j i e d hs hi (Ne.symm hij))]
            exact g2
theorem Rl.frzL : ∀ (fz : List Nat) {ρ : Env'} {F : Hp}, Rl K H0 F0 ρ σ H F A → ∃ F', Rl K H0 F0 (frzL ρ fz) σ H F' A ∧ Same F F'
  | [], ρ, F, rl => ⟨F, rl, Same.refl _⟩
  | i :: r, ρ, F, rl => by
    obtain ⟨F1, r1, s1⟩ := rl.frz1 i
    obtain ⟨F2, r2, s2⟩ := Rl.frzL r r1
    exact ⟨F2, r2, s1.trans s2⟩
/-- a new list, a new dict becomes a name's own -/
theorem Rl.own (rl : Rl K H0 F0 ρ σ H F A) {i : Nat} {p : Addr} {d : D} (e : Ex H F H1 F1) (hp : H p = none) (hF : F1 p = none) (ho : Own K F1 H1 p d) : Rl K H0 F0 (ρ.set i (.ow d)) (σ.set i (some (.ref p))) H1 F1 (fun j => if j = i then p else A j) := by
  have rl1 := rl.go e
  have h0 : H0 p = none := rl.ex.sH.free hp
  have cs : ∀ {j : Nat} {s : Slot}, (ρ.set i (.ow d))[j]? = some s → (j = i ∧ s = .ow d ∧ i < ρ.length) ∨ (j ≠ i ∧ ρ[j]? = some s) := fun {j s} q => by
    by_cases hij : i = j
    · subst hij
      rcases Nat.lt_or_ge i ρ.length with z | z
      · rw [List.getElem?_set_self z] at q; cases q; exact .inl ⟨rfl, rfl, z⟩
      · rw [List.getElem?_eq_none (by rw [List.length_set]; exact z)] at q; cases q
    · rw [List.getElem?_set_ne hij] at q; exact .inr ⟨Ne.symm hij, q⟩
  have ne : ∀ {j : Nat} {f : D}, ρ[j]? = some (.ow f) → A j ≠ p := fun {j f} q z => by
    obtain ⟨_, _, h3⟩ := rl.slot j _ q
    obtain ⟨o, ho⟩ := h3.there
    rw [z, hp] at ho; cases ho
  refine ⟨rl1.ex, by rw [List.length_set, List.length_set]; exact rl.len, fun j s hs => ?_, fun j f hf => ?_, fun j k f g hj hk hn => ?_⟩
  · rcases cs hs with ⟨rfl, rfl, hl⟩ | ⟨hj, q⟩
    · refine ⟨by rw [List.getElem?_set_self (by rw [← rl.len]; exact hl)]; simp, by simp only [if_true]; exact hF, by simp only [if_true]; exact ho⟩
    · have g := rl1.slot j s q
      cases s with
      | un => trivial
      | im f => obtain ⟨v, g1, g2⟩ := g; exact ⟨v, by rw [List.getElem?_set_ne (Ne.symm hj)]; exact g1, g2⟩
      | ow f =>
        obtain ⟨g1, g2, g3⟩ := g
        exact ⟨by rw [List.getElem?_set_ne (Ne.symm hj)]; simp only [if_neg hj]; exact g1, by simp only [if_neg hj]; exact g2, by simp only [if_neg hj]; exact g3⟩
  · rcases cs hf with ⟨rfl, _, _⟩ | ⟨hj, q⟩
    · simp only [if_true]; exact h0
    · simp only [if_neg hj]; exact rl.old j f q
  · rcases cs hj with ⟨rfl, _, _⟩ | ⟨nj, qj⟩ <;> rcases cs hk with ⟨rfl, _, _⟩ | ⟨nk, qk⟩
    · exact absurd rfl hn
    · simp only [if_true, if_neg nk]; exact Ne.symm (ne qk)
    · simp only [if_true, if_neg nj]; exact ne qj
    · simp only [if_neg nj, if_neg nk]; exact rl.apart j k f g qj qk hn
/-- a name's own list, own dict is changed -/
theorem Rl.chg (rl : Rl K H0 F0 ρ σ H F A) {i : Nat} {d d' : D} {o : HO} (hi : ρ[i]? = some (.ow d)) (ho : Own K F (upd H (A i) o) (A i) d') : Rl K H0 F0 (ρ.set i (.ow d')) σ (upd H (A i) o) F A := by
  obtain ⟨h1, h2, h3⟩ := rl.slot i _ hi
  have h0 := rl.old i d hi
  have hlt : i < ρ.length := by
    rcases Nat.lt_or_ge i ρ.length with q | q
    · exact q
    · rw [List.getElem?_eq_none q] at hi; cases hi
  have cs : ∀ {j : Nat} {s : Slot}, (ρ.set i (.ow d'))[j]? = some s → (j = i ∧ s = .ow d') ∨ (j ≠ i ∧ ρ[j]? = some s) := fun {j s} q => by
    by_cases hij : i = j
    · subst hij
      rw [List.getElem?_set_self hlt] at q; cases q; exact .inl ⟨rfl, rfl⟩
    · rw [List.getElem?_set_ne hij] at q; exact .inr ⟨Ne.symm hij, q⟩
  have was : ∀ {j : Nat} {f : D}, (ρ.set i (.ow d'))[j]? = some (.ow f) → ∃ g, ρ[j]? = some (.ow g) := fun {j f} q => by
    rcases cs q with ⟨rfl, _⟩ | ⟨_, z⟩
    · exact ⟨d, hi⟩
    · exact ⟨f, z⟩
  refine ⟨⟨fun b u q => ?_, rl.ex.sF, fun b u q => ?_, rl.ex.new⟩, by rw [List.length_set]; exact rl.len, fun j s hs => ?_, fun j f hf => ?_, fun j k f g hj hk hn => ?_⟩
  · rw [upd_ne (fun z => by rw [z, h0] at q; cases q)]; exact rl.ex.sH _ _ q
  · rw [upd_ne (fun z => by rw [z, h2] at q; cases q)]; exact rl.ex.sFH _ _ q
  · rcases cs hs with ⟨rfl, rfl⟩ | ⟨nj, q⟩
    · exact ⟨h1, h2, ho⟩
    · have g := rl.slot j s q
      cases s with
      | un => trivial
      | im f => exact g
      | ow f =>
        obtain ⟨g1, g2, g3⟩ := g
        refine ⟨g1, g2, ?_⟩
        have na := rl.apart j i f d q hi nj
        cases f <;> simp only [Own] at g3 ⊢
        · obtain ⟨vs, q1, q2⟩ := g3; exact ⟨vs, by rw [upd_ne na]; exact q1, q2⟩
        · obtain ⟨vs, q1, q2⟩ := g3; exact ⟨vs, by rw [upd_ne na]; exact q1, q2⟩
  · obtain ⟨g, hg⟩ := was hf
    exact rl.old j g hg
  · obtain ⟨f', hf⟩ := was hj
    obtain ⟨g', hg⟩ := was hk
    exact rl.apart j k f' g' hf hg hn
theorem PS.imp {X : Cx} {e : Stmt} {t t' : TS} (h : PS X e t) (i : ∀ D σ H, t' D σ H → t D σ H) : PS X e t' := ⟨fun pins s σ H D I q => h.run pins s σ H D I (i D σ H q)⟩
theorem PSs.imp {X : Cx} {e : List Stmt} {t t' : TS} (h : PSs X e t) (i : ∀ D σ H, t' D σ H → t D σ H) : PSs X e t' := ⟨fun pins s σ H D I q => h.run pins s σ H D I (i D σ H q)⟩
/-- an expression within a statement: the rest, by its outcome -/
theorem fl_E {fr : Bool} {r : R D} {k : D → Fl} {Q : VK} (rl : Rl K H0 F0 ρ σ H F A) (p : PostS K W mg H0 F0 De F (r.fl ρ k))
    (h : ∀ d v H' F', Ex H F H' F' → (if fr = true then RepF K F' H H' d v else Rep K F' d v) → PostS K W mg H0 F0 De F (k d) → Q v H') : PostX W mg σ H F (GE K fr H F Q) r := by
  cases r with
  | ok d => exact fun v H' F' e q => h d v H' F' e q p
  | exc c => exact fun H' F' C e m => p σ H' F' A C (rl.go e) e.sF m
  | bad => exact p
theorem fl_T {r : R Bool} {k : Bool → Fl} {Q : Bool → Hp → Prop} (rl : Rl K H0 F0 ρ σ H F A) (p : PostS K W mg H0 F0 De F (r.fl ρ k))
    (h : ∀ b H' F', Ex H F H' F' → PostS K W mg H0 F0 De F (k b) → Q b H') : PostX W mg σ H F (GT H F Q) r := by
  cases r with
  | ok d => exact fun H' F' e => h d H' F' e p
  | exc c => exact fun H' F' C e m => p σ H' F' A C (rl.go e) e.sF m
  | bad => exact p
theorem fl_L {r : R (List D)} {k : List D → Fl} {Q : List V → Hp → Prop} (rl : Rl K H0 F0 ρ σ H F A) (p : PostS K W mg H0 F0 De F (r.fl ρ k))
    (h : ∀ ds vs H' F', Ex H F H' F' → RepL K F' ds vs → PostS K W mg H0 F0 De F (k ds) → Q vs H') : PostX W mg σ H F (GL K H F Q) r := by
  cases r with
  | ok d => exact fun v H' F' e q => h d v H' F' e q p
  | exc c => exact fun H' F' C e m => p σ H' F' A C (rl.go e) e.sF m
  | bad => exact p
theorem fl_I {r : R (List D)} {k : List D → Fl} {Q : L2.It → Hp → Prop} (rl : Rl K H0 F0 ρ σ H F A) (p : PostS K W mg H0 F0 De F (r.fl ρ k))
    (h : ∀ ds J H' F', Ex H F H' F' → Walk K J ds F' → PostS K W mg H0 F0 De F (k ds) → Q J H') : PostX W mg σ H F (fun ds => ∀ J H' F', Ex H F H' F' → Walk K J ds F' → Q J H') r := by
  cases r with
  | ok d => exact fun v H' F' e q => h d v H' F' e q p
  | exc c => exact fun H' F' C e m => p σ H' F' A C (rl.go e) e.sF m
  | bad => exact p
end
end Z
/-! From the given syntax to terms: statements; and that they say what it does. -/
namespace Z
open PySem PySem.Spec PyProof.Rows L2

/-! ### the names that a term reads and may share -/
mutual
def fvE : E → List Nat
  | .cst _ => []
  | .glb _ _ => []
  | .var i => [i]
  | .bin _ a b => fvE a ++ fvE b
  | .neg a => fvE a
  | .cmp _ a b => fvO a ++ fvO b
  | .chn _ _ a b c => fvE a ++ (fvE b ++ fvE c)
  | .and_ a b => fvE a ++ fvE b
  | .or_ a b => fvE a ++ fvE b
  | .not_ a => fvE a
  | .ite c a b => fvE c ++ (fvE a ++ fvE b)
  | .tup es => fvEs es
  | .lst es => fvEs es
  | .call _ es => fvEs es
  | .blt _ es => fvBs es
  | .mkb _ es => fvEs es
  | .isi a _ => fvE a
  | .ix a i => fvO a ++ fvE i
  | .sl a lo hi => fvE a ++ (fvBd lo ++ fvBd hi)
  | .rev a => fvE a
  | .comp x _ _ it c => fvI it ++ (fvE x ++ fvE c)
  | .gget _ _ k d => fvE k ++ fvE d
  | .gix _ _ k => fvE k
  | .dget1 a k => fvO a ++ fvE k
  | .dget a k d => fvO a ++ (fvE k ++ fvE d)
  | .dis _ vs => fvEs vs
def fvO : Bo → List Nat
  | .own _ => []
  | .ev e => fvE e
def fvBd : Bd → List Nat
  | .no => []
  | .to e => fvE e
def fvBs : Bs → List Nat
  | .nil => []
  | .cons e r => fvO e ++ fvBs r
def fvEs : Es → List Nat
  | .nil => []
  | .cons e r => fvE e ++ fvEs r
def fvI : It → List Nat
  | .seq e => fvE e
  | .rng1 a => fvE a
  | .rng2 a b => fvE a ++ fvE b
  | .enm e => fvE e
  | .zip a b => fvE a ++ fvE b
end
def fzOf (S : SC) (l : List Nat) : List Nat := (l.filter fun i => S.muts.contains i).eraseDups

/-! ### compiling -/
def isComp : Expr → Bool
  | .ListComp .. => true
  | .SetComp .. => true
  | .DictComp .. => true
  | _ => false
def isLoc (S : SC) (x : Str) : Bool := match S.sc.names.lookup x with
  | some .local => true
  | _ => false
/-- a target that is a local name on a line -/
def locAt (S : SC) (line : Nat) : Expr → Bool
  | .Name x p => isLoc S x && p.line == line
  | _ => false
def lineOf : List Expr → Nat
  | [] => 0
  | e :: _ => e.pos.line
def augOf : Operator → Option BOp
  | .Add => some .add | .Sub => some .sub | .Mult => some .mul | .FloorDiv => some .div | .Mod => some .mod | _ => none
def cstOf : Expr → Option D
  | .Constant (.int i) _ _ => some (.int i)
  | .Constant (.bool b) _ _ => some (.bl b)
  | .Constant .none _ _ => some .non
  | .Constant (.str x) _ _ => some (.str x)
  | _ => none
def subOf (S : SC) (c y : Str) : Option Bool := S.sub.lookup (c, y)
def cHs (S : SC) : List ExceptHandler → Option Hs
  | [] => some .nil
  | .ExceptHandler (some (.Name y _)) none [.Return (some v) _] _ :: r => if isGl S y = true ∧ y ∈ S.exc then (cstOf v).bind fun d => (cHs S r).map fun h => .ret y d h else none
  | .ExceptHandler (some (.Name y _)) none [.Pass _] _ :: r => if isGl S y = true ∧ y ∈ S.exc then (cHs S r).map fun h => .pass y h else none
  | _ => none
/-- the slot of a name to which is stored -/
def cOwn (S : SC) (x : Str) : Option Nat := if isOwn S x = true then idxOf x S.N else none
def cAssign (n : Nat) (S : SC) (tg v : Expr) (line : Nat) : Option Sm := match tg with
  | .Name x _ => (cOwn S x).bind fun i => (cE n S v).map fun e => .set (fzOf S (fvE e)) i (S.muts.contains i) e
  | .Tuple ts _ _ => match v with
    | .Tuple vs _ _ =>
      (match ts, vs with
      | [.Name x px, .Name y py], [a, b] => if isLoc S x = true ∧ isLoc S y = true ∧ x ≠ y ∧ py.line = px.line ∧ isStar a = false ∧ isStar b = false ∧ [a, b].all (foldedForSure 8) = false ∧ [a, b].all (constantsAlone 8) = false then
          (cOwn S x).bind fun i => (cOwn S y).bind fun j => (cEs (cE n) S [a, b]).map fun es => .par (fzOf S (fvEs es)) i j es
        else if vs.all (foldedForSure 8) = true ∨ ts.all (locAt S (lineOf ts)) = false then (cTgF n S tg).bind fun t => (cE n S v).map fun e => .unp (fzOf S (fvE e)) t e else none
      | _, _ => if vs.all (foldedForSure 8) = true ∨ ts.all (locAt S (lineOf ts)) = false then (cTgF n S tg).bind fun t => (cE n S v).map fun e => .unp (fzOf S (fvE e)) t e else none)
    | _ => if isComp v = true then none else (cTgF n S tg).bind fun t => (cE n S v).map fun e => .unp (fzOf S (fvE e)) t e
  | _ => none
mutual
def cS : Nat → SC → Stmt → Option Sm
  | 0, _, _ => none
  | n + 1, S, s => match s with
    | .Assign [tg] v pos => cAssign n S tg v pos.line
    | .AugAssign (.Name x _) op v _ => (augOf op).bind fun o => (cOwn S x).bind fun i => (cE n S v).map fun e => .aug (fzOf S (fvE e)) i o e
    | .Expr (.Constant (.str _) _ _) _ => some .pass
    | .Expr (.Call (.Attribute (.Name x _) m ap) [a] [] cp) _ =>
      if isVis S x = true ∧ ap.endLine = cp.line ∧ isStar a = false then
        (if m = "append" then (idxOf x S.N).bind fun i => (cE n S a).map fun e => .app (fzOf S (fvE e)) i e
        else if m = "extend" then (idxOf x S.N).bind fun i => (cE n S a).map fun e => .ext (fzOf S (fvE e)) i e else none) else none
    | .Expr v _ => if isComp v = true then none else (cE n S v).map fun e => .exp (fzOf S (fvE e)) e
    | .Return (some v) _ => (cE n S v).map fun e => .ret (fzOf S (fvE e)) e
    | .Return none _ => some .retN
    | .If c a b _ => (cT n S c).bind fun z => (cSs n S a).bind fun x => (cSs n S b).map fun y => .ite (fzOf S (fvE z)) z x y
    | .For tg iter body [] _ => (cTgF n S tg).bind fun t => (cIt n S tg iter).bind fun it => (cSs n S body).map fun b => .fo (fzOf S (fvI it)) t it b
    | .While c body [] _ => (cT n S c).bind fun z => (cSs n S body).map fun b => .wh (fzOf S (fvE z)) z b
    | .Pass _ => some .pass
    | .Break _ => some .brk
    | .Continue _ => some .cnt
    | .Raise (some (.Call (.Name x _) [.Constant (.str _) _ _] [] _)) none _ => if isGl S x = true ∧ x ∈ S.exc then some (.rai x) else none
    | .Try body (h :: hs) [] [] _ => (cSs n S body).bind fun b => (cHs S (h :: hs)).map fun h => .tr b h
    | _ => none
def cSs : Nat → SC → List Stmt → Option Sms
  | 0, _, _ => none
  | _ + 1, _, [] => some .nil
  | n + 1, S, s :: r => (cS n S s).bind fun a => (cSs n S r).map fun b => .cons a b
end
end Z
/-! The theorem about statements. -/
namespace Z
open PySem PySem.Spec PyProof.Rows L2

structure Oks (S : SC) (T : Nat → List D → R D) (lv : Nat) (W : WX) (X : Cx) : Prop extends Okc S T lv W X where
  stk : X.stack = X.env :: X.outer
  frm : X.env.frame = some X.env.locals
  kind : X.env.scope.kind = .function
  pass : PassesOwn (model X.prog X.w) X.A X.env X.xe
  exc : ∀ x ∈ S.exc, (x == ("__debug__" : Str)) = false ∧ ∃ C, X.mg x = some (.ref C) ∧ PySem.W.excIn X.K C [.type "ValueError", .type "Exception", .type "BaseException", .type "object"] "ValueError.__new__" = true ∧ PySem.W.keepIn X.K (.ref C) = true ∧
    PySem.W.subIn X.K (.ref C) (.type "BaseException") = some true ∧ PySem.W.typeIn X.K (.ref C) = some (.type "type")
  sub : ∀ c y b, subOf S c y = some b → ∀ C Y, X.mg c = some (.ref C) → X.mg y = some (.ref Y) → PySem.W.exmOne X.K (.ref C) (.ref Y) = some b
section
variable {T : Nat → List D → R D} {lv : Nat} {S : SC} {W : WX} {X : Cx} {H0 F0 : Hp}
abbrev SS (X : Cx) (T : Nat → List D → R D) (S : SC) (W : WX) (H0 F0 : Hp) (s : Stmt) (ir : Sm) : Prop := PS X s (tS X.K W X.mg H0 F0 (dS T (subOf S) ir))
abbrev SSs (X : Cx) (T : Nat → List D → R D) (S : SC) (W : WX) (H0 F0 : Hp) (s : List Stmt) (ir : Sms) : Prop := PSs X s (tS X.K W X.mg H0 F0 (dSs T (subOf S) ir))
theorem ssw {v : Expr} {tg : Expr} {line : Nat} {env : Env} (h : isComp v = false) : swapsWithSole [tg] v line env = pure false := by cases v <;> first | rfl | cases h
theorem ssn {v : Expr} {line : Nat} {env : Env} (h : isComp v = false) : swapsWith v none line env = pure false := by cases v <;> first | rfl | cases h
theorem ae_one {tg : Expr} {env : Env} (h : isStar tg = false) : (assignEach [tg] env).map (·.2) = [assign tg env] := by rw [assignEach_cons h]; rfl
theorem pv_own {x : Str} {pos : Pos} {i : Nat} (c : Okc S T lv W X) (hv : isVis S x = true) (hi : idxOf x S.N = some i) : PE X (.Name x pos) (tVar i) := by
  have hN : X.N[i]? = some x := by rw [c.N]; exact idxOf_get hi
  have hx : Vis X.env.scope x := by
    rw [c.sc]
    unfold isVis at hv
    cases q : S.sc.names.lookup x with
    | none => rw [q] at hv; cases hv
    | some k => rw [q] at hv; cases k <;> first | exact .inl q | exact .inr (.inl q) | exact .inr (.inr q) | cases hv
  have nm := c.nm x (by rw [← c.N]; exact List.mem_of_getElem? hN)
  exact pe_var hN hx nm.1 nm.2
theorem own_of {x : Str} {i : Nat} (c : Okc S T lv W X) (h : cOwn S x = some i) : X.N[i]? = some x ∧ Loc X.env.scope x ∧ (X.fn x = true ∨ X.env.scope.names.lookup x = some .local) := by
  unfold cOwn at h
  split at h
  · rename_i ho
    obtain ⟨h1, h2⟩ := c.own x ho
    exact ⟨by rw [c.N]; exact idxOf_get h, h1, h2⟩
  · cases h
/-- a stored value: shared, or the name's own -/
theorem store_nx {H F H1 F1 : Hp} {ρ : Env'} {σ : L2.St} {A : Nat → Addr} {De : Ends} {i : Nat} {own fr : Bool} {d : D} {v : V} (rl : Rl X.K H0 F0 ρ σ H F A) (e : Ex H F H1 F1) (r : if fr = true then RepF X.K F1 H H1 d v else Rep X.K F1 d v)
    (p : PostS X.K W X.mg H0 F0 De F (.nx (ρ.set i (ownList d (own && fr))))) : De.nx (σ.set i (some v)) H1 := by
  cases fr with
  | false =>
    have e0 : ownList d (own && false) = .im d := by cases own <;> cases d <;> rfl
    rw [e0] at p
    exact p _ _ F1 A ((rl.go e).set (by simpa using r)) e.sF
  | true =>
    simp only [if_true] at r
    have im : ∀ {d : D}, RepF X.K F1 H H1 d v → PostS X.K W X.mg H0 F0 De F (.nx (ρ.set i (.im d))) → De.nx (σ.set i (some v)) H1 := fun {d} r p => by
      obtain ⟨F2, e2, r2⟩ := RepF.rep e r
      exact p _ _ F2 A ((rl.go e2).set r2) e2.sF
    cases own with
    | false => exact im r (by cases d <;> exact p)
    | true =>
      cases d with
      | lst ds =>
        obtain ⟨q, vs, rfl, h1, h2, h3, h4⟩ := r
        exact p _ _ F1 _ (rl.own e h1 h3 ⟨vs, h2, h4⟩) e.sF
      | dic ks ds =>
        obtain ⟨q, vs, rfl, h1, h2, h3, h5, h6, h4⟩ := r
        exact p _ _ F1 _ (rl.own e h1 h3 ⟨vs, h2, h5, h6, h4⟩) e.sF
      | _ => exact im r p
theorem ss_set {x : Str} {px pos : Pos} {v : Expr} {e : E} {i : Nat} {own : Bool} {fz : List Nat} (c : Oks S T lv W X) (ho : cOwn S x = some i) (hc : isComp v = false) (h : SE X T W v e) : SS X T S W H0 F0 (.Assign [.Name x px] v pos) (.set fz i own e) := by
  obtain ⟨h1, h2, h3⟩ := own_of c.toOkc ho
  refine PS.imp (ps_asg h (pg_name c.nd h1 h2 h3) (ssw hc) (by cases v <;> rfl) (ae_one rfl)) fun De σ H q => ?_
  obtain ⟨ρ, F, A, rl, p⟩ := q
  obtain ⟨F1, rl1, s1⟩ := rl.frzL fz
  refine ⟨H0, F0, _, F1, A, rl1, fl_E rl1 (p.sub s1) fun d v H' F' e r p => ?_⟩
  exact store_nx rl1 e r p
theorem ss_unp {tg v : Expr} {pos : Pos} {t : Tg} {e : E} {fz : List Nat} {n : Nat} (c : Oks S T lv W X) (ht : cTgF n S tg = some t) (hc : isComp v = false) (hs : swappedStores [tg] v X.env = pure none) (h : SE X T W v e) : SS X T S W H0 F0 (.Assign [tg] v pos) (.unp fz t e) := by
  have st : isStar tg = false := by cases tg <;> first | rfl | (cases n <;> cases ht)
  refine PS.imp (ps_asg h.weak (cTgF_ok c.toOkc n tg t ht) (ssw hc) hs (ae_one st)) fun De σ H q => ?_
  obtain ⟨ρ, F, A, rl, p⟩ := q
  obtain ⟨F1, rl1, s1⟩ := rl.frzL fz
  refine ⟨H0, F0, _, F1, A, rl1, fl_E rl1 (p.sub s1) fun d v H' F' e r p => ?_⟩
  cases hd : dTg t d (frzL ρ fz) with
  | none => rw [hd] at p; exact p.elim
  | some ρ' =>
    rw [hd] at p
    exact ⟨H0, F0, _, F', A, d, ρ', rl1.go e, by simpa using r, hd, fun σ' rl' _ _ => p σ' _ F' A rl' e.sF⟩
theorem ss_par {x y : Str} {px py pt pos p2 : Pos} {k k2 : Nat} {a b : Expr} {es : Es} {i j : Nat} {fz : List Nat} (c : Oks S T lv W X) (hx : cOwn S x = some i) (hy : cOwn S y = some j) (lx : isLoc S x = true) (ly : isLoc S y = true) (hn : x ≠ y)
    (hsw : swappedStores [.Tuple [.Name x px, .Name y py] k pt] (.Tuple [a, b] k2 p2) X.env = pure (some [x, y])) (h : SEs X T W [a, b] es) : SS X T S W H0 F0 (.Assign [.Tuple [.Name x px, .Name y py] k pt] (.Tuple [a, b] k2 p2) pos) (.par fz i j es) := by
  obtain ⟨h1, _, _⟩ := own_of c.toOkc hx
  obtain ⟨g1, _, _⟩ := own_of c.toOkc hy
  have loc : ∀ {x : Str}, isLoc S x = true → X.env.scope.names.lookup x = some .local := fun {x} h => by
    rw [c.sc]
    unfold isLoc at h
    cases q : S.sc.names.lookup x with
    | none => rw [q] at h; cases h
    | some k => rw [q] at h; cases k <;> first | rfl | cases h
  have hij : i ≠ j := fun z => by
    subst z
    rw [h1] at g1
    exact hn (Option.some.inj g1)
  refine PS.imp (ps_par c.calm c.nd h1 g1 hij (loc lx) (loc ly) h hsw) fun De σ H q => ?_
  obtain ⟨ρ, F, A, rl, p⟩ := q
  obtain ⟨F1, rl1, s1⟩ := rl.frzL fz
  refine ⟨H0, F0, _, F1, A, rl1, fl_L rl1 (p.sub s1) fun ds vs H' F' e r p => ?_⟩
  match ds with
  | [d, d2] =>
    obtain ⟨v, u, rfl, rv, ru⟩ := r.two
    exact ⟨v, u, rfl, p _ _ F' A (((rl1.go e).set rv).set ru) e.sF⟩
  | [] => exact p.elim
  | [_] => exact p.elim
  | _ :: _ :: _ :: _ => exact p.elim
theorem pip_D : ∀ o : BOp, PIp X (bOp o) (fun x y H Q => ∃ i j k, x = .int i ∧ y = .int j ∧ augD o (.int i) (.int j) = some (.int k) ∧ Q (.int k) H) := fun o pins s σ H x y v u Q I rx ry h => by
  obtain ⟨i, j, k, rfl, rfl, hk, q⟩ := h
  obtain ⟨t, rfl⟩ := rx
  obtain ⟨t', rfl⟩ := ry
  cases o <;> simp only [augD, Option.some.injEq, reduceCtorEq, D.int.injEq] at hk
  · subst hk; exact iadd_int ⟨.int _, H, I.tok _, ⟨_, rfl⟩, q⟩
  · subst hk; exact isub_int ⟨.int _, H, I.tok _, ⟨_, rfl⟩, q⟩
  · split at hk
    · rename_i hc
      simp only [Option.some.injEq, D.int.injEq] at hk
      subst hk
      exact imul_int ⟨.int _, H, I.tok _, ⟨_, rfl⟩, q⟩ (CMul.ok hc)
    · cases hk
  · split at hk
    · rename_i hc
      simp only [Option.some.injEq, D.int.injEq] at hk
      subst hk
      exact ifloordiv_int (by omega) ⟨.int _, H, I.tok _, ⟨_, rfl⟩, by rw [Int.fdiv_eq_ediv_of_nonneg _ (by omega)]; exact q⟩ (.inl (PyProof.noPylong_small (by omega)))
    · cases hk
  · split at hk
    · rename_i hc
      simp only [Option.some.injEq, D.int.injEq] at hk
      subst hk
      exact imod_int (by omega) ⟨.int _, H, I.tok _, ⟨_, rfl⟩, by rw [Int.fmod_eq_emod_of_nonneg _ (by omega)]; exact q⟩
    · cases hk
theorem augOf_eq {o : Operator} {b : BOp} (h : augOf o = some b) : o = bOp b := by cases o <;> simp only [augOf, reduceCtorEq, Option.some.injEq] at h <;> subst h <;> rfl
theorem ss_aug {x : Str} {px pos : Pos} {v : Expr} {e : E} {i : Nat} {o : BOp} {fz : List Nat} (c : Oks S T lv W X) (ho : cOwn S x = some i) (h : SE X T W v e) : SS X T S W H0 F0 (.AugAssign (.Name x px) (bOp o) v pos) (.aug fz i o e) := by
  obtain ⟨h1, h2, h3⟩ := own_of c.toOkc ho
  refine PS.imp (ps_aug c.nd h1 h2 h.weak (pip_D o) h3) fun De σ H q => ?_
  obtain ⟨ρ, F, A, rl, p⟩ := q
  obtain ⟨F1, rl1, s1⟩ := rl.frzL fz
  have p := p.sub s1
  have p : PostS X.K W X.mg H0 F0 De F1 ((look (frzL ρ fz) i).fl (frzL ρ fz) fun x => (dE T e (frzL ρ fz)).fl (frzL ρ fz) fun y => match augD o x y with
    | some z => .nx ((frzL ρ fz).set i (.im z))
    | none => .bad) := p
  unfold look at p
  split at p
  · rename_i d hd
    obtain ⟨u, g1, g2⟩ := rl1.im hd
    refine ⟨u, g1, H0, F0, _, F1, A, rl1, fl_E rl1 p fun d2 v H' F' e r p => ?_⟩
    cases hk : augD o d d2 with
    | none => rw [hk] at p; exact p.elim
    | some z =>
      rw [hk] at p
      have g2 := g2.mono e.sF
      have abk : ∃ a b k, d = .int a ∧ d2 = .int b ∧ z = .int k := by
        unfold augD at hk
        split at hk <;> first
          | cases hk; exact ⟨_, _, _, rfl, rfl, rfl⟩
          | (split at hk <;> cases hk; exact ⟨_, _, _, rfl, rfl, rfl⟩)
          | cases hk
      obtain ⟨a, b, k, rfl, rfl, rfl⟩ := abk
      exact ⟨a, b, k, Rep.int_iff.mp g2, Rep.int_iff.mp (show Rep X.K F' (.int b) v by simpa using r), hk, p _ _ F' A ((rl1.go e).set (Rep.int_iff.mpr rfl)) e.sF⟩
  · exact p.elim
theorem fl_1 {K : PySem.W.Frag} {W : WX} {mg : Str → Option Value} {H F : Hp} {σ : L2.St} {ρ : Env'} {A : Nat → Addr} {De : Ends} {e : E} {k : D → Fl} {Q : List V → Hp → Prop} (rl : Rl K H0 F0 ρ σ H F A) (p : PostS K W mg H0 F0 De F ((dE T e ρ).fl ρ k))
    (h : ∀ d v H' F', Ex H F H' F' → Rep K F' d v → PostS K W mg H0 F0 De F (k d) → Q [v] H') : PostX W mg σ H F (GL K H F Q) (dEs T (.cons e .nil) ρ) := by
  have es : dEs T (.cons e .nil) ρ = (dE T e ρ).bind fun d => .ok [d] := rfl
  rw [es]
  cases hd : dE T e ρ with
  | ok d =>
    rw [hd] at p
    intro vs H' F' ex r
    obtain ⟨v, rfl, rv⟩ := RepL.one r
    exact h d v H' F' ex rv p
  | exc c =>
    rw [hd] at p
    exact fun H' F' C e m => p σ H' F' A C (rl.go e) e.sF m
  | bad => rw [hd] at p; exact p
theorem few1 {a : Expr} {env : Env} {cp : Pos} (h : isStar a = false) : ((backTo cp (starEach [a] env)).all (fun x => !x.1) && (backToKw cp (keywordEach [] env)).all (fun x => x.1.isSome)
      && decide ([a].length + ([] : List Keyword).length + (if ([] : List Keyword).isEmpty then 0 else 1) < 30)) = true := by
  have q : starEach [a] env = [(false, eval a env)] := starEach_cons h
  rw [q]; rfl
theorem ss_app {x : Str} {px ap cp pos : Pos} {a : Expr} {e : E} {i : Nat} {fz : List Nat} (c : Oks S T lv W X) (hv : isVis S x = true) (hi : idxOf x S.N = some i) (hl : ap.endLine = cp.line) (hst : isStar a = false) (h : SE X T W a e) :
    SS X T S W H0 F0 (.Expr (.Call (.Attribute (.Name x px) "append" ap) [a] [] cp) pos) (.app fz i e) := by
  refine PS.imp (ps_expr (pe_bm PySem.F.plainAttrs_list PySem.F.slot_list_append PySem.F.type_list_append mt_append (pv_own c.toOkc hv hi) (ses_cons hst h ses_nil) rfl (few1 hst) (by rw [hl]; exact beq_self_eq_true _) (starEach_cons hst) (by rfl))) fun De σ H q => ?_
  obtain ⟨ρ, F, A, rl, p⟩ := q
  obtain ⟨F1, rl1, s1⟩ := rl.frzL fz
  have p := p.sub s1
  have p : PostS X.K W X.mg H0 F0 De F1 (match (frzL ρ fz)[i]? with
    | some (.ow (.lst ds)) => (dE T e (frzL ρ fz)).fl (frzL ρ fz) fun d => if ds.length < lim then .nx ((frzL ρ fz).set i (.ow (.lst (ds ++ [d])))) else .bad
    | _ => .bad) := p
  split at p
  · rename_i ds hd
    obtain ⟨g1, g2, vs, g3, g4⟩ := rl1.slot i _ hd
    refine ⟨_, g1, .inl ⟨rfl, vs, .inl (.inl g3)⟩, H0, F0, _, F1, A, rl1, fl_1 rl1 p fun d v H' F' e r p => ?_⟩
    split at p
    · rename_i hlim
      have g5 := e.sH _ _ g3
      have g6 := g4.mono e.sF
      refine ⟨_, vs, v, rfl, rfl, g5, by rw [← g4.length]; exact hlim, ?_⟩
      exact p _ _ F' A ((rl1.go e).chg hd ⟨_, upd_same, RepL.append g6 (RepL.cons r RepL.nil)⟩) e.sF
    · exact p.elim
  · exact p.elim
theorem ss_ext {x : Str} {px ap cp pos : Pos} {a : Expr} {e : E} {i : Nat} {fz : List Nat} (c : Oks S T lv W X) (hv : isVis S x = true) (hi : idxOf x S.N = some i) (hl : ap.endLine = cp.line) (hst : isStar a = false) (h : SE X T W a e) :
    SS X T S W H0 F0 (.Expr (.Call (.Attribute (.Name x px) "extend" ap) [a] [] cp) pos) (.ext fz i e) := by
  refine PS.imp (ps_expr (pe_bm PySem.F.plainAttrs_list PySem.F.slot_list_extend PySem.F.type_list_extend mt_extend (pv_own c.toOkc hv hi) (ses_cons hst h ses_nil) rfl (few1 hst) (by rw [hl]; exact beq_self_eq_true _) (starEach_cons hst) (by rfl))) fun De σ H q => ?_
  obtain ⟨ρ, F, A, rl, p⟩ := q
  obtain ⟨F1, rl1, s1⟩ := rl.frzL fz
  have p := p.sub s1
  have p : PostS X.K W X.mg H0 F0 De F1 (match (frzL ρ fz)[i]? with
    | some (.ow (.lst ds)) => (dE T e (frzL ρ fz)).fl (frzL ρ fz) fun d => match d with
      | .lst es => if ds.length + es.length ≤ lim then .nx ((frzL ρ fz).set i (.ow (.lst (ds ++ es)))) else .bad
      | _ => .bad
    | _ => .bad) := p
  split at p
  · rename_i ds hd
    obtain ⟨g1, g2, vs, g3, g4⟩ := rl1.slot i _ hd
    refine ⟨_, g1, .inl ⟨rfl, vs, .inl (.inl g3)⟩, H0, F0, _, F1, A, rl1, fl_1 rl1 p fun d v H' F' e r p => ?_⟩
    cases d with
    | lst es =>
      have p : PostS X.K W X.mg H0 F0 De F1 (if ds.length + es.length ≤ lim then .nx ((frzL ρ fz).set i (.ow (.lst (ds ++ es)))) else .bad) := p
      split at p
      · rename_i hlim
        have g5 := e.sH _ _ g3
        have g6 := g4.mono e.sF
        obtain ⟨b, us, rfl, k1, k2⟩ := Rep.lst_iff.mp r
        refine ⟨_, b, vs, us, rfl, rfl, g5, e.sFH _ _ k1, by rw [← g4.length, ← k2.length]; exact hlim, ?_⟩
        exact p _ _ F' A ((rl1.go e).chg hd ⟨_, upd_same, RepL.append g6 k2⟩) e.sF
      · exact p.elim
    | _ => exact p.elim
  · exact p.elim
theorem ss_ret {v : Expr} {pos : Pos} {e : E} {fz : List Nat} (h : SE X T W v e) : SS X T S W H0 F0 (.Return (some v) pos) (.ret fz e) := by
  refine PS.imp (ps_ret h.weak) fun De σ H q => ?_
  obtain ⟨ρ, F, A, rl, p⟩ := q
  obtain ⟨F1, rl1, s1⟩ := rl.frzL fz
  exact ⟨H0, F0, _, F1, A, rl1, fl_E rl1 (p.sub s1) fun d v H' F' e r p => p v H' F' (rl1.ex.trans e) (by simpa using r)⟩
theorem ss_retN {pos : Pos} : SS X T S W H0 F0 (.Return none pos) .retN := PS.imp ps_retN fun De σ H q => by
  obtain ⟨ρ, F, A, rl, p⟩ := q
  exact p .non H F rl.ex (Rep.non_iff.mpr rfl)
theorem ss_exp {v : Expr} {pos : Pos} {e : E} {fz : List Nat} (hc : isComp v = false) (h : SE X T W v e) : SS X T S W H0 F0 (.Expr v pos) (.exp fz e) := by
  refine PS.imp (ps_expr h.weak (ssn hc)) fun De σ H q => ?_
  obtain ⟨ρ, F, A, rl, p⟩ := q
  obtain ⟨F1, rl1, s1⟩ := rl.frzL fz
  exact ⟨H0, F0, _, F1, A, rl1, fl_E rl1 (p.sub s1) fun d v H' F' e r p => p σ H' F' A (rl1.go e) e.sF⟩
theorem ss_ite {v : Expr} {pos : Pos} {z : E} {a b : List Stmt} {x y : Sms} {fz : List Nat} (h : ST X T W v z) (ha : SSs X T S W H0 F0 a x) (hb : SSs X T S W H0 F0 b y) : SS X T S W H0 F0 (.If v a b pos) (.ite fz z x y) := by
  refine PS.imp (ps_if h ha hb) fun De σ H q => ?_
  obtain ⟨ρ, F, A, rl, p⟩ := q
  obtain ⟨F1, rl1, s1⟩ := rl.frzL fz
  refine ⟨H0, F0, _, F1, A, rl1, fl_T rl1 (p.sub s1) fun b H' F' e p => ?_⟩
  cases b with
  | true => exact ⟨_, F', A, rl1.go e, p.sub e.sF⟩
  | false => exact ⟨_, F', A, rl1.go e, p.sub e.sF⟩
theorem ss_fo {tg iter : Expr} {body : List Stmt} {pos : Pos} {t : Tg} {it : Z.It} {b : Sms} {fz : List Nat} {n : Nat} (c : Oks S T lv W X) (ht : cTgF n S tg = some t) (hit : isSet iter = false) (h : SI X T W tg iter it) (hb : SSs X T S W H0 F0 body b) :
    SS X T S W H0 F0 (.For tg iter body [] pos) (.fo fz t it b) := by
  refine PS.imp (ps_for c.pass c.calm h (cTgF_ok c.toOkc n tg t ht) hb (notSetIter hit)) fun De σ H q => ?_
  obtain ⟨ρ, F, A, rl, p⟩ := q
  obtain ⟨F1, rl1, s1⟩ := rl.frzL fz
  refine ⟨H0, F0, _, F1, A, rl1, fl_I rl1 (p.sub s1) fun ds J H' F' e wk p => ?_⟩
  have rl2 := rl1.go e
  refine ⟨fun i m σ' H2 => m = ds.length - i ∧ i ≤ ds.length ∧ ∃ ρ2 F2 A2, Rl X.K H0 F0 ρ2 σ' H2 F2 A2 ∧ Same F' F2 ∧ PostS X.K W X.mg H0 F0 De F2 (forL (dTg t) (dSs T (subOf S) b) (ds.drop i) ρ2),
    ⟨ds.length, rfl, Nat.zero_le _, _, F', A, rl2, Same.refl _, p.sub e.sF⟩, ?_⟩
  rintro i m σ2 H2 ⟨rfl, hi, ρ2, F2, A2, r2, sF, p2⟩
  have w := wk i H2 F2 sF r2.sFH
  by_cases hlt : i < ds.length
  · obtain ⟨go, yl⟩ := w.1 ds[i] (List.getElem?_eq_getElem hlt)
    rw [List.drop_eq_getElem_cons hlt] at p2
    have p2 : PostS X.K W X.mg H0 F0 De F2 (match dTg t ds[i] ρ2 with
      | none => .bad
      | some ρ1 => match dSs T (subOf S) b ρ1 with
        | .nx ρ2 => forL (dTg t) (dSs T (subOf S) b) (ds.drop (i + 1)) ρ2
        | .ct ρ2 => forL (dTg t) (dSs T (subOf S) b) (ds.drop (i + 1)) ρ2
        | .bk ρ2 => .nx ρ2
        | f => f) := p2
    refine .inr ⟨go, fun σ' H' => ∃ ρ2 F2 A2, Rl X.K H0 F0 ρ2 σ' H' F2 A2 ∧ Same F' F2 ∧ PostS X.K W X.mg H0 F0 De F2 (forL (dTg t) (dSs T (subOf S) b) (ds.drop (i + 1)) ρ2), fun σ' H' hn => ⟨ds.length - (i + 1), by omega, rfl, hlt, hn⟩, fun x H3 hx => ?_⟩
    obtain ⟨F3, e3, rx⟩ := yl x H3 hx
    cases hd : dTg t ds[i] ρ2 with
    | none => rw [hd] at p2; exact p2.elim
    | some ρ3 =>
      rw [hd] at p2
      refine ⟨H0, F0, ρ2, F3, A2, ds[i], ρ3, r2.go e3, rx, hd, fun σ3 rl3 _ _ => ⟨ρ3, F3, A2, rl3, ?_⟩⟩
      have p2 : PostS X.K W X.mg H0 F0 De F2 (match dSs T (subOf S) b ρ3 with
        | .nx ρ2 => forL (dTg t) (dSs T (subOf S) b) (ds.drop (i + 1)) ρ2
        | .ct ρ2 => forL (dTg t) (dSs T (subOf S) b) (ds.drop (i + 1)) ρ2
        | .bk ρ2 => .nx ρ2
        | f => f) := p2
      cases hb : dSs T (subOf S) b ρ3 with
      | nx ρ4 => rw [hb] at p2; exact fun σ4 H4 F4 A4 r4 s4 => ⟨ρ4, F4, A4, r4, (sF.trans e3.sF).trans s4, p2.sub (e3.sF.trans s4)⟩
      | ct ρ4 => rw [hb] at p2; exact fun σ4 H4 F4 A4 r4 s4 => ⟨ρ4, F4, A4, r4, (sF.trans e3.sF).trans s4, p2.sub (e3.sF.trans s4)⟩
      | bk ρ4 => rw [hb] at p2; exact fun σ4 H4 F4 A4 r4 s4 => p2 σ4 H4 F4 A4 r4 (e3.sF.trans s4)
      | rt d => rw [hb] at p2; exact p2
      | exc cc ρ4 => rw [hb] at p2; exact fun σ4 H4 F4 A4 C r4 s4 => p2 σ4 H4 F4 A4 C r4 (e3.sF.trans s4)
      | bad => rw [hb] at p2; exact p2
  · have e0 : i = ds.length := by omega
    refine .inl ⟨w.2 e0, ?_⟩
    rw [List.drop_of_length_le (by omega)] at p2
    exact p2 σ2 H2 F2 A2 r2 (Same.refl _)
theorem ss_wh {v : Expr} {body : List Stmt} {pos : Pos} {z : E} {b : Sms} {fz : List Nat} (c : Oks S T lv W X) (h : ST X T W v z) (hb : SSs X T S W H0 F0 body b) : SS X T S W H0 F0 (.While v body [] pos) (.wh fz z b) := by
  refine PS.imp (ps_while c.pass h hb) fun De σ H q => ?_
  obtain ⟨ρ, F, A, rl, p⟩ := q
  refine ⟨fun m σ' H2 => ∃ ρ2 F2 A2, Rl X.K H0 F0 ρ2 σ' H2 F2 A2 ∧ PostS X.K W X.mg H0 F0 De F2 (whL (dT T z) fz (dSs T (subOf S) b) m ρ2), ⟨fuel, ρ, F, A, rl, p⟩, ?_⟩
  rintro m σ2 H2 ⟨ρ2, F2, A2, r2, p2⟩
  cases m with
  | zero => exact p2.elim
  | succ m =>
    obtain ⟨F3, r3, s3⟩ := r2.frzL fz
    have p3 := p2.sub s3
    refine ⟨H0, F0, _, F3, A2, r3, fl_T r3 p3 fun t H4 F4 e4 p4 => ?_⟩
    cases t with
    | false => exact p4 σ2 H4 F4 A2 (r3.go e4) e4.sF
    | true =>
      refine ⟨fun σ' H' => ∃ ρ2 F2 A2, Rl X.K H0 F0 ρ2 σ' H' F2 A2 ∧ PostS X.K W X.mg H0 F0 De F2 (whL (dT T z) fz (dSs T (subOf S) b) m ρ2), fun σ' H' hn => ⟨m, Nat.lt_succ_self m, hn⟩, frzL ρ2 fz, F4, A2, r3.go e4, ?_⟩
      have p4 : PostS X.K W X.mg H0 F0 De F3 (match dSs T (subOf S) b (frzL ρ2 fz) with
        | .nx ρ2 => whL (dT T z) fz (dSs T (subOf S) b) m ρ2
        | .ct ρ2 => whL (dT T z) fz (dSs T (subOf S) b) m ρ2
        | .bk ρ2 => .nx ρ2
        | f => f) := p4
      cases hb : dSs T (subOf S) b (frzL ρ2 fz) with
      | nx ρ5 => rw [hb] at p4; exact fun σ5 H5 F5 A5 r5 s5 => ⟨ρ5, F5, A5, r5, p4.sub (e4.sF.trans s5)⟩
      | ct ρ5 => rw [hb] at p4; exact fun σ5 H5 F5 A5 r5 s5 => ⟨ρ5, F5, A5, r5, p4.sub (e4.sF.trans s5)⟩
      | bk ρ5 => rw [hb] at p4; exact fun σ5 H5 F5 A5 r5 s5 => p4 σ5 H5 F5 A5 r5 (e4.sF.trans s5)
      | rt d => rw [hb] at p4; exact p4
      | exc cc ρ5 => rw [hb] at p4; exact fun σ5 H5 F5 A5 C r5 s5 => p4 σ5 H5 F5 A5 C r5 (e4.sF.trans s5)
      | bad => rw [hb] at p4; exact p4
theorem ss_rai {x m : Str} {p p2 p3 pos : Pos} {j : Nat} (c : Oks S T lv W X) (hg : isGl S x = true) (hx : x ∈ S.exc) : SS X T S W H0 F0 (.Raise (some (.Call (.Name x p) [.Constant (.str m) j p2] [] p3)) none pos) (.rai x) := by
  obtain ⟨hdb, C, gC, q, kC, q1, q2⟩ := c.exc x hx
  refine PS.imp (ps_raise c.calm c.tk (pmk_own PySem.F.excBase_ValueError q gC kC (raises_own q1 q2) (gl_of c.toOkc hg) hdb)) fun De σ H h => ?_
  obtain ⟨ρ, F, A, rl, p⟩ := h
  exact p σ H F A C rl (Same.refl _) gC
theorem sss_nil : SSs X T S W H0 F0 [] .nil := PSs.imp pss_nil fun De σ H q => by
  obtain ⟨ρ, F, A, rl, p⟩ := q
  exact p σ H F A rl (Same.refl _)
theorem sss_cons {s : Stmt} {r : List Stmt} {a : Sm} {b : Sms} (h : SS X T S W H0 F0 s a) (t : SSs X T S W H0 F0 r b) : SSs X T S W H0 F0 (s :: r) (.cons a b) := by
  refine PSs.imp (pss_cons h t) fun De σ H q => ?_
  obtain ⟨ρ, F, A, rl, p⟩ := q
  refine ⟨ρ, F, A, rl, ?_⟩
  have p : PostS X.K W X.mg H0 F0 De F (match dS T (subOf S) a ρ with
    | .nx ρ' => dSs T (subOf S) b ρ'
    | f => f) := p
  cases hd : dS T (subOf S) a ρ with
  | nx ρ' => rw [hd] at p; exact fun σ' H' F' A' r s => ⟨ρ', F', A', r, p.sub s⟩
  | rt d => rw [hd] at p; exact p
  | bk d => rw [hd] at p; exact p
  | ct d => rw [hd] at p; exact p
  | exc cc d => rw [hd] at p; exact p
  | bad => rw [hd] at p; exact p
theorem ss_skip {s : Stmt} {ir : Sm} (h : PS X s tNext) (e : ∀ ρ, dS T (subOf S) ir ρ = .nx ρ) : SS X T S W H0 F0 s ir := PS.imp h fun De σ H q => by
  obtain ⟨ρ, F, A, rl, p⟩ := q
  rw [e] at p
  exact p σ H F A rl (Same.refl _)
end
end Z
/-! The theorem about statements, all of them; defs; a whole text. -/
namespace Z
open PySem PySem.Spec PyProof.Rows L2
section
variable {T : Nat → List D → R D} {lv : Nat} {S : SC} {W : WX} {X : Cx} {H0 F0 : Hp}
/-! ### stores to several names -/
theorem sw_none {tg v : Expr} {env : Env} (h : match tg, v with | .Tuple .., .Tuple .. => False | .List .., .Tuple .. => False | _, _ => True) : swappedStores [tg] v env = pure none := by
  cases tg <;> cases v <;> first | rfl | exact h.elim
theorem sw_fold {ts vs : List Expr} {k k2 : Nat} {p p2 : Pos} {env : Env} (h : vs.all (foldedForSure 8) = true) : swappedStores [.Tuple ts k p] (.Tuple vs k2 p2) env = pure none := by
  unfold swappedStores
  simp only [h, if_true]
  repeat' split
  all_goals rfl
theorem fm_short {α β : Type} {f : α → Option β} : ∀ {l : List α}, (∃ a ∈ l, f a = none) → (l.filterMap f).length < l.length
  | [], h => by obtain ⟨_, h, _⟩ := h; cases h
  | a :: r, h => by
    obtain ⟨x, hx, hn⟩ := h
    have le := List.length_filterMap_le f r
    rcases List.mem_cons.mp hx with e | e
    · rw [← e, List.filterMap_cons_none hn, List.length_cons]; omega
    · have ih := fm_short (f := f) ⟨x, e, hn⟩
      cases q : f a with
      | none => rw [List.filterMap_cons_none q, List.length_cons]; omega
      | some b => rw [List.filterMap_cons_some q, List.length_cons, List.length_cons]; omega
theorem sw_far {ts vs : List Expr} {k k2 : Nat} {p p2 : Pos} {env : Env} {S : SC} (he : env.scope = S.sc) (h : ts.all (locAt S (lineOf ts)) = false) : swappedStores [.Tuple ts k p] (.Tuple vs k2 p2) env = pure none := by
  have far : ∃ t ∈ ts, locAt S (lineOf ts) t = false := by
    rw [List.all_eq_false] at h
    obtain ⟨t, ht, hn⟩ := h
    exact ⟨t, ht, by simpa using hn⟩
  unfold swappedStores
  have short : ∀ {l : List Str}, l = ts.filterMap (fun
      | .Name id pos => if env.kindOf id == some .local && pos.line == (ts.head?.map (·.pos.line)).getD 0 then some id else none
      | _ => none) → (l.length != ts.length) = true := fun {l} hl => by
    have q : l.length < ts.length := by
      rw [hl]
      refine fm_short ?_
      obtain ⟨t, ht, hn⟩ := far
      refine ⟨t, ht, ?_⟩
      cases t with
      | Name x px =>
        have e : (env.kindOf x == some .local && px.line == (ts.head?.map (·.pos.line)).getD 0) = false := by
          have l0 : (ts.head?.map (·.pos.line)).getD 0 = lineOf ts := by cases ts <;> rfl
          rw [l0]
          have hn : (isLoc S x && px.line == lineOf ts) = false := hn
          have k : (env.kindOf x == some .local) = isLoc S x := by
            unfold Env.kindOf isLoc
            rw [he]
            cases S.sc.names.lookup x with
            | none => rfl
            | some k => cases k <;> rfl
          rw [k]; exact hn
        simp only [e]; rfl
      | _ => rfl
    simp only [bne_iff_ne, ne_eq]; omega
  show (if _ then _ else _) = _
  split
  · rfl
  · show (if _ then _ else _) = _
    split
    · rfl
    · exact if_pos (Bool.or_eq_true_iff.mpr (.inl (short rfl)))
theorem sw_two {x y : Str} {px py p p2 : Pos} {k k2 : Nat} {a b : Expr} {env : Env} (kd : env.scope.kind = .function) (hx : env.kindOf x = some .local) (hy : env.kindOf y = some .local) (hn : x ≠ y) (hl : py.line = px.line)
    (h1 : isStar a = false) (h2 : isStar b = false) (h3 : [a, b].all (foldedForSure 8) = false) (h4 : [a, b].all (constantsAlone 8) = false) : swappedStores [.Tuple [.Name x px, .Name y py] k p] (.Tuple [a, b] k2 p2) env = pure (some [x, y]) := by
  have bk : env.blockKind = .function := by unfold Env.blockKind; rw [kd]; rfl
  have st : ([a, b].any fun | .Starred .. => true | _ => false) = false := by
    cases a <;> first | (cases h1; done) | skip
    all_goals (cases b <;> first | (cases h2; done) | rfl)
  unfold swappedStores
  simp only [bk, st, h3, h4, List.length_cons, List.length_nil, List.filterMap_cons, List.filterMap_nil, List.head?_cons, Option.map_some, Option.getD_some, hx, hy, hl, Expr.pos, beq_self_eq_true, Bool.and_self, if_true]
  have ed : ([x, y] : List Str).eraseDups.length = 2 := by
    have e : (y == x) = false := by simpa using Ne.symm hn
    simp [List.eraseDups_cons, List.filter_cons, e]
  simp [ed]
  intro q
  exfalso
  rcases q with q | q
  · cases a <;> first | (cases h1; done) | (cases q; done)
  · cases b <;> first | (cases h2; done) | (cases q; done)
/-! ### try -/
theorem cst_tC {e : Expr} {d : D} (h : cstOf e = some d) {X : Cx} : ∃ v, PE X e (tC v) ∧ ∀ F, Rep X.K F d v := by
  unfold cstOf at h
  split at h <;> cases h
  · exact ⟨_, pe_int, fun _ => Rep.int_iff.mpr rfl⟩
  · exact ⟨_, pe_bl, fun _ => Rep.bl_iff.mpr rfl⟩
  · exact ⟨_, pe_non, fun _ => Rep.non_iff.mpr rfl⟩
  · exact ⟨_, pe_str, fun _ => Rep.str_iff.mpr rfl⟩
theorem hs_ok (c : Oks S T lv W X) : ∀ (hs : List ExceptHandler) (h : Hs), cHs S hs = some h → ∃ l, HdsOk X hs l ∧ ∀ {De : Ends} {F : Hp} {cc : Str} {ρ : Env'}, PostS X.K W X.mg H0 F0 De F (dHs (subOf S) cc ρ h) →
    ∀ σ H F' A C, Rl X.K H0 F0 ρ σ H F' A → Same F F' → X.mg cc = some (.ref C) → wMany X.K W De l (.ref C) none σ H
  | [], h, e => by
    have e : some Hs.nil = some h := e
    cases e
    exact ⟨[], .nil, fun p σ H F' A C r s m => p σ H F' A C r s m⟩
  | hd :: r, h, e => by
    unfold cHs at e
    split at e
    · rename_i heq
      cases heq
    · rename_i y p v p3 p4 r' heq
      cases heq
      split at e
      · rename_i hy
        rw [Option.bind_eq_some_iff] at e
        obtain ⟨d, hd, e⟩ := e
        rw [Option.map_eq_some_iff] at e
        obtain ⟨h', hh, rfl⟩ := e
        obtain ⟨l, h1, h2⟩ := hs_ok c r h' hh
        obtain ⟨hdb, Y, gY, _⟩ := c.exc y hy.2
        obtain ⟨u, _, hr⟩ := cst_tC hd (X := X)
        refine ⟨(.ref Y, fun _ _ _ => tRet (tC u)) :: l, .cons ⟨gl_of c.toOkc hy.1, hdb, .inl gY⟩ (fun a oe cls dd pn _ _ => ?_) h1, fun {De F cc ρ} p σ H F' A C r s m => ?_⟩
        · have hu : PE (X.suite a ((a, oe) :: pn)) v (tC u) := by
            obtain ⟨u', k1, k2⟩ := cst_tC hd (X := X.suite a ((a, oe) :: pn))
            have e0 : u' = u := by
              have g1 := k2 (fun _ => none)
              have g2 := hr (fun _ => none)
              unfold cstOf at hd
              split at hd <;> cases hd
              · rw [Rep.int_iff.mp g1, Rep.int_iff.mp g2]
              · rw [Rep.bl_iff.mp g1, Rep.bl_iff.mp g2]
              · rw [Rep.non_iff.mp g1, Rep.non_iff.mp g2]
              · rw [Rep.str_iff.mp g1, Rep.str_iff.mp g2]
            rw [← e0]; exact k1
          exact pss_one (ps_ret hu)
        · have p : PostS X.K W X.mg H0 F0 De F (match subOf S cc y with
            | some true => .rt d
            | some false => dHs (subOf S) cc ρ h'
            | none => .bad) := p
          cases hb : subOf S cc y with
          | none => rw [hb] at p; exact p.elim
          | some b =>
            rw [hb] at p
            refine ⟨b, c.sub cc y b hb C Y m gY, fun z a _ => ?_, fun z => ?_⟩
            · subst z; exact p u H F' r.ex (hr F')
            · subst z; exact h2 p σ H F' A C r s m
      · cases e
    · rename_i y p p3 p4 r' heq
      cases heq
      split at e
      · rename_i hy
        rw [Option.map_eq_some_iff] at e
        obtain ⟨h', hh, rfl⟩ := e
        obtain ⟨l, h1, h2⟩ := hs_ok c r h' hh
        obtain ⟨hdb, Y, gY, _⟩ := c.exc y hy.2
        refine ⟨(.ref Y, fun _ _ _ => tNext) :: l, .cons ⟨gl_of c.toOkc hy.1, hdb, .inl gY⟩ (fun a oe cls dd pn _ _ => pss_one ps_pass) h1, fun {De F cc ρ} p σ H F' A C r s m => ?_⟩
        have p : PostS X.K W X.mg H0 F0 De F (match subOf S cc y with
          | some true => .nx ρ
          | some false => dHs (subOf S) cc ρ h'
          | none => .bad) := p
        cases hb : subOf S cc y with
        | none => rw [hb] at p; exact p.elim
        | some b =>
          rw [hb] at p
          refine ⟨b, c.sub cc y b hb C Y m gY, fun z a _ => ?_, fun z => ?_⟩
          · subst z; exact p σ H F' A r s
          · subst z; exact h2 p σ H F' A C r s m
      · cases e
    · cases e
theorem Oks.tr (c : Oks S T lv W X) {W' : WX} {pn : List (Addr × Obj)} {xe : Value → Shared → Prop} (tk : Takes (X.tr pn xe) W') (ps : PassesOwn (model X.prog X.w) X.A X.env xe) : Oks S T lv W' (X.tr pn xe) where
  N := c.N
  sc := c.sc
  nd := c.nd
  nm := c.nm
  own := c.own
  calm := c.calm
  room := c.room
  tk := tk
  fns := fun i x n h => ⟨⟨(c.fns i x n h).1.ex⟩, (c.fns i x n h).2⟩
  cst := c.cst
  blt := c.blt
  dcs := c.dcs
  stk := c.stk
  frm := c.frm
  kind := c.kind
  pass := ps
  exc := c.exc
  sub := c.sub
/-- what is known of statements at a depth -/
def Sns (T : Nat → List D → R D) (lv : Nat) (n : Nat) : Prop := ∀ (S : SC) (W : WX) (X : Cx) (H0 F0 : Hp), Oks S T lv W X → (∀ s ir, cS n S s = some ir → SS X T S W H0 F0 s ir) ∧ ∀ ss ir, cSs n S ss = some ir → SSs X T S W H0 F0 ss ir
theorem ss_tr {n : Nat} (sn : Sns T lv n) (c : Oks S T lv W X) {body : List Stmt} {h₀ : ExceptHandler} {hs : List ExceptHandler} {pos : Pos} {b : Sms} {h : Hs} (hb : cSs n S body = some b) (hh : cHs S (h₀ :: hs) = some h) : SS X T S W H0 F0 (.Try body (h₀ :: hs) [] [] pos) (.tr b h) := by
  obtain ⟨l, h1, h2⟩ := hs_ok (H0 := H0) (F0 := F0) c (h₀ :: hs) h hh
  refine PS.imp (ps_try_many (tb := fun W' => tS X.K W' X.mg H0 F0 (dSs T (subOf S) b)) c.stk c.frm c.tk (fun W' pn xe tk ps => (sn S W' (X.tr pn xe) H0 F0 (c.tr tk ps)).2 body b hb) h1) fun De σ H q => ?_
  obtain ⟨ρ, F, A, rl, p⟩ := q
  refine ⟨ρ, F, A, rl, ?_⟩
  have p : PostS X.K W X.mg H0 F0 De F (match dSs T (subOf S) b ρ with
    | .exc c ρ' => dHs (subOf S) c ρ' h
    | f => f) := p
  cases hd : dSs T (subOf S) b ρ with
  | nx ρ' => rw [hd] at p; exact p
  | rt d => rw [hd] at p; exact p
  | bk d => rw [hd] at p; exact p
  | ct d => rw [hd] at p; exact p
  | exc cc d => rw [hd] at p; exact fun σ' H' F' A' C r s m => h2 p σ' H' F' A' C r s m
  | bad => rw [hd] at p; exact p
/-- name = [..] on a line -/
theorem ss_comp {n : Nat} (c : Oks S T lv W X) {x : Str} {px spos pos : Pos} {elt tg iter : Expr} {ifs : List Expr} {scope : Scope} {i : Nat} {own' : Bool} {fz : List Nat} {y : E} {own : List Nat} {t : Tg} {it : Z.It} {z : E} (ho : cOwn S x = some i) (k : CompOk S n elt tg iter ifs scope y own t it z) :
    SS X T S W H0 F0 (.Assign [.Name x px] (.ListComp elt [⟨tg, iter, ifs, 0⟩] scope pos) spos) (.set fz i own' (.comp y own t it z)) := by
  obtain ⟨h1, h2, h3⟩ := own_of c.toOkc ho
  have sn := snd (T := T) (lv := lv) n
  have ii := fun s H C cl fp => inner_ok (scope := scope) c.toOkc s H C cl fp
  have eo := k.eo
  subst eo
  have body : ∀ {t' : TS}, (PS X (.Assign [.Name x px] (.ListComp elt [⟨tg, iter, ifs, 0⟩] scope pos) spos) t') → (∀ De σ H, tAsg (tE X.K W X.mg true (dE T (.comp y _ t it z))) (gName i) De σ H → t' De σ H) →
      SS X T S W H0 F0 (.Assign [.Name x px] (.ListComp elt [⟨tg, iter, ifs, 0⟩] scope pos) spos) (.set fz i own' (.comp y ((ownOf S.N scope.names).map (·.2)) t it z)) := fun {t'} h im => by
    refine PS.imp h fun De σ H q => im De σ H ?_
    obtain ⟨ρ, F, A, rl, p⟩ := q
    obtain ⟨F1, rl1, s1⟩ := rl.frzL fz
    refine ⟨H0, F0, _, F1, A, rl1, fl_E rl1 (p.sub s1) fun d v H' F' e r p => ?_⟩
    exact store_nx rl1 e r p
  have bk : X.env.blockKind = .function := by unfold Env.blockKind; rw [c.kind]; rfl
  -- whether the store is the comprehension's own
  by_cases hsw : (X.env.blockKind == ScopeKind.function && X.env.kindOf x == some NameKind.local && px.line == pos.line && !scope.names.any fun (m, k) => m == x && (k == NameKind.local || k == NameKind.cell)) = true
  · have h := ps_setLc (own := ownOf S.N scope.names) (py := px) (pos := pos) (spos := spos) (wi := tI X.K W X.mg (dIt T it)) (g := tG X.K t) (tt := tT X.K (fun _ _ _ _ => False) X.mg (dT T z)) (te := tE X.K (fun _ _ _ _ => False) X.mg false (dE T y)) c.calm c.nd h1 (by
      have q := hsw
      simp only [Bool.and_eq_true, beq_iff_eq] at q
      exact q.1.1.2) (by
      have e : swapsWith (.ListComp elt [⟨tg, iter, ifs, 0⟩] scope pos) (some (.Name x px)) spos.line X.env = pure (X.env.blockKind == ScopeKind.function && X.env.kindOf x == some NameKind.local && px.line == pos.line && !scope.names.any fun (m, k) => m == x && (k == NameKind.local || k == NameKind.cell)) := rfl
      rw [e, hsw]) ((sn S W X c.toOkc).2.2 tg iter it k.hit) (by rw [c.N, c.sc]; exact blkOk_by k.blk)
      (fun s H C cl fp => cTgF_ok (ii s H C cl fp) n tg t k.htg) (fun s H C cl fp => pts_ok sn (ii s H C cl fp) k.hifs)
      (fun s H C cl fp => ((sn _ _ _ (ii s H C cl fp)).1 elt y k.hx).weak) (notSetIter (cIt_notSet k.hit))
    exact body h fun De σ H q => comp_core k.sub q
  · have h := ps_asg (tg := .Name x px) (pos := spos) (se_comp (pos := pos) sn c.toOkc k) (pg_name c.nd h1 h2 h3) (by
      have e : swapsWithSole [.Name x px] (.ListComp elt [⟨tg, iter, ifs, 0⟩] scope pos) spos.line X.env = pure (X.env.blockKind == ScopeKind.function && X.env.kindOf x == some NameKind.local && px.line == pos.line && !scope.names.any fun (m, k) => m == x && (k == NameKind.local || k == NameKind.cell)) := rfl
      rw [e, Bool.eq_false_iff.mpr hsw]) rfl (ae_one rfl)
    exact body h fun De σ H q => q
end
end Z
/-! Statements, all of them; defs; a whole text. -/
namespace Z
open PySem PySem.Spec PyProof.Rows L2
section
variable {T : Nat → List D → R D} {lv : Nat}
theorem asg_ok {n : Nat} {S : SC} {W : WX} {X : Cx} {H0 F0 : Hp} (c : Oks S T lv W X) {tg v : Expr} {pos : Pos} {ir : Sm} (h : cAssign n S tg v pos.line = some ir) : SS X T S W H0 F0 (.Assign [tg] v pos) ir := by
  have sn := snd (T := T) (lv := lv) n
  have ih := sn S W X c.toOkc
  have loc : ∀ {x : Str}, isLoc S x = true → X.env.kindOf x = some .local := fun {x} h => by
    show X.env.scope.names.lookup x = _
    rw [c.sc]
    unfold isLoc at h
    cases q : S.sc.names.lookup x with
    | none => rw [q] at h; cases h
    | some k => rw [q] at h; cases k <;> first | rfl | cases h
  cases tg with
  | Name x px =>
    simp only [cAssign] at h
    rw [Option.bind_eq_some_iff] at h
    obtain ⟨i, hi, h⟩ := h
    rw [Option.map_eq_some_iff] at h
    obtain ⟨e, he, rfl⟩ := h
    by_cases hc : isComp v = false
    · exact ss_set c hi hc (ih.1 v e he)
    · cases v with
      | ListComp elt gens scope p =>
        cases n with
        | zero => cases he
        | succ n =>
          match gens, he with
          | [⟨tg, iter, ifs, k⟩], he =>
            obtain ⟨rfl, y, own, t, it, z, rfl, ok⟩ := compOk_of he
            exact ss_comp c hi ok
          | [], he => simp [cE] at he
          | _ :: _ :: _, he => simp [cE] at he
      | SetComp _ _ _ _ => cases n <;> cases he
      | DictComp _ _ _ _ _ => cases n <;> cases he
      | _ => exact absurd rfl hc
  | Tuple ts k p =>
    have unp : ∀ {v : Expr}, isComp v = false → swappedStores [.Tuple ts k p] v X.env = pure none → ((cTgF n S (.Tuple ts k p)).bind fun t => (cE n S v).map fun e => Sm.unp (fzOf S (fvE e)) t e) = some ir → SS X T S W H0 F0 (.Assign [.Tuple ts k p] v pos) ir := fun {v} hc hs h => by
      rw [Option.bind_eq_some_iff] at h
      obtain ⟨t, ht, h⟩ := h
      rw [Option.map_eq_some_iff] at h
      obtain ⟨e, he, rfl⟩ := h
      exact ss_unp c ht hc hs (ih.1 v e he)
    have unpT : ∀ {vs : List Expr} {k2 : Nat} {p2 : Pos}, (if vs.all (foldedForSure 8) = true ∨ ts.all (locAt S (lineOf ts)) = false then (cTgF n S (.Tuple ts k p)).bind fun t => (cE n S (.Tuple vs k2 p2)).map fun e => Sm.unp (fzOf S (fvE e)) t e else none) = some ir →
        SS X T S W H0 F0 (.Assign [.Tuple ts k p] (.Tuple vs k2 p2) pos) ir := fun {vs k2 p2} h => by
      split at h
      · rename_i hq
        refine unp rfl ?_ h
        rcases hq with hq | hq
        · exact sw_fold hq
        · exact sw_far c.sc hq
      · cases h
    cases v with
    | Tuple vs k2 p2 =>
      simp only [cAssign] at h
      split at h
      · rename_i x px y py a b
        split at h
        · rename_i hq
          obtain ⟨q1, q2, q3, q4, q5, q6, q7, q8⟩ := hq
          rw [Option.bind_eq_some_iff] at h
          obtain ⟨i, hi, h⟩ := h
          rw [Option.bind_eq_some_iff] at h
          obtain ⟨j, hj, h⟩ := h
          rw [Option.map_eq_some_iff] at h
          obtain ⟨es, he, rfl⟩ := h
          exact ss_par c hi hj q1 q2 q3 (sw_two c.kind (loc q1) (loc q2) q3 q4 q5 q6 q7 q8) (ses_ok sn c.toOkc he).1
        · exact unpT h
      · exact unpT h
    | ListComp _ _ _ _ => simp [cAssign, isComp] at h
    | SetComp _ _ _ _ => simp [cAssign, isComp] at h
    | DictComp _ _ _ _ _ => simp [cAssign, isComp] at h
    | _ => exact unp rfl rfl (by simpa [cAssign, isComp] using h)
  | _ => cases h
theorem exp_ok {n : Nat} {S : SC} {W : WX} {X : Cx} {H0 F0 : Hp} (c : Oks S T lv W X) {v : Expr} {pos : Pos} {ir : Sm} (h : (if isComp v = true then none else (cE n S v).map fun e => Sm.exp (fzOf S (fvE e)) e) = some ir) : SS X T S W H0 F0 (.Expr v pos) ir := by
  split at h
  · cases h
  · rename_i hc
    rw [Option.map_eq_some_iff] at h
    obtain ⟨e, he, rfl⟩ := h
    exact ss_exp (by simpa using hc) ((snd n S W X c.toOkc).1 v e he)
theorem sns : ∀ n, Sns T lv n
  | 0 => fun S W X H0 F0 c => ⟨fun _ _ h => (by cases h), fun _ _ h => (by cases h)⟩
  | n + 1 => fun S W X H0 F0 c => by
    have sn := snd (T := T) (lv := lv) n
    have ih := sn S W X c.toOkc
    have is := sns n S W X H0 F0 c
    refine ⟨fun s ir h => ?_, fun ss ir h => ?_⟩
    · cases s with
      | Assign tgs v pos =>
        match tgs, h with
        | [tg], h => exact asg_ok c (show cAssign n S tg v pos.line = some ir from h)
        | [], h => simp [cS] at h
        | _ :: _ :: _, h => simp [cS] at h
      | AugAssign tg op v pos =>
        cases tg with
        | Name x px =>
          simp only [cS] at h
          rw [Option.bind_eq_some_iff] at h
          obtain ⟨o, ho, h⟩ := h
          rw [Option.bind_eq_some_iff] at h
          obtain ⟨i, hi, h⟩ := h
          rw [Option.map_eq_some_iff] at h
          obtain ⟨e, he, rfl⟩ := h
          rw [augOf_eq ho]
          exact ss_aug c hi (ih.1 v e he)
        | _ => cases h
      | Return v pos =>
        cases v with
        | none => cases h; exact ss_retN
        | some v =>
          simp only [cS] at h
          rw [Option.map_eq_some_iff] at h
          obtain ⟨e, he, rfl⟩ := h
          exact ss_ret (ih.1 v e he)
      | If v a b pos =>
        simp only [cS] at h
        rw [Option.bind_eq_some_iff] at h
        obtain ⟨z, hz, h⟩ := h
        rw [Option.bind_eq_some_iff] at h
        obtain ⟨x, hx, h⟩ := h
        rw [Option.map_eq_some_iff] at h
        obtain ⟨y, hy, rfl⟩ := h
        exact ss_ite (ih.2.1 v z hz) (is.2 a x hx) (is.2 b y hy)
      | For tg iter body orelse pos =>
        cases orelse with
        | nil =>
          simp only [cS] at h
          rw [Option.bind_eq_some_iff] at h
          obtain ⟨t, ht, h⟩ := h
          rw [Option.bind_eq_some_iff] at h
          obtain ⟨it, hit, h⟩ := h
          rw [Option.map_eq_some_iff] at h
          obtain ⟨b, hb, rfl⟩ := h
          exact ss_fo c ht (cIt_notSet hit) (ih.2.2 tg iter it hit) (is.2 body b hb)
        | cons _ _ => cases h
      | While v body orelse pos =>
        cases orelse with
        | nil =>
          simp only [cS] at h
          rw [Option.bind_eq_some_iff] at h
          obtain ⟨z, hz, h⟩ := h
          rw [Option.map_eq_some_iff] at h
          obtain ⟨b, hb, rfl⟩ := h
          exact ss_wh c (ih.2.1 v z hz) (is.2 body b hb)
        | cons _ _ => cases h
      | Pass pos => cases h; exact ss_skip ps_pass fun _ => rfl
      | Break pos =>
        cases h
        exact PS.imp ps_break fun De σ H q => by
          obtain ⟨ρ, F, A, rl, p⟩ := q
          exact p σ H F A rl (Same.refl _)
      | Continue pos =>
        cases h
        exact PS.imp ps_continue fun De σ H q => by
          obtain ⟨ρ, F, A, rl, p⟩ := q
          exact p σ H F A rl (Same.refl _)
      | Try body hs orelse fin pos =>
        cases hs with
        | nil => simp [cS] at h
        | cons h₀ hs =>
          cases orelse with
          | cons _ _ => simp [cS] at h
          | nil =>
            cases fin with
            | cons _ _ => simp [cS] at h
            | nil =>
              simp only [cS] at h
              rw [Option.bind_eq_some_iff] at h
              obtain ⟨b, hb, h⟩ := h
              rw [Option.map_eq_some_iff] at h
              obtain ⟨hh, he, rfl⟩ := h
              exact ss_tr (sns n) c hb he
      | Raise ex cause pos =>
        simp only [cS] at h
        split at h <;> try (cases h; done)
        all_goals first
          | (rename_i heq; cases heq; done)
          | skip
        rename_i heq
        cases heq
        split at h
        · rename_i hq
          cases h
          exact ss_rai c hq.1 hq.2
        · cases h
      | Expr v pos =>
        cases v with
        | Constant k j p =>
          cases k with
          | str x => cases h; exact ss_skip ps_doc fun _ => rfl
          | _ => exact exp_ok (n := n) c h
        | Call f args kws cp =>
          have plain : (if isComp (.Call f args kws cp) = true then none else (cE n S (.Call f args kws cp)).map fun e => Sm.exp (fzOf S (fvE e)) e) = some ir → SS X T S W H0 F0 (.Expr (.Call f args kws cp) pos) ir := exp_ok (n := n) c
          cases f with
          | Attribute o m ap =>
            cases o with
            | Name x px =>
              match args, kws, h with
              | [a], [], hh =>
                have h := hh
                clear hh
                simp only [cS] at h
                split at h
                · rename_i hq
                  split at h
                  · rename_i hm
                    rw [hm]
                    rw [Option.bind_eq_some_iff] at h
                    obtain ⟨i, hi, h⟩ := h
                    rw [Option.map_eq_some_iff] at h
                    obtain ⟨e, he, rfl⟩ := h
                    exact ss_app c hq.1 hi hq.2.1 hq.2.2 (ih.1 a e he)
                  · split at h
                    · rename_i hm
                      rw [hm]
                      rw [Option.bind_eq_some_iff] at h
                      obtain ⟨i, hi, h⟩ := h
                      rw [Option.map_eq_some_iff] at h
                      obtain ⟨e, he, rfl⟩ := h
                      exact ss_ext c hq.1 hi hq.2.1 hq.2.2 (ih.1 a e he)
                    · cases h
                · cases h
              | [], _, h => exact exp_ok (n := n) c h
              | _ :: _ :: _, _, h => exact exp_ok (n := n) c h
              | [_], _ :: _, h => exact exp_ok (n := n) c h
            | _ => exact plain h
          | _ => exact plain h
        | _ => exact exp_ok (n := n) c h
      | _ => cases h
    · cases ss with
      | nil =>
        have h : some Sms.nil = some ir := h
        cases h
        exact sss_nil
      | cons s r =>
        simp only [cSs] at h
        rw [Option.bind_eq_some_iff] at h
        obtain ⟨a, ha, h⟩ := h
        rw [Option.map_eq_some_iff] at h
        obtain ⟨b, hb, rfl⟩ := h
        exact sss_cons (is.1 s a ha) (is.2 r b hb)
end
/-! ### defs -/
/-- a def of the text: its name, its statement, its names by slots (parameters first), how many parameters, its term -/
structure Def where
  name : Str
  st : Stmt
  N : List Str
  ar : Nat
  muts : List Nat
  body : Sms
/-- a text: its defs, its constants, its error classes and which catches which -/
structure Txt where
  defs : List Def
  cst : List (Str × D)
  exc : List Str
  sub : List ((Str × Str) × Bool)
  dcs : List (Str × List (Str × D)) := []
def Txt.sc (t : Txt) (d : Def) : SC := { N := d.N, sc := defScope d.st, own := (defScope d.st).names, fns := t.defs.map fun d => (d.name, d.ar), cst := t.cst, muts := d.muts, exc := t.exc, sub := t.sub, dcs := t.dcs }
def subL (l : List ((Str × Str) × Bool)) (c y : Str) : Option Bool := l.lookup (c, y)
def startE (N : List Str) (ds : List D) : Env' := ds.map .im ++ List.replicate (N.length - ds.length) .un
/-- how a body's end is a def's -/
def Fl.out : Fl → R D
  | .nx _ => .ok .non
  | .rt d => .ok d
  | .exc c _ => .exc c
  | _ => .bad
/-- what a def of a text computes, calls so deep at most -/
def run (t : Txt) : Nat → Nat → List D → R D
  | 0, _, _ => .bad
  | n + 1, i, ds => match t.defs[i]? with
    | none => .bad
    | some d => if ds.length = d.ar then (dSs (run t n) (subL t.sub) d.body (startE d.N ds)).out else .bad
/-- what is checked of a def, once -/
structure DefOk (t : Txt) (d : Def) : Prop where
  comp : cSs 200 (t.sc d) (defBody d.st) = some d.body
  sc : FnScope d.N (d.N.take d.ar) (defScope d.st)
  le : d.ar ≤ d.N.length
  nm : ∀ x ∈ d.N, (x == ("__debug__" : Str)) = false ∧ (x == ("__classdict__" : Str)) = false
structure TxtOk (t : Txt) : Prop where
  defs : ∀ (i : Nat) (d : Def), t.defs[i]? = some d → DefOk t d
  nmf : ∀ (i : Nat) (d : Def), t.defs[i]? = some d → (d.name == ("__debug__" : Str)) = false
/-- what is known behind the top -/
structure Known (t : Txt) (K : PySem.W.Frag) (w : World) (mg : Str → Option Value) : Prop where
  fn : ∀ (i : Nat) (d : Def), t.defs[i]? = some d → ∃ f fd, FunD K d.name d.name (defArgs d.st) (defBody d.st) (defScope d.st) [] [] f fd ∧ mg d.name = some (.ref f) ∧ Binds K fd (d.N.take d.ar) []
  cst : ∀ x d, t.cst.lookup x = some d → (x == ("__debug__" : Str)) = false ∧ ∃ v u, mg x = some u ∧ RelV v u ∧ ∀ F, Rep K F d v
  blt : ∀ x ∈ bltNames, mg x = none
  exc : ∀ x ∈ t.exc, (x == ("__debug__" : Str)) = false ∧ ∃ C, mg x = some (.ref C) ∧ PySem.W.excIn K C [.type "ValueError", .type "Exception", .type "BaseException", .type "object"] "ValueError.__new__" = true ∧ PySem.W.keepIn K (.ref C) = true ∧
    PySem.W.subIn K (.ref C) (.type "BaseException") = some true ∧ PySem.W.typeIn K (.ref C) = some (.type "type")
  dcs : ∀ x tab, t.dcs.lookup x = some tab → DcOk K w mg x tab
  sub : ∀ c y b, t.sub.lookup (c, y) = some b → ∀ C Y, mg c = some (.ref C) → mg y = some (.ref Y) → PySem.W.exmOne K (.ref C) (.ref Y) = some b
theorem rl_start {K : PySem.W.Frag} {N : List Str} {ds : List D} {vs : List V} {H F : Hp} (s : Same F H) (r : RepL K F ds vs) (hl : ds.length ≤ N.length) : Rl K H F (startE N ds) (L2.start N vs) H F (fun _ => 0) := by
  have l := r.length
  have no : ∀ {i : Nat} {d : D}, (startE N ds)[i]? ≠ some (.ow d) := fun {i d} q => by
    unfold startE at q
    by_cases hi : i < (ds.map Slot.im).length
    · rw [List.getElem?_append_left hi, List.getElem?_map] at q
      cases h : ds[i]? with
      | none => rw [h] at q; cases q
      | some e => rw [h] at q; cases q
    · rw [List.getElem?_append_right (by omega), List.getElem?_replicate] at q
      split at q <;> cases q
  refine ⟨Ex.refl s, ?_, fun i sl hs => ?_, fun i d h => absurd h no, fun i j d e h => absurd h no⟩
  · unfold startE L2.start
    rw [List.length_append, List.length_append, List.length_map, List.length_map, List.length_replicate, List.length_replicate, l]
  · unfold startE at hs
    by_cases hi : i < (ds.map Slot.im).length
    · rw [List.getElem?_append_left hi, List.getElem?_map, Option.map_eq_some_iff] at hs
      obtain ⟨d, hd, rfl⟩ := hs
      obtain ⟨v, h1, h2⟩ := r.get hd
      refine ⟨v, ?_, h2⟩
      unfold L2.start
      rw [List.getElem?_append_left (by rw [List.length_map, ← l]; simpa using hi), List.getElem?_map, h1]
      rfl
    · rw [List.getElem?_append_right (by omega), List.getElem?_replicate] at hs
      split at hs
      · cases hs; trivial
      · cases hs
theorem fn_ok {t : Txt} (ok : TxtOk t) {P : Program} {w : World} {K : PySem.W.Frag} {mg : Str → Option Value} {base : Heap} (kn : Known t K w mg) : ∀ (n i : Nat) (d : Def), t.defs[i]? = some d →
    ∃ f fd, FnOk P w K mg base (L2.CX P w) n f fd (d.N.take d.ar) (spD K mg (run t n i) d.ar) ∧ mg d.name = some (.ref f) ∧ PySem.W.keepIn K (.ref f) = true ∧ Binds K fd (d.N.take d.ar) [] ∧ FunD K d.name d.name (defArgs d.st) (defBody d.st) (defScope d.st) [] [] f fd
  | 0, i, d, h => by
    obtain ⟨f, fd, F, hm, hb⟩ := kn.fn i d h
    have no : ∀ {vs : List V} {H : Hp} {Q : VK} {E : XK}, ¬ spD K mg (run t 0 i) d.ar vs H Q E := fun {vs H Q E} ⟨_, ds, _, _, _, q⟩ => q
    exact ⟨f, fd, ⟨fun vs H Q E q => (no q).elim, fun _ _ _ _ _ _ _ _ _ _ _ _ _ q => (no q).elim⟩, hm, F.kp, hb, F⟩
  | n + 1, i, d, h => by
    obtain ⟨f, fd, F, hm, hb⟩ := kn.fn i d h
    have dk := ok.defs i d h
    have hl : (d.N.take d.ar).length = d.ar := by rw [List.length_take]; have := dk.le; omega
    refine ⟨f, fd, F.ok dk.sc (fun vs H Q E q => ?_) (fun cdv A outer s H vs Q E hr q => ?_), hm, F.kp, hb, F⟩
    · obtain ⟨_, _, _, _, q, _⟩ := q
      rw [q, hl]
    · obtain ⟨F0, ds, sF, rd, hv, q⟩ := q
      have hds : ds.length = d.ar := by rw [rd.length, hv]
      have ks : Oks (t.sc d) (run t n) n (fun cls dd _ H => E cls dd H) (cxOf (L2.CX P w) P w K mg base d.N d.name (defScope d.st) f cdv A outer s H E) := {
        N := rfl
        sc := rfl
        nd := dk.sc.nd
        nm := dk.nm
        own := fun x hx => by
          refine ⟨?_, .inl rfl⟩
          have hx : (match (defScope d.st).names.lookup x with
            | some .local => true
            | some .cell => true
            | _ => false) = true := hx
          show (defScope d.st).names.lookup x = _ ∨ (defScope d.st).names.lookup x = _
          cases q : (defScope d.st).names.lookup x with
          | none => rw [q] at hx; cases hx
          | some k => rw [q] at hx; cases k <;> first | exact .inl rfl | exact .inr rfl | cases hx
        calm := rfl
        room := hr
        tk := takes_of rfl rfl rfl rfl
        fns := fun j x m hj => by
          have hj : (t.defs.map fun d => (d.name, d.ar))[j]? = some (x, m) := hj
          rw [List.getElem?_map, Option.map_eq_some_iff] at hj
          obtain ⟨e, he, hx⟩ := hj
          cases hx
          obtain ⟨f', fd', F', hm', kp', hb', _⟩ := fn_ok ok kn n j e he
          have ek := ok.defs j e he
          exact ⟨⟨f', fd', _, F', hm', kp', hb', by rw [List.length_take]; have := ek.le; omega⟩, ok.nmf j e he⟩
        cst := kn.cst
        blt := kn.blt
        dcs := kn.dcs
        stk := rfl
        frm := rfl
        kind := dk.sc.kind
        pass := passes_of rfl
        exc := kn.exc
        sub := kn.sub }
      have st := (sns (T := run t n) (lv := n) 200 _ _ _ H F0 ks).2 _ _ dk.comp
      refine ⟨_, st, startE d.N ds, F0, _, rl_start sF rd (by rw [hds]; exact dk.le), ?_⟩
      have er : run t (n + 1) i ds = (dSs (run t n) (subL t.sub) d.body (startE d.N ds)).out := by
        show (match t.defs[i]? with
          | none => R.bad
          | some d => if ds.length = d.ar then (dSs (run t n) (subL t.sub) d.body (startE d.N ds)).out else .bad) = _
        rw [h]
        exact if_pos hds
      rw [er] at q
      have es : dSs (run t n) (subOf (t.sc d)) d.body (startE d.N ds) = dSs (run t n) (subL t.sub) d.body (startE d.N ds) := rfl
      rw [es]
      cases hf : dSs (run t n) (subL t.sub) d.body (startE d.N ds) with
      | nx ρ => rw [hf] at q; exact fun σ' H' F' A' r _ => q .non H' F' r.ex (Rep.non_iff.mpr rfl)
      | rt d => rw [hf] at q; exact fun v H' F' e r => q v H' F' e r
      | bk ρ => rw [hf] at q; exact q.elim
      | ct ρ => rw [hf] at q; exact q.elim
      | exc c ρ => rw [hf] at q; exact fun σ' H' F' A' C r _ m => q H' F' C r.ex m
      | bad => rw [hf] at q; exact q.elim
end Z
/-! From a text whose law computes True to the row: what the head tells, the end. -/
namespace Z
open PySem PySem.Spec PyProof.Rows L2
def Each {α : Type} (p : α → Prop) : List α → Prop
  | [] => True
  | x :: r => p x ∧ Each p r
theorem Each.get {α : Type} {p : α → Prop} : ∀ {l : List α} {i : Nat} {x : α}, Each p l → l[i]? = some x → p x
  | [], _, _, _, h => by simp at h
  | y :: r, 0, x, e, h => by rw [List.getElem?_cons_zero] at h; cases h; exact e.1
  | y :: r, i + 1, x, e, h => by rw [List.getElem?_cons_succ] at h; exact Each.get e.2 h
/-! ### constants of the module as trees -/
mutual
/-- the value u stands for the tree d -/
def repB (K : PySem.W.Frag) : D → Value → Bool
  | .non, .none => true
  | .bl b, .bool c => b == c
  | .int i, .int j _ => decide (i = j)
  | .str x, .str y _ => decide (x = y)
  | .tup ds, .ref a => (match K.lookup a with
    | some ⟨.type c, _, .seq its _, _⟩ => decide (c = "tuple") && (decide (its.size ≤ sizeLine) && repBL K ds its.toList)
    | _ => false)
  | _, _ => false
def repBL (K : PySem.W.Frag) : List D → List Value → Bool
  | [], [] => true
  | d :: ds, u :: us => repB K d u && repBL K ds us
  | _, _ => false
end
mutual
theorem repB_ok {K : PySem.W.Frag} : ∀ (d : D) (u : Value), repB K d u = true → ∃ v, RelV v u ∧ ∀ F, Rep K F d v
  | .non, u, h => by
    cases u <;> simp only [repB, Bool.false_eq_true] at h
    exact ⟨.non, rfl, fun F => Rep.non_iff.mpr rfl⟩
  | .bl b, u, h => by
    cases u <;> simp only [repB, Bool.false_eq_true] at h
    rw [eq_of_beq h]
    exact ⟨.bl _, rfl, fun F => Rep.bl_iff.mpr rfl⟩
  | .int i, u, h => by
    cases u <;> simp only [repB, Bool.false_eq_true] at h
    rw [of_decide_eq_true h]
    exact ⟨.int _, ⟨_, rfl⟩, fun F => Rep.int_iff.mpr rfl⟩
  | .str i, u, h => by
    cases u <;> simp only [repB, Bool.false_eq_true] at h
    rw [of_decide_eq_true h]
    exact ⟨.str _, ⟨_, rfl⟩, fun F => Rep.str_iff.mpr rfl⟩
  | .tup ds, u, h => by
    cases u <;> simp only [repB, Bool.false_eq_true] at h
    rename_i a
    cases q : K.lookup a with
    | none => rw [q] at h; cases h
    | some o =>
      obtain ⟨oc, od, dt, osl⟩ := o
      rw [q] at h
      cases oc with
      | type c =>
        cases dt with
        | seq its n =>
          obtain ⟨h1, h2⟩ := He.ba (show (decide (c = "tuple") && (decide (its.size ≤ sizeLine) && repBL K ds its.toList)) = true from h)
          obtain ⟨h3, h4⟩ := He.ba h2
          obtain ⟨vs, h5, h6⟩ := repBL_ok ds its.toList h4
          exact ⟨.ref a, rfl, fun F => Rep.tup_iff.mpr ⟨a, vs, rfl, .inr ⟨_, its, n, q, congrArg Value.type (of_decide_eq_true h1), rfl, of_decide_eq_true h3, h5⟩, h6 F⟩⟩
        | _ => cases h
      | _ => cases dt <;> cases h
  | .lst _, u, h => by cases u <;> simp [repB] at h
  | .dic _ _, u, h => by cases u <;> simp [repB] at h
  | .scr _, u, h => by cases u <;> simp [repB] at h
  | .obj _ _ _, u, h => by cases u <;> simp [repB] at h
theorem repBL_ok {K : PySem.W.Frag} : ∀ (ds : List D) (us : List Value), repBL K ds us = true → ∃ vs, Vals vs us ∧ ∀ F, RepL K F ds vs
  | [], us, h => by
    cases us with
    | nil => exact ⟨[], .nil, fun F => RepL.nil⟩
    | cons _ _ => simp [repBL] at h
  | d :: ds, us, h => by
    cases us with
    | nil => simp [repBL] at h
    | cons u us =>
      simp only [repBL] at h
      obtain ⟨h1, h2⟩ := He.ba h
      obtain ⟨v, g1, g2⟩ := repB_ok d u h1
      obtain ⟨vs, g3, g4⟩ := repBL_ok ds us h2
      exact ⟨v :: vs, .cons g1 g3, fun F => RepL.cons (g2 F) (g4 F)⟩
end
def cB (K : PySem.W.Frag) (p : Str × D) : Bool := match PySem.W.nsIn K mainGlobals p.1 with
  | some (some u) => repB K p.2 u
  | _ => false
def tB' (K : PySem.W.Frag) (p : Str × List (Str × D)) : Bool := He.eqO (PySem.W.nsIn K mainGlobals p.1) (some (some (.ref (He.ga K p.1)))) && (p.2.all fun q => match PySem.W.nsIn K (He.ga K p.1) q.1 with
  | some (some u) => repB K q.2 u
  | _ => false)
/-! ### the hook -/
abbrev AlZ : Type := He.AlT × Bool
def tabs (ts : List (Str × List (Str × D))) : List He.Tab := ts.map fun t => (fun K => He.ga K t.1, t.2.map (·.1))
def obsZ (fa : List He.Fa) (fn : List He.DefD) (cs : List (Str × D)) (ts : List (Str × List (Str × D))) (K : PySem.W.Frag) : AlZ := (He.obsT fa fn (tabs ts) K, (cs.all fun c => cB K c) && ts.all fun t => tB' K t)
def valZ (fn : List He.DefD) (ts : List (Str × List (Str × D))) (w : World) : AlZ := (He.valT fn (tabs ts) w, true)
def obsZG (n : Nat) (fa : List He.Fa) (fn : List He.DefD) (cs : List (Str × D)) (ts : List (Str × List (Str × D))) (g : Addr → Option Obj) : AlZ := obsZ fa fn cs ts (He.frG g (He.asD g n))
def SaysZ (fa : List He.Fa) (fn : List He.DefD) (cs : List (Str × D)) (ts : List (Str × List (Str × D))) (w : World) (K : PySem.W.Frag) : Prop := obsZ fa fn cs ts K = valZ fn ts w
def hookZ (n : Nat) (fa : List He.Fa) (fn : List He.DefD) (cs : List (Str × D)) (ts : List (Str × List (Str × D))) : PySem.W.Hook where
  α := AlZ
  obs := fun s => obsZG n fa fn cs ts s.heap.get?
  val := fun w => valZ fn ts w
  says := fun w h => ∃ K : PySem.W.Frag, K.In h ∧ SaysZ fa fn cs ts w K
  of := fun _ _ e => ⟨_, He.frG_in, e⟩
  keeps := fun _ _ _ ⟨K, hK, c⟩ k => ⟨K, PySem.W.Frag.In.keeps hK k, c⟩
theorem obsZG_eq {n : Nat} {fa : List He.Fa} {fn : List He.DefD} {cs : List (Str × D)} {ts : List (Str × List (Str × D))} {g : Addr → Option Obj} {s : Shared} (h : ∀ a, g a = s.heap.get? a) : obsZG n fa fn cs ts g = (hookZ n fa fn cs ts).obs s := by
  have e : g = s.heap.get? := funext h
  rw [e] <;> rfl
def mkD (d : Def) : He.DefD := ⟨(d.name, none), d.name, d.name, defArgs d.st, defBody d.st, defScope d.st, [], []⟩
def Txt.fn (t : Txt) : List He.DefD := t.defs.map mkD
def Txt.fa (t : Txt) : List He.Fa := (t.defs.map fun d => .glo d.name) ++ (t.exc.flatMap fun c => [.glo c, .exc c]) ++ (t.sub.map fun p => .exm p.1.1 p.1.2 p.2) ++ bltNames.map .free
/-- each parameter takes an argument -/
def BindOk (d : Def) : Prop := ∀ (kV doc pm : Value) (an : Option Addr) (cdv ct : Value) (us : List Value), us.length = (d.N.take d.ar).length → bindArgs (PySem.W.fnOf d.name d.name (defArgs d.st) (defBody d.st) (defScope d.st) .none kV doc pm an cdv ct) ⟨us, []⟩ = pure ((d.N.take d.ar).zip us)
structure TxtFit (t : Txt) : Prop where
  bind : Each BindOk t.defs
  cst : t.cst.all (fun p => !(p.1 == ("__debug__" : Str))) = true
  dcs : t.dcs.all (fun p => !(p.1 == ("__debug__" : Str))) = true
  exc : t.exc.all (fun c => !(c == ("__debug__" : Str))) = true
  sub : t.sub.all (fun p => t.exc.contains p.1.1 && t.exc.contains p.1.2) = true
section
variable {t : Txt} {K : PySem.W.Frag} {h : Heap} {mg : Str → Option Value}
theorem lookup_mem {α : Type} [BEq α] [LawfulBEq α] {β : Type} : ∀ {l : List (α × β)} {x : α} {b : β}, l.lookup x = some b → (x, b) ∈ l
  | [], _, _, h => by cases h
  | (y, c) :: r, x, b, h => by
    rw [List.lookup_cons] at h
    cases e : x == y with
    | true =>
      rw [e] at h
      cases h
      rw [eq_of_beq e]
      exact List.mem_cons_self
    | false => rw [e] at h; exact List.mem_cons_of_mem _ (lookup_mem h)
theorem fact_of {fa : List He.Fa} {fn : List He.DefD} (c : He.SaysD fa fn K) {f : He.Fa} (h : f ∈ fa) : f.ok K = true := by
  obtain ⟨i, hi⟩ := List.getElem?_of_mem h
  exact c.fact i hi
theorem nsIn_none {K : PySem.W.Frag} {w : World} {a : Addr} {tab : List (Str × Z.D)} (hd : He.dicW K a = some (He.keysIn w.params (tab.map (·.1)))) {z : Str} (hz : tab.lookup z = none) : PySem.W.nsIn K a z = some none := by
  obtain ⟨es, n, DD⟩ := He.dicW_ok hd
  unfold He.dicW at hd
  rw [DD.at_] at hd
  have hd : (match decide ("dict" = "dict") && ((#[] : Array (Option Value)).isEmpty && !(a == sysModules)) with
      | true => some (es.toList.map He.keyOf)
      | false => none) = some (He.keysIn w.params (tab.map (·.1))) := hd
  rw [DD.low] at hd
  have hd : some (es.toList.map He.keyOf) = some (He.keysIn w.params (tab.map (·.1))) := hd
  have hd := Option.some.inj hd
  have nk : z ∉ tab.map (·.1) := fun hm => by
    obtain ⟨p, hp, e⟩ := List.mem_map.mp hm
    have : ∀ {l : List (Str × Z.D)}, l.lookup z = none → ∀ p ∈ l, p.1 ≠ z := by
      intro l
      induction l with
      | nil => intro _ p hp; cases hp
      | cons q r ih =>
        intro h p hp
        obtain ⟨q1, q2⟩ := q
        rw [List.lookup_cons] at h
        cases e : z == q1 with
        | true => rw [e] at h; cases h
        | false =>
          rw [e] at h
          rcases List.mem_cons.mp hp with rfl | hp
          · intro z'
            have z' : q1 = z := z'
            rw [z'] at e
            simp at e
          · exact ih h p hp
    exact this hz p hp e
  have all : ∀ e ∈ es.toList, ∃ x t, e.key = .str x t ∧ x ∈ tab.map (·.1) := fun e he => by
    have hm : He.keyOf e ∈ He.keysIn w.params (tab.map (·.1)) := by rw [← hd]; exact List.mem_map_of_mem he
    unfold He.keysIn at hm
    obtain ⟨k, hk, ek⟩ := List.mem_map.mp hm
    unfold He.keyOf at ek
    split at ek
    · rename_i x t q
      injection ek with ek
      injection ek with e1 e2
      exact ⟨x, t, q, by rw [← e1]; exact hk⟩
    · cases ek
  unfold PySem.W.nsIn
  rw [DD.at_]
  dsimp only
  have f1 : es.toList.find? (fun e => e.key.isStr z) = none := by
    rw [List.find?_eq_none]
    intro e he
    obtain ⟨x, t, ex, hx⟩ := all e he
    rw [ex]
    intro q
    have q : decide (x = z) = true := by simpa [Value.isStr] using q
    exact nk (by rw [← of_decide_eq_true q]; exact hx)
  rw [f1]
  have f2 : (es.toList.any fun e => e.refKey) = false := by
    rw [List.any_eq_false]
    intro e he
    obtain ⟨x, t, ex, _⟩ := all e he
    unfold DictEntry.refKey
    rw [ex]
    simp
  dsimp only
  rw [f2]
  rfl
theorem known {w : World} (fit : TxtFit t) (X : K.In h) (G : h.Ns mainGlobals mg) (c : SaysZ t.fa t.fn t.cst t.dcs w K) : Known t K w mg := by
  have cT : He.SaysT t.fa t.fn (tabs t.dcs) w K := congrArg (fun z : AlZ => z.1) c
  have cB' : ((t.cst.all fun c => cB K c) && t.dcs.all fun t => tB' K t) = true := congrArg (fun z : AlZ => z.2) c
  have c := cT.d
  obtain ⟨cC, cD⟩ := He.ba cB'
  exact {
  fn := fun i d hd => by
    obtain ⟨fd, F⟩ := c.def_ i (d := mkD d) (by show (t.defs.map mkD)[i]? = _; rw [List.getElem?_map, hd]; rfl)
    refine ⟨_, fd, F, ?_, FunD.bindsN F (Each.get fit.bind hd)⟩
    refine He.glo_ok X G (fact_of c ?_)
    unfold Txt.fa
    simp only [List.mem_append]
    exact .inl (.inl (.inl (List.mem_map.mpr ⟨d, List.mem_of_getElem? hd, rfl⟩)))
  cst := fun x d hx => by
    have m := lookup_mem hx
    have q := List.all_eq_true.mp fit.cst _ m
    refine ⟨by simpa using q, ?_⟩
    have b := List.all_eq_true.mp cC _ m
    unfold cB at b
    split at b
    · rename_i u hu
      obtain ⟨v, h1, h2⟩ := repB_ok d u b
      exact ⟨v, u, PySem.W.mg_of X G hu, h1, h2⟩
    · cases b
  dcs := fun x tab hx => by
    have m := lookup_mem hx
    have q := List.all_eq_true.mp fit.dcs _ m
    have b := List.all_eq_true.mp cD _ m
    obtain ⟨b1, b2⟩ := He.ba b
    obtain ⟨i, hi⟩ := List.getElem?_of_mem m
    have ht : (tabs t.dcs)[i]? = some (fun K => He.ga K x, tab.map (·.1)) := by
      unfold tabs
      rw [List.getElem?_map, hi]
      rfl
    obtain ⟨es, n, DD⟩ := cT.tab i ht
    have e2 : ((tabs t.dcs).map fun t => He.dicW K (t.1 K))[i]? = ((tabs t.dcs).map fun t => some (He.keysIn w.params t.2))[i]? := by
      have e : (tabs t.dcs).map (fun t => He.dicW K (t.1 K)) = (tabs t.dcs).map fun t => some (He.keysIn w.params t.2) := congrArg (fun z : He.AlT => z.2) cT
      rw [e]
    rw [List.getElem?_map, List.getElem?_map, ht] at e2
    have e3 : He.dicW K (He.ga K x) = some (He.keysIn w.params (tab.map (·.1))) := Option.some.inj e2
    refine ⟨by simpa using q, He.ga K x, es, n, PySem.W.mg_of X G (He.eqO_ok b1), DD, fun z d hz => ?_, fun z hz => nsIn_none e3 hz⟩
    have b := List.all_eq_true.mp b2 _ (lookup_mem hz)
    split at b
    · rename_i u hu
      obtain ⟨v, h1, h2⟩ := repB_ok d u b
      exact ⟨u, v, hu, h1, h2⟩
    · cases b
  blt := fun x hx => He.free_ok X G (fact_of c (by
    unfold Txt.fa
    simp only [List.mem_append]
    exact .inr (List.mem_map.mpr ⟨x, hx, rfl⟩)))
  exc := fun x hx => by
    refine ⟨by simpa using List.all_eq_true.mp fit.exc x hx, ?_⟩
    have mem : ∀ f ∈ [He.Fa.glo x, He.Fa.exc x], f.ok K = true := fun f hf => fact_of c (by
      unfold Txt.fa
      simp only [List.mem_append]
      exact .inl (.inl (.inr (List.mem_flatMap.mpr ⟨_, hx, hf⟩))))
    have g := He.glo_ok X G (mem (.glo x) (by simp))
    obtain ⟨e1, e2, e3, e4⟩ := He.exc_ok (mem (.exc x) (by simp))
    exact ⟨_, g, e1, e2, e3, e4⟩
  sub := fun c' y b hl C Y hC hY => by
    have m := lookup_mem hl
    have q := List.all_eq_true.mp fit.sub _ m
    rw [Bool.and_eq_true] at q
    have glo : ∀ z ∈ t.exc, mg z = some (.ref (He.ga K z)) := fun z hz => He.glo_ok X G (fact_of c (by
      unfold Txt.fa
      simp only [List.mem_append]
      exact .inl (.inl (.inr (List.mem_flatMap.mpr ⟨_, hz, by simp⟩)))))
    have z := He.exm_ok (K := K) (x := c') (y := y) (b := b) (fact_of c (by
      unfold Txt.fa
      simp only [List.mem_append]
      exact .inl (.inr (List.mem_map.mpr ⟨_, m, rfl⟩))))
    have g1 := glo _ (by simpa using q.1)
    have g2 := glo _ (by simpa using q.2)
    rw [hC] at g1
    rw [hY] at g2
    cases g1
    cases g2
    exact z }
/-- an error that leaves a def, in whatever world -/
def CXw : CXT := fun outer H s E e s' => ∃ P w, L2.CX P w outer H s E e s'
theorem CXw.no {H : Hp} {s : Shared} {e : Value} {s' : Shared} (h : CXw [] H s (fun _ _ _ => False) e s') : False := by
  obtain ⟨_, _, _, _, _, _, _, _, _, _, _, _, _, _, z⟩ := h
  exact z
theorem law_facts {P : Program} {w : World} (ok : TxtOk t) (fit : TxtFit t) {i : Nat} {d : Def} (hd : t.defs[i]? = some d) (ha : d.ar = 1) (hn : d.N.take 1 = [("script" : Str)]) {LV : Nat} (law : ∀ ns : List Int, ns.length ≤ 63 → run t LV i [.scr ns] = .ok (.bl true))
    (X : K.In h) (G : h.Ns mainGlobals mg) (c : SaysZ t.fa t.fn t.cst t.dcs w K) {f : Addr} (hf : mg d.name = some (.ref f)) :
    ∃ (fd : FuncData) (sp : Sp), (∀ (s : Shared) (v : Value), BindsTo s fd ⟨[v], []⟩ [(("script" : Str), v)]) ∧ (∀ (H : Hp) (a : Addr) (ns : List Int), ns.length ≤ 63 → Only H → SqL K H a (ns.map V.int) → sp [.ref a] H (fun v _ => v = .bl true) fun _ _ _ => False) ∧
      ∀ base : Heap, K.In base → base.Ns mainGlobals mg → FnOk P w K mg base CXw LV f fd [("script" : Str)] sp := by
  have kn := known fit X G c
  have c : He.SaysD t.fa t.fn K := He.SaysT.d (congrArg (fun z : AlZ => z.1) c)
  obtain ⟨fd0, F⟩ := c.def_ i (d := mkD d) (by show (t.defs.map mkD)[i]? = _; rw [List.getElem?_map, hd]; rfl)
  have F : FunD K d.name d.name (defArgs d.st) (defBody d.st) (defScope d.st) [] [] (He.ga K d.name) fd0 := F
  have b : ∀ (s : Shared) (us : List Value), us.length = (d.N.take d.ar).length → BindsTo s fd0 ⟨us, []⟩ ((d.N.take d.ar).zip us) := fun s us hl => FunD.bindsA F (Each.get fit.bind hd) s us hl
  have hN : d.N.take d.ar = [("script" : Str)] := by rw [ha]; exact hn
  have gl : mg d.name = some (.ref (He.ga K d.name)) := He.glo_ok X G (fact_of c (by
    unfold Txt.fa
    simp only [List.mem_append]
    exact .inl (.inl (.inl (List.mem_map.mpr ⟨d, List.mem_of_getElem? hd, rfl⟩)))))
  rw [hf] at gl
  cases gl
  refine ⟨fd0, spD K mg (run t LV i) d.ar, fun s v => ?_, fun H a ns hl _ hS => ?_, fun base hB hG => ?_⟩
  · have := b s [v] (by rw [hN]; rfl)
    rw [hN] at this
    exact this
  · refine ⟨H, [.scr ns], fun _ _ z => z, RepL.cons (by simp only [Rep]; exact ⟨a, rfl, hS⟩) RepL.nil, by rw [ha]; rfl, ?_⟩
    rw [law ns hl]
    exact fun v H' F' e r => Rep.bl_iff.mp r
  · obtain ⟨f2, fd2, F2, hm, kp, hb, G2⟩ := fn_ok (P := P) (w := w) (base := base) ok kn LV i d hd
    rw [hf] at hm
    cases hm
    rw [hN] at F2
    have fdeq : fd2 = fd0 := by
      obtain ⟨_, _, _, _, _, _, _, _, _, _, e1, l1, _⟩ := F.ex
      obtain ⟨_, _, _, _, _, _, _, _, _, _, e2, l2, _⟩ := G2.ex
      rw [l1] at l2
      cases l2
      rfl
    subst fdeq
    refine ⟨F2.len, fun A outer s H args us vs Q E hr he hbn hv hs => codeAny_mono (F2.run A outer s H args us vs Q E hr he hbn hv hs) fun r s' z => ?_⟩
    cases r with
    | ok o => cases o <;> exact z
    | error e => exact ⟨P, w, z⟩
end
end Z
namespace Law
open PySem PySem.Spec PyProof.Rows L2 Z
def top (i : Nat) : Stmt := PySem.Challenge.pw_wordsblasted_k09_whole_places.main.body.getD i (.Pass ⟨0, 0, 0, 0⟩)
def b0 : Sms := (.cons (.ret [] (.and_ (.isi (.var 0) .int) (.and_ (.not_ (.isi (.var 0) .bool)) (.chn .le .le (.var 1) (.var 0) (.var 2))))) .nil)
def d0 : Def := { name := "is_whole", st := top 15, N := ["value", "least", "most"], ar := 3, muts := [], body := b0 }
def b1 : Sms := (.cons (.ret [] (.bin .shl (.cst (.int 1)) (.var 0))) .nil)
def d1 : Def := { name := "power", st := top 16, N := ["width"], ar := 1, muts := [], body := b1 }
def b2C0 : E := (.cmp .in_ (.own 1) (.ev (.glb "LETTERS" (.str "abcdefghijklmnopqrstuvwxyz"))))
def b2 : Sms := (.cons (.ret [] (.and_ (.isi (.var 0) .str) (.and_ (.chn .le .le (.cst (.int 1)) (.blt .len (.cons (.own 0) .nil)) (.glb "MOST_NAME" (.int 8))) (.blt .all (.cons (.ev (.comp b2C0 [1] (.nm 1) (.seq (.var 0)) (.cst (.bl true)))) .nil))))) .nil)
def d2 : Def := { name := "is_name", st := top 17, N := ["value", "sign"], ar := 1, muts := [], body := b2 }
def b3 : Sms := (.cons (.ret [] (.sl (.var 0) (.to (.gget "FIRST" [("word" , (.int 3)), ("var" , (.int 2)), ("part" , (.int 3)), ("zero" , (.int 2)), ("sign" , (.int 2))] (.ix (.own 0) (.cst (.int 0))) (.cst (.int 1)))) .no)) .nil)
def d3 : Def := { name := "inner", st := top 18, N := ["value"], ar := 1, muts := [], body := b3 }
def b4 : Sms := (.cons (.ret [] (.and_ (.isi (.var 0) .tuple) (.and_ (.cmp .gt (.ev (.blt .len (.cons (.own 0) .nil))) (.ev (.cst (.int 0)))) (.isi (.ix (.own 0) (.cst (.int 0))) .str)))) .nil)
def d4 : Def := { name := "_is_row", st := top 19, N := ["value"], ar := 1, muts := [], body := b4 }
def b5 : Sms := (.cons (.ite [] (.cmp .eq (.ev (.ix (.own 1) (.cst (.int 0)))) (.ev (.cst (.str "var")))) (.cons (.ret [] (.ite (.and_ (.cmp .eq (.ev (.blt .len (.cons (.own 1) .nil))) (.ev (.cst (.int 2)))) (.isi (.ix (.own 1) (.cst (.int 1))) .str)) (.dget1 (.own 0) (.ix (.own 1) (.cst (.int 1)))) (.cst .non))) .nil) .nil) (.cons (.ite [] (.or_ (.cmp .ne (.ev (.blt .len (.cons (.own 1) .nil))) (.ev (.cst (.int 3)))) (.not_ (.call 0 (.cons (.ix (.own 1) (.cst (.int 1))) (.cons (.cst (.int 1)) (.cons (.glb "MOST_WIDE" (.int 16)) .nil)))))) (.cons (.ret [] (.cst .non)) .nil) .nil) (.cons (.ret [] (.ite (.call 0 (.cons (.ix (.own 1) (.cst (.int 2))) (.cons (.cst (.int 0)) (.cons (.bin .sub (.call 1 (.cons (.ix (.own 1) (.cst (.int 1))) .nil)) (.cst (.int 1))) .nil)))) (.ix (.own 1) (.cst (.int 1))) (.cst .non))) .nil)))
def d5 : Def := { name := "_plain_width", st := top 20, N := ["widths", "value"], ar := 2, muts := [], body := b5 }
def b6C0 : E := (.call 6 (.cons (.var 1) .nil))
def b6 : Sms := (.cons (.ret [] (.bin .add (.cst (.int 1)) (.blt .sum (.cons (.ev (.comp b6C0 [1] (.nm 1) (.seq (.call 3 (.cons (.var 0) .nil))) (.cst (.bl true)))) .nil)))) .nil)
def d6 : Def := { name := "count_parts", st := top 21, N := ["value", "one"], ar := 1, muts := [], body := b6 }
def b7C0 : E := (.call 0 (.cons (.var 6) (.cons (.cst (.int 0)) (.cons (.call 1 (.cons (.glb "MOST_WIDE" (.int 16)) .nil)) .nil))))
def b7C1 : E := (.call 7 (.cons (.var 6) (.cons (.bin .sub (.var 1) (.cst (.int 1))) .nil)))
def b7S7 : Sm := (.ret [] (.blt .all (.cons (.ev (.comp b7C1 [6] (.nm 6) (.seq (.call 3 (.cons (.var 0) .nil))) (.cst (.bl true)))) .nil)))
def b7S6 : Sm := (.ite [] (.cmp .in_ (.own 4) (.ev (.tup (.cons (.cst (.str "part")) (.cons (.cst (.str "zero")) (.cons (.cst (.str "sign")) .nil)))))) (.cons (.ite [] (.not_ (.blt .all (.cons (.ev (.comp b7C0 [6] (.nm 6) (.seq (.sl (.var 0) (.to (.cst (.int 1))) (.to (.gix "FIRST" [("word" , (.int 3)), ("var" , (.int 2)), ("part" , (.int 3)), ("zero" , (.int 2)), ("sign" , (.int 2))] (.var 4))))) (.cst (.bl true)))) .nil))) (.cons (.ret [] (.cst (.bl false))) .nil) .nil) .nil) .nil)
def b7S5 : Sm := (.ite [] (.cmp .eq (.own 4) (.ev (.cst (.str "word")))) (.cons (.ret [] (.cmp .isn (.ev (.call 5 (.cons (.dis [] .nil) (.cons (.var 0) .nil)))) (.ev (.cst .non)))) .nil) .nil)
def b7S4 : Sm := (.ite [] (.or_ (.cmp .ne (.own 5) (.own 3)) (.and_ (.cmp .eq (.own 4) (.ev (.cst (.str "var")))) (.not_ (.call 2 (.cons (.ix (.own 0) (.cst (.int 1))) .nil))))) (.cons (.ret [] (.cst (.bl false))) .nil) .nil)
def b7S3 : Sm := (.set [] 3 false (.ite (.cmp .in_ (.own 4) (.ev (.glb "ONE" (.tup [(.str "not"), (.str "neg")])))) (.cst (.int 2)) (.ite (.or_ (.cmp .in_ (.own 4) (.ev (.glb "TWO" (.tup [(.str "and"), (.str "or"), (.str "xor"), (.str "add"), (.str "sub"), (.str "mul"), (.str "div"), (.str "rem"), (.str "shl"), (.str "shr"), (.str "sar")])))) (.or_ (.cmp .in_ (.own 4) (.ev (.glb "LOOKS" (.tup [(.str "same"), (.str "below"), (.str "less")])))) (.cmp .in_ (.own 4) (.ev (.glb "JOINS" (.tup [(.str "both"), (.str "either")])))))) (.cst (.int 3)) (.dget (.own 2) (.var 4) (.cst (.int 0))))))
def b7S2 : Sm := (.set [] 2 false (.dis [.inr "word", .inr "var", .inr "join", .inr "part", .inr "zero", .inr "sign", .inr "pick", .inr "no", .inr "true"] (.cons (.cst (.int 3)) (.cons (.cst (.int 2)) (.cons (.cst (.int 3)) (.cons (.cst (.int 4)) (.cons (.cst (.int 3)) (.cons (.cst (.int 3)) (.cons (.cst (.int 4)) (.cons (.cst (.int 2)) (.cons (.cst (.int 1)) .nil)))))))))))
def b7S1 : Sm := (.par [] 4 5 (.cons (.ix (.own 0) (.cst (.int 0))) (.cons (.blt .len (.cons (.own 0) .nil)) .nil)))
def b7S0 : Sm := (.ite [] (.or_ (.cmp .eq (.own 1) (.ev (.cst (.int 0)))) (.not_ (.call 4 (.cons (.var 0) .nil)))) (.cons (.ret [] (.cst (.bl false))) .nil) .nil)
def b7 : Sms := (.cons b7S0 (.cons b7S1 (.cons b7S2 (.cons b7S3 (.cons b7S4 (.cons b7S5 (.cons b7S6 (.cons b7S7 .nil))))))))
def d7 : Def := { name := "_shape", st := top 22, N := ["value", "deep", "sizes", "due", "kind", "size", "one"], ar := 2, muts := [], body := b7 }
def b8 : Sms := (.cons (.ret [] (.and_ (.call 7 (.cons (.var 0) (.cons (.glb "MOST_DEEP" (.int 7)) .nil))) (.cmp .le (.ev (.call 6 (.cons (.var 0) .nil))) (.ev (.glb "MOST_PARTS" (.int 60)))))) .nil)
def d8 : Def := { name := "has_shape", st := top 23, N := ["value"], ar := 1, muts := [], body := b8 }
def b9 : Sms := (.cons (.ite [] (.not_ (.call 8 (.cons (.var 0) .nil))) (.cons (.rai "BadValue") .nil) .nil) .nil)
def d9 : Def := { name := "check_value", st := top 24, N := ["value"], ar := 1, muts := [], body := b9 }
def b10L0 : Sms := (.cons (.ext [] 2 (.call 10 (.cons (.var 4) (.cons (.bin .add (.var 1) (.tup (.cons (.var 3) .nil))) .nil)))) .nil)
def b10 : Sms := (.cons (.set [] 2 true (.lst (.cons (.var 1) .nil))) (.cons (.fo [] (.tp (.cons (.nm 3) (.cons (.nm 4) .nil))) (.enm (.call 3 (.cons (.var 0) .nil))) b10L0) (.cons (.ret [2] (.var 2)) .nil)))
def d10 : Def := { name := "places_by", st := top 29, N := ["value", "above", "found", "number", "one"], ar := 2, muts := [2], body := b10 }
def b11 : Sms := (.cons (.exp [] (.call 9 (.cons (.var 0) .nil))) (.cons (.ret [] (.mkb .tuple (.cons (.mkb .sorted (.cons (.call 10 (.cons (.var 0) (.cons (.tup .nil) .nil))) .nil)) .nil))) .nil))
def d11 : Def := { name := "places_of", st := top 30, N := ["value"], ar := 1, muts := [], body := b11 }
def b12L0 : Sms := (.cons (.set [] 0 false (.ix (.ev (.call 3 (.cons (.var 0) .nil))) (.var 2))) .nil)
def b12 : Sms := (.cons (.fo [] (.nm 2) (.seq (.var 1)) b12L0) (.cons (.ret [] (.var 0)) .nil))
def d12 : Def := { name := "stands_at", st := top 31, N := ["value", "place", "number"], ar := 2, muts := [], body := b12 }
def b13 : Sms := (.cons (.ite [] (.cmp .eq (.own 1) (.ev (.tup .nil))) (.cons (.ret [] (.var 2)) .nil) .nil) (.cons (.set [] 3 false (.bin .add (.gget "FIRST" [("word" , (.int 3)), ("var" , (.int 2)), ("part" , (.int 3)), ("zero" , (.int 2)), ("sign" , (.int 2))] (.ix (.own 0) (.cst (.int 0))) (.cst (.int 1))) (.ix (.own 1) (.cst (.int 0))))) (.cons (.ret [] (.bin .add (.bin .add (.sl (.var 0) .no (.to (.var 3))) (.tup (.cons (.call 13 (.cons (.ix (.own 0) (.var 3)) (.cons (.sl (.var 1) (.to (.cst (.int 1))) .no) (.cons (.var 2) .nil)))) .nil))) (.sl (.var 0) (.to (.bin .add (.var 3) (.cst (.int 1)))) .no))) .nil)))
def d13 : Def := { name := "put_in", st := top 32, N := ["value", "place", "other", "number"], ar := 3, muts := [], body := b13 }
def b14C0 : E := (.and_ (.isi (.var 1) .int) (.and_ (.not_ (.isi (.var 1) .bool)) (.cmp .ge (.own 1) (.ev (.cst (.int 0))))))
def b14 : Sms := (.cons (.ite [] (.not_ (.isi (.var 0) .tuple)) (.cons (.ret [] (.cst (.bl false))) .nil) .nil) (.cons (.ret [] (.blt .all (.cons (.ev (.comp b14C0 [1] (.nm 1) (.seq (.var 0)) (.cst (.bl true)))) .nil))) .nil))
def d14 : Def := { name := "_is_place", st := top 33, N := ["value", "one"], ar := 1, muts := [], body := b14 }
def b15 : Sms := (.cons (.ite [] (.or_ (.not_ (.call 14 (.cons (.var 1) .nil))) (.cmp .nin (.own 1) (.ev (.call 10 (.cons (.var 0) (.cons (.tup .nil) .nil)))))) (.cons (.rai "BadPlace") .nil) .nil) .nil)
def d15 : Def := { name := "_check_place", st := top 34, N := ["value", "place"], ar := 2, muts := [], body := b15 }
def b16 : Sms := (.cons (.exp [] (.call 9 (.cons (.var 0) .nil))) (.cons (.exp [] (.call 15 (.cons (.var 0) (.cons (.var 1) .nil)))) (.cons (.ret [] (.call 12 (.cons (.var 0) (.cons (.var 1) .nil)))) .nil)))
def d16 : Def := { name := "at_place", st := top 35, N := ["value", "place"], ar := 2, muts := [], body := b16 }
def b17S3 : Sm := (.ret [] (.call 13 (.cons (.var 0) (.cons (.var 1) (.cons (.var 2) .nil)))))
def b17S2 : Sm := (.exp [] (.call 9 (.cons (.var 2) .nil)))
def b17S1 : Sm := (.exp [] (.call 15 (.cons (.var 0) (.cons (.var 1) .nil))))
def b17S0 : Sm := (.exp [] (.call 9 (.cons (.var 0) .nil)))
def b17 : Sms := (.cons b17S0 (.cons b17S1 (.cons b17S2 (.cons b17S3 .nil))))
def d17 : Def := { name := "put_at", st := top 36, N := ["value", "place", "other"], ar := 3, muts := [], body := b17 }
def b18C0 : E := (.call 18 (.cons (.var 2) .nil))
def b18 : Sms := (.cons (.set [] 1 false (.gget "WEIGHTS" [("word" , (.int 1)), ("var" , (.int 1)), ("true" , (.int 1)), ("no" , (.int 1)), ("mul" , (.int 6)), ("div" , (.int 6)), ("rem" , (.int 6)), ("below" , (.int 5)), ("less" , (.int 5))] (.ix (.own 0) (.cst (.int 0))) (.gget "MORE_WEIGHTS" [("shl" , (.int 4)), ("shr" , (.int 4)), ("sar" , (.int 4)), ("pick" , (.int 3))] (.ix (.own 0) (.cst (.int 0))) (.glb "PLAIN_WEIGHT" (.int 2))))) (.cons (.ret [] (.bin .add (.var 1) (.blt .sum (.cons (.ev (.comp b18C0 [2] (.nm 2) (.seq (.call 3 (.cons (.var 0) .nil))) (.cst (.bl true)))) .nil)))) .nil))
def d18 : Def := { name := "weight_by", st := top 37, N := ["value", "own", "one"], ar := 1, muts := [], body := b18 }
def b19 : Sms := (.cons (.exp [] (.call 9 (.cons (.var 0) .nil))) (.cons (.ret [] (.call 18 (.cons (.var 0) .nil))) .nil))
def d19 : Def := { name := "weight_of", st := top 38, N := ["value"], ar := 1, muts := [], body := b19 }
def b20L0 : Sms := (.cons (.ite [] (.cmp .gt (.own 6) (.ev (.cst (.int 0)))) (.cons (.app [] 2 (.bin .mod (.blt .int (.cons (.own 6) .nil)) (.cst (.int 1009)))) (.cons (.set [] 6 false (.bin .div (.var 6) (.cst (.int 1009)))) .nil)) .nil) .nil)
def b20L1 : Sms := (.cons (.set [] 6 false (.blt .abs (.cons (.own 4) .nil))) (.cons (.set [] 3 false (.bin .mod (.blt .int (.cons (.ev (.bin .add (.bin .add (.bin .mul (.var 3) (.cst (.int 48271))) (.var 6)) (.cst (.int 11)))) .nil)) (.cst (.int 2147483647)))) (.cons (.ite [] (.cmp .ge (.own 6) (.ev (.bin .pow (.cst (.int 10)) (.cst (.int 18))))) (.cons (.fo [] (.nm 5) (.rng1 (.cst (.int 60))) b20L0) .nil) (.cons (.app [] 2 (.bin .mod (.bin .div (.blt .int (.cons (.ev (.bin .add (.bin .mul (.var 3) (.cst (.int 16807))) (.cst (.int 5)))) .nil)) (.cst (.int 3))) (.cst (.int 65521)))) .nil)) .nil)))
def b20L2 : Sms := (.cons (.ite [] (.cmp .lt (.ev (.blt .len (.cons (.own 2) .nil))) (.own 1)) (.cons (.set [] 3 false (.bin .mod (.blt .int (.cons (.ev (.bin .add (.bin .add (.bin .mul (.var 3) (.cst (.int 69621))) (.var 5)) (.cst (.int 1)))) .nil)) (.cst (.int 2147483647)))) (.cons (.app [] 2 (.bin .mod (.bin .div (.blt .int (.cons (.own 3) .nil)) (.cst (.int 7))) (.cst (.int 65521)))) .nil)) .nil) .nil)
def b20S4 : Sm := (.ret [2] (.sl (.var 2) .no (.to (.var 1))))
def b20S3 : Sm := (.fo [] (.nm 5) (.rng1 (.var 1)) b20L2)
def b20S2 : Sm := (.fo [] (.nm 4) (.seq (.sl (.var 0) .no (.to (.cst (.int 63))))) b20L1)
def b20S1 : Sm := (.set [] 3 false (.cst (.int 7)))
def b20S0 : Sm := (.set [] 2 true (.lst .nil))
def b20 : Sms := (.cons b20S0 (.cons b20S1 (.cons b20S2 (.cons b20S3 (.cons b20S4 .nil)))))
def d20 : Def := { name := "_law_draws", st := top 40, N := ["script", "many", "draws", "seed", "cell", "k", "number"], ar := 2, muts := [2], body := b20 }
def b21C0 : E := (.tup (.cons (.ix (.ev (.cst (.str "xyz"))) (.var 1)) (.cons (.bin .add (.cst (.int 1)) (.bin .mod (.blt .int (.cons (.ev (.ix (.own 0) (.bin .add (.cst (.int 1)) (.var 1)))) .nil)) (.ix (.ev (.lst (.cons (.cst (.int 7)) (.cons (.cst (.int 3)) (.cons (.cst (.int 2)) .nil))))) (.bin .mod (.blt .int (.cons (.ev (.ix (.own 0) (.cst (.int 0)))) .nil)) (.cst (.int 3)))))) .nil)))
def b21 : Sms := (.cons (.ret [] (.mkb .tuple (.cons (.comp b21C0 [1] (.nm 1) (.rng1 (.bin .add (.cst (.int 1)) (.bin .mod (.blt .int (.cons (.ev (.ix (.own 0) (.cst (.int 0)))) .nil)) (.cst (.int 3))))) (.cst (.bl true))) .nil))) .nil)
def d21 : Def := { name := "_law_words", st := top 41, N := ["draws", "k"], ar := 1, muts := [], body := b21 }
def b22S5 : Sm := (.ret [] (.tup (.cons (.cst (.str "part")) (.cons (.bin .sub (.bin .add (.var 3) (.var 2)) (.cst (.int 1))) (.cons (.var 3) (.cons (.tup (.cons (.cst (.str "var")) (.cons (.var 4) .nil))) .nil))))))
def b22S4 : Sm := (.set [] 3 false (.bin .mod (.blt .int (.cons (.ev (.ix (.own 0) (.cst (.int 2)))) .nil)) (.bin .add (.bin .sub (.var 5) (.var 2)) (.cst (.int 1)))))
def b22S3 : Sm := (.ite [] (.cmp .lt (.own 5) (.own 2)) (.cons (.ret [] (.tup (.cons (.ix (.ev (.lst (.cons (.cst (.str "zero")) (.cons (.cst (.str "sign")) .nil)))) (.bin .mod (.blt .int (.cons (.ev (.ix (.own 0) (.cst (.int 2)))) .nil)) (.cst (.int 2)))) (.cons (.bin .sub (.var 2) (.var 5)) (.cons (.tup (.cons (.cst (.str "var")) (.cons (.var 4) .nil))) .nil))))) .nil) .nil)
def b22S2 : Sm := (.ite [] (.cmp .eq (.own 5) (.own 2)) (.cons (.ret [] (.tup (.cons (.cst (.str "var")) (.cons (.var 4) .nil)))) .nil) .nil)
def b22S1 : Sm := (.ite [] (.cmp .eq (.ev (.bin .mod (.blt .int (.cons (.ev (.ix (.own 0) (.cst (.int 1)))) .nil)) (.cst (.int 4)))) (.ev (.cst (.int 0)))) (.cons (.ret [] (.tup (.cons (.cst (.str "word")) (.cons (.var 2) (.cons (.bin .mod (.blt .int (.cons (.ev (.ix (.own 0) (.cst (.int 2)))) .nil)) (.ix (.ev (.lst (.cons (.cst (.int 1)) (.cons (.cst (.int 2)) (.cons (.cst (.int 4)) (.cons (.cst (.int 8)) (.cons (.cst (.int 16)) (.cons (.cst (.int 32)) (.cons (.cst (.int 64)) (.cons (.cst (.int 128)) (.cons (.cst (.int 256)) (.cons (.cst (.int 512)) (.cons (.cst (.int 1024)) (.cons (.cst (.int 2048)) (.cons (.cst (.int 4096)) (.cons (.cst (.int 8192)) (.cons (.cst (.int 16384)) (.cons (.cst (.int 32768)) (.cons (.cst (.int 65536)) .nil))))))))))))))))))) (.var 2))) .nil))))) .nil) .nil)
def b22S0 : Sm := (.unp [] (.tp (.cons (.nm 4) (.cons (.nm 5) .nil))) (.ix (.own 1) (.bin .mod (.blt .int (.cons (.ev (.ix (.own 0) (.cst (.int 0)))) .nil)) (.blt .len (.cons (.own 1) .nil)))))
def b22 : Sms := (.cons b22S0 (.cons b22S1 (.cons b22S2 (.cons b22S3 (.cons b22S4 (.cons b22S5 .nil))))))
def d22 : Def := { name := "_law_leaf", st := top 42, N := ["draws", "words", "width", "low", "name", "own"], ar := 3, muts := [], body := b22 }
def b23S8 : Sm := (.ret [] (.tup (.cons (.ix (.ev (.lst (.cons (.cst (.str "and")) (.cons (.cst (.str "or")) (.cons (.cst (.str "xor")) (.cons (.cst (.str "add")) (.cons (.cst (.str "sub")) (.cons (.cst (.str "mul")) (.cons (.cst (.str "div")) (.cons (.cst (.str "rem")) (.cons (.cst (.str "shl")) (.cons (.cst (.str "shr")) (.cons (.cst (.str "sar")) (.cons (.cst (.str "add")) .nil)))))))))))))) (.bin .sub (.var 4) (.cst (.int 10)))) (.cons (.var 7) (.cons (.var 8) .nil)))))
def b23S7 : Sm := (.ite [] (.cmp .gt (.own 4) (.ev (.cst (.int 21)))) (.cons (.ret [] (.tup (.cons (.cst (.str "pick")) (.cons (.call 24 (.cons (.sl (.var 0) (.to (.cst (.int 4))) .no) (.cons (.bin .sub (.var 1) (.cst (.int 1))) (.cons (.var 2) .nil)))) (.cons (.var 7) (.cons (.var 8) .nil)))))) .nil) .nil)
def b23S6 : Sm := (.par [] 7 8 (.cons (.call 23 (.cons (.sl (.var 0) (.to (.cst (.int 2))) .no) (.cons (.bin .sub (.var 1) (.cst (.int 1))) (.cons (.var 2) (.cons (.var 3) .nil))))) (.cons (.call 23 (.cons (.sl (.var 0) (.to (.cst (.int 7))) .no) (.cons (.bin .sub (.var 1) (.cst (.int 1))) (.cons (.var 2) (.cons (.var 3) .nil))))) .nil)))
def b23S5 : Sm := (.ite [] (.cmp .lt (.own 4) (.ev (.cst (.int 10)))) (.cons (.ret [] (.tup (.cons (.ix (.ev (.lst (.cons (.cst (.str "not")) (.cons (.cst (.str "neg")) .nil)))) (.bin .mod (.var 5) (.cst (.int 2)))) (.cons (.call 23 (.cons (.sl (.var 0) (.to (.cst (.int 2))) .no) (.cons (.bin .sub (.var 1) (.cst (.int 1))) (.cons (.var 2) (.cons (.var 3) .nil))))) .nil)))) .nil) .nil)
def b23S4 : Sm := (.ite [] (.and_ (.cmp .eq (.own 4) (.ev (.cst (.int 7)))) (.cmp .lt (.own 3) (.ev (.cst (.int 7))))) (.cons (.ret [] (.tup (.cons (.cst (.str "part")) (.cons (.var 3) (.cons (.cst (.int 1)) (.cons (.call 23 (.cons (.sl (.var 0) (.to (.cst (.int 2))) .no) (.cons (.bin .sub (.var 1) (.cst (.int 1))) (.cons (.var 2) (.cons (.bin .add (.bin .add (.var 3) (.cst (.int 1))) (.bin .mod (.var 5) (.cst (.int 2)))) .nil))))) .nil)))))) .nil) .nil)
def b23S3 : Sm := (.ite [] (.and_ (.cmp .eq (.own 4) (.ev (.cst (.int 6)))) (.cmp .gt (.own 3) (.ev (.cst (.int 1))))) (.cons (.set [] 6 false (.bin .add (.cst (.int 1)) (.bin .mod (.var 5) (.bin .sub (.var 3) (.cst (.int 1)))))) (.cons (.ret [] (.tup (.cons (.ix (.ev (.lst (.cons (.cst (.str "zero")) (.cons (.cst (.str "sign")) .nil)))) (.bin .mod (.bin .div (.var 5) (.cst (.int 8))) (.cst (.int 2)))) (.cons (.bin .sub (.var 3) (.var 6)) (.cons (.call 23 (.cons (.sl (.var 0) (.to (.cst (.int 2))) .no) (.cons (.bin .sub (.var 1) (.cst (.int 1))) (.cons (.var 2) (.cons (.var 6) .nil))))) .nil))))) .nil)) .nil)
def b23S2 : Sm := (.ite [] (.and_ (.cmp .eq (.own 4) (.ev (.cst (.int 5)))) (.cmp .gt (.own 3) (.ev (.cst (.int 1))))) (.cons (.set [] 6 false (.bin .add (.cst (.int 1)) (.bin .mod (.var 5) (.bin .sub (.var 3) (.cst (.int 1)))))) (.cons (.ret [] (.tup (.cons (.cst (.str "join")) (.cons (.call 23 (.cons (.sl (.var 0) (.to (.cst (.int 2))) .no) (.cons (.bin .sub (.var 1) (.cst (.int 1))) (.cons (.var 2) (.cons (.bin .sub (.var 3) (.var 6)) .nil))))) (.cons (.call 23 (.cons (.sl (.var 0) (.to (.cst (.int 6))) .no) (.cons (.bin .sub (.var 1) (.cst (.int 1))) (.cons (.var 2) (.cons (.var 6) .nil))))) .nil))))) .nil)) .nil)
def b23S1 : Sm := (.ite [] (.or_ (.cmp .eq (.own 1) (.ev (.cst (.int 0)))) (.cmp .lt (.own 4) (.ev (.cst (.int 5))))) (.cons (.ret [] (.call 22 (.cons (.sl (.var 0) (.to (.cst (.int 1))) .no) (.cons (.var 2) (.cons (.var 3) .nil))))) .nil) .nil)
def b23S0 : Sm := (.par [] 4 5 (.cons (.bin .mod (.blt .int (.cons (.ev (.ix (.own 0) (.cst (.int 0)))) .nil)) (.cst (.int 24))) (.cons (.blt .int (.cons (.ev (.ix (.own 0) (.cst (.int 1)))) .nil)) .nil)))
def b23 : Sms := (.cons b23S0 (.cons b23S1 (.cons b23S2 (.cons b23S3 (.cons b23S4 (.cons b23S5 (.cons b23S6 (.cons b23S7 (.cons b23S8 .nil)))))))))
def d23 : Def := { name := "_law_expression", st := top 43, N := ["draws", "deep", "words", "width", "kind", "number", "low", "first", "second"], ar := 4, muts := [], body := b23 }
def b24S4 : Sm := (.ret [] (.tup (.cons (.ix (.ev (.lst (.cons (.cst (.str "same")) (.cons (.cst (.str "below")) (.cons (.cst (.str "less")) .nil))))) (.bin .mod (.var 4) (.cst (.int 3)))) (.cons (.call 23 (.cons (.sl (.var 0) (.to (.cst (.int 2))) .no) (.cons (.bin .sub (.var 1) (.cst (.int 1))) (.cons (.var 2) (.cons (.var 3) .nil))))) (.cons (.call 23 (.cons (.sl (.var 0) (.to (.cst (.int 8))) .no) (.cons (.bin .sub (.var 1) (.cst (.int 1))) (.cons (.var 2) (.cons (.var 3) .nil))))) .nil)))))
def b24S3 : Sm := (.set [] 3 false (.ix (.ev (.lst (.cons (.ix (.ev (.ix (.own 2) (.bin .mod (.var 5) (.blt .len (.cons (.own 2) .nil))))) (.cst (.int 1))) (.cons (.bin .add (.cst (.int 1)) (.bin .mod (.var 5) (.cst (.int 5)))) .nil)))) (.bin .mod (.bin .div (.var 5) (.cst (.int 16))) (.cst (.int 2)))))
def b24S2 : Sm := (.ite [] (.or_ (.cmp .eq (.own 1) (.ev (.cst (.int 0)))) (.and_ (.cmp .eq (.own 4) (.ev (.cst (.int 8)))) (.cmp .eq (.ev (.bin .mod (.var 5) (.cst (.int 4)))) (.ev (.cst (.int 0)))))) (.cons (.ret [] (.tup (.cons (.cst (.str "true")) .nil))) .nil) .nil)
def b24S1 : Sm := (.ite [] (.and_ (.cmp .gt (.own 4) (.ev (.cst (.int 8)))) (.cmp .gt (.own 1) (.ev (.cst (.int 1))))) (.cons (.set [] 6 false (.call 24 (.cons (.sl (.var 0) (.to (.cst (.int 2))) .no) (.cons (.bin .sub (.var 1) (.cst (.int 1))) (.cons (.var 2) .nil))))) (.cons (.ret [] (.ite (.cmp .eq (.own 4) (.ev (.cst (.int 9)))) (.tup (.cons (.cst (.str "no")) (.cons (.var 6) .nil))) (.tup (.cons (.ix (.ev (.lst (.cons (.cst (.str "both")) (.cons (.cst (.str "either")) .nil)))) (.bin .sub (.var 4) (.cst (.int 10)))) (.cons (.var 6) (.cons (.call 24 (.cons (.sl (.var 0) (.to (.cst (.int 9))) .no) (.cons (.bin .sub (.var 1) (.cst (.int 1))) (.cons (.var 2) .nil)))) .nil)))))) .nil)) .nil)
def b24S0 : Sm := (.par [] 4 5 (.cons (.bin .mod (.blt .int (.cons (.ev (.ix (.own 0) (.cst (.int 0)))) .nil)) (.cst (.int 12))) (.cons (.blt .int (.cons (.ev (.ix (.own 0) (.cst (.int 1)))) .nil)) .nil)))
def b24 : Sms := (.cons b24S0 (.cons b24S1 (.cons b24S2 (.cons b24S3 (.cons b24S4 .nil)))))
def d24 : Def := { name := "_law_assertion", st := top 44, N := ["draws", "deep", "words", "width", "kind", "number", "first"], ar := 3, muts := [], body := b24 }
def b25C0 : E := (.var 5)
def b25T0 : E := (.isi (.var 5) .tuple)
def b25L0 : Sms := (.cons (.set [] 2 false (.bin .add (.var 2) (.call 25 (.cons (.ix (.own 3) (.var 4)) (.cons (.bin .add (.var 1) (.tup (.cons (.var 4) .nil))) .nil))))) .nil)
def b25S3 : Sm := (.ret [] (.var 2))
def b25S2 : Sm := (.fo [] (.nm 4) (.rng1 (.blt .len (.cons (.own 3) .nil))) b25L0)
def b25S1 : Sm := (.set [] 3 false (.comp b25C0 [5] (.nm 5) (.seq (.sl (.var 0) (.to (.cst (.int 1))) .no)) b25T0))
def b25S0 : Sm := (.set [] 2 false (.lst (.cons (.tup (.cons (.var 1) (.cons (.var 0) .nil))) .nil)))
def b25 : Sms := (.cons b25S0 (.cons b25S1 (.cons b25S2 (.cons b25S3 .nil))))
def d25 : Def := { name := "_law_places", st := top 55, N := ["value", "above", "found", "parts", "k", "one"], ar := 2, muts := [], body := b25 }
def b26C0 : E := (.var 4)
def b26T0 : E := (.isi (.var 4) .tuple)
def b26 : Sms := (.cons (.ite [] (.cmp .eq (.own 1) (.ev (.tup .nil))) (.cons (.ret [] (.var 2)) .nil) .nil) (.cons (.set [] 3 false (.bin .add (.bin .sub (.blt .len (.cons (.own 0) .nil)) (.blt .len (.cons (.ev (.comp b26C0 [4] (.nm 4) (.seq (.sl (.var 0) (.to (.cst (.int 1))) .no)) b26T0)) .nil))) (.ix (.own 1) (.cst (.int 0))))) (.cons (.ret [] (.bin .add (.bin .add (.sl (.var 0) .no (.to (.var 3))) (.tup (.cons (.call 26 (.cons (.ix (.own 0) (.var 3)) (.cons (.sl (.var 1) (.to (.cst (.int 1))) .no) (.cons (.var 2) .nil)))) .nil))) (.sl (.var 0) (.to (.bin .add (.var 3) (.cst (.int 1)))) .no))) .nil)))
def d26 : Def := { name := "_law_put", st := top 56, N := ["value", "place", "other", "k", "one"], ar := 3, muts := [], body := b26 }
def b27C0 : E := (.dget (.own 1) (.ix (.own 3) (.cst (.int 0))) (.cst (.int 2)))
def b27 : Sms := (.cons (.set [] 1 false (.dis [.inr "word", .inr "var", .inr "true", .inr "no", .inr "mul", .inr "div", .inr "rem", .inr "below", .inr "less", .inr "shl", .inr "shr", .inr "sar", .inr "pick"] (.cons (.cst (.int 1)) (.cons (.cst (.int 1)) (.cons (.cst (.int 1)) (.cons (.cst (.int 1)) (.cons (.cst (.int 6)) (.cons (.cst (.int 6)) (.cons (.cst (.int 6)) (.cons (.cst (.int 5)) (.cons (.cst (.int 5)) (.cons (.cst (.int 4)) (.cons (.cst (.int 4)) (.cons (.cst (.int 4)) (.cons (.cst (.int 3)) .nil))))))))))))))) (.cons (.ret [] (.blt .sum (.cons (.ev (.comp b27C0 [2, 3] (.tp (.cons (.nm 2) (.cons (.nm 3) .nil))) (.seq (.call 25 (.cons (.var 0) (.cons (.tup .nil) .nil)))) (.cst (.bl true)))) .nil))) .nil))
def d27 : Def := { name := "_law_weight", st := top 57, N := ["value", "rows", "place", "own"], ar := 1, muts := [], body := b27 }
def b28B0 : Sms := (.cons (.ret [] (.ite (.cmp .eq (.own 0) (.ev (.cst (.int 0)))) (.call 16 (.cons (.var 1) (.cons (.var 2) .nil))) (.call 17 (.cons (.var 1) (.cons (.var 2) (.cons (.var 3) .nil)))))) .nil)
def b28 : Sms := (.cons (.tr b28B0 (.ret "BadValue" (.str "value") (.ret "BadPlace" (.str "place") .nil))) .nil)
def d28 : Def := { name := "_law_told", st := top 58, N := ["call", "value", "place", "other"], ar := 4, muts := [], body := b28 }
def b29B0 : Sms := (.cons (.ite [] (.cmp .eq (.own 0) (.ev (.cst (.int 0)))) (.cons (.exp [] (.call 11 (.cons (.var 1) .nil))) .nil) (.cons (.exp [] (.call 19 (.cons (.var 1) .nil))) .nil)) .nil)
def b29 : Sms := (.cons (.tr b29B0 (.ret "BadValue" (.bl true) .nil)) (.cons (.ret [] (.cst (.bl false))) .nil))
def d29 : Def := { name := "_law_is_refused", st := top 59, N := ["call", "value"], ar := 2, muts := [], body := b29 }
def b30C0 : E := (.var 11)
def b30L0 : Sms := (.cons (.ite [] (.or_ (.cmp .ne (.ev (.call 16 (.cons (.var 7) (.cons (.var 11) .nil)))) (.own 12)) (.or_ (.cmp .ne (.ev (.call 17 (.cons (.var 7) (.cons (.var 11) (.cons (.var 12) .nil))))) (.own 7)) (.cmp .ne (.ev (.call 17 (.cons (.var 7) (.cons (.var 11) (.cons (.var 8) .nil))))) (.ev (.call 26 (.cons (.var 7) (.cons (.var 11) (.cons (.var 8) .nil)))))))) (.cons (.ret [] (.cst (.bl false))) .nil) .nil) .nil)
def b30C1 : E := (.var 11)
def b30L1 : Sms := (.cons (.ite [] (.or_ (.cmp .ne (.ev (.call 28 (.cons (.cst (.int 0)) (.cons (.var 7) (.cons (.var 4) (.cons (.cst .non) .nil)))))) (.ev (.cst (.str "place")))) (.cmp .ne (.ev (.call 28 (.cons (.cst (.int 1)) (.cons (.var 7) (.cons (.var 4) (.cons (.cst .non) .nil)))))) (.ev (.cst (.str "place"))))) (.cons (.ret [] (.cst (.bl false))) .nil) .nil) .nil)
def b30C2 : E := (.call 28 (.cons (.cst (.int 1)) (.cons (.var 7) (.cons (.tup .nil) (.cons (.var 4) .nil)))))
def b30L2S7 : Sm := (.ite [] (.cmp .ne (.ev (.comp b30C2 [4] (.nm 4) (.seq (.tup (.cons (.cst .non) (.cons (.tup .nil) (.cons (.tup (.cons (.cst (.str "no")) .nil)) (.cons (.tup (.cons (.cst (.str "word")) (.cons (.cst (.int 2)) (.cons (.cst (.int 4)) .nil)))) (.cons (.tup (.cons (.cst (.str "add")) (.cons (.var 8) .nil))) .nil))))))) (.cst (.bl true)))) (.ev (.bin .mul (.lst (.cons (.cst (.str "value")) .nil)) (.cst (.int 5))))) (.cons (.ret [] (.cst (.bl false))) .nil) .nil)
def b30L2S6 : Sm := (.fo [] (.nm 4) (.seq (.tup (.cons (.cst .non) (.cons (.lst (.cons (.cst (.int 0)) .nil)) (.cons (.tup (.cons (.cst (.int 9)) .nil)) (.cons (.tup (.cons (.cst (.bl true)) .nil)) (.cons (.bin .add (.var 10) (.tup (.cons (.cst (.int 0)) .nil))) (.cons (.tup (.cons (.neg (.cst (.int 1))) .nil)) (.cons (.cst (.str "a")) (.cons (.cst (.int 0)) .nil)))))))))) b30L1)
def b30L2S5 : Sm := (.set [] 10 false (.ix (.ev (.mkb .sorted (.cons (.comp b30C1 [11, 12] (.tp (.cons (.nm 11) (.cons (.nm 12) .nil))) (.seq (.var 9)) (.cst (.bl true))) .nil))) (.neg (.cst (.int 1)))))
def b30L2S4 : Sm := (.fo [] (.tp (.cons (.nm 11) (.cons (.nm 12) .nil))) (.seq (.var 9)) b30L0)
def b30L2S3 : Sm := (.ite [] (.or_ (.cmp .ne (.ev (.call 11 (.cons (.var 7) .nil))) (.ev (.mkb .tuple (.cons (.mkb .sorted (.cons (.comp b30C0 [11, 12] (.tp (.cons (.nm 11) (.cons (.nm 12) .nil))) (.seq (.var 9)) (.cst (.bl true))) .nil)) .nil)))) (.cmp .ne (.ev (.call 19 (.cons (.var 7) .nil))) (.ev (.call 27 (.cons (.var 7) .nil))))) (.cons (.ret [] (.cst (.bl false))) .nil) .nil)
def b30L2S2 : Sm := (.set [] 9 false (.call 25 (.cons (.var 7) (.cons (.tup .nil) .nil))))
def b30L2S1 : Sm := (.set [] 8 false (.call 24 (.cons (.sl (.var 1) (.to (.bin .add (.cst (.int 200)) (.var 3))) .no) (.cons (.cst (.int 1)) (.cons (.var 2) .nil)))))
def b30L2S0 : Sm := (.set [] 7 false (.ite (.cmp .eq (.ev (.bin .mod (.var 3) (.cst (.int 2)))) (.ev (.cst (.int 0)))) (.call 23 (.cons (.sl (.var 1) (.to (.bin .add (.cst (.int 5)) (.bin .mul (.cst (.int 29)) (.var 3)))) .no) (.cons (.cst (.int 3)) (.cons (.var 2) (.cons (.bin .add (.cst (.int 1)) (.bin .mod (.blt .int (.cons (.ev (.ix (.own 1) (.cst (.int 4)))) .nil)) (.cst (.int 6)))) .nil))))) (.call 24 (.cons (.sl (.var 1) (.to (.bin .add (.cst (.int 5)) (.bin .mul (.cst (.int 29)) (.var 3)))) .no) (.cons (.cst (.int 3)) (.cons (.var 2) .nil))))))
def b30L2 : Sms := (.cons b30L2S0 (.cons b30L2S1 (.cons b30L2S2 (.cons b30L2S3 (.cons b30L2S4 (.cons b30L2S5 (.cons b30L2S6 (.cons b30L2S7 .nil))))))))
def b30L3 : Sms := (.cons (.ite [] (.or_ (.not_ (.call 29 (.cons (.cst (.int 0)) (.cons (.var 4) .nil)))) (.or_ (.not_ (.call 29 (.cons (.cst (.int 1)) (.cons (.var 4) .nil)))) (.or_ (.cmp .ne (.ev (.call 28 (.cons (.cst (.int 0)) (.cons (.var 4) (.cons (.cst .non) (.cons (.cst .non) .nil)))))) (.ev (.cst (.str "value")))) (.cmp .ne (.ev (.call 28 (.cons (.cst (.int 1)) (.cons (.var 4) (.cons (.cst .non) (.cons (.cst .non) .nil)))))) (.ev (.cst (.str "value"))))))) (.cons (.ret [] (.cst (.bl false))) .nil) .nil) .nil)
def b30L4 : Sms := (.cons (.set [] 5 false (.tup (.cons (.cst (.str "not")) (.cons (.var 5) .nil)))) .nil)
def b30C3 : E := (.bin .mul (.tup (.cons (.cst (.int 0)) .nil)) (.var 6))
def b30S6 : Sm := (.ret [] (.and_ (.call 29 (.cons (.cst (.int 0)) (.cons (.var 5) .nil))) (.and_ (.cmp .eq (.ev (.call 11 (.cons (.ix (.own 5) (.cst (.int 1))) .nil))) (.ev (.mkb .tuple (.cons (.comp b30C3 [6] (.nm 6) (.rng1 (.cst (.int 7))) (.cst (.bl true))) .nil)))) (.cmp .eq (.ev (.call 19 (.cons (.ix (.own 5) (.cst (.int 1))) .nil))) (.ev (.cst (.int 13)))))))
def b30S5 : Sm := (.fo [] (.nm 6) (.rng1 (.cst (.int 7))) b30L4)
def b30S4 : Sm := (.set [] 5 false (.tup (.cons (.cst (.str "var")) (.cons (.cst (.str "x")) .nil))))
def b30S3 : Sm := (.fo [] (.nm 4) (.seq (.tup (.cons (.cst .non) (.cons (.tup .nil) (.cons (.tup (.cons (.cst (.str "var")) .nil)) (.cons (.tup (.cons (.cst (.str "var")) (.cons (.cst (.str "X")) .nil))) (.cons (.tup (.cons (.cst (.str "add")) (.cons (.tup (.cons (.cst (.str "var")) (.cons (.cst (.str "x")) .nil))) .nil))) (.cons (.lst (.cons (.cst (.str "true")) .nil)) (.cons (.tup (.cons (.cst (.str "true")) (.cons (.cst (.int 1)) .nil))) (.cons (.tup (.cons (.cst (.str "word")) (.cons (.cst (.int 0)) (.cons (.cst (.int 0)) .nil)))) (.cons (.tup (.cons (.cst (.str "word")) (.cons (.cst (.int 1)) (.cons (.cst (.int 2)) .nil)))) (.cons (.tup (.cons (.cst (.str "part")) (.cons (.neg (.cst (.int 1))) (.cons (.cst (.int 0)) (.cons (.tup (.cons (.cst (.str "var")) (.cons (.cst (.str "x")) .nil))) .nil))))) (.cons (.tup (.cons (.cst (.str "zero")) (.cons (.cst (.bl true)) (.cons (.tup (.cons (.cst (.str "var")) (.cons (.cst (.str "x")) .nil))) .nil)))) (.cons (.cst (.str "true")) .nil)))))))))))))) b30L3)
def b30S2 : Sm := (.fo [] (.nm 3) (.rng1 (.cst (.int 6))) b30L2)
def b30S1 : Sm := (.set [] 2 false (.call 21 (.cons (.var 1) .nil)))
def b30S0 : Sm := (.set [] 1 false (.call 20 (.cons (.var 0) (.cons (.cst (.int 300)) .nil))))
def b30 : Sms := (.cons b30S0 (.cons b30S1 (.cons b30S2 (.cons b30S3 (.cons b30S4 (.cons b30S5 (.cons b30S6 .nil)))))))
def d30 : Def := { name := "law", st := top 60, N := ["script", "draws", "words", "turn", "wrong", "deep", "k", "one", "other", "rows", "last", "place", "own"], ar := 1, muts := [], body := b30 }
def csts : List (Str × D) := [("LETTERS", (.str "abcdefghijklmnopqrstuvwxyz")), ("MOST_NAME", (.int 8)), ("MOST_WIDE", (.int 16)), ("MOST_DEEP", (.int 7)), ("MOST_PARTS", (.int 60)), ("ONE", (.tup [(.str "not"), (.str "neg")])), ("TWO", (.tup [(.str "and"), (.str "or"), (.str "xor"), (.str "add"), (.str "sub"), (.str "mul"), (.str "div"), (.str "rem"), (.str "shl"), (.str "shr"), (.str "sar")])), ("LOOKS", (.tup [(.str "same"), (.str "below"), (.str "less")])), ("JOINS", (.tup [(.str "both"), (.str "either")])), ("PLAIN_WEIGHT", (.int 2))]
def excs : List Str := ["BadValue", "BadPlace"]
def sBadValue : Str := "BadValue"
def sBadPlace : Str := "BadPlace"
def subs : List ((Str × Str) × Bool) := [((sBadValue, sBadValue), true), ((sBadValue, sBadPlace), false), ((sBadPlace, sBadValue), false), ((sBadPlace, sBadPlace), true)]
def dcts : List (Str × List (Str × D)) := [("FIRST", [("word", (.int 3)), ("var", (.int 2)), ("part", (.int 3)), ("zero", (.int 2)), ("sign", (.int 2))]), ("WEIGHTS", [("word", (.int 1)), ("var", (.int 1)), ("true", (.int 1)), ("no", (.int 1)), ("mul", (.int 6)), ("div", (.int 6)), ("rem", (.int 6)), ("below", (.int 5)), ("less", (.int 5))]), ("MORE_WEIGHTS", [("shl", (.int 4)), ("shr", (.int 4)), ("sar", (.int 4)), ("pick", (.int 3))])]
def txt : Txt := { defs := [d0, d1, d2, d3, d4, d5, d6, d7, d8, d9, d10, d11, d12, d13, d14, d15, d16, d17, d18, d19, d20, d21, d22, d23, d24, d25, d26, d27, d28, d29, d30], cst := csts, exc := excs, sub := subs, dcs := dcts }
theorem ok0 : DefOk txt d0 := ⟨by kernel_rfl, ⟨rfl, rfl, rfl, by decide +kernel, rfl, by decide +kernel, by decide +kernel⟩, by decide, by decide +kernel⟩
theorem bd0 : BindOk d0 := fun _ _ _ _ _ _ us hl => match us, hl with | [_, _, _], _ => rfl
theorem ok1 : DefOk txt d1 := ⟨by kernel_rfl, ⟨rfl, rfl, rfl, by decide +kernel, rfl, by decide +kernel, by decide +kernel⟩, by decide, by decide +kernel⟩
theorem bd1 : BindOk d1 := fun _ _ _ _ _ _ us hl => match us, hl with | [_], _ => rfl
theorem ok2 : DefOk txt d2 := ⟨by kernel_rfl, ⟨rfl, rfl, rfl, by decide +kernel, rfl, by decide +kernel, by decide +kernel⟩, by decide, by decide +kernel⟩
theorem bd2 : BindOk d2 := fun _ _ _ _ _ _ us hl => match us, hl with | [_], _ => rfl
theorem ok3 : DefOk txt d3 := ⟨by kernel_rfl, ⟨rfl, rfl, rfl, by decide +kernel, rfl, by decide +kernel, by decide +kernel⟩, by decide, by decide +kernel⟩
theorem bd3 : BindOk d3 := fun _ _ _ _ _ _ us hl => match us, hl with | [_], _ => rfl
theorem ok4 : DefOk txt d4 := ⟨by kernel_rfl, ⟨rfl, rfl, rfl, by decide +kernel, rfl, by decide +kernel, by decide +kernel⟩, by decide, by decide +kernel⟩
theorem bd4 : BindOk d4 := fun _ _ _ _ _ _ us hl => match us, hl with | [_], _ => rfl
theorem ok5 : DefOk txt d5 := ⟨by kernel_rfl, ⟨rfl, rfl, rfl, by decide +kernel, rfl, by decide +kernel, by decide +kernel⟩, by decide, by decide +kernel⟩
theorem bd5 : BindOk d5 := fun _ _ _ _ _ _ us hl => match us, hl with | [_, _], _ => rfl
theorem ok6 : DefOk txt d6 := ⟨by kernel_rfl, ⟨rfl, rfl, rfl, by decide +kernel, rfl, by decide +kernel, by decide +kernel⟩, by decide, by decide +kernel⟩
theorem bd6 : BindOk d6 := fun _ _ _ _ _ _ us hl => match us, hl with | [_], _ => rfl
theorem ok7 : DefOk txt d7 := ⟨by kernel_rfl, ⟨rfl, rfl, rfl, by decide +kernel, rfl, by decide +kernel, by decide +kernel⟩, by decide, by decide +kernel⟩
theorem bd7 : BindOk d7 := fun _ _ _ _ _ _ us hl => match us, hl with | [_, _], _ => rfl
theorem ok8 : DefOk txt d8 := ⟨by kernel_rfl, ⟨rfl, rfl, rfl, by decide +kernel, rfl, by decide +kernel, by decide +kernel⟩, by decide, by decide +kernel⟩
theorem bd8 : BindOk d8 := fun _ _ _ _ _ _ us hl => match us, hl with | [_], _ => rfl
theorem ok9 : DefOk txt d9 := ⟨by kernel_rfl, ⟨rfl, rfl, rfl, by decide +kernel, rfl, by decide +kernel, by decide +kernel⟩, by decide, by decide +kernel⟩
theorem bd9 : BindOk d9 := fun _ _ _ _ _ _ us hl => match us, hl with | [_], _ => rfl
theorem ok10 : DefOk txt d10 := ⟨by kernel_rfl, ⟨rfl, rfl, rfl, by decide +kernel, rfl, by decide +kernel, by decide +kernel⟩, by decide, by decide +kernel⟩
theorem bd10 : BindOk d10 := fun _ _ _ _ _ _ us hl => match us, hl with | [_, _], _ => rfl
theorem ok11 : DefOk txt d11 := ⟨by kernel_rfl, ⟨rfl, rfl, rfl, by decide +kernel, rfl, by decide +kernel, by decide +kernel⟩, by decide, by decide +kernel⟩
theorem bd11 : BindOk d11 := fun _ _ _ _ _ _ us hl => match us, hl with | [_], _ => rfl
theorem ok12 : DefOk txt d12 := ⟨by kernel_rfl, ⟨rfl, rfl, rfl, by decide +kernel, rfl, by decide +kernel, by decide +kernel⟩, by decide, by decide +kernel⟩
theorem bd12 : BindOk d12 := fun _ _ _ _ _ _ us hl => match us, hl with | [_, _], _ => rfl
theorem ok13 : DefOk txt d13 := ⟨by kernel_rfl, ⟨rfl, rfl, rfl, by decide +kernel, rfl, by decide +kernel, by decide +kernel⟩, by decide, by decide +kernel⟩
theorem bd13 : BindOk d13 := fun _ _ _ _ _ _ us hl => match us, hl with | [_, _, _], _ => rfl
theorem ok14 : DefOk txt d14 := ⟨by kernel_rfl, ⟨rfl, rfl, rfl, by decide +kernel, rfl, by decide +kernel, by decide +kernel⟩, by decide, by decide +kernel⟩
theorem bd14 : BindOk d14 := fun _ _ _ _ _ _ us hl => match us, hl with | [_], _ => rfl
theorem ok15 : DefOk txt d15 := ⟨by kernel_rfl, ⟨rfl, rfl, rfl, by decide +kernel, rfl, by decide +kernel, by decide +kernel⟩, by decide, by decide +kernel⟩
theorem bd15 : BindOk d15 := fun _ _ _ _ _ _ us hl => match us, hl with | [_, _], _ => rfl
theorem ok16 : DefOk txt d16 := ⟨by kernel_rfl, ⟨rfl, rfl, rfl, by decide +kernel, rfl, by decide +kernel, by decide +kernel⟩, by decide, by decide +kernel⟩
theorem bd16 : BindOk d16 := fun _ _ _ _ _ _ us hl => match us, hl with | [_, _], _ => rfl
theorem ok17 : DefOk txt d17 := ⟨by kernel_rfl, ⟨rfl, rfl, rfl, by decide +kernel, rfl, by decide +kernel, by decide +kernel⟩, by decide, by decide +kernel⟩
theorem bd17 : BindOk d17 := fun _ _ _ _ _ _ us hl => match us, hl with | [_, _, _], _ => rfl
theorem ok18 : DefOk txt d18 := ⟨by kernel_rfl, ⟨rfl, rfl, rfl, by decide +kernel, rfl, by decide +kernel, by decide +kernel⟩, by decide, by decide +kernel⟩
theorem bd18 : BindOk d18 := fun _ _ _ _ _ _ us hl => match us, hl with | [_], _ => rfl
theorem ok19 : DefOk txt d19 := ⟨by kernel_rfl, ⟨rfl, rfl, rfl, by decide +kernel, rfl, by decide +kernel, by decide +kernel⟩, by decide, by decide +kernel⟩
theorem bd19 : BindOk d19 := fun _ _ _ _ _ _ us hl => match us, hl with | [_], _ => rfl
theorem ok20 : DefOk txt d20 := ⟨by kernel_rfl, ⟨rfl, rfl, rfl, by decide +kernel, rfl, by decide +kernel, by decide +kernel⟩, by decide, by decide +kernel⟩
theorem bd20 : BindOk d20 := fun _ _ _ _ _ _ us hl => match us, hl with | [_, _], _ => rfl
theorem ok21 : DefOk txt d21 := ⟨by kernel_rfl, ⟨rfl, rfl, rfl, by decide +kernel, rfl, by decide +kernel, by decide +kernel⟩, by decide, by decide +kernel⟩
theorem bd21 : BindOk d21 := fun _ _ _ _ _ _ us hl => match us, hl with | [_], _ => rfl
theorem ok22 : DefOk txt d22 := ⟨by kernel_rfl, ⟨rfl, rfl, rfl, by decide +kernel, rfl, by decide +kernel, by decide +kernel⟩, by decide, by decide +kernel⟩
theorem bd22 : BindOk d22 := fun _ _ _ _ _ _ us hl => match us, hl with | [_, _, _], _ => rfl
theorem ok23 : DefOk txt d23 := ⟨by kernel_rfl, ⟨rfl, rfl, rfl, by decide +kernel, rfl, by decide +kernel, by decide +kernel⟩, by decide, by decide +kernel⟩
theorem bd23 : BindOk d23 := fun _ _ _ _ _ _ us hl => match us, hl with | [_, _, _, _], _ => rfl
theorem ok24 : DefOk txt d24 := ⟨by kernel_rfl, ⟨rfl, rfl, rfl, by decide +kernel, rfl, by decide +kernel, by decide +kernel⟩, by decide, by decide +kernel⟩
theorem bd24 : BindOk d24 := fun _ _ _ _ _ _ us hl => match us, hl with | [_, _, _], _ => rfl
theorem ok25 : DefOk txt d25 := ⟨by kernel_rfl, ⟨rfl, rfl, rfl, by decide +kernel, rfl, by decide +kernel, by decide +kernel⟩, by decide, by decide +kernel⟩
theorem bd25 : BindOk d25 := fun _ _ _ _ _ _ us hl => match us, hl with | [_, _], _ => rfl
theorem ok26 : DefOk txt d26 := ⟨by kernel_rfl, ⟨rfl, rfl, rfl, by decide +kernel, rfl, by decide +kernel, by decide +kernel⟩, by decide, by decide +kernel⟩
theorem bd26 : BindOk d26 := fun _ _ _ _ _ _ us hl => match us, hl with | [_, _, _], _ => rfl
theorem ok27 : DefOk txt d27 := ⟨by kernel_rfl, ⟨rfl, rfl, rfl, by decide +kernel, rfl, by decide +kernel, by decide +kernel⟩, by decide, by decide +kernel⟩
theorem bd27 : BindOk d27 := fun _ _ _ _ _ _ us hl => match us, hl with | [_], _ => rfl
theorem ok28 : DefOk txt d28 := ⟨by kernel_rfl, ⟨rfl, rfl, rfl, by decide +kernel, rfl, by decide +kernel, by decide +kernel⟩, by decide, by decide +kernel⟩
theorem bd28 : BindOk d28 := fun _ _ _ _ _ _ us hl => match us, hl with | [_, _, _, _], _ => rfl
theorem ok29 : DefOk txt d29 := ⟨by kernel_rfl, ⟨rfl, rfl, rfl, by decide +kernel, rfl, by decide +kernel, by decide +kernel⟩, by decide, by decide +kernel⟩
theorem bd29 : BindOk d29 := fun _ _ _ _ _ _ us hl => match us, hl with | [_, _], _ => rfl
theorem ok30 : DefOk txt d30 := ⟨by kernel_rfl, ⟨rfl, rfl, rfl, by decide +kernel, rfl, by decide +kernel, by decide +kernel⟩, by decide, by decide +kernel⟩
theorem bd30 : BindOk d30 := fun _ _ _ _ _ _ us hl => match us, hl with | [_], _ => rfl
theorem tok : TxtOk txt := ⟨fun i d h => Each.get (l := txt.defs) (p := DefOk txt) ⟨ok0, ok1, ok2, ok3, ok4, ok5, ok6, ok7, ok8, ok9, ok10, ok11, ok12, ok13, ok14, ok15, ok16, ok17, ok18, ok19, ok20, ok21, ok22, ok23, ok24, ok25, ok26, ok27, ok28, ok29, ok30, trivial⟩ h, fun i d h => Each.get (l := txt.defs) (p := fun d => (d.name == ("__debug__" : Str)) = false) ⟨by decide +kernel, by decide +kernel, by decide +kernel, by decide +kernel, by decide +kernel, by decide +kernel, by decide +kernel, by decide +kernel, by decide +kernel, by decide +kernel, by decide +kernel, by decide +kernel, by decide +kernel, by decide +kernel, by decide +kernel, by decide +kernel, by decide +kernel, by decide +kernel, by decide +kernel, by decide +kernel, by decide +kernel, by decide +kernel, by decide +kernel, by decide +kernel, by decide +kernel, by decide +kernel, by decide +kernel, by decide +kernel, by decide +kernel, by decide +kernel, by decide +kernel, trivial⟩ h⟩
theorem fit : TxtFit txt := ⟨⟨bd0, bd1, bd2, bd3, bd4, bd5, bd6, bd7, bd8, bd9, bd10, bd11, bd12, bd13, bd14, bd15, bd16, bd17, bd18, bd19, bd20, bd21, bd22, bd23, bd24, bd25, bd26, bd27, bd28, bd29, bd30, trivial⟩, by decide +kernel, by decide +kernel, by decide +kernel, by decide +kernel⟩
end Law
/-! How terms are worked out: equations. -/
namespace Z
open PySem PySem.Spec PyProof.Rows L2
/-- not to be taken for a step of reduction -/
theorem nrfl {α : Sort _} {a b : α} (h : a = b) : a = b := h
section
variable {T : Nat → List D → R D} {sub : Str → Str → Option Bool} {ρ : Env'}
theorem dE_cst {d} : dE T (.cst d) ρ = .ok d := nrfl rfl
theorem dE_glb {x d} : dE T (.glb x d) ρ = .ok d := nrfl rfl
theorem dE_var {i} : dE T (.var i) ρ = look ρ i := nrfl rfl
theorem dE_bin {o a b} : dE T (.bin o a b) ρ = (dE T a ρ).bind fun x => (dE T b ρ).bind fun y => R.of (binD o x y) := nrfl rfl
theorem dE_neg {a} : dE T (.neg a) ρ = (dE T a ρ).bind fun x => match x with
    | .int i => .ok (.int (-i))
    | _ => .bad := nrfl rfl
theorem dE_cmp {o a b} : dE T (.cmp o a b) ρ = ((dO T a ρ).bind fun x => (dO T b ρ).bind fun y => R.of (cmpD o x y)).bind fun r => .ok (.bl r) := nrfl rfl
theorem dE_chn {o p a b c} : dE T (.chn o p a b c) ρ = ((dE T a ρ).bind fun x => (dE T b ρ).bind fun y => (R.of (cmpD o x y)).bind fun r =>
    if r = true then (dE T c ρ).bind fun z => R.of (cmpD p y z) else .ok false).bind fun r => .ok (.bl r) := nrfl rfl
theorem dE_and {a b} : dE T (.and_ a b) ρ = (dE T a ρ).bind fun x => match x with
    | .bl c => if c = true then dE T b ρ else .ok (.bl false)
    | _ => .bad := nrfl rfl
theorem dE_or {a b} : dE T (.or_ a b) ρ = (dE T a ρ).bind fun x => match x with
    | .bl c => if c = true then .ok (.bl true) else dE T b ρ
    | _ => .bad := nrfl rfl
theorem dE_not {a} : dE T (.not_ a) ρ = (dE T a ρ).bind fun x => match x with
    | .bl c => .ok (.bl (!c))
    | _ => .bad := nrfl rfl
theorem dE_ite {c a b} : dE T (.ite c a b) ρ = (dT T c ρ).bind fun t => if t = true then dE T a ρ else dE T b ρ := nrfl rfl
theorem dE_tup {es} : dE T (.tup es) ρ = (dEs T es ρ).bind fun ds => if ds.length ≤ lim then .ok (.tup ds) else .bad := nrfl rfl
theorem dE_lst {es} : dE T (.lst es) ρ = (dEs T es ρ).bind fun ds => if ds.length ≤ lim then .ok (.lst ds) else .bad := nrfl rfl
theorem dE_call {f es} : dE T (.call f es) ρ = (dEs T es ρ).bind fun ds => T f ds := nrfl rfl
theorem dE_blt {b es} : dE T (.blt b es) ρ = (dBs T es ρ).bind fun ds => R.of (bltD b ds) := nrfl rfl
theorem dE_mkb {b es} : dE T (.mkb b es) ρ = (dEs T es ρ).bind fun ds => R.of (mkbD b ds) := nrfl rfl
theorem dE_isi {a t} : dE T (.isi a t) ρ = (dE T a ρ).bind fun x => (R.of (tyD x t)).bind fun r => .ok (.bl r) := nrfl rfl
theorem dE_gget {x tab k d} : dE T (.gget x tab k d) ρ = (dE T k ρ).bind fun y => (dE T d ρ).bind fun z => match y with
    | .str q => .ok ((tab.lookup q).getD z)
    | _ => .bad := nrfl rfl
theorem dE_gix {x tab k} : dE T (.gix x tab k) ρ = (dE T k ρ).bind fun y => match y with
    | .str q => R.of (tab.lookup q)
    | _ => .bad := nrfl rfl
theorem dE_dget1 {a k} : dE T (.dget1 a k) ρ = (dO T a ρ).bind fun x => (R.of (asDic x)).bind fun p => (dE T k ρ).bind fun y => R.of (dgetD p.1 p.2 y .non) := nrfl rfl
theorem dE_dget {a k d} : dE T (.dget a k d) ρ = (dO T a ρ).bind fun x => (R.of (asDic x)).bind fun p => (dE T k ρ).bind fun y => (dE T d ρ).bind fun z => R.of (dgetD p.1 p.2 y z) := nrfl rfl
theorem dE_dis {ks vs} : dE T (.dis ks vs) ρ = (dEs T vs ρ).bind fun ds => .ok (.dic (ks.map keyD) ds) := nrfl rfl
theorem dE_ix {a i} : dE T (.ix a i) ρ = (dO T a ρ).bind fun x => (dE T i ρ).bind fun y => R.of (ixD x y) := nrfl rfl
theorem dE_sl {a lo hi} : dE T (.sl a lo hi) ρ = (dE T a ρ).bind fun x => (dBd T lo ρ).bind fun l => (dBd T hi ρ).bind fun h => R.of (slD x l h) := nrfl rfl
theorem dE_rev {a} : dE T (.rev a) ρ = (dE T a ρ).bind fun x => R.of (revD x) := nrfl rfl
theorem dE_comp {x own t it c} : dE T (.comp x own t it c) ρ = (dIt T it ρ).bind fun ds => if ds.length < lim then ((compL (fun d => dTg t d (wipeE ρ own)) (dT T c) (dE T x) ds).calm).bind fun ys => .ok (.lst ys) else .bad := nrfl rfl
theorem dT_cst {d} : dT T (.cst d) ρ = R.of (truD d) := nrfl rfl
theorem dT_var {i} : dT T (.var i) ρ = (dE T (.var i) ρ).bind fun x => R.of (truD x) := nrfl rfl
theorem dT_bin {o a b} : dT T (.bin o a b) ρ = (dE T (.bin o a b) ρ).bind fun x => R.of (truD x) := nrfl rfl
theorem dT_cmp {o a b} : dT T (.cmp o a b) ρ = (dE T (.cmp o a b) ρ).bind fun x => R.of (truD x) := nrfl rfl
theorem dT_chn {o p a b c} : dT T (.chn o p a b c) ρ = (dE T (.chn o p a b c) ρ).bind fun x => R.of (truD x) := nrfl rfl
theorem dT_call {f es} : dT T (.call f es) ρ = (dE T (.call f es) ρ).bind fun x => R.of (truD x) := nrfl rfl
theorem dT_blt {f es} : dT T (.blt f es) ρ = (dE T (.blt f es) ρ).bind fun x => R.of (truD x) := nrfl rfl
theorem dT_isi {f es} : dT T (.isi f es) ρ = (dE T (.isi f es) ρ).bind fun x => R.of (truD x) := nrfl rfl
theorem dT_ix {f es} : dT T (.ix f es) ρ = (dE T (.ix f es) ρ).bind fun x => R.of (truD x) := nrfl rfl
theorem dT_ite {c a b} : dT T (.ite c a b) ρ = (dE T (.ite c a b) ρ).bind fun x => R.of (truD x) := nrfl rfl
theorem dT_and {a b} : dT T (.and_ a b) ρ = (dT T a ρ).bind fun x => if x = true then dT T b ρ else .ok false := nrfl rfl
theorem dT_or {a b} : dT T (.or_ a b) ρ = (dT T a ρ).bind fun x => if x = true then .ok true else dT T b ρ := nrfl rfl
theorem dT_not {a} : dT T (.not_ a) ρ = (dT T a ρ).bind fun x => .ok (!x) := nrfl rfl
theorem dO_own {i} : dO T (.own i) ρ = lookB ρ i := nrfl rfl
theorem dO_ev {e} : dO T (.ev e) ρ = dE T e ρ := nrfl rfl
theorem dBd_no : dBd T .no ρ = .ok none := nrfl rfl
theorem dBd_to {e} : dBd T (.to e) ρ = (dE T e ρ).bind fun x => match x with
    | .int i => .ok (some i)
    | _ => .bad := nrfl rfl
theorem dBs_nil : dBs T .nil ρ = .ok [] := nrfl rfl
theorem dBs_cons {e r} : dBs T (.cons e r) ρ = (dO T e ρ).bind fun x => (dBs T r ρ).bind fun xs => .ok (x :: xs) := nrfl rfl
theorem dEs_nil : dEs T .nil ρ = .ok [] := nrfl rfl
theorem dEs_cons {e r} : dEs T (.cons e r) ρ = (dE T e ρ).bind fun x => (dEs T r ρ).bind fun xs => .ok (x :: xs) := nrfl rfl
theorem dIt_seq {e} : dIt T (.seq e) ρ = (dE T e ρ).bind fun x => R.of (itemsD x) := nrfl rfl
theorem dIt_rng1 {e} : dIt T (.rng1 e) ρ = (dE T e ρ).bind fun x => match x with
    | .int j => if inRng j = true then .ok (rngL 0 j.toNat) else .bad
    | _ => .bad := nrfl rfl
theorem dIt_rng2 {a b} : dIt T (.rng2 a b) ρ = (dE T a ρ).bind fun x => (dE T b ρ).bind fun y => match x, y with
    | .int i, .int j => if (inRng i && inRng j) = true then .ok (rngL i (j - i).toNat) else .bad
    | _, _ => .bad := nrfl rfl
theorem dIt_enm {e} : dIt T (.enm e) ρ = (dE T e ρ).bind fun x => (R.of (itemsT x)).bind fun ds => .ok (enumL 0 ds) := nrfl rfl
theorem dIt_zip {a b} : dIt T (.zip a b) ρ = (dE T a ρ).bind fun x => (dE T b ρ).bind fun y => match x, y with
    | .lst xs, .lst ys => .ok (zipL xs ys)
    | .tup xs, .tup ys => .ok (zipL xs ys)
    | _, _ => .bad := nrfl rfl
theorem dS_set {fz i own e} : dS T sub (.set fz i own e) ρ = (dE T e (frzL ρ fz)).fl (frzL ρ fz) fun d => .nx ((frzL ρ fz).set i (ownList d (own && isFr e))) := nrfl rfl
theorem dS_unp {fz t e} : dS T sub (.unp fz t e) ρ = (dE T e (frzL ρ fz)).fl (frzL ρ fz) fun d => Fl.of (dTg t d (frzL ρ fz)) := nrfl rfl
theorem dS_par {fz i j es} : dS T sub (.par fz i j es) ρ = (dEs T es (frzL ρ fz)).fl (frzL ρ fz) fun ds => match ds with
    | [d, e] => .nx (((frzL ρ fz).set i (.im d)).set j (.im e))
    | _ => .bad := nrfl rfl
theorem dS_aug {fz i o e} : dS T sub (.aug fz i o e) ρ = (look (frzL ρ fz) i).fl (frzL ρ fz) fun x => (dE T e (frzL ρ fz)).fl (frzL ρ fz) fun y => match augD o x y with
    | some z => .nx ((frzL ρ fz).set i (.im z))
    | none => .bad := nrfl rfl
theorem dS_app {fz i e} : dS T sub (.app fz i e) ρ = match (frzL ρ fz)[i]? with
    | some (.ow (.lst ds)) => (dE T e (frzL ρ fz)).fl (frzL ρ fz) fun d => if ds.length < lim then .nx ((frzL ρ fz).set i (.ow (.lst (ds ++ [d])))) else .bad
    | _ => .bad := nrfl rfl
theorem dS_ret {fz e} : dS T sub (.ret fz e) ρ = (dE T e (frzL ρ fz)).fl (frzL ρ fz) fun d => .rt d := nrfl rfl
theorem dS_retN : dS T sub .retN ρ = .rt .non := nrfl rfl
theorem dS_ite {fz c a b} : dS T sub (.ite fz c a b) ρ = (dT T c (frzL ρ fz)).fl (frzL ρ fz) fun t => if t = true then dSs T sub a (frzL ρ fz) else dSs T sub b (frzL ρ fz) := nrfl rfl
theorem dS_fo {fz t it b} : dS T sub (.fo fz t it b) ρ = (dIt T it (frzL ρ fz)).fl (frzL ρ fz) fun ds => forL (dTg t) (dSs T sub b) ds (frzL ρ fz) := nrfl rfl
theorem dS_wh {fz c b} : dS T sub (.wh fz c b) ρ = whL (dT T c) fz (dSs T sub b) fuel ρ := nrfl rfl
theorem dS_pass : dS T sub .pass ρ = .nx ρ := nrfl rfl
theorem dS_rai {c} : dS T sub (.rai c) ρ = .exc c ρ := nrfl rfl
theorem dS_exp {fz e} : dS T sub (.exp fz e) ρ = (dE T e (frzL ρ fz)).fl (frzL ρ fz) fun _ => .nx (frzL ρ fz) := nrfl rfl
theorem dS_tr {b h} : dS T sub (.tr b h) ρ = match dSs T sub b ρ with
    | .exc c ρ' => dHs sub c ρ' h
    | f => f := nrfl rfl
/-- on with the rest -/
def Fl.go (f : Fl) (k : Env' → Fl) : Fl := match f with
  | .nx ρ' => k ρ'
  | f => f
theorem dSs_nil : dSs T sub .nil ρ = .nx ρ := nrfl rfl
theorem dSs_cons {s r} : dSs T sub (.cons s r) ρ = (dS T sub s ρ).go (dSs T sub r) := nrfl rfl
theorem go_nx {k} : (Fl.nx ρ).go k = k ρ := nrfl rfl
theorem go_rt {d} {k : Env' → Fl} : (Fl.rt d).go k = .rt d := nrfl rfl
theorem go_exc {d} {k : Env' → Fl} : (Fl.exc d ρ).go k = .exc d ρ := nrfl rfl
theorem go_ct {k : Env' → Fl} : (Fl.ct ρ).go k = .ct ρ := nrfl rfl
theorem go_bk {k : Env' → Fl} : (Fl.bk ρ).go k = .bk ρ := nrfl rfl
theorem fl_ok {α : Type} {a : α} {k : α → Fl} : (R.ok a).fl ρ k = k a := nrfl rfl
theorem fl_exc {α : Type} {a : Str} {k : α → Fl} : (R.exc a).fl ρ k = .exc a ρ := nrfl rfl
theorem bind_ok {α β : Type} {a : α} {f : α → R β} : (R.ok a).bind f = f a := nrfl rfl
theorem bind_exc {α β : Type} {a : Str} {f : α → R β} : (R.exc a).bind f = .exc a := nrfl rfl
theorem of_some {α : Type} {a : α} : R.of (some a) = .ok a := nrfl rfl
theorem calm_ok {α : Type} {a : α} : (R.ok a).calm = .ok a := nrfl rfl
theorem flof_some : Fl.of (some ρ) = .nx ρ := nrfl rfl
theorem look_0 {d} {r : Env'} : look (.im d :: r) 0 = .ok d := nrfl rfl
theorem look_s {s} {r : Env'} {i} : look (s :: r) (i + 1) = look r i := by unfold look; rw [List.getElem?_cons_succ]
theorem lookB_im {d} {r : Env'} : lookB (.im d :: r) 0 = .ok d := nrfl rfl
theorem lookB_ow {d} {r : Env'} : lookB (.ow d :: r) 0 = .ok d := nrfl rfl
theorem lookB_s {s} {r : Env'} {i} : lookB (s :: r) (i + 1) = lookB r i := by unfold lookB; rw [List.getElem?_cons_succ]
theorem frzL_nil : frzL ρ [] = ρ := nrfl rfl
theorem frzL_cons {i r} : frzL ρ (i :: r) = frzL (frz1 ρ i) r := nrfl rfl
theorem frz1_im {d} {r : Env'} : frz1 (.im d :: r) 0 = .im d :: r := nrfl rfl
theorem frz1_un {r : Env'} : frz1 (.un :: r) 0 = .un :: r := nrfl rfl
theorem frz1_ow {d} {r : Env'} : frz1 (.ow d :: r) 0 = .im d :: r := nrfl rfl
theorem frz1_s {s} {r : Env'} {i} : frz1 (s :: r) (i + 1) = s :: frz1 r i := by
  unfold frz1
  rw [List.getElem?_cons_succ]
  cases h : r[i]? with
  | none => rfl
  | some q => cases q <;> rfl
theorem tg_nm {i d} : dTg (.nm i) d ρ = some (ρ.set i (.im d)) := nrfl rfl
theorem tg_tp {ts ds} : dTg (.tp ts) (.tup ds) ρ = dTgs ts ds ρ := nrfl rfl
theorem tg_tpl {ts ds} : dTg (.tp ts) (.lst ds) ρ = dTgs ts ds ρ := nrfl rfl
theorem tgs_nil : dTgs .nil [] ρ = some ρ := nrfl rfl
theorem tgs_cons {t r d ds} : dTgs (.cons t r) (d :: ds) ρ = (dTg t d ρ).bind fun ρ' => dTgs r ds ρ' := nrfl rfl
theorem obind {α β : Type} {a : α} {f : α → Option β} : (some a).bind f = f a := nrfl rfl
theorem set_0 {s t : Slot} {r : Env'} : List.set (s :: r) 0 t = t :: r := nrfl rfl
theorem set_s {s t : Slot} {r : Env'} {i : Nat} : List.set (s :: r) (i + 1) t = s :: r.set i t := nrfl rfl
theorem forL_nil {tg : D → Env' → Option Env'} {b : Env' → Fl} : forL tg b [] ρ = .nx ρ := nrfl rfl
/-- what a loop does with the end of its body -/
def Fl.lp (f : Fl) (k : Env' → Fl) : Fl := match f with
  | .nx ρ2 => k ρ2
  | .ct ρ2 => k ρ2
  | .bk ρ2 => .nx ρ2
  | f => f
theorem forL_cons {tg : D → Env' → Option Env'} {b : Env' → Fl} {d ds ρ1} (h : tg d ρ = some ρ1) : forL tg b (d :: ds) ρ = (b ρ1).lp (forL tg b ds) := by
  show (match tg d ρ with
    | none => Fl.bad
    | some ρ1 => match b ρ1 with
      | .nx ρ2 => forL tg b ds ρ2
      | .ct ρ2 => forL tg b ds ρ2
      | .bk ρ2 => .nx ρ2
      | f => f) = _
  rw [h]
  rfl
theorem lp_nx {k} : (Fl.nx ρ).lp k = k ρ := nrfl rfl
theorem lp_ct {k} : (Fl.ct ρ).lp k = k ρ := nrfl rfl
theorem lp_bk {k} : (Fl.bk ρ).lp k = .nx ρ := nrfl rfl
theorem lp_rt {k : Env' → Fl} {d} : (Fl.rt d).lp k = .rt d := nrfl rfl
theorem lp_exc {k : Env' → Fl} {d} : (Fl.exc d ρ).lp k = .exc d ρ := nrfl rfl
theorem whL_s {c : Env' → R Bool} {fz b n} : whL c fz b (n + 1) ρ = (c (frzL ρ fz)).fl (frzL ρ fz) fun t => if t = true then (b (frzL ρ fz)).lp (whL c fz b n) else .nx (frzL ρ fz) := nrfl rfl
theorem run_s {t : Txt} {n i : Nat} {ds : List D} {d : Def} (h : t.defs[i]? = some d) (hl : ds.length = d.ar) : run t (n + 1) i ds = (dSs (run t n) (subL t.sub) d.body (startE d.N ds)).out := by
  show (match t.defs[i]? with
          | none => R.bad
          | some d => if ds.length = d.ar then (dSs (run t n) (subL t.sub) d.body (startE d.N ds)).out else .bad) = _
  rw [h]
  exact if_pos hl
theorem out_rt {d} : (Fl.rt d).out = .ok d := nrfl rfl
theorem out_nx : (Fl.nx ρ).out = .ok .non := nrfl rfl
theorem out_exc {c} : (Fl.exc c ρ).out = .exc c := nrfl rfl
/-- a loop whose body keeps a promise -/
theorem forL_inv {tg : D → Env' → Option Env'} {b : Env' → Fl} (P : Nat → Env' → Prop) : ∀ (ds : List D) (j : Nat) (ρ : Env'), P j ρ →
    (∀ i d ρ, ds[i]? = some d → P (j + i) ρ → ∃ ρ1, tg d ρ = some ρ1 ∧ ∃ ρ2, (b ρ1 = .nx ρ2 ∨ b ρ1 = .ct ρ2) ∧ P (j + i + 1) ρ2) → ∃ ρ', forL tg b ds ρ = .nx ρ' ∧ P (j + ds.length) ρ'
  | [], j, ρ, h, _ => ⟨ρ, rfl, h⟩
  | d :: ds, j, ρ, h, st => by
    obtain ⟨ρ1, h1, ρ2, h2, h3⟩ := st 0 d ρ rfl h
    obtain ⟨ρ', h4, h5⟩ := forL_inv P ds (j + 1) ρ2 h3 fun i d ρ hd hp => by
      have e : j + 1 + i = j + (i + 1) := by omega
      obtain ⟨ρ1, q1, ρ2, q2, q3⟩ := st (i + 1) d ρ (by rw [List.getElem?_cons_succ]; exact hd) (by rw [← e]; exact hp)
      exact ⟨ρ1, q1, ρ2, q2, by rw [e]; exact q3⟩
    refine ⟨ρ', ?_, by rw [List.length_cons]; have e : j + 1 + ds.length = j + (ds.length + 1) := by omega
                       rw [← e]; exact h5⟩
    rw [forL_cons h1]
    rcases h2 with h2 | h2 <;> rw [h2] <;> exact h4
theorem rngL_nil {lo : Int} : rngL lo 0 = [] := rfl
theorem rngL_cons {lo : Int} {n : Nat} : rngL lo (n + 1) = .int lo :: rngL (lo + 1) n := by
  show (List.range (n + 1)).map (fun i : Nat => D.int (lo + (i : Nat))) = .int lo :: (List.range n).map (fun i : Nat => D.int (lo + 1 + (i : Nat)))
  rw [List.range_succ_eq_map, List.map_cons, List.map_map]
  congr 1
  · congr 1; simp
  · apply List.map_congr_left
    intro i _
    show D.int (lo + ((i + 1 : Nat) : Int)) = D.int (lo + 1 + (i : Nat))
    congr 1
    omega
theorem rngL_len {lo : Int} {n : Nat} : (rngL lo n).length = n := by show ((List.range n).map _).length = _; rw [List.length_map, List.length_range]
theorem rngL_get {lo : Int} {n i : Nat} (h : i < n) : (rngL lo n)[i]? = some (.int (lo + (i : Nat))) := by
  show ((List.range n).map (fun i : Nat => D.int (lo + (i : Nat))))[i]? = _
  rw [List.getElem?_map, List.getElem?_range h]
  rfl
/-- a comprehension without a test, item by item -/
theorem compL_map {tg : D → Option Env'} {c : Env' → R Bool} {x : Env' → R D} (f : D → D) : ∀ (ds : List D), (∀ d ∈ ds, ∃ ρ, tg d = some ρ ∧ c ρ = .ok true ∧ x ρ = .ok (f d)) → compL tg c x ds = .ok (ds.map f)
  | [], _ => rfl
  | d :: ds, h => by
    obtain ⟨ρ, h1, h2, h3⟩ := h d List.mem_cons_self
    have e : compL tg c x (d :: ds) = (R.of (tg d)).bind fun ρ => (c ρ).bind fun b => if b = true then (x ρ).bind fun y => (compL tg c x ds).bind fun ys => .ok (y :: ys) else compL tg c x ds := rfl
    rw [e, h1, of_some, bind_ok, h2, bind_ok, if_pos rfl, h3, bind_ok, compL_map f ds fun d hd => h d (List.mem_cons_of_mem _ hd)]
    rfl
/-- with a test -/
theorem compL_filter {tg : D → Option Env'} {c : Env' → R Bool} {x : Env' → R D} (p : D → Bool) (f : D → D) : ∀ (ds : List D), (∀ d ∈ ds, ∃ ρ, tg d = some ρ ∧ c ρ = .ok (p d) ∧ (p d = true → x ρ = .ok (f d))) → compL tg c x ds = .ok ((ds.filter p).map f)
  | [], _ => rfl
  | d :: ds, h => by
    obtain ⟨ρ, h1, h2, h3⟩ := h d List.mem_cons_self
    have e : compL tg c x (d :: ds) = (R.of (tg d)).bind fun ρ => (c ρ).bind fun b => if b = true then (x ρ).bind fun y => (compL tg c x ds).bind fun ys => .ok (y :: ys) else compL tg c x ds := rfl
    have ih := compL_filter p f ds fun d hd => h d (List.mem_cons_of_mem _ hd)
    rw [e, h1, of_some, bind_ok, h2, bind_ok]
    cases hp : p d with
    | true => rw [if_pos rfl, h3 hp, bind_ok, ih, List.filter_cons_of_pos hp]; rfl
    | false => rw [if_neg (by decide), ih, List.filter_cons_of_neg (by rw [hp]; decide)]
end
theorem eqvL_ints : ∀ (xs ys : List Int), eqvL (xs.map D.int) (ys.map D.int) = decide (xs = ys)
  | [], [] => rfl
  | [], y :: ys => rfl
  | x :: xs, [] => rfl
  | x :: xs, y :: ys => by
    show ((x == y) && eqvL (xs.map D.int) (ys.map D.int)) = _
    rw [eqvL_ints xs ys]
    by_cases h : x = y
    · subst h; simp
    · have : (x == y) = false := by simpa using h
      rw [this]; simp [h]
theorem flatL_ints (n : Nat) : ∀ xs : List Int, flatL n (xs.map D.int) = true
  | [] => rfl
  | x :: xs => by
    show (flat n (.int x) && flatL n (xs.map D.int)) = true
    rw [flatL_ints n xs]
    cases n <;> rfl
/-- equal to itself -/
theorem atI_nat {α : Type} {xs : List α} {i : Nat} (h : i < xs.length) : atI xs (i : Int) = xs[i]? := by
  unfold L2.atI
  have : ixN xs.length (i : Int) = some i := by
    unfold ixN
    rw [if_pos (by omega), if_pos (by omega)]
    congr 1
  rw [this]; rfl
theorem sIx_some {n d : Nat} {v : Int} (h : 0 ≤ v) : HT.sIx n d (some v) = min v.toNat n := by
  show (if v < 0 then _ else _) = _
  rw [if_neg (by omega)]
theorem startE_nil {N : List Str} : startE N [] = List.replicate N.length .un := nrfl rfl
theorem startE_cons {x : Str} {N : List Str} {d : D} {ds : List D} : startE (x :: N) (d :: ds) = .im d :: startE N ds := by
  unfold startE
  rw [List.map_cons, List.length_cons, List.length_cons]
  show _ :: (_ ++ _) = _
  congr 3
  omega
def EachN (p : Nat → Prop) : Nat → Prop
  | 0 => True
  | n + 1 => EachN p n ∧ p n
theorem EachN.get {p : Nat → Prop} : ∀ {n i : Nat}, EachN p n → i < n → p i
  | n + 1, i, h, hi => by
    by_cases e : i = n
    · rw [e]; exact h.2
    · exact EachN.get h.1 (by omega)
end Z
/-! What the laws have in common. -/
namespace Z
open PySem PySem.Spec PyProof.Rows L2
theorem inRng_nat {n : Nat} (h : n < 2 ^ 60) : inRng (n : Int) = true := by
  unfold inRng
  rw [Bool.and_eq_true]
  exact ⟨decide_eq_true (by omega), decide_eq_true (by omega)⟩
theorem toNat_nat (n : Nat) : (n : Int).toNat = n := by omega
theorem lim_le {n : Nat} (h : n < 2 ^ 20) : n ≤ lim := by
  show n ≤ 16777216
  omega
theorem ne_int (a b : Int) : cmpD .ne (.int a) (.int b) = some (decide (a ≠ b)) := by
  show some (!(a == b)) = _
  by_cases h : a = b
  · subst h; simp
  · have : (a == b) = false := by simpa using h
    rw [this]; simp [h]
theorem eq_int (a b : Int) : cmpD .eq (.int a) (.int b) = some (decide (a = b)) := by
  show some (a == b) = _
  by_cases h : a = b
  · subst h; simp
  · have : (a == b) = false := by simpa using h
    rw [this]; simp [h]
theorem blsOf_bls : ∀ l : List Bool, blsOf (l.map D.bl) = some l
  | [] => rfl
  | b :: l => by rw [List.map_cons, blsOf, blsOf_bls l]; rfl
theorem rngL_map (N : Nat) : rngL 0 N = ((List.range N).map fun a : Nat => (a : Int)).map D.int := by
  show (List.range N).map (fun i : Nat => D.int (0 + (i : Nat))) = _
  rw [List.map_map]
  apply List.map_congr_left
  intro i _
  show D.int (0 + (i : Nat)) = D.int (i : Nat)
  rw [Int.zero_add]
theorem emod_iff {m t v b : Int} (h0 : 0 ≤ t) (h1 : t < m) : (v + b) % m = t ↔ b % m = (t - v) % m := by
  constructor
  · intro h
    rw [← h, Int.sub_emod, Int.emod_emod_of_dvd _ (Int.dvd_refl _), ← Int.sub_emod]
    congr 1
    omega
  · intro h
    rw [Int.add_emod, h, ← Int.add_emod]
    have : v + (t - v) = t := by omega
    rw [this]
    exact Int.emod_eq_of_lt h0 h1
mutual
theorem eqv_self : ∀ (n : Nat) (d : D), flat n d = true → eqv d d = true
  | _, .non, _ => rfl
  | _, .bl b, _ => by show (b == b) = true; simp
  | _, .int i, _ => by show (i == i) = true; simp
  | _, .str x, _ => by show (x == x) = true; simp
  | 0, .tup _, h => by simp [flat] at h
  | 0, .lst _, h => by simp [flat] at h
  | n + 1, .tup xs, h => eqvL_self n xs (by simpa only [flat] using h)
  | n + 1, .lst xs, h => eqvL_self n xs (by simpa only [flat] using h)
  | n, .dic _ _, h => by simp [flat] at h
  | n, .scr _, h => by simp [flat] at h
  | n, .obj _ _ _, h => by simp [flat] at h
theorem eqvL_self : ∀ (n : Nat) (ds : List D), flatL n ds = true → eqvL ds ds = true
  | _, [], _ => rfl
  | n, d :: ds, h => by
    simp only [flatL, Bool.and_eq_true] at h
    show (eqv d d && eqvL ds ds) = true
    rw [eqv_self n d h.1, eqvL_self n ds h.2]
    rfl
end
theorem ne_self {d : D} (h : flat 60 d = true) : cmpD .ne d d = some false := by
  show (if (flat 60 d && flat 60 d) = true then some (!eqv d d) else none) = _
  rw [h, eqv_self 60 d h]
  rfl
theorem ix_lst {T : List Int} {x : Nat} (h : x < T.length) : ixD (.lst (T.map .int)) (.int (x : Nat)) = some (.int (T.getD x 0)) := by
  show atI _ _ = _
  rw [atI_nat (by rw [List.length_map]; exact h), List.getElem?_map, List.getElem?_eq_getElem h, List.getD_eq_getElem?_getD, List.getElem?_eq_getElem h]
  rfl
theorem rng_comp {m : Nat} {f : Nat → Int} {T : Nat → List D → R D} {tg : D → Option Env'} {c : Env' → R Bool} {x : Env' → R D} (h : ∀ k : Nat, k < m → ∃ ρ, tg (.int (k : Nat)) = some ρ ∧ c ρ = .ok true ∧ x ρ = .ok (.int (f k))) : compL tg c x (rngL 0 m) = .ok (((List.range m).map f).map .int) := by
  have e := compL_map (tg := tg) (c := c) (x := x) (fun d => match d with
    | .int i => D.int (f i.toNat)
    | _ => .non) (rngL 0 m) (fun d hd => by
      rw [rngL_map, List.map_map] at hd
      obtain ⟨k, hk, rfl⟩ := List.mem_map.mp hd
      obtain ⟨ρ, h1, h2, h3⟩ := h k (List.mem_range.mp hk)
      exact ⟨ρ, h1, h2, by rw [h3]; show _ = R.ok (D.int (f ((k : Nat) : Int).toNat)); rw [toNat_nat]⟩)
  rw [e, rngL_map, List.map_map, List.map_map, List.map_map]
  congr 1
theorem cut_from {α : List D} {k : Nat} : Z.cutD α (some (k : Int)) none = α.drop k := by
  unfold Z.cutD
  rw [sIx_some (by omega), toNat_nat]
  show (α.drop (min k α.length)).take (α.length - min k α.length) = _
  rcases Nat.le_total k α.length with h | h
  · rw [Nat.min_eq_left h, List.take_of_length_le (by rw [List.length_drop]; omega)]
  · rw [Nat.min_eq_right h, Nat.sub_self, List.take_zero, List.drop_of_length_le h]
theorem cut_to {α : List D} {k : Nat} : Z.cutD α none (some (k : Int)) = α.take k := by
  unfold Z.cutD
  rw [sIx_some (by omega), toNat_nat]
  show (α.drop 0).take (min k α.length - 0) = _
  rw [List.drop_zero, Nat.sub_zero, ← List.take_take, List.take_length]
theorem cut_last {α : List D} (h : 0 < α.length) : Z.cutD α none (some (-1)) = α.take (α.length - 1) := by
  unfold Z.cutD
  have e : HT.sIx α.length α.length (some (-1)) = α.length - 1 := by
    show (if (-1 : Int) < 0 then (-1 + (α.length : Int)).toNat else min (-1 : Int).toNat α.length) = _
    rw [if_pos (by decide)]
    omega
  rw [e]
  rfl
theorem sl_from {L : List Int} {k : Nat} : slD (.lst (L.map .int)) (some (k : Int)) none = some (.lst ((L.drop k).map .int)) := by
  show some (D.lst (Z.cutD _ _ _)) = _
  rw [cut_from, List.map_drop]
theorem slt_from {L : List Int} {k : Nat} : slD (.tup (L.map .int)) (some (k : Int)) none = some (.tup ((L.drop k).map .int)) := by
  show some (D.tup (Z.cutD _ _ _)) = _
  rw [cut_from, List.map_drop]
theorem slt_to {L : List Int} {k : Nat} : slD (.tup (L.map .int)) none (some (k : Int)) = some (.tup ((L.take k).map .int)) := by
  show some (D.tup (Z.cutD _ _ _)) = _
  rw [cut_to, List.map_take]
theorem slt_last {L : List Int} (h : 0 < L.length) : slD (.tup (L.map .int)) none (some (-1)) = some (.tup ((L.take (L.length - 1)).map .int)) := by
  show some (D.tup (Z.cutD _ _ _)) = _
  rw [cut_last (by rw [List.length_map]; exact h), List.map_take, List.length_map]
def Pos (L : List Int) : Prop := ∀ a ∈ L, 0 ≤ a
theorem Pos.snoc {L : List Int} {a : Int} (h : Pos L) (ha : 0 ≤ a) : Pos (L ++ [a]) := fun b hb => by
  rcases List.mem_append.mp hb with z | z
  · exact h b z
  · rw [List.mem_singleton.mp z]; exact ha
theorem lt_int (a b : Int) : cmpD .lt (.int a) (.int b) = some (decide (a < b)) := nrfl rfl
theorem gt_int (a b : Int) : cmpD .gt (.int a) (.int b) = some (decide (b < a)) := nrfl rfl
theorem ge_int (a b : Int) : cmpD .ge (.int a) (.int b) = some (decide (b ≤ a)) := nrfl rfl
theorem len_lst {xs : List D} : bltD .len [.lst xs] = some (.int xs.length) := nrfl rfl
theorem int_int {i : Int} : bltD .int [.int i] = some (.int i) := nrfl rfl
theorem abs_int {i : Int} : bltD .abs [.int i] = some (.int (if i < 0 then -i else i)) := nrfl rfl
theorem mul_r {i j : Int} (h : -(2 ^ 64) < j ∧ j < 2 ^ 64) : mulD (.int i) (.int j) = some (.int (i * j)) := if_pos (.inr h)
theorem mul_l {i j : Int} (h : -(2 ^ 64) < i ∧ i < 2 ^ 64) : mulD (.int i) (.int j) = some (.int (i * j)) := if_pos (.inl h)
def pD (s m : D) (L : List Int) (seed : Int) (s4 s5 : Slot) (num : Slot) : Env' := [.im s, .im m, .ow (.lst (L.map .int)), .im (.int seed), s4, s5, num]
theorem app_ok {T : Nat → List D → R D} {sub} {s m : D} {L : List Int} {seed : Int} {s4 s5 num : Slot} {e : E} {v : Int} (h : dE T e (pD s m L seed s4 s5 num) = .ok (.int v)) (hl : L.length < 2 ^ 20) : dS T sub (.app [] 2 e) (pD s m L seed s4 s5 num) = .nx (pD s m (L ++ [v]) seed s4 s5 num) := by
  have e1 : dS T sub (.app [] 2 e) (pD s m L seed s4 s5 num) = (dE T e (pD s m L seed s4 s5 num)).fl (pD s m L seed s4 s5 num) fun d => if (L.map D.int).length < lim then .nx ((pD s m L seed s4 s5 num).set 2 (.ow (.lst (L.map D.int ++ [d])))) else .bad := rfl
  rw [e1, h, fl_ok, if_pos (by rw [List.length_map]; show L.length < 16777216; omega)]
  show Fl.nx _ = Fl.nx _
  unfold pD
  rw [List.map_append]
  rfl
theorem loop_inner {T : Nat → List D → R D} {sub} (s m : D) (seed : Int) (s4 : Slot) : ∀ (k : Nat) (lo : Int) (L : List Int) (num : Int) (s5 : Slot), Pos L → 0 ≤ num → L.length + k < 2 ^ 20 → ∃ L' num' s5', Pos L' ∧ L'.length ≤ L.length + k ∧ forL (dTg (.nm 5)) (dSs T sub (.cons (.ite [] (.cmp .gt (.own 6) (.ev (.cst (.int 0))))
          (.cons (.app [] 2 (.bin .mod (.blt .int (.cons (.own 6) .nil)) (.cst (.int 1009)))) <|
          (.cons (.set [] 6 false (.bin .div (.var 6) (.cst (.int 1009)))) .nil))
          .nil) .nil)) (rngL lo k) (pD s m L seed s4 s5 (.im (.int num))) = .nx (pD s m L' seed s4 s5' (.im (.int num')))
  | 0, lo, L, num, s5, hL, hn, hk => ⟨L, num, s5, hL, Nat.le_refl _, rfl⟩
  | k + 1, lo, L, num, s5, hL, hn, hk => by
    rw [rngL_cons, forL_cons (ρ1 := pD s m L seed s4 (.im (.int lo)) (.im (.int num))) rfl]
    by_cases c : 0 < num
    · obtain ⟨L', num', s5', h1, h2, h3⟩ := loop_inner (T := T) (sub := sub) s m seed s4 k (lo + 1) (L ++ [num % 1009]) (num / 1009) (.im (.int lo)) (hL.snoc (Int.emod_nonneg _ (by decide))) (Int.ediv_nonneg hn (by decide)) (by rw [List.length_append, List.length_singleton]; omega)
      refine ⟨L', num', s5', h1, by rw [List.length_append, List.length_singleton] at h2; omega, ?_⟩
      have ap := app_ok (T := T) (sub := sub) (s := s) (m := m) (L := L) (seed := seed) (s4 := s4) (s5 := .im (.int lo)) (num := .im (.int num)) (e := .bin .mod (.blt .int (.cons (.own 6) .nil)) (.cst (.int 1009))) (v := num % 1009) (by
        unfold pD
        simp only [dE_cst, dE_glb, dE_var, dE_bin, dE_neg, dE_cmp, dE_chn, dE_and, dE_or, dE_not, dE_ite, dE_tup, dE_lst, dE_call, dE_blt, dE_mkb, dE_isi, dE_ix, dE_sl, dE_rev, dE_comp, dE_gget, dE_gix, dE_dget1, dE_dget, dE_dis, asDic, dT_cst, dT_var, dT_bin, dT_cmp, dT_chn, dT_call, dT_blt, dT_isi, dT_ix, dT_ite, dT_and, dT_or, dT_not, dO_own, dO_ev, dBd_no, dBd_to, dBs_nil, dBs_cons, dEs_nil, dEs_cons, dIt_seq, dIt_rng1, dIt_rng2, dIt_enm, dIt_zip, dS_set, dS_unp, dS_par, dS_aug, dS_ret, dS_retN, dS_ite, dS_fo, dS_pass, dS_rai, dS_exp, dS_tr, dSs_nil, dSs_cons, go_nx, go_rt, go_exc, fl_ok, fl_exc, bind_ok, bind_exc, of_some, calm_ok, flof_some, look_0, look_s, lookB_im, lookB_ow, lookB_s, frzL_nil, frzL_cons, frz1_im, frz1_un, frz1_ow, frz1_s, tg_nm, tg_tp, tg_tpl, tgs_nil, tgs_cons, obind, set_0, set_s, lp_nx, lp_ct, lp_bk, lp_rt, lp_exc, out_rt, out_nx, out_exc, ownList, isFr, Bool.and_true, Bool.and_false, Bool.true_and, Bool.false_and, Bool.not_true, Bool.not_false, binD, addD, augD, truD, if_true, if_false, Bool.false_eq_true, ↓reduceIte, startE_nil, startE_cons, reduceCtorEq, decide_true, decide_false, tyD, int_int, (by decide : ((0 : Int) < 1009) = True)]) (by omega)
      have ct : dT T (.cmp .gt (.own 6) (.ev (.cst (.int 0)))) (pD s m L seed s4 (.im (.int lo)) (.im (.int num))) = .ok true := by
        unfold pD
        simp only [dE_cst, dE_glb, dE_var, dE_bin, dE_neg, dE_cmp, dE_chn, dE_and, dE_or, dE_not, dE_ite, dE_tup, dE_lst, dE_call, dE_blt, dE_mkb, dE_isi, dE_ix, dE_sl, dE_rev, dE_comp, dE_gget, dE_gix, dE_dget1, dE_dget, dE_dis, asDic, dT_cst, dT_var, dT_bin, dT_cmp, dT_chn, dT_call, dT_blt, dT_isi, dT_ix, dT_ite, dT_and, dT_or, dT_not, dO_own, dO_ev, dBd_no, dBd_to, dBs_nil, dBs_cons, dEs_nil, dEs_cons, dIt_seq, dIt_rng1, dIt_rng2, dIt_enm, dIt_zip, dS_set, dS_unp, dS_par, dS_aug, dS_ret, dS_retN, dS_ite, dS_fo, dS_pass, dS_rai, dS_exp, dS_tr, dSs_nil, dSs_cons, go_nx, go_rt, go_exc, fl_ok, fl_exc, bind_ok, bind_exc, of_some, calm_ok, flof_some, look_0, look_s, lookB_im, lookB_ow, lookB_s, frzL_nil, frzL_cons, frz1_im, frz1_un, frz1_ow, frz1_s, tg_nm, tg_tp, tg_tpl, tgs_nil, tgs_cons, obind, set_0, set_s, lp_nx, lp_ct, lp_bk, lp_rt, lp_exc, out_rt, out_nx, out_exc, ownList, isFr, Bool.and_true, Bool.and_false, Bool.true_and, Bool.false_and, Bool.not_true, Bool.not_false, binD, addD, augD, truD, if_true, if_false, Bool.false_eq_true, ↓reduceIte, startE_nil, startE_cons, reduceCtorEq, decide_true, decide_false, tyD, gt_int, c]
      have st : dS T sub (.set [] 6 false (.bin .div (.var 6) (.cst (.int 1009)))) (pD s m (L ++ [num % 1009]) seed s4 (.im (.int lo)) (.im (.int num))) = .nx (pD s m (L ++ [num % 1009]) seed s4 (.im (.int lo)) (.im (.int (num / 1009)))) := by
        unfold pD
        simp only [dE_cst, dE_glb, dE_var, dE_bin, dE_neg, dE_cmp, dE_chn, dE_and, dE_or, dE_not, dE_ite, dE_tup, dE_lst, dE_call, dE_blt, dE_mkb, dE_isi, dE_ix, dE_sl, dE_rev, dE_comp, dE_gget, dE_gix, dE_dget1, dE_dget, dE_dis, asDic, dT_cst, dT_var, dT_bin, dT_cmp, dT_chn, dT_call, dT_blt, dT_isi, dT_ix, dT_ite, dT_and, dT_or, dT_not, dO_own, dO_ev, dBd_no, dBd_to, dBs_nil, dBs_cons, dEs_nil, dEs_cons, dIt_seq, dIt_rng1, dIt_rng2, dIt_enm, dIt_zip, dS_set, dS_unp, dS_par, dS_aug, dS_ret, dS_retN, dS_ite, dS_fo, dS_pass, dS_rai, dS_exp, dS_tr, dSs_nil, dSs_cons, go_nx, go_rt, go_exc, fl_ok, fl_exc, bind_ok, bind_exc, of_some, calm_ok, flof_some, look_0, look_s, lookB_im, lookB_ow, lookB_s, frzL_nil, frzL_cons, frz1_im, frz1_un, frz1_ow, frz1_s, tg_nm, tg_tp, tg_tpl, tgs_nil, tgs_cons, obind, set_0, set_s, lp_nx, lp_ct, lp_bk, lp_rt, lp_exc, out_rt, out_nx, out_exc, ownList, isFr, Bool.and_true, Bool.and_false, Bool.true_and, Bool.false_and, Bool.not_true, Bool.not_false, binD, addD, augD, truD, if_true, if_false, Bool.false_eq_true, ↓reduceIte, startE_nil, startE_cons, reduceCtorEq, decide_true, decide_false, tyD, (by decide : ((0 : Int) < 1009) = True), (by decide : ((1009 : Int) < 1073741824) = True), and_self]
      simp only [dSs_cons, dSs_nil, dS_ite, frzL_nil, ct, fl_ok, if_true, ap, go_nx, st, lp_nx]
      exact h3
    · obtain ⟨L', num', s5', h1, h2, h3⟩ := loop_inner (T := T) (sub := sub) s m seed s4 k (lo + 1) L num (.im (.int lo)) hL hn (by omega)
      refine ⟨L', num', s5', h1, by omega, ?_⟩
      have ct : dT T (.cmp .gt (.own 6) (.ev (.cst (.int 0)))) (pD s m L seed s4 (.im (.int lo)) (.im (.int num))) = .ok false := by
        unfold pD
        simp only [dE_cst, dE_glb, dE_var, dE_bin, dE_neg, dE_cmp, dE_chn, dE_and, dE_or, dE_not, dE_ite, dE_tup, dE_lst, dE_call, dE_blt, dE_mkb, dE_isi, dE_ix, dE_sl, dE_rev, dE_comp, dE_gget, dE_gix, dE_dget1, dE_dget, dE_dis, asDic, dT_cst, dT_var, dT_bin, dT_cmp, dT_chn, dT_call, dT_blt, dT_isi, dT_ix, dT_ite, dT_and, dT_or, dT_not, dO_own, dO_ev, dBd_no, dBd_to, dBs_nil, dBs_cons, dEs_nil, dEs_cons, dIt_seq, dIt_rng1, dIt_rng2, dIt_enm, dIt_zip, dS_set, dS_unp, dS_par, dS_aug, dS_ret, dS_retN, dS_ite, dS_fo, dS_pass, dS_rai, dS_exp, dS_tr, dSs_nil, dSs_cons, go_nx, go_rt, go_exc, fl_ok, fl_exc, bind_ok, bind_exc, of_some, calm_ok, flof_some, look_0, look_s, lookB_im, lookB_ow, lookB_s, frzL_nil, frzL_cons, frz1_im, frz1_un, frz1_ow, frz1_s, tg_nm, tg_tp, tg_tpl, tgs_nil, tgs_cons, obind, set_0, set_s, lp_nx, lp_ct, lp_bk, lp_rt, lp_exc, out_rt, out_nx, out_exc, ownList, isFr, Bool.and_true, Bool.and_false, Bool.true_and, Bool.false_and, Bool.not_true, Bool.not_false, binD, addD, augD, truD, if_true, if_false, Bool.false_eq_true, ↓reduceIte, startE_nil, startE_cons, reduceCtorEq, decide_true, decide_false, tyD, gt_int, c]
      simp only [dSs_cons, dSs_nil, dS_ite, frzL_nil, ct, fl_ok, Bool.false_eq_true, if_false, go_nx, lp_nx]
      exact h3
def body1 : Sms := (.cons (.set [] 6 false (.blt .abs (.cons (.own 4) .nil))) <|
    (.cons (.set [] 3 false (.bin .mod (.blt .int (.cons (.ev (.bin .add (.bin .add (.bin .mul (.var 3) (.cst (.int 48271))) (.var 6)) (.cst (.int 11)))) .nil)) (.cst (.int 2147483647)))) <|
    (.cons (.ite [] (.cmp .ge (.own 6) (.ev (.bin .pow (.cst (.int 10)) (.cst (.int 18)))))
      (.cons (.fo [] (.nm 5) (.rng1 (.cst (.int 60)))
        (.cons (.ite [] (.cmp .gt (.own 6) (.ev (.cst (.int 0))))
          (.cons (.app [] 2 (.bin .mod (.blt .int (.cons (.own 6) .nil)) (.cst (.int 1009)))) <|
          (.cons (.set [] 6 false (.bin .div (.var 6) (.cst (.int 1009)))) .nil))
          .nil) .nil)) .nil)
      (.cons (.app [] 2 (.bin .mod (.bin .div (.blt .int (.cons (.ev (.bin .add (.bin .mul (.var 3) (.cst (.int 16807))) (.cst (.int 5)))) .nil)) (.cst (.int 3))) (.cst (.int 65521)))) .nil)) .nil)))
theorem loop_cells {T : Nat → List D → R D} {sub} (s m : D) : ∀ (ns : List Int) (L : List Int) (seed : Int) (s4 s5 s6 : Slot), Pos L → 0 ≤ seed → L.length + 60 * ns.length < 2 ^ 20 → ∃ L' seed' s4' s5' s6', Pos L' ∧ 0 ≤ seed' ∧ L'.length ≤ L.length + 60 * ns.length ∧ forL (dTg (.nm 4)) (dSs T sub body1) (ns.map .int) (pD s m L seed s4 s5 s6) = .nx (pD s m L' seed' s4' s5' s6')
  | [], L, seed, s4, s5, s6, hL, hs, hk => ⟨L, seed, s4, s5, s6, hL, hs, by simp, rfl⟩
  | c :: ns, L, seed, s4, s5, s6, hL, hs, hk => by
    rw [List.length_cons] at hk
    have hx : ∃ x : Int, x = (if c < 0 then -c else c) ∧ 0 ≤ x := ⟨_, rfl, by split <;> omega⟩
    obtain ⟨x, ex, x0⟩ := hx
    have e1 : dS T sub (.set [] 6 false (.blt .abs (.cons (.own 4) .nil))) (pD s m L seed (.im (.int c)) s5 s6) = .nx (pD s m L seed (.im (.int c)) s5 (.im (.int x))) := by
      unfold pD
      simp only [dE_cst, dE_glb, dE_var, dE_bin, dE_neg, dE_cmp, dE_chn, dE_and, dE_or, dE_not, dE_ite, dE_tup, dE_lst, dE_call, dE_blt, dE_mkb, dE_isi, dE_ix, dE_sl, dE_rev, dE_comp, dE_gget, dE_gix, dE_dget1, dE_dget, dE_dis, asDic, dT_cst, dT_var, dT_bin, dT_cmp, dT_chn, dT_call, dT_blt, dT_isi, dT_ix, dT_ite, dT_and, dT_or, dT_not, dO_own, dO_ev, dBd_no, dBd_to, dBs_nil, dBs_cons, dEs_nil, dEs_cons, dIt_seq, dIt_rng1, dIt_rng2, dIt_enm, dIt_zip, dS_set, dS_unp, dS_par, dS_aug, dS_ret, dS_retN, dS_ite, dS_fo, dS_pass, dS_rai, dS_exp, dS_tr, dSs_nil, dSs_cons, go_nx, go_rt, go_exc, fl_ok, fl_exc, bind_ok, bind_exc, of_some, calm_ok, flof_some, look_0, look_s, lookB_im, lookB_ow, lookB_s, frzL_nil, frzL_cons, frz1_im, frz1_un, frz1_ow, frz1_s, tg_nm, tg_tp, tg_tpl, tgs_nil, tgs_cons, obind, set_0, set_s, lp_nx, lp_ct, lp_bk, lp_rt, lp_exc, out_rt, out_nx, out_exc, ownList, isFr, Bool.and_true, Bool.and_false, Bool.true_and, Bool.false_and, Bool.not_true, Bool.not_false, binD, addD, augD, truD, if_true, if_false, Bool.false_eq_true, ↓reduceIte, startE_nil, startE_cons, reduceCtorEq, decide_true, decide_false, tyD, abs_int, ← ex]
    have e2 : dS T sub (.set [] 3 false (.bin .mod (.blt .int (.cons (.ev (.bin .add (.bin .add (.bin .mul (.var 3) (.cst (.int 48271))) (.var 6)) (.cst (.int 11)))) .nil)) (.cst (.int 2147483647)))) (pD s m L seed (.im (.int c)) s5 (.im (.int x))) = .nx (pD s m L ((seed * 48271 + x + 11) % 2147483647) (.im (.int c)) s5 (.im (.int x))) := by
      unfold pD
      simp only [dE_cst, dE_glb, dE_var, dE_bin, dE_neg, dE_cmp, dE_chn, dE_and, dE_or, dE_not, dE_ite, dE_tup, dE_lst, dE_call, dE_blt, dE_mkb, dE_isi, dE_ix, dE_sl, dE_rev, dE_comp, dE_gget, dE_gix, dE_dget1, dE_dget, dE_dis, asDic, dT_cst, dT_var, dT_bin, dT_cmp, dT_chn, dT_call, dT_blt, dT_isi, dT_ix, dT_ite, dT_and, dT_or, dT_not, dO_own, dO_ev, dBd_no, dBd_to, dBs_nil, dBs_cons, dEs_nil, dEs_cons, dIt_seq, dIt_rng1, dIt_rng2, dIt_enm, dIt_zip, dS_set, dS_unp, dS_par, dS_aug, dS_ret, dS_retN, dS_ite, dS_fo, dS_pass, dS_rai, dS_exp, dS_tr, dSs_nil, dSs_cons, go_nx, go_rt, go_exc, fl_ok, fl_exc, bind_ok, bind_exc, of_some, calm_ok, flof_some, look_0, look_s, lookB_im, lookB_ow, lookB_s, frzL_nil, frzL_cons, frz1_im, frz1_un, frz1_ow, frz1_s, tg_nm, tg_tp, tg_tpl, tgs_nil, tgs_cons, obind, set_0, set_s, lp_nx, lp_ct, lp_bk, lp_rt, lp_exc, out_rt, out_nx, out_exc, ownList, isFr, Bool.and_true, Bool.and_false, Bool.true_and, Bool.false_and, Bool.not_true, Bool.not_false, binD, addD, augD, truD, if_true, if_false, Bool.false_eq_true, ↓reduceIte, startE_nil, startE_cons, reduceCtorEq, decide_true, decide_false, tyD, int_int, mul_r (by decide : -(2 ^ 64) < (48271 : Int) ∧ (48271 : Int) < 2 ^ 64), (by decide : ((0 : Int) < 2147483647) = True)]
    have hs2 : 0 ≤ (seed * 48271 + x + 11) % 2147483647 := Int.emod_nonneg _ (by decide)
    rw [List.map_cons, forL_cons (ρ1 := pD s m L seed (.im (.int c)) s5 s6) rfl]
    generalize (seed * 48271 + x + 11) % 2147483647 = sd at e2 hs2
    have pw : binD .pow (.int 10) (.int 18) = some (.int 1000000000000000000) := by
      show (if (0 : Int) ≤ 18 ∧ (18 : Int) ≤ 1000000 ∧ Int.natAbs 10 < 2 ^ 64 then some (D.int (10 ^ Int.toNat 18)) else none) = _
      rw [if_pos (by decide)]
      rfl
    by_cases c1 : (1000000000000000000 : Int) ≤ x
    · have ct : dT T (.cmp .ge (.own 6) (.ev (.bin .pow (.cst (.int 10)) (.cst (.int 18))))) (pD s m L sd (.im (.int c)) s5 (.im (.int x))) = .ok true := by
        unfold pD
        simp only [dT_cmp, dE_cmp, dO_own, dO_ev, dE_bin, dE_cst, lookB_s, lookB_im, bind_ok, pw, of_some, ge_int, c1, decide_true, truD]
      obtain ⟨L1, num1, s5', h1, h2, h3⟩ := loop_inner (T := T) (sub := sub) s m sd (.im (.int c)) 60 0 L x s5 hL x0 (by omega)
      obtain ⟨L', seed', s4', s5'', s6', i1, i2, i3, i4⟩ := loop_cells (T := T) (sub := sub) s m ns L1 sd (.im (.int c)) s5' (.im (.int num1)) h1 hs2 (by omega)
      refine ⟨L', seed', s4', s5'', s6', i1, i2, by rw [List.length_cons]; omega, ?_⟩
      have it : dIt T (.rng1 (.cst (.int 60))) (pD s m L sd (.im (.int c)) s5 (.im (.int x))) = .ok (rngL 0 60) := rfl
      simp only [body1, dSs_cons, dSs_nil, dS_ite, dS_fo, frzL_nil, e1, e2, ct, it, h3, fl_ok, if_true, go_nx, lp_nx]
      exact i4
    · have ct : dT T (.cmp .ge (.own 6) (.ev (.bin .pow (.cst (.int 10)) (.cst (.int 18))))) (pD s m L sd (.im (.int c)) s5 (.im (.int x))) = .ok false := by
        unfold pD
        simp only [dT_cmp, dE_cmp, dO_own, dO_ev, dE_bin, dE_cst, lookB_s, lookB_im, bind_ok, pw, of_some, ge_int, c1, decide_false, truD]
      have ap := app_ok (T := T) (sub := sub) (s := s) (m := m) (L := L) (seed := sd) (s4 := .im (.int c)) (s5 := s5) (num := .im (.int x)) (e := .bin .mod (.bin .div (.blt .int (.cons (.ev (.bin .add (.bin .mul (.var 3) (.cst (.int 16807))) (.cst (.int 5)))) .nil)) (.cst (.int 3))) (.cst (.int 65521))) (v := (sd * 16807 + 5) / 3 % 65521) (by
        unfold pD
        simp only [dE_cst, dE_glb, dE_var, dE_bin, dE_neg, dE_cmp, dE_chn, dE_and, dE_or, dE_not, dE_ite, dE_tup, dE_lst, dE_call, dE_blt, dE_mkb, dE_isi, dE_ix, dE_sl, dE_rev, dE_comp, dE_gget, dE_gix, dE_dget1, dE_dget, dE_dis, asDic, dT_cst, dT_var, dT_bin, dT_cmp, dT_chn, dT_call, dT_blt, dT_isi, dT_ix, dT_ite, dT_and, dT_or, dT_not, dO_own, dO_ev, dBd_no, dBd_to, dBs_nil, dBs_cons, dEs_nil, dEs_cons, dIt_seq, dIt_rng1, dIt_rng2, dIt_enm, dIt_zip, dS_set, dS_unp, dS_par, dS_aug, dS_ret, dS_retN, dS_ite, dS_fo, dS_pass, dS_rai, dS_exp, dS_tr, dSs_nil, dSs_cons, go_nx, go_rt, go_exc, fl_ok, fl_exc, bind_ok, bind_exc, of_some, calm_ok, flof_some, look_0, look_s, lookB_im, lookB_ow, lookB_s, frzL_nil, frzL_cons, frz1_im, frz1_un, frz1_ow, frz1_s, tg_nm, tg_tp, tg_tpl, tgs_nil, tgs_cons, obind, set_0, set_s, lp_nx, lp_ct, lp_bk, lp_rt, lp_exc, out_rt, out_nx, out_exc, ownList, isFr, Bool.and_true, Bool.and_false, Bool.true_and, Bool.false_and, Bool.not_true, Bool.not_false, binD, addD, augD, truD, if_true, if_false, Bool.false_eq_true, ↓reduceIte, startE_nil, startE_cons, reduceCtorEq, decide_true, decide_false, tyD, int_int, mul_r (by decide : -(2 ^ 64) < (16807 : Int) ∧ (16807 : Int) < 2 ^ 64), (by decide : ((0 : Int) < 65521) = True), (by decide : ((0 : Int) < 3) = True), (by decide : ((3 : Int) < 1073741824) = True), and_self]) (by omega)
      obtain ⟨L', seed', s4', s5'', s6', i1, i2, i3, i4⟩ := loop_cells (T := T) (sub := sub) s m ns (L ++ [(sd * 16807 + 5) / 3 % 65521]) sd (.im (.int c)) s5 (.im (.int x)) (hL.snoc (Int.emod_nonneg _ (by decide))) hs2 (by rw [List.length_append, List.length_singleton]; omega)
      rw [List.length_append, List.length_singleton] at i3
      refine ⟨L', seed', s4', s5'', s6', i1, i2, by rw [List.length_cons]; omega, ?_⟩
      simp only [body1, dSs_cons, dSs_nil, dS_ite, dS_fo, frzL_nil, e1, e2, ct, ap, fl_ok, Bool.false_eq_true, if_false, go_nx, lp_nx]
      exact i4
def body2 : Sms := (.cons (.ite [] (.cmp .lt (.ev (.blt .len (.cons (.own 2) .nil))) (.own 1))
      (.cons (.set [] 3 false (.bin .mod (.blt .int (.cons (.ev (.bin .add (.bin .add (.bin .mul (.var 3) (.cst (.int 69621))) (.var 5)) (.cst (.int 1)))) .nil)) (.cst (.int 2147483647)))) <|
      (.cons (.app [] 2 (.bin .mod (.bin .div (.blt .int (.cons (.own 3) .nil)) (.cst (.int 7))) (.cst (.int 65521)))) .nil))
      .nil) .nil)
theorem loop_fill {T : Nat → List D → R D} {sub} (s : D) (m : Nat) (s4 s6 : Slot) (hm : m < 2 ^ 15) : ∀ (k : Nat) (lo : Int) (L : List Int) (seed : Int) (s5 : Slot), Pos L → 0 ≤ seed → L.length < 2 ^ 15 → m ≤ L.length + k → ∃ L' seed' s5', Pos L' ∧ m ≤ L'.length ∧ L'.length < 2 ^ 16 ∧ forL (dTg (.nm 5)) (dSs T sub body2) (rngL lo k) (pD s (.int (m : Nat)) L seed s4 s5 s6) = .nx (pD s (.int (m : Nat)) L' seed' s4 s5' s6)
  | 0, lo, L, seed, s5, hL, hs, hl, hk => ⟨L, seed, s5, hL, by omega, by omega, rfl⟩
  | k + 1, lo, L, seed, s5, hL, hs, hl, hk => by
    rw [rngL_cons, forL_cons (ρ1 := pD s (.int (m : Nat)) L seed s4 (.im (.int lo)) s6) rfl]
    by_cases c : L.length < m
    · have ct : dT T (.cmp .lt (.ev (.blt .len (.cons (.own 2) .nil))) (.own 1)) (pD s (.int (m : Nat)) L seed s4 (.im (.int lo)) s6) = .ok true := by
        unfold pD
        simp only [dE_cst, dE_glb, dE_var, dE_bin, dE_neg, dE_cmp, dE_chn, dE_and, dE_or, dE_not, dE_ite, dE_tup, dE_lst, dE_call, dE_blt, dE_mkb, dE_isi, dE_ix, dE_sl, dE_rev, dE_comp, dE_gget, dE_gix, dE_dget1, dE_dget, dE_dis, asDic, dT_cst, dT_var, dT_bin, dT_cmp, dT_chn, dT_call, dT_blt, dT_isi, dT_ix, dT_ite, dT_and, dT_or, dT_not, dO_own, dO_ev, dBd_no, dBd_to, dBs_nil, dBs_cons, dEs_nil, dEs_cons, dIt_seq, dIt_rng1, dIt_rng2, dIt_enm, dIt_zip, dS_set, dS_unp, dS_par, dS_aug, dS_ret, dS_retN, dS_ite, dS_fo, dS_pass, dS_rai, dS_exp, dS_tr, dSs_nil, dSs_cons, go_nx, go_rt, go_exc, fl_ok, fl_exc, bind_ok, bind_exc, of_some, calm_ok, flof_some, look_0, look_s, lookB_im, lookB_ow, lookB_s, frzL_nil, frzL_cons, frz1_im, frz1_un, frz1_ow, frz1_s, tg_nm, tg_tp, tg_tpl, tgs_nil, tgs_cons, obind, set_0, set_s, lp_nx, lp_ct, lp_bk, lp_rt, lp_exc, out_rt, out_nx, out_exc, ownList, isFr, Bool.and_true, Bool.and_false, Bool.true_and, Bool.false_and, Bool.not_true, Bool.not_false, binD, addD, augD, truD, if_true, if_false, Bool.false_eq_true, ↓reduceIte, startE_nil, startE_cons, reduceCtorEq, decide_true, decide_false, tyD, len_lst, lt_int, List.length_map, Int.ofNat_lt, c]
      have e2 : dS T sub (.set [] 3 false (.bin .mod (.blt .int (.cons (.ev (.bin .add (.bin .add (.bin .mul (.var 3) (.cst (.int 69621))) (.var 5)) (.cst (.int 1)))) .nil)) (.cst (.int 2147483647)))) (pD s (.int (m : Nat)) L seed s4 (.im (.int lo)) s6) = .nx (pD s (.int (m : Nat)) L ((seed * 69621 + lo + 1) % 2147483647) s4 (.im (.int lo)) s6) := by
        unfold pD
        simp only [dE_cst, dE_glb, dE_var, dE_bin, dE_neg, dE_cmp, dE_chn, dE_and, dE_or, dE_not, dE_ite, dE_tup, dE_lst, dE_call, dE_blt, dE_mkb, dE_isi, dE_ix, dE_sl, dE_rev, dE_comp, dE_gget, dE_gix, dE_dget1, dE_dget, dE_dis, asDic, dT_cst, dT_var, dT_bin, dT_cmp, dT_chn, dT_call, dT_blt, dT_isi, dT_ix, dT_ite, dT_and, dT_or, dT_not, dO_own, dO_ev, dBd_no, dBd_to, dBs_nil, dBs_cons, dEs_nil, dEs_cons, dIt_seq, dIt_rng1, dIt_rng2, dIt_enm, dIt_zip, dS_set, dS_unp, dS_par, dS_aug, dS_ret, dS_retN, dS_ite, dS_fo, dS_pass, dS_rai, dS_exp, dS_tr, dSs_nil, dSs_cons, go_nx, go_rt, go_exc, fl_ok, fl_exc, bind_ok, bind_exc, of_some, calm_ok, flof_some, look_0, look_s, lookB_im, lookB_ow, lookB_s, frzL_nil, frzL_cons, frz1_im, frz1_un, frz1_ow, frz1_s, tg_nm, tg_tp, tg_tpl, tgs_nil, tgs_cons, obind, set_0, set_s, lp_nx, lp_ct, lp_bk, lp_rt, lp_exc, out_rt, out_nx, out_exc, ownList, isFr, Bool.and_true, Bool.and_false, Bool.true_and, Bool.false_and, Bool.not_true, Bool.not_false, binD, addD, augD, truD, if_true, if_false, Bool.false_eq_true, ↓reduceIte, startE_nil, startE_cons, reduceCtorEq, decide_true, decide_false, tyD, int_int, mul_r (by decide : -(2 ^ 64) < (69621 : Int) ∧ (69621 : Int) < 2 ^ 64), (by decide : ((0 : Int) < 2147483647) = True)]
      have hs2 : 0 ≤ (seed * 69621 + lo + 1) % 2147483647 := Int.emod_nonneg _ (by decide)
      generalize (seed * 69621 + lo + 1) % 2147483647 = sd at e2 hs2
      have ap := app_ok (T := T) (sub := sub) (s := s) (m := .int (m : Nat)) (L := L) (seed := sd) (s4 := s4) (s5 := .im (.int lo)) (num := s6) (e := .bin .mod (.bin .div (.blt .int (.cons (.own 3) .nil)) (.cst (.int 7))) (.cst (.int 65521))) (v := sd / 7 % 65521) (by
        unfold pD
        simp only [dE_cst, dE_glb, dE_var, dE_bin, dE_neg, dE_cmp, dE_chn, dE_and, dE_or, dE_not, dE_ite, dE_tup, dE_lst, dE_call, dE_blt, dE_mkb, dE_isi, dE_ix, dE_sl, dE_rev, dE_comp, dE_gget, dE_gix, dE_dget1, dE_dget, dE_dis, asDic, dT_cst, dT_var, dT_bin, dT_cmp, dT_chn, dT_call, dT_blt, dT_isi, dT_ix, dT_ite, dT_and, dT_or, dT_not, dO_own, dO_ev, dBd_no, dBd_to, dBs_nil, dBs_cons, dEs_nil, dEs_cons, dIt_seq, dIt_rng1, dIt_rng2, dIt_enm, dIt_zip, dS_set, dS_unp, dS_par, dS_aug, dS_ret, dS_retN, dS_ite, dS_fo, dS_pass, dS_rai, dS_exp, dS_tr, dSs_nil, dSs_cons, go_nx, go_rt, go_exc, fl_ok, fl_exc, bind_ok, bind_exc, of_some, calm_ok, flof_some, look_0, look_s, lookB_im, lookB_ow, lookB_s, frzL_nil, frzL_cons, frz1_im, frz1_un, frz1_ow, frz1_s, tg_nm, tg_tp, tg_tpl, tgs_nil, tgs_cons, obind, set_0, set_s, lp_nx, lp_ct, lp_bk, lp_rt, lp_exc, out_rt, out_nx, out_exc, ownList, isFr, Bool.and_true, Bool.and_false, Bool.true_and, Bool.false_and, Bool.not_true, Bool.not_false, binD, addD, augD, truD, if_true, if_false, Bool.false_eq_true, ↓reduceIte, startE_nil, startE_cons, reduceCtorEq, decide_true, decide_false, tyD, int_int, (by decide : ((0 : Int) < 65521) = True), (by decide : ((0 : Int) < 7) = True), (by decide : ((7 : Int) < 1073741824) = True), and_self]) (by omega)
      obtain ⟨L', seed', s5', i1, i2, i3, i4⟩ := loop_fill (T := T) (sub := sub) s m s4 s6 hm k (lo + 1) (L ++ [sd / 7 % 65521]) sd (.im (.int lo)) (hL.snoc (Int.emod_nonneg _ (by decide))) hs2 (by rw [List.length_append, List.length_singleton]; omega) (by rw [List.length_append, List.length_singleton]; omega)
      refine ⟨L', seed', s5', i1, i2, i3, ?_⟩
      simp only [body2, dSs_cons, dSs_nil, dS_ite, frzL_nil, e2, ct, ap, fl_ok, if_true, go_nx, lp_nx]
      exact i4
    · have ct : dT T (.cmp .lt (.ev (.blt .len (.cons (.own 2) .nil))) (.own 1)) (pD s (.int (m : Nat)) L seed s4 (.im (.int lo)) s6) = .ok false := by
        unfold pD
        simp only [dE_cst, dE_glb, dE_var, dE_bin, dE_neg, dE_cmp, dE_chn, dE_and, dE_or, dE_not, dE_ite, dE_tup, dE_lst, dE_call, dE_blt, dE_mkb, dE_isi, dE_ix, dE_sl, dE_rev, dE_comp, dE_gget, dE_gix, dE_dget1, dE_dget, dE_dis, asDic, dT_cst, dT_var, dT_bin, dT_cmp, dT_chn, dT_call, dT_blt, dT_isi, dT_ix, dT_ite, dT_and, dT_or, dT_not, dO_own, dO_ev, dBd_no, dBd_to, dBs_nil, dBs_cons, dEs_nil, dEs_cons, dIt_seq, dIt_rng1, dIt_rng2, dIt_enm, dIt_zip, dS_set, dS_unp, dS_par, dS_aug, dS_ret, dS_retN, dS_ite, dS_fo, dS_pass, dS_rai, dS_exp, dS_tr, dSs_nil, dSs_cons, go_nx, go_rt, go_exc, fl_ok, fl_exc, bind_ok, bind_exc, of_some, calm_ok, flof_some, look_0, look_s, lookB_im, lookB_ow, lookB_s, frzL_nil, frzL_cons, frz1_im, frz1_un, frz1_ow, frz1_s, tg_nm, tg_tp, tg_tpl, tgs_nil, tgs_cons, obind, set_0, set_s, lp_nx, lp_ct, lp_bk, lp_rt, lp_exc, out_rt, out_nx, out_exc, ownList, isFr, Bool.and_true, Bool.and_false, Bool.true_and, Bool.false_and, Bool.not_true, Bool.not_false, binD, addD, augD, truD, if_true, if_false, Bool.false_eq_true, ↓reduceIte, startE_nil, startE_cons, reduceCtorEq, decide_true, decide_false, tyD, len_lst, lt_int, List.length_map, Int.ofNat_lt, c]
      obtain ⟨L', seed', s5', i1, i2, i3, i4⟩ := loop_fill (T := T) (sub := sub) s m s4 s6 hm k (lo + 1) L seed (.im (.int lo)) hL hs hl (by omega)
      refine ⟨L', seed', s5', i1, i2, i3, ?_⟩
      simp only [body2, dSs_cons, dSs_nil, dS_ite, frzL_nil, ct, fl_ok, Bool.false_eq_true, if_false, go_nx, lp_nx]
      exact i4
theorem getD_pos {L : List Int} (h : Pos L) (k : Nat) : 0 ≤ L.getD k 0 := by
  rw [List.getD_eq_getElem?_getD]
  cases q : L[k]? with
  | none => exact Int.le_refl _
  | some a => exact h a (List.mem_of_getElem? q)
def drawsB : Sms :=
  (.cons (.set [] 2 true (.lst .nil)) <|
  (.cons (.set [] 3 false (.cst (.int 7))) <|
  (.cons (.fo [] (.nm 4) (.seq (.sl (.var 0) .no (.to (.cst (.int 63)))))
    (.cons (.set [] 6 false (.blt .abs (.cons (.own 4) .nil))) <|
    (.cons (.set [] 3 false (.bin .mod (.blt .int (.cons (.ev (.bin .add (.bin .add (.bin .mul (.var 3) (.cst (.int 48271))) (.var 6)) (.cst (.int 11)))) .nil)) (.cst (.int 2147483647)))) <|
    (.cons (.ite [] (.cmp .ge (.own 6) (.ev (.bin .pow (.cst (.int 10)) (.cst (.int 18)))))
      (.cons (.fo [] (.nm 5) (.rng1 (.cst (.int 60)))
        (.cons (.ite [] (.cmp .gt (.own 6) (.ev (.cst (.int 0))))
          (.cons (.app [] 2 (.bin .mod (.blt .int (.cons (.own 6) .nil)) (.cst (.int 1009)))) <|
          (.cons (.set [] 6 false (.bin .div (.var 6) (.cst (.int 1009)))) .nil))
          .nil) .nil)) .nil)
      (.cons (.app [] 2 (.bin .mod (.bin .div (.blt .int (.cons (.ev (.bin .add (.bin .mul (.var 3) (.cst (.int 16807))) (.cst (.int 5)))) .nil)) (.cst (.int 3))) (.cst (.int 65521)))) .nil)) .nil)))) <|
  (.cons (.fo [] (.nm 5) (.rng1 (.var 1))
    (.cons (.ite [] (.cmp .lt (.ev (.blt .len (.cons (.own 2) .nil))) (.own 1))
      (.cons (.set [] 3 false (.bin .mod (.blt .int (.cons (.ev (.bin .add (.bin .add (.bin .mul (.var 3) (.cst (.int 69621))) (.var 5)) (.cst (.int 1)))) .nil)) (.cst (.int 2147483647)))) <|
      (.cons (.app [] 2 (.bin .mod (.bin .div (.blt .int (.cons (.own 3) .nil)) (.cst (.int 7))) (.cst (.int 65521)))) .nil))
      .nil) .nil)) <|
  (.cons (.ret [2] (.sl (.var 2) .no (.to (.var 1)))) .nil)))))
theorem run_draws {t : Txt} {i : Nat} {d : Def} (hi : t.defs[i]? = some d) (ha : d.ar = 2) (hN : d.N.length = 7) (hb : d.body = drawsB) (n : Nat) (ns : List Int) (m : Nat) (hm : m < 2 ^ 15) : ∃ L : List Int, Pos L ∧ L.length = m ∧ run t (n + 1) i [.scr ns, .int (m : Nat)] = .ok (.lst (L.map .int)) := by
  rw [run_s hi (by rw [ha]; rfl), hb]
  have hs : startE d.N [.scr ns, .int (m : Nat)] = [.im (.scr ns), .im (.int (m : Nat)), .un, .un, .un, .un, .un] := by
    unfold startE
    rw [hN]
    rfl
  rw [hs]
  show ∃ L : List Int, _ ∧ _ ∧ (dSs (run t n) (subL t.sub) drawsB [.im (.scr ns), .im (.int (m : Nat)), .un, .un, .un, .un, .un]).out = _
  obtain ⟨L1, seed1, s4, s5, s6, h1, h2, h3, h4⟩ := loop_cells (T := run t n) (sub := subL t.sub) (.scr ns) (.int (m : Nat)) (ns.take 63) [] 7 .un .un .un (fun a h => by cases h) (by decide) (by
    have : (ns.take 63).length ≤ 63 := List.length_take_le _ _
    simp only [List.length_nil]
    omega)
  have l63 : (ns.take 63).length ≤ 63 := List.length_take_le _ _
  simp only [List.length_nil] at h3
  obtain ⟨L2', seed2, s5', i1, i2, i3, i4⟩ := loop_fill (T := run t n) (sub := subL t.sub) (.scr ns) m s4 s6 hm m 0 L1 seed1 s5 h1 h2 (by omega) (by omega)
  refine ⟨L2'.take m, fun a ha => i1 a (List.mem_of_mem_take ha), by rw [List.length_take]; omega, ?_⟩
  have hd1 : dIt (run t n) (.seq (.sl (.var 0) .no (.to (.cst (.int 63))))) (pD (.scr ns) (.int (m : Nat)) [] 7 .un .un .un) = .ok ((ns.take 63).map .int) := by
    unfold pD
    have sl : slD (.scr ns) none (some 63) = some (.lst ((ns.take 63).map .int)) := by
      show some (D.lst (Z.cutD (ns.map D.int) none (some 63))) = _
      unfold Z.cutD
      rw [sIx_some (by decide)]
      show some (D.lst ((List.drop 0 (ns.map D.int)).take (min 63 (ns.map D.int).length - 0))) = _
      rw [List.drop_zero, Nat.sub_zero, List.map_take, ← List.take_take, List.take_length]
    simp only [dE_cst, dE_glb, dE_var, dE_bin, dE_neg, dE_cmp, dE_chn, dE_and, dE_or, dE_not, dE_ite, dE_tup, dE_lst, dE_call, dE_blt, dE_mkb, dE_isi, dE_ix, dE_sl, dE_rev, dE_comp, dE_gget, dE_gix, dE_dget1, dE_dget, dE_dis, asDic, dT_cst, dT_var, dT_bin, dT_cmp, dT_chn, dT_call, dT_blt, dT_isi, dT_ix, dT_ite, dT_and, dT_or, dT_not, dO_own, dO_ev, dBd_no, dBd_to, dBs_nil, dBs_cons, dEs_nil, dEs_cons, dIt_seq, dIt_rng1, dIt_rng2, dIt_enm, dIt_zip, dS_set, dS_unp, dS_par, dS_aug, dS_ret, dS_retN, dS_ite, dS_fo, dS_pass, dS_rai, dS_exp, dS_tr, dSs_nil, dSs_cons, go_nx, go_rt, go_exc, fl_ok, fl_exc, bind_ok, bind_exc, of_some, calm_ok, flof_some, look_0, look_s, lookB_im, lookB_ow, lookB_s, frzL_nil, frzL_cons, frz1_im, frz1_un, frz1_ow, frz1_s, tg_nm, tg_tp, tg_tpl, tgs_nil, tgs_cons, obind, set_0, set_s, lp_nx, lp_ct, lp_bk, lp_rt, lp_exc, out_rt, out_nx, out_exc, ownList, isFr, Bool.and_true, Bool.and_false, Bool.true_and, Bool.false_and, Bool.not_true, Bool.not_false, binD, addD, augD, truD, if_true, if_false, Bool.false_eq_true, ↓reduceIte, startE_nil, startE_cons, reduceCtorEq, decide_true, decide_false, tyD, sl, itemsD]
  have hd2 : dIt (run t n) (.rng1 (.var 1)) (pD (.scr ns) (.int (m : Nat)) L1 seed1 s4 s5 s6) = .ok (rngL 0 m) := by
    unfold pD
    simp only [dE_cst, dE_glb, dE_var, dE_bin, dE_neg, dE_cmp, dE_chn, dE_and, dE_or, dE_not, dE_ite, dE_tup, dE_lst, dE_call, dE_blt, dE_mkb, dE_isi, dE_ix, dE_sl, dE_rev, dE_comp, dE_gget, dE_gix, dE_dget1, dE_dget, dE_dis, asDic, dT_cst, dT_var, dT_bin, dT_cmp, dT_chn, dT_call, dT_blt, dT_isi, dT_ix, dT_ite, dT_and, dT_or, dT_not, dO_own, dO_ev, dBd_no, dBd_to, dBs_nil, dBs_cons, dEs_nil, dEs_cons, dIt_seq, dIt_rng1, dIt_rng2, dIt_enm, dIt_zip, dS_set, dS_unp, dS_par, dS_aug, dS_ret, dS_retN, dS_ite, dS_fo, dS_pass, dS_rai, dS_exp, dS_tr, dSs_nil, dSs_cons, go_nx, go_rt, go_exc, fl_ok, fl_exc, bind_ok, bind_exc, of_some, calm_ok, flof_some, look_0, look_s, lookB_im, lookB_ow, lookB_s, frzL_nil, frzL_cons, frz1_im, frz1_un, frz1_ow, frz1_s, tg_nm, tg_tp, tg_tpl, tgs_nil, tgs_cons, obind, set_0, set_s, lp_nx, lp_ct, lp_bk, lp_rt, lp_exc, out_rt, out_nx, out_exc, ownList, isFr, Bool.and_true, Bool.and_false, Bool.true_and, Bool.false_and, Bool.not_true, Bool.not_false, binD, addD, augD, truD, if_true, if_false, Bool.false_eq_true, ↓reduceIte, startE_nil, startE_cons, reduceCtorEq, decide_true, decide_false, tyD, inRng_nat (by omega : m < 2 ^ 60), toNat_nat]
  have e0 : dS (run t n) (subL t.sub) (.set [] 2 true (.lst .nil)) [.im (.scr ns), .im (.int (m : Nat)), .un, .un, .un, .un, .un] = .nx [.im (.scr ns), .im (.int (m : Nat)), .ow (.lst []), .un, .un, .un, .un] := by
    simp only [dE_cst, dE_glb, dE_var, dE_bin, dE_neg, dE_cmp, dE_chn, dE_and, dE_or, dE_not, dE_ite, dE_tup, dE_lst, dE_call, dE_blt, dE_mkb, dE_isi, dE_ix, dE_sl, dE_rev, dE_comp, dE_gget, dE_gix, dE_dget1, dE_dget, dE_dis, asDic, dT_cst, dT_var, dT_bin, dT_cmp, dT_chn, dT_call, dT_blt, dT_isi, dT_ix, dT_ite, dT_and, dT_or, dT_not, dO_own, dO_ev, dBd_no, dBd_to, dBs_nil, dBs_cons, dEs_nil, dEs_cons, dIt_seq, dIt_rng1, dIt_rng2, dIt_enm, dIt_zip, dS_set, dS_unp, dS_par, dS_aug, dS_ret, dS_retN, dS_ite, dS_fo, dS_pass, dS_rai, dS_exp, dS_tr, dSs_nil, dSs_cons, go_nx, go_rt, go_exc, fl_ok, fl_exc, bind_ok, bind_exc, of_some, calm_ok, flof_some, look_0, look_s, lookB_im, lookB_ow, lookB_s, frzL_nil, frzL_cons, frz1_im, frz1_un, frz1_ow, frz1_s, tg_nm, tg_tp, tg_tpl, tgs_nil, tgs_cons, obind, set_0, set_s, lp_nx, lp_ct, lp_bk, lp_rt, lp_exc, out_rt, out_nx, out_exc, ownList, isFr, Bool.and_true, Bool.and_false, Bool.true_and, Bool.false_and, Bool.not_true, Bool.not_false, binD, addD, augD, truD, if_true, if_false, Bool.false_eq_true, ↓reduceIte, startE_nil, startE_cons, reduceCtorEq, decide_true, decide_false, tyD, List.length_nil, (by decide : (0 ≤ lim) = True)]
  have e1 : dS (run t n) (subL t.sub) (.set [] 3 false (.cst (.int 7))) [.im (.scr ns), .im (.int (m : Nat)), .ow (.lst []), .un, .un, .un, .un] = .nx (pD (.scr ns) (.int (m : Nat)) [] 7 .un .un .un) := rfl
  have e9 : dS (run t n) (subL t.sub) (.ret [2] (.sl (.var 2) .no (.to (.var 1)))) (pD (.scr ns) (.int (m : Nat)) L2' seed2 s4 s5' s6) = .rt (.lst ((L2'.take m).map .int)) := by
    unfold pD
    have sl : slD (.lst (L2'.map .int)) none (some (m : Nat)) = some (.lst ((L2'.take m).map .int)) := by
      show some (D.lst (Z.cutD (L2'.map D.int) none (some ((m : Nat) : Int)))) = _
      unfold Z.cutD
      rw [sIx_some (by omega)]
      show some (D.lst ((List.drop 0 (L2'.map D.int)).take (min ((m : Int)).toNat (L2'.map D.int).length - 0))) = _
      rw [List.drop_zero, Nat.sub_zero, toNat_nat, List.map_take, ← List.take_take, List.take_length]
    simp only [dE_cst, dE_glb, dE_var, dE_bin, dE_neg, dE_cmp, dE_chn, dE_and, dE_or, dE_not, dE_ite, dE_tup, dE_lst, dE_call, dE_blt, dE_mkb, dE_isi, dE_ix, dE_sl, dE_rev, dE_comp, dE_gget, dE_gix, dE_dget1, dE_dget, dE_dis, asDic, dT_cst, dT_var, dT_bin, dT_cmp, dT_chn, dT_call, dT_blt, dT_isi, dT_ix, dT_ite, dT_and, dT_or, dT_not, dO_own, dO_ev, dBd_no, dBd_to, dBs_nil, dBs_cons, dEs_nil, dEs_cons, dIt_seq, dIt_rng1, dIt_rng2, dIt_enm, dIt_zip, dS_set, dS_unp, dS_par, dS_aug, dS_ret, dS_retN, dS_ite, dS_fo, dS_pass, dS_rai, dS_exp, dS_tr, dSs_nil, dSs_cons, go_nx, go_rt, go_exc, fl_ok, fl_exc, bind_ok, bind_exc, of_some, calm_ok, flof_some, look_0, look_s, lookB_im, lookB_ow, lookB_s, frzL_nil, frzL_cons, frz1_im, frz1_un, frz1_ow, frz1_s, tg_nm, tg_tp, tg_tpl, tgs_nil, tgs_cons, obind, set_0, set_s, lp_nx, lp_ct, lp_bk, lp_rt, lp_exc, out_rt, out_nx, out_exc, ownList, isFr, Bool.and_true, Bool.and_false, Bool.true_and, Bool.false_and, Bool.not_true, Bool.not_false, binD, addD, augD, truD, if_true, if_false, Bool.false_eq_true, ↓reduceIte, startE_nil, startE_cons, reduceCtorEq, decide_true, decide_false, tyD, sl]
  simp only [drawsB]
  rw [dSs_cons, e0, go_nx, dSs_cons, e1, go_nx, dSs_cons, dS_fo, frzL_nil, hd1, fl_ok]
  have h4 : forL (dTg (.nm 4)) (dSs (run t n) (subL t.sub) body1) ((ns.take 63).map .int) (pD (.scr ns) (.int (m : Nat)) [] 7 .un .un .un) = _ := h4
  have i4 : forL (dTg (.nm 5)) (dSs (run t n) (subL t.sub) body2) (rngL 0 m) (pD (.scr ns) (.int (m : Nat)) L1 seed1 s4 s5 s6) = _ := i4
  unfold body1 at h4
  unfold body2 at i4
  rw [h4, go_nx, dSs_cons, dS_fo, frzL_nil, hd2, fl_ok, i4, go_nx, dSs_cons, e9, go_rt, out_rt]
end Z
namespace Law
open PySem PySem.Spec PyProof.Rows L2 Z
/-! ### trees -/
def firstN (s : Str) : Nat := if s = "word" then 3 else if s = "var" then 2 else if s = "part" then 3 else if s = "zero" then 2 else if s = "sign" then 2 else 1
def plainKinds : List (Str × Nat) := [("not", 1), ("neg", 1), ("no", 1), ("true", 0), ("join", 2), ("pick", 3), ("and", 2), ("or", 2), ("xor", 2), ("add", 2), ("sub", 2), ("mul", 2), ("div", 2), ("rem", 2), ("shl", 2), ("shr", 2), ("sar", 2), ("same", 2), ("below", 2), ("less", 2), ("both", 2), ("either", 2)]
inductive Node : Str → List D → Nat → Prop where
  | word (w v : Nat) : 1 ≤ w → w ≤ 16 → v < 2 ^ w → Node "word" [.int (w : Nat), .int (v : Nat)] 0
  | var (x : Str) : x = "x" ∨ x = "y" ∨ x = "z" → Node "var" [.str x] 0
  | part (a b : Nat) : a ≤ 65536 → b ≤ 65536 → Node "part" [.int (a : Nat), .int (b : Nat)] 1
  | zero (a : Nat) : a ≤ 65536 → Node "zero" [.int (a : Nat)] 1
  | sign (a : Nat) : a ≤ 65536 → Node "sign" [.int (a : Nat)] 1
  | plain (s : Str) (m : Nat) : (s, m) ∈ plainKinds → Node s [] m
def Sh : Nat → D → Prop
  | 0, _ => False
  | n + 1, d => ∃ (s : Str) (pre kids : List D), d = .tup (.str s :: (pre ++ kids)) ∧ Node s pre kids.length ∧ ∀ q ∈ kids, Sh n q
theorem Sh.up : ∀ {n : Nat} {d : D}, Sh n d → Sh (n + 1) d
  | 0, _, h => h.elim
  | n + 1, d, h => by
    obtain ⟨s, pre, kids, e, h1, h2⟩ := h
    exact ⟨s, pre, kids, e, h1, fun q hq => (h2 q hq).up⟩
theorem Sh.le {n m : Nat} {d : D} (h : Sh n d) (hm : n ≤ m) : Sh m d := by
  induction hm with
  | refl => exact h
  | step _ ih => exact ih.up
theorem plain_first {s : Str} {m : Nat} (h : (s, m) ∈ plainKinds) : firstN s = 1 ∧ m ≤ 3 := by
  simp only [plainKinds, List.mem_cons, List.not_mem_nil, or_false, Prod.mk.injEq] at h
  rcases h with ⟨rfl, rfl⟩ | ⟨rfl, rfl⟩ | ⟨rfl, rfl⟩ | ⟨rfl, rfl⟩ | ⟨rfl, rfl⟩ | ⟨rfl, rfl⟩ | ⟨rfl, rfl⟩ | ⟨rfl, rfl⟩ | ⟨rfl, rfl⟩ | ⟨rfl, rfl⟩ | ⟨rfl, rfl⟩ | ⟨rfl, rfl⟩ | ⟨rfl, rfl⟩ | ⟨rfl, rfl⟩ | ⟨rfl, rfl⟩ | ⟨rfl, rfl⟩ | ⟨rfl, rfl⟩ | ⟨rfl, rfl⟩ | ⟨rfl, rfl⟩ | ⟨rfl, rfl⟩ | ⟨rfl, rfl⟩ | ⟨rfl, rfl⟩ <;> exact ⟨by decide +kernel, by decide⟩
theorem Node.pre {s : Str} {pre : List D} {m : Nat} (h : Node s pre m) : pre.length + 1 = firstN s ∧ m ≤ 3 := by
  cases h with
  | plain s m h => obtain ⟨h1, h2⟩ := plain_first h; exact ⟨by rw [h1]; rfl, h2⟩
  | word => exact ⟨(by decide +kernel : 3 = firstN "word"), by decide⟩
  | var => exact ⟨(by decide +kernel : 2 = firstN "var"), by decide⟩
  | part => exact ⟨(by decide +kernel : 3 = firstN "part"), by decide⟩
  | zero => exact ⟨(by decide +kernel : 2 = firstN "zero"), by decide⟩
  | sign => exact ⟨(by decide +kernel : 2 = firstN "sign"), by decide⟩
def kidsOf : D → List D
  | .tup (.str s :: r) => r.drop (firstN s - 1)
  | _ => []
theorem kids_eq {s : Str} {pre kids : List D} {m : Nat} (h : Node s pre m) : kidsOf (.tup (.str s :: (pre ++ kids))) = kids := by
  show (pre ++ kids).drop (firstN s - 1) = kids
  have := h.pre.1
  rw [show firstN s - 1 = pre.length from by omega, List.drop_left]
def isT : D → Bool
  | .tup _ => true
  | _ => false
theorem Node.pre_no {s : Str} {pre : List D} {m : Nat} (h : Node s pre m) : pre.filter isT = [] := by
  cases h <;> rfl
theorem Sh.isT {n : Nat} {d : D} (h : Sh n d) : Law.isT d = true := by
  cases n with
  | zero => exact h.elim
  | succ n => obtain ⟨s, pre, kids, rfl, _⟩ := h; rfl
theorem filter_kids {s : Str} {pre kids : List D} {m n : Nat} (h : Node s pre m) (hk : ∀ q ∈ kids, Sh n q) : (pre ++ kids).filter Law.isT = kids := by
  rw [List.filter_append, h.pre_no, List.nil_append, List.filter_eq_self]
  exact fun q hq => (hk q hq).isT
/-! ### what is computed -/
def cnt : Nat → D → Nat
  | 0, _ => 0
  | n + 1, d => 1 + ((kidsOf d).map (cnt n)).sum
def plcL (f : D → List Int → List (List Int × D)) (ab : List Int) : Nat → List D → List (List Int × D)
  | _, [] => []
  | j, q :: r => f q (ab ++ [(j : Int)]) ++ plcL f ab (j + 1) r
def plc : Nat → D → List Int → List (List Int × D)
  | 0, _, _ => []
  | n + 1, d, ab => (ab, d) :: plcL (plc n) ab 0 (kidsOf d)
def setN : Nat → D → List D → List D
  | _, _, [] => []
  | 0, x, _ :: r => x :: r
  | j + 1, x, y :: r => y :: setN j x r
theorem plcL_len {f : D → List Int → List (List Int × D)} {ab : List Int} {B : Nat} : ∀ (ks : List D) (j : Nat), (∀ q ∈ ks, ∀ ab, (f q ab).length ≤ B) → (plcL f ab j ks).length ≤ ks.length * B
  | [], _, _ => by simp [plcL]
  | q :: r, j, h => by
    show (f q _ ++ plcL f ab (j + 1) r).length ≤ _
    have h1 := h q List.mem_cons_self (ab ++ [(j : Int)])
    have h2 := plcL_len r (j + 1) (ab := ab) fun z hz => h z (List.mem_cons_of_mem _ hz)
    rw [List.length_append, List.length_cons, Nat.succ_mul]
    omega
theorem plc_len : ∀ (n : Nat) (d : D) (ab : List Int), Sh n d → (plc n d ab).length ≤ 4 ^ n
  | 0, _, _, h => h.elim
  | n + 1, d, ab, h => by
    obtain ⟨s, pre, kids, rfl, h1, h2⟩ := h
    show (plcL (plc n) ab 0 (kidsOf _)).length + 1 ≤ _
    rw [kids_eq h1]
    have a := plcL_len (f := plc n) (ab := ab) (B := 4 ^ n) kids 0 fun q hq ab => plc_len n q ab (h2 q hq)
    have b := h1.pre.2
    have c : kids.length * 4 ^ n ≤ 3 * 4 ^ n := Nat.mul_le_mul_right _ b
    have e : 0 < 4 ^ n := Nat.pos_of_ne_zero (by simp)
    rw [Nat.pow_succ]
    omega
theorem plcL_mem {f : D → List Int → List (List Int × D)} {ab : List Int} {x : List Int × D} : ∀ (ks : List D) (j : Nat), x ∈ plcL f ab j ks → ∃ i q, ks[i]? = some q ∧ x ∈ f q (ab ++ [((j + i : Nat) : Int)])
  | [], _, h => by cases h
  | q :: r, j, h => by
    rcases List.mem_append.mp h with z | z
    · exact ⟨0, q, rfl, z⟩
    · obtain ⟨i, q', h1, h2⟩ := plcL_mem r (j + 1) z
      exact ⟨i + 1, q', by rw [List.getElem?_cons_succ]; exact h1, by rw [show j + (i + 1) = j + 1 + i from by omega]; exact h2⟩
theorem plcL_put {f : D → List Int → List (List Int × D)} {q' cd : List Int} {q y : D} : ∀ (ks : List D) (j : Nat) {i : Nat}, ks[i]? = some q → (∀ ab, (ab ++ q', y) ∈ f q ab) → (cd ++ ((j + i : Nat) : Int) :: q', y) ∈ plcL f cd j ks
  | [], _, _, h, _ => by simp at h
  | z :: r, j, 0, h, hm => by
    rw [List.getElem?_cons_zero] at h
    cases h
    have := hm (cd ++ [((j : Nat) : Int)])
    rw [List.append_assoc] at this
    exact List.mem_append_left _ this
  | z :: r, j, i + 1, h, hm => by
    rw [List.getElem?_cons_succ] at h
    have := plcL_put (cd := cd) r (j + 1) h hm
    rw [show j + (i + 1) = j + 1 + i from by omega]
    exact List.mem_append_right _ this
/-- a place within goes on from the place above; its numbers are small -/
theorem plc_form : ∀ (n : Nat) (d : D) (ab : List Int), Sh n d → ∀ x ∈ plc n d ab, ∃ q : List Int, x.1 = ab ++ q ∧ q.length < n ∧ (∀ i ∈ q, 0 ≤ i ∧ i < 3) ∧ ∀ cd, (cd ++ q, x.2) ∈ plc n d cd
  | 0, _, _, h, _, _ => h.elim
  | n + 1, d, ab, h, x, hx => by
    obtain ⟨s, pre, kids, rfl, h1, h2⟩ := h
    have u : ∀ ab, plc (n + 1) (.tup (.str s :: (pre ++ kids))) ab = (ab, .tup (.str s :: (pre ++ kids))) :: plcL (plc n) ab 0 kids := fun ab => by
      show (_ :: plcL (plc n) ab 0 (kidsOf _)) = _
      rw [kids_eq h1]
    rw [u] at hx
    rcases List.mem_cons.mp hx with rfl | hx
    · exact ⟨[], by simp, by simp, by simp, fun cd => by rw [u, List.append_nil]; exact List.mem_cons_self⟩
    · obtain ⟨i, q, hq, hx⟩ := plcL_mem kids 0 hx
      have hi : i < kids.length := by
        rcases Nat.lt_or_ge i kids.length with z | z
        · exact z
        · rw [List.getElem?_eq_none z] at hq; cases hq
      have b := h1.pre.2
      have sq := h2 q (List.mem_of_getElem? hq)
      obtain ⟨q', e, l, sm, hm⟩ := plc_form n q _ sq x hx
      refine ⟨((0 + i : Nat) : Int) :: q', by rw [e, List.append_assoc]; rfl, by rw [List.length_cons]; omega, fun z hz => ?_, fun cd => ?_⟩
      · rcases List.mem_cons.mp hz with rfl | hz
        · omega
        · exact sm z hz
      · rw [u]
        exact List.mem_cons_of_mem _ (plcL_put kids 0 hq (cd := cd) hm)
end Law
namespace Law
open PySem PySem.Spec PyProof.Rows L2 Z
/-! ### drawn words, expressions, assertions -/
def leafS5 : Sm := (.ret [] (.tup (.cons (.cst (.str "part")) (.cons (.bin .sub (.bin .add (.var 3) (.var 2)) (.cst (.int 1))) (.cons (.var 3) (.cons (.tup (.cons (.cst (.str "var")) (.cons (.var 4) .nil))) .nil))))))
def leafS4 : Sm := (.set [] 3 false (.bin .mod (.blt .int (.cons (.ev (.ix (.own 0) (.cst (.int 2)))) .nil)) (.bin .add (.bin .sub (.var 5) (.var 2)) (.cst (.int 1)))))
def leafS3 : Sm := (.ite [] (.cmp .lt (.own 5) (.own 2)) (.cons (.ret [] (.tup (.cons (.ix (.ev (.lst (.cons (.cst (.str "zero")) (.cons (.cst (.str "sign")) .nil)))) (.bin .mod (.blt .int (.cons (.ev (.ix (.own 0) (.cst (.int 2)))) .nil)) (.cst (.int 2)))) (.cons (.bin .sub (.var 2) (.var 5)) (.cons (.tup (.cons (.cst (.str "var")) (.cons (.var 4) .nil))) .nil))))) .nil) .nil)
def leafS2 : Sm := (.ite [] (.cmp .eq (.own 5) (.own 2)) (.cons (.ret [] (.tup (.cons (.cst (.str "var")) (.cons (.var 4) .nil)))) .nil) .nil)
def leafS1 : Sm := (.ite [] (.cmp .eq (.ev (.bin .mod (.blt .int (.cons (.ev (.ix (.own 0) (.cst (.int 1)))) .nil)) (.cst (.int 4)))) (.ev (.cst (.int 0)))) (.cons (.ret [] (.tup (.cons (.cst (.str "word")) (.cons (.var 2) (.cons (.bin .mod (.blt .int (.cons (.ev (.ix (.own 0) (.cst (.int 2)))) .nil)) (.ix (.ev (.lst (.cons (.cst (.int 1)) (.cons (.cst (.int 2)) (.cons (.cst (.int 4)) (.cons (.cst (.int 8)) (.cons (.cst (.int 16)) (.cons (.cst (.int 32)) (.cons (.cst (.int 64)) (.cons (.cst (.int 128)) (.cons (.cst (.int 256)) (.cons (.cst (.int 512)) (.cons (.cst (.int 1024)) (.cons (.cst (.int 2048)) (.cons (.cst (.int 4096)) (.cons (.cst (.int 8192)) (.cons (.cst (.int 16384)) (.cons (.cst (.int 32768)) (.cons (.cst (.int 65536)) .nil))))))))))))))))))) (.var 2))) .nil))))) .nil) .nil)
def leafS0 : Sm := (.unp [] (.tp (.cons (.nm 4) (.cons (.nm 5) .nil))) (.ix (.own 1) (.bin .mod (.blt .int (.cons (.ev (.ix (.own 0) (.cst (.int 0)))) .nil)) (.blt .len (.cons (.own 1) .nil)))))
def leafB : Sms := (.cons leafS0 (.cons leafS1 (.cons leafS2 (.cons leafS3 (.cons leafS4 (.cons leafS5 .nil))))))
def exprS8 (iL iE iA : Nat) : Sm := (.ret [] (.tup (.cons (.ix (.ev (.lst (.cons (.cst (.str "and")) (.cons (.cst (.str "or")) (.cons (.cst (.str "xor")) (.cons (.cst (.str "add")) (.cons (.cst (.str "sub")) (.cons (.cst (.str "mul")) (.cons (.cst (.str "div")) (.cons (.cst (.str "rem")) (.cons (.cst (.str "shl")) (.cons (.cst (.str "shr")) (.cons (.cst (.str "sar")) (.cons (.cst (.str "add")) .nil)))))))))))))) (.bin .sub (.var 4) (.cst (.int 10)))) (.cons (.var 7) (.cons (.var 8) .nil)))))
def exprS7 (iL iE iA : Nat) : Sm := (.ite [] (.cmp .gt (.own 4) (.ev (.cst (.int 21)))) (.cons (.ret [] (.tup (.cons (.cst (.str "pick")) (.cons (.call iA (.cons (.sl (.var 0) (.to (.cst (.int 4))) .no) (.cons (.bin .sub (.var 1) (.cst (.int 1))) (.cons (.var 2) .nil)))) (.cons (.var 7) (.cons (.var 8) .nil)))))) .nil) .nil)
def exprS6 (iL iE iA : Nat) : Sm := (.par [] 7 8 (.cons (.call iE (.cons (.sl (.var 0) (.to (.cst (.int 2))) .no) (.cons (.bin .sub (.var 1) (.cst (.int 1))) (.cons (.var 2) (.cons (.var 3) .nil))))) (.cons (.call iE (.cons (.sl (.var 0) (.to (.cst (.int 7))) .no) (.cons (.bin .sub (.var 1) (.cst (.int 1))) (.cons (.var 2) (.cons (.var 3) .nil))))) .nil)))
def exprS5 (iL iE iA : Nat) : Sm := (.ite [] (.cmp .lt (.own 4) (.ev (.cst (.int 10)))) (.cons (.ret [] (.tup (.cons (.ix (.ev (.lst (.cons (.cst (.str "not")) (.cons (.cst (.str "neg")) .nil)))) (.bin .mod (.var 5) (.cst (.int 2)))) (.cons (.call iE (.cons (.sl (.var 0) (.to (.cst (.int 2))) .no) (.cons (.bin .sub (.var 1) (.cst (.int 1))) (.cons (.var 2) (.cons (.var 3) .nil))))) .nil)))) .nil) .nil)
def exprS4 (iL iE iA : Nat) : Sm := (.ite [] (.and_ (.cmp .eq (.own 4) (.ev (.cst (.int 7)))) (.cmp .lt (.own 3) (.ev (.cst (.int 7))))) (.cons (.ret [] (.tup (.cons (.cst (.str "part")) (.cons (.var 3) (.cons (.cst (.int 1)) (.cons (.call iE (.cons (.sl (.var 0) (.to (.cst (.int 2))) .no) (.cons (.bin .sub (.var 1) (.cst (.int 1))) (.cons (.var 2) (.cons (.bin .add (.bin .add (.var 3) (.cst (.int 1))) (.bin .mod (.var 5) (.cst (.int 2)))) .nil))))) .nil)))))) .nil) .nil)
def exprS3 (iL iE iA : Nat) : Sm := (.ite [] (.and_ (.cmp .eq (.own 4) (.ev (.cst (.int 6)))) (.cmp .gt (.own 3) (.ev (.cst (.int 1))))) (.cons (.set [] 6 false (.bin .add (.cst (.int 1)) (.bin .mod (.var 5) (.bin .sub (.var 3) (.cst (.int 1)))))) (.cons (.ret [] (.tup (.cons (.ix (.ev (.lst (.cons (.cst (.str "zero")) (.cons (.cst (.str "sign")) .nil)))) (.bin .mod (.bin .div (.var 5) (.cst (.int 8))) (.cst (.int 2)))) (.cons (.bin .sub (.var 3) (.var 6)) (.cons (.call iE (.cons (.sl (.var 0) (.to (.cst (.int 2))) .no) (.cons (.bin .sub (.var 1) (.cst (.int 1))) (.cons (.var 2) (.cons (.var 6) .nil))))) .nil))))) .nil)) .nil)
def exprS2 (iL iE iA : Nat) : Sm := (.ite [] (.and_ (.cmp .eq (.own 4) (.ev (.cst (.int 5)))) (.cmp .gt (.own 3) (.ev (.cst (.int 1))))) (.cons (.set [] 6 false (.bin .add (.cst (.int 1)) (.bin .mod (.var 5) (.bin .sub (.var 3) (.cst (.int 1)))))) (.cons (.ret [] (.tup (.cons (.cst (.str "join")) (.cons (.call iE (.cons (.sl (.var 0) (.to (.cst (.int 2))) .no) (.cons (.bin .sub (.var 1) (.cst (.int 1))) (.cons (.var 2) (.cons (.bin .sub (.var 3) (.var 6)) .nil))))) (.cons (.call iE (.cons (.sl (.var 0) (.to (.cst (.int 6))) .no) (.cons (.bin .sub (.var 1) (.cst (.int 1))) (.cons (.var 2) (.cons (.var 6) .nil))))) .nil))))) .nil)) .nil)
def exprS1 (iL iE iA : Nat) : Sm := (.ite [] (.or_ (.cmp .eq (.own 1) (.ev (.cst (.int 0)))) (.cmp .lt (.own 4) (.ev (.cst (.int 5))))) (.cons (.ret [] (.call iL (.cons (.sl (.var 0) (.to (.cst (.int 1))) .no) (.cons (.var 2) (.cons (.var 3) .nil))))) .nil) .nil)
def exprS0 (iL iE iA : Nat) : Sm := (.par [] 4 5 (.cons (.bin .mod (.blt .int (.cons (.ev (.ix (.own 0) (.cst (.int 0)))) .nil)) (.cst (.int 24))) (.cons (.blt .int (.cons (.ev (.ix (.own 0) (.cst (.int 1)))) .nil)) .nil)))
def exprB (iL iE iA : Nat) : Sms := (.cons (exprS0 iL iE iA) (.cons (exprS1 iL iE iA) (.cons (exprS2 iL iE iA) (.cons (exprS3 iL iE iA) (.cons (exprS4 iL iE iA) (.cons (exprS5 iL iE iA) (.cons (exprS6 iL iE iA) (.cons (exprS7 iL iE iA) (.cons (exprS8 iL iE iA) .nil)))))))))
def assS4 (iE iA : Nat) : Sm := (.ret [] (.tup (.cons (.ix (.ev (.lst (.cons (.cst (.str "same")) (.cons (.cst (.str "below")) (.cons (.cst (.str "less")) .nil))))) (.bin .mod (.var 4) (.cst (.int 3)))) (.cons (.call iE (.cons (.sl (.var 0) (.to (.cst (.int 2))) .no) (.cons (.bin .sub (.var 1) (.cst (.int 1))) (.cons (.var 2) (.cons (.var 3) .nil))))) (.cons (.call iE (.cons (.sl (.var 0) (.to (.cst (.int 8))) .no) (.cons (.bin .sub (.var 1) (.cst (.int 1))) (.cons (.var 2) (.cons (.var 3) .nil))))) .nil)))))
def assS3 (iE iA : Nat) : Sm := (.set [] 3 false (.ix (.ev (.lst (.cons (.ix (.ev (.ix (.own 2) (.bin .mod (.var 5) (.blt .len (.cons (.own 2) .nil))))) (.cst (.int 1))) (.cons (.bin .add (.cst (.int 1)) (.bin .mod (.var 5) (.cst (.int 5)))) .nil)))) (.bin .mod (.bin .div (.var 5) (.cst (.int 16))) (.cst (.int 2)))))
def assS2 (iE iA : Nat) : Sm := (.ite [] (.or_ (.cmp .eq (.own 1) (.ev (.cst (.int 0)))) (.and_ (.cmp .eq (.own 4) (.ev (.cst (.int 8)))) (.cmp .eq (.ev (.bin .mod (.var 5) (.cst (.int 4)))) (.ev (.cst (.int 0)))))) (.cons (.ret [] (.tup (.cons (.cst (.str "true")) .nil))) .nil) .nil)
def assS1 (iE iA : Nat) : Sm := (.ite [] (.and_ (.cmp .gt (.own 4) (.ev (.cst (.int 8)))) (.cmp .gt (.own 1) (.ev (.cst (.int 1))))) (.cons (.set [] 6 false (.call iA (.cons (.sl (.var 0) (.to (.cst (.int 2))) .no) (.cons (.bin .sub (.var 1) (.cst (.int 1))) (.cons (.var 2) .nil))))) (.cons (.ret [] (.ite (.cmp .eq (.own 4) (.ev (.cst (.int 9)))) (.tup (.cons (.cst (.str "no")) (.cons (.var 6) .nil))) (.tup (.cons (.ix (.ev (.lst (.cons (.cst (.str "both")) (.cons (.cst (.str "either")) .nil)))) (.bin .sub (.var 4) (.cst (.int 10)))) (.cons (.var 6) (.cons (.call iA (.cons (.sl (.var 0) (.to (.cst (.int 9))) .no) (.cons (.bin .sub (.var 1) (.cst (.int 1))) (.cons (.var 2) .nil)))) .nil)))))) .nil)) .nil)
def assS0 (iE iA : Nat) : Sm := (.par [] 4 5 (.cons (.bin .mod (.blt .int (.cons (.ev (.ix (.own 0) (.cst (.int 0)))) .nil)) (.cst (.int 12))) (.cons (.blt .int (.cons (.ev (.ix (.own 0) (.cst (.int 1)))) .nil)) .nil)))
def assB (iE iA : Nat) : Sms := (.cons (assS0 iE iA) (.cons (assS1 iE iA) (.cons (assS2 iE iA) (.cons (assS3 iE iA) (.cons (assS4 iE iA) .nil)))))
def wordsC : E := (.tup (.cons (.ix (.ev (.cst (.str "xyz"))) (.var 1)) (.cons (.bin .add (.cst (.int 1)) (.bin .mod (.blt .int (.cons (.ev (.ix (.own 0) (.bin .add (.cst (.int 1)) (.var 1)))) .nil)) (.ix (.ev (.lst (.cons (.cst (.int 7)) (.cons (.cst (.int 3)) (.cons (.cst (.int 2)) .nil))))) (.bin .mod (.blt .int (.cons (.ev (.ix (.own 0) (.cst (.int 0)))) .nil)) (.cst (.int 3)))))) .nil)))
def wordsB : Sms := (.cons (.ret [] (.mkb .tuple (.cons (.comp wordsC [1] (.nm 1) (.rng1 (.bin .add (.cst (.int 1)) (.bin .mod (.blt .int (.cons (.ev (.ix (.own 0) (.cst (.int 0)))) .nil)) (.cst (.int 3))))) (.cst (.bl true))) .nil))) .nil)
def wT (p : Str × Nat) : D := .tup [.str p.1, .int (p.2 : Nat)]
structure Words (ws : List (Str × Nat)) : Prop where
  ne : 0 < ws.length
  le : ws.length ≤ 3
  nm : ∀ p ∈ ws, (p.1 = "x" ∨ p.1 = "y" ∨ p.1 = "z") ∧ 1 ≤ p.2 ∧ p.2 ≤ 7
def twoK : List Str := ["and", "or", "xor", "add", "sub", "mul", "div", "rem", "shl", "shr", "sar", "add"]
mutual
/-- an expression of such a width, over the words -/
inductive Ex (ws : List (Str × Nat)) : Nat → D → Nat → Prop where
  | word {n : Nat} (w v : Nat) : 1 ≤ w → w ≤ 16 → v < 2 ^ w → Ex ws (n + 1) (.tup [.str "word", .int (w : Nat), .int (v : Nat)]) w
  | var {n : Nat} {x : Str} {w : Nat} : (x, w) ∈ ws → Ex ws (n + 1) (.tup [.str "var", .str x]) w
  | join {n : Nat} {a b : D} {u v : Nat} : Ex ws n a u → Ex ws n b v → u + v ≤ 16 → Ex ws (n + 1) (.tup [.str "join", a, b]) (u + v)
  | ext {n : Nat} {s : Str} {m : Nat} {a : D} {u : Nat} : s = "zero" ∨ s = "sign" → 1 ≤ m → Ex ws n a u → u + m ≤ 16 → Ex ws (n + 1) (.tup [.str s, .int (m : Nat), a]) (u + m)
  | part {n hi lo : Nat} {a : D} {u : Nat} : lo ≤ hi → hi < u → u ≤ 16 → Ex ws n a u → Ex ws (n + 1) (.tup [.str "part", .int (hi : Nat), .int (lo : Nat), a]) (hi - lo + 1)
  | one {n : Nat} {s : Str} {a : D} {u : Nat} : s = "not" ∨ s = "neg" → Ex ws n a u → Ex ws (n + 1) (.tup [.str s, a]) u
  | two {n : Nat} {s : Str} {a b : D} {u : Nat} : s ∈ twoK → Ex ws n a u → Ex ws n b u → Ex ws (n + 1) (.tup [.str s, a, b]) u
  | pick {n : Nat} {c a b : D} {u : Nat} : As ws n c → Ex ws n a u → Ex ws n b u → Ex ws (n + 1) (.tup [.str "pick", c, a, b]) u
inductive As (ws : List (Str × Nat)) : Nat → D → Prop where
  | true {n : Nat} : As ws (n + 1) (.tup [.str "true"])
  | no {n : Nat} {a : D} : As ws n a → As ws (n + 1) (.tup [.str "no", a])
  | join {n : Nat} {s : Str} {a b : D} : s = "both" ∨ s = "either" → As ws n a → As ws n b → As ws (n + 1) (.tup [.str s, a, b])
  | look {n : Nat} {s : Str} {a b : D} {u : Nat} : s = "same" ∨ s = "below" ∨ s = "less" → Ex ws n a u → Ex ws n b u → As ws (n + 1) (.tup [.str s, a, b])
end
theorem sh_of {ws : List (Str × Nat)} (W : Words ws) : ∀ (n : Nat) (d : D), (∀ w, Ex ws n d w → Sh n d) ∧ (As ws n d → Sh n d)
  | 0, d => ⟨fun w h => (by cases h), fun h => (by cases h)⟩
  | n + 1, d => by
    have ihE := fun d w => (sh_of W n d).1 w
    have ihA := fun d => (sh_of W n d).2
    refine ⟨fun w h => ?_, fun h => ?_⟩
    · cases h with
      | word w v h1 h2 h3 => exact ⟨_, [_, _], [], rfl, .word w v h1 h2 h3, fun q hq => by cases hq⟩
      | var h => exact ⟨_, [_], [], rfl, .var _ (W.nm _ h).1, fun q hq => by cases hq⟩
      | join h1 h2 h3 => exact ⟨_, [], [_, _], rfl, .plain _ _ (by simp [plainKinds]), fun q hq => by
          simp only [List.mem_cons, List.not_mem_nil, or_false] at hq
          rcases hq with rfl | rfl
          · exact ihE _ _ h1
          · exact ihE _ _ h2⟩
      | ext hs h1 h2 h3 =>
        rcases hs with rfl | rfl
        · exact ⟨_, [_], [_], rfl, .zero _ (by omega), fun q hq => by rw [List.mem_singleton.mp hq]; exact ihE _ _ h2⟩
        · exact ⟨_, [_], [_], rfl, .sign _ (by omega), fun q hq => by rw [List.mem_singleton.mp hq]; exact ihE _ _ h2⟩
      | part h1 h2 h3 h4 => exact ⟨_, [_, _], [_], rfl, .part _ _ (by omega) (by omega), fun q hq => by rw [List.mem_singleton.mp hq]; exact ihE _ _ h4⟩
      | one hs h1 => exact ⟨_, [], [_], rfl, .plain _ _ (by rcases hs with rfl | rfl <;> simp [plainKinds]), fun q hq => by rw [List.mem_singleton.mp hq]; exact ihE _ _ h1⟩
      | two hs h1 h2 => exact ⟨_, [], [_, _], rfl, .plain _ _ (by
          simp only [twoK, List.mem_cons, List.not_mem_nil, or_false] at hs
          rcases hs with rfl | rfl | rfl | rfl | rfl | rfl | rfl | rfl | rfl | rfl | rfl | rfl <;> simp [plainKinds]), fun q hq => by
          simp only [List.mem_cons, List.not_mem_nil, or_false] at hq
          rcases hq with rfl | rfl
          · exact ihE _ _ h1
          · exact ihE _ _ h2⟩
      | pick h0 h1 h2 => exact ⟨_, [], [_, _, _], rfl, .plain _ _ (by simp [plainKinds]), fun q hq => by
          simp only [List.mem_cons, List.not_mem_nil, or_false] at hq
          rcases hq with rfl | rfl | rfl
          · exact ihA _ h0
          · exact ihE _ _ h1
          · exact ihE _ _ h2⟩
    · cases h with
      | true => exact ⟨_, [], [], rfl, .plain _ _ (by simp [plainKinds]), fun q hq => by cases hq⟩
      | no h1 => exact ⟨_, [], [_], rfl, .plain _ _ (by simp [plainKinds]), fun q hq => by rw [List.mem_singleton.mp hq]; exact ihA _ h1⟩
      | join hs h1 h2 => exact ⟨_, [], [_, _], rfl, .plain _ _ (by rcases hs with rfl | rfl <;> simp [plainKinds]), fun q hq => by
          simp only [List.mem_cons, List.not_mem_nil, or_false] at hq
          rcases hq with rfl | rfl
          · exact ihA _ h1
          · exact ihA _ h2⟩
      | look hs h1 h2 => exact ⟨_, [], [_, _], rfl, .plain _ _ (by rcases hs with rfl | rfl | rfl <;> simp [plainKinds]), fun q hq => by
          simp only [List.mem_cons, List.not_mem_nil, or_false] at hq
          rcases hq with rfl | rfl
          · exact ihE _ _ h1
          · exact ihE _ _ h2⟩
/-! how many parts -/
theorem cnt_kids {n : Nat} {s : Str} {pre kids : List D} (h : Node s pre kids.length) : cnt (n + 1) (.tup (.str s :: (pre ++ kids))) = 1 + (kids.map (cnt n)).sum := by
  show 1 + ((kidsOf _).map (cnt n)).sum = _
  rw [kids_eq h]
theorem cnt_up : ∀ (n : Nat) (d : D), Sh n d → cnt (n + 1) d = cnt n d
  | 0, _, h => h.elim
  | n + 1, d, h => by
    obtain ⟨s, pre, kids, rfl, h1, h2⟩ := h
    rw [cnt_kids h1, cnt_kids h1, List.map_congr_left fun q hq => cnt_up n q (h2 q hq)]
theorem cnt_le {n m : Nat} {d : D} (h : Sh n d) (hm : n ≤ m) : cnt m d = cnt n d := by
  induction hm with
  | refl => rfl
  | step hm ih => rw [cnt_up _ d (h.le hm), ih]
def cE : Nat → Nat × Nat
  | 0 => (2, 1)
  | n + 1 => (1 + (cE n).2 + 2 * (cE n).1, 1 + 2 * (cE n).1)
theorem cE_le : ∀ n, (cE n).2 ≤ (cE n).1
  | 0 => by decide
  | n + 1 => by
    show 1 + 2 * (cE n).1 ≤ 1 + (cE n).2 + 2 * (cE n).1
    omega
/-! helpers -/
theorem comp_rng {T : Nat → List D → R D} {ρ : Env'} {x : E} {own : List Nat} {t : Tg} {it : Z.It} {m : Nat} (f : Nat → D) (hit : dIt T it ρ = .ok (rngL 0 m)) (hl : m < lim) (h : ∀ k : Nat, k < m → ∃ ρ', dTg t (.int (k : Nat)) (wipeE ρ own) = some ρ' ∧ dE T x ρ' = .ok (f k)) :
    dE T (.comp x own t it (.cst (.bl true))) ρ = .ok (.lst ((List.range m).map f)) := by
  rw [dE_comp, hit, bind_ok, if_pos (by rw [rngL_len]; exact hl), compL_map (fun d => match d with
    | .int i => f i.toNat
    | _ => .non) (rngL 0 m) fun d hd => by
    rw [rngL_map, List.map_map] at hd
    obtain ⟨k, hk, rfl⟩ := List.mem_map.mp hd
    obtain ⟨ρ', h1, h2⟩ := h k (List.mem_range.mp hk)
    exact ⟨ρ', h1, rfl, by rw [h2]; show _ = R.ok (f ((k : Nat) : Int).toNat); rw [toNat_nat]⟩]
  rw [rngL_map, List.map_map, List.map_map]
  show R.ok (D.lst ((List.range m).map fun k : Nat => f ((k : Nat) : Int).toNat)) = _
  congr 2
theorem getD_nat {L : List Int} (h : Pos L) (i : Nat) : ∃ a : Nat, L.getD i 0 = (a : Int) := by
  have : 0 ≤ L.getD i 0 := by
    rw [List.getD_eq_getElem?_getD]
    cases e : L[i]? with
    | none => exact Int.le_refl 0
    | some x => exact h x (List.mem_of_getElem? e)
  exact ⟨(L.getD i 0).toNat, by omega⟩
theorem pos_drop {L : List Int} (h : Pos L) (k : Nat) : Pos (L.drop k) := fun a ha => h a (List.mem_of_mem_drop ha)
theorem mod_nat {a m : Nat} (h : 0 < m) : binD .mod (.int (a : Nat)) (.int (m : Nat)) = some (.int ((a % m : Nat) : Int)) := by
  show (if (0 : Int) < (m : Int) then some (D.int ((a : Int) % (m : Int))) else none) = _
  rw [if_pos (by omega)]
  rfl
theorem ix_ws {ws : List (Str × Nat)} {r : Nat} (h : r < ws.length) : ixD (.tup (ws.map wT)) (.int (r : Nat)) = some (wT ws[r]) := by
  show atI _ _ = _
  rw [Z.atI_nat (by rw [List.length_map]; exact h), List.getElem?_map, List.getElem?_eq_getElem h]
  rfl
theorem ix_strs {l : List Str} {r : Nat} (h : r < l.length) : ixD (.lst (l.map .str)) (.int (r : Nat)) = some (.str l[r]) := by
  show atI _ _ = _
  rw [Z.atI_nat (by rw [List.length_map]; exact h), List.getElem?_map, List.getElem?_eq_getElem h]
  rfl
theorem pow_ix {w : Nat} (h : w ≤ 16) : ixD (.lst [.int 1, .int 2, .int 4, .int 8, .int 16, .int 32, .int 64, .int 128, .int 256, .int 512, .int 1024, .int 2048, .int 4096, .int 8192, .int 16384, .int 32768, .int 65536]) (.int (w : Nat)) = some (.int ((2 ^ w : Nat) : Int)) := by
  have : w = 0 ∨ w = 1 ∨ w = 2 ∨ w = 3 ∨ w = 4 ∨ w = 5 ∨ w = 6 ∨ w = 7 ∨ w = 8 ∨ w = 9 ∨ w = 10 ∨ w = 11 ∨ w = 12 ∨ w = 13 ∨ w = 14 ∨ w = 15 ∨ w = 16 := by omega
  rcases this with rfl | rfl | rfl | rfl | rfl | rfl | rfl | rfl | rfl | rfl | rfl | rfl | rfl | rfl | rfl | rfl | rfl <;> kernel_rfl
theorem len_ws {ws : List (Str × Nat)} : bltD .len [.tup (ws.map wT)] = some (.int (ws.length : Nat)) := by
  show some (D.int ((ws.map wT).length : Nat)) = _
  rw [List.length_map]
theorem eqN (a b : Nat) : cmpD .eq (.int (a : Nat)) (.int (b : Nat)) = some (decide (a = b)) := by
  rw [Z.eq_int]
  congr 1
  rw [decide_eq_decide]
  omega
theorem ltN (a b : Nat) : cmpD .lt (.int (a : Nat)) (.int (b : Nat)) = some (decide (a < b)) := by
  rw [Z.lt_int]
  congr 1
  rw [decide_eq_decide]
  omega
theorem gtN (a b : Nat) : cmpD .gt (.int (a : Nat)) (.int (b : Nat)) = some (decide (b < a)) := by
  rw [Z.gt_int]
  congr 1
  rw [decide_eq_decide]
  omega
theorem addN (a b : Nat) : binD .add (.int (a : Nat)) (.int (b : Nat)) = some (.int ((a + b : Nat) : Int)) := by
  show some (D.int ((a : Int) + (b : Int))) = _
  rw [← Int.natCast_add]
theorem subN {a b : Nat} (h : b ≤ a) : binD .sub (.int (a : Nat)) (.int (b : Nat)) = some (.int ((a - b : Nat) : Int)) := by
  show some (D.int ((a : Int) - (b : Int))) = _
  congr 2
  omega
theorem divN {a m : Nat} (h : 0 < m) (h2 : m < 1000000) : binD .div (.int (a : Nat)) (.int (m : Nat)) = some (.int ((a / m : Nat) : Int)) := by
  show (if (0 : Int) < (m : Int) ∧ (m : Int) < 1073741824 then some (D.int ((a : Int) / (m : Int))) else none) = _
  rw [if_pos ⟨by omega, by omega⟩]
  rfl
theorem ixL {L : List Int} {i a : Nat} (h : i < L.length) (e : L.getD i 0 = (a : Int)) : ixD (.lst (L.map .int)) (.int (i : Nat)) = some (.int (a : Nat)) := by
  rw [ix_lst h, e]
theorem leaf_ok {T : Nat → List D → R D} {sub} {ws : List (Str × Nat)} (W : Words ws) {L : List Int} (hL : Pos L) (hl : 3 ≤ L.length) {w : Nat} (h1 : 1 ≤ w) (h2 : w ≤ 8) (n : Nat) :
    ∃ d, dSs T sub leafB [.im (.lst (L.map .int)), .im (.tup (ws.map wT)), .im (.int (w : Nat)), .un, .un, .un] = .rt d ∧ Ex ws (n + 2) d w ∧ cnt (n + 2) d ≤ 2 := by
  obtain ⟨a0, e0⟩ := getD_nat hL 0
  obtain ⟨a1, e1⟩ := getD_nat hL 1
  obtain ⟨a2, e2⟩ := getD_nat hL 2
  have i0 : ixD (.lst (L.map .int)) (.int 0) = some (.int (a0 : Nat)) := ixL (i := 0) (by omega) e0
  have i1 : ixD (.lst (L.map .int)) (.int 1) = some (.int (a1 : Nat)) := ixL (i := 1) (by omega) e1
  have i2 : ixD (.lst (L.map .int)) (.int 2) = some (.int (a2 : Nat)) := ixL (i := 2) (by omega) e2
  have hr : a0 % ws.length < ws.length := Nat.mod_lt _ W.ne
  have ixw := ix_ws hr
  have hm : ws[a0 % ws.length] ∈ ws := List.getElem_mem hr
  obtain ⟨⟨x, own⟩, hp⟩ : ∃ p, ws[a0 % ws.length] = p := ⟨_, rfl⟩
  rw [hp] at ixw hm
  obtain ⟨hx, o1, o7⟩ := W.nm _ hm
  have o1 : 1 ≤ own := o1
  have o7 : own ≤ 7 := o7
  have vx : ∀ n, Ex ws (n + 1) (.tup [.str "var", .str x]) own := fun n => .var hm
  have c1 : ∀ n, cnt (n + 1) (.tup [.str "var", .str x]) = 1 := fun n => by
    have := cnt_kids (n := n) (s := "var") (pre := [.str x]) (kids := []) (.var x hx)
    exact this
  have m4 : binD .mod (.int (a1 : Nat)) (.int 4) = some (.int ((a1 % 4 : Nat) : Int)) := mod_nat (m := 4) (by omega)
  have q4 : cmpD .eq (.int ((a1 % 4 : Nat) : Int)) (.int 0) = some (decide (a1 % 4 = 0)) := eqN _ 0
  have s0 : dS T sub leafS0 [.im (.lst (L.map .int)), .im (.tup (ws.map wT)), .im (.int (w : Nat)), .un, .un, .un] = .nx [.im (.lst (L.map .int)), .im (.tup (ws.map wT)), .im (.int (w : Nat)), .un, .im (.str x), .im (.int (own : Nat))] := by
    simp only [leafS0, dE_cst, dE_glb, dE_var, dE_bin, dE_neg, dE_cmp, dE_chn, dE_and, dE_or, dE_not, dE_ite, dE_tup, dE_lst, dE_call, dE_blt, dE_mkb, dE_isi, dE_ix, dE_sl, dE_rev, dE_comp, dE_gget, dE_gix, dE_dget1, dE_dget, dE_dis, asDic, dT_cst, dT_var, dT_bin, dT_cmp, dT_chn, dT_call, dT_blt, dT_isi, dT_ix, dT_ite, dT_and, dT_or, dT_not, dO_own, dO_ev, dBd_no, dBd_to, dBs_nil, dBs_cons, dEs_nil, dEs_cons, dIt_seq, dIt_rng1, dIt_rng2, dIt_enm, dIt_zip, dS_set, dS_unp, dS_par, dS_aug, dS_ret, dS_retN, dS_ite, dS_fo, dS_pass, dS_rai, dS_exp, dS_tr, dSs_nil, dSs_cons, go_nx, go_rt, go_exc, fl_ok, fl_exc, bind_ok, bind_exc, of_some, calm_ok, flof_some, look_0, look_s, lookB_im, lookB_ow, lookB_s, frzL_nil, frzL_cons, frz1_im, frz1_un, frz1_ow, frz1_s, tg_nm, tg_tp, tg_tpl, tgs_nil, tgs_cons, obind, set_0, set_s, lp_nx, lp_ct, lp_bk, lp_rt, lp_exc, out_rt, out_nx, out_exc, ownList, isFr, Bool.and_true, Bool.and_false, Bool.true_and, Bool.false_and, Bool.not_true, Bool.not_false, truD, if_true, if_false, Bool.false_eq_true, ↓reduceIte, startE_nil, startE_cons, reduceCtorEq, decide_true, decide_false, tyD, i0, int_int, len_ws, mod_nat W.ne, ixw]
    rfl
  rw [leafB, dSs_cons, s0, go_nx, dSs_cons]
  by_cases q : a1 % 4 = 0
  · have p2 : 0 < 2 ^ w := Nat.pos_of_ne_zero (by simp)
    have s1 : dS T sub leafS1 [.im (.lst (L.map .int)), .im (.tup (ws.map wT)), .im (.int (w : Nat)), .un, .im (.str x), .im (.int (own : Nat))] = .rt (.tup [.str "word", .int (w : Nat), .int ((a2 % 2 ^ w : Nat) : Int)]) := by
      simp only [leafS1, dE_cst, dE_glb, dE_var, dE_bin, dE_neg, dE_cmp, dE_chn, dE_and, dE_or, dE_not, dE_ite, dE_tup, dE_lst, dE_call, dE_blt, dE_mkb, dE_isi, dE_ix, dE_sl, dE_rev, dE_comp, dE_gget, dE_gix, dE_dget1, dE_dget, dE_dis, asDic, dT_cst, dT_var, dT_bin, dT_cmp, dT_chn, dT_call, dT_blt, dT_isi, dT_ix, dT_ite, dT_and, dT_or, dT_not, dO_own, dO_ev, dBd_no, dBd_to, dBs_nil, dBs_cons, dEs_nil, dEs_cons, dIt_seq, dIt_rng1, dIt_rng2, dIt_enm, dIt_zip, dS_set, dS_unp, dS_par, dS_aug, dS_ret, dS_retN, dS_ite, dS_fo, dS_pass, dS_rai, dS_exp, dS_tr, dSs_nil, dSs_cons, go_nx, go_rt, go_exc, fl_ok, fl_exc, bind_ok, bind_exc, of_some, calm_ok, flof_some, look_0, look_s, lookB_im, lookB_ow, lookB_s, frzL_nil, frzL_cons, frz1_im, frz1_un, frz1_ow, frz1_s, tg_nm, tg_tp, tg_tpl, tgs_nil, tgs_cons, obind, set_0, set_s, lp_nx, lp_ct, lp_bk, lp_rt, lp_exc, out_rt, out_nx, out_exc, ownList, isFr, Bool.and_true, Bool.and_false, Bool.true_and, Bool.false_and, Bool.not_true, Bool.not_false, truD, if_true, if_false, Bool.false_eq_true, ↓reduceIte, startE_nil, startE_cons, reduceCtorEq, decide_true, decide_false, tyD, i1, i2, int_int, m4, q4, decide_eq_true q, List.length_cons, List.length_nil, (by decide : (0 + 1 + 1 + 1 ≤ lim) = True), (by decide : (0 + 1 + 1 + 1 + 1 + 1 + 1 + 1 + 1 + 1 + 1 + 1 + 1 + 1 + 1 + 1 + 1 + 1 ≤ lim) = True), pow_ix (show w ≤ 16 by omega), mod_nat p2]
    refine ⟨_, by rw [s1, go_rt], .word w _ h1 (by omega) (Nat.mod_lt _ p2), ?_⟩
    have := cnt_kids (n := n + 1) (s := "word") (pre := [.int (w : Nat), .int ((a2 % 2 ^ w : Nat) : Int)]) (kids := []) (.word w _ h1 (by omega) (Nat.mod_lt _ p2))
    have e : cnt (n + 2) (.tup [.str "word", .int (w : Nat), .int ((a2 % 2 ^ w : Nat) : Int)]) = 1 := this
    omega
  · have s1 : dS T sub leafS1 [.im (.lst (L.map .int)), .im (.tup (ws.map wT)), .im (.int (w : Nat)), .un, .im (.str x), .im (.int (own : Nat))] = .nx [.im (.lst (L.map .int)), .im (.tup (ws.map wT)), .im (.int (w : Nat)), .un, .im (.str x), .im (.int (own : Nat))] := by
      simp only [leafS1, dE_cst, dE_glb, dE_var, dE_bin, dE_neg, dE_cmp, dE_chn, dE_and, dE_or, dE_not, dE_ite, dE_tup, dE_lst, dE_call, dE_blt, dE_mkb, dE_isi, dE_ix, dE_sl, dE_rev, dE_comp, dE_gget, dE_gix, dE_dget1, dE_dget, dE_dis, asDic, dT_cst, dT_var, dT_bin, dT_cmp, dT_chn, dT_call, dT_blt, dT_isi, dT_ix, dT_ite, dT_and, dT_or, dT_not, dO_own, dO_ev, dBd_no, dBd_to, dBs_nil, dBs_cons, dEs_nil, dEs_cons, dIt_seq, dIt_rng1, dIt_rng2, dIt_enm, dIt_zip, dS_set, dS_unp, dS_par, dS_aug, dS_ret, dS_retN, dS_ite, dS_fo, dS_pass, dS_rai, dS_exp, dS_tr, dSs_nil, dSs_cons, go_nx, go_rt, go_exc, fl_ok, fl_exc, bind_ok, bind_exc, of_some, calm_ok, flof_some, look_0, look_s, lookB_im, lookB_ow, lookB_s, frzL_nil, frzL_cons, frz1_im, frz1_un, frz1_ow, frz1_s, tg_nm, tg_tp, tg_tpl, tgs_nil, tgs_cons, obind, set_0, set_s, lp_nx, lp_ct, lp_bk, lp_rt, lp_exc, out_rt, out_nx, out_exc, ownList, isFr, Bool.and_true, Bool.and_false, Bool.true_and, Bool.false_and, Bool.not_true, Bool.not_false, truD, if_true, if_false, Bool.false_eq_true, ↓reduceIte, startE_nil, startE_cons, reduceCtorEq, decide_true, decide_false, tyD, i1, int_int, m4, q4, decide_eq_false q]
    rw [s1, go_nx, dSs_cons]
    have qe := eqN own w
    by_cases q2 : own = w
    · subst q2
      rw [decide_eq_true rfl] at qe
      have s2 : dS T sub leafS2 [.im (.lst (L.map .int)), .im (.tup (ws.map wT)), .im (.int (own : Nat)), .un, .im (.str x), .im (.int (own : Nat))] = .rt (.tup [.str "var", .str x]) := by
        simp only [leafS2, dE_cst, dE_glb, dE_var, dE_bin, dE_neg, dE_cmp, dE_chn, dE_and, dE_or, dE_not, dE_ite, dE_tup, dE_lst, dE_call, dE_blt, dE_mkb, dE_isi, dE_ix, dE_sl, dE_rev, dE_comp, dE_gget, dE_gix, dE_dget1, dE_dget, dE_dis, asDic, dT_cst, dT_var, dT_bin, dT_cmp, dT_chn, dT_call, dT_blt, dT_isi, dT_ix, dT_ite, dT_and, dT_or, dT_not, dO_own, dO_ev, dBd_no, dBd_to, dBs_nil, dBs_cons, dEs_nil, dEs_cons, dIt_seq, dIt_rng1, dIt_rng2, dIt_enm, dIt_zip, dS_set, dS_unp, dS_par, dS_aug, dS_ret, dS_retN, dS_ite, dS_fo, dS_pass, dS_rai, dS_exp, dS_tr, dSs_nil, dSs_cons, go_nx, go_rt, go_exc, fl_ok, fl_exc, bind_ok, bind_exc, of_some, calm_ok, flof_some, look_0, look_s, lookB_im, lookB_ow, lookB_s, frzL_nil, frzL_cons, frz1_im, frz1_un, frz1_ow, frz1_s, tg_nm, tg_tp, tg_tpl, tgs_nil, tgs_cons, obind, set_0, set_s, lp_nx, lp_ct, lp_bk, lp_rt, lp_exc, out_rt, out_nx, out_exc, ownList, isFr, Bool.and_true, Bool.and_false, Bool.true_and, Bool.false_and, Bool.not_true, Bool.not_false, truD, if_true, if_false, Bool.false_eq_true, ↓reduceIte, startE_nil, startE_cons, reduceCtorEq, decide_true, decide_false, tyD, qe, List.length_cons, List.length_nil, (by decide : (0 + 1 + 1 ≤ lim) = True)]
      exact ⟨_, by rw [s2, go_rt], vx (n + 1), by rw [c1]; omega⟩
    · rw [decide_eq_false q2] at qe
      have s2 : dS T sub leafS2 [.im (.lst (L.map .int)), .im (.tup (ws.map wT)), .im (.int (w : Nat)), .un, .im (.str x), .im (.int (own : Nat))] = .nx [.im (.lst (L.map .int)), .im (.tup (ws.map wT)), .im (.int (w : Nat)), .un, .im (.str x), .im (.int (own : Nat))] := by
        simp only [leafS2, dE_cst, dE_glb, dE_var, dE_bin, dE_neg, dE_cmp, dE_chn, dE_and, dE_or, dE_not, dE_ite, dE_tup, dE_lst, dE_call, dE_blt, dE_mkb, dE_isi, dE_ix, dE_sl, dE_rev, dE_comp, dE_gget, dE_gix, dE_dget1, dE_dget, dE_dis, asDic, dT_cst, dT_var, dT_bin, dT_cmp, dT_chn, dT_call, dT_blt, dT_isi, dT_ix, dT_ite, dT_and, dT_or, dT_not, dO_own, dO_ev, dBd_no, dBd_to, dBs_nil, dBs_cons, dEs_nil, dEs_cons, dIt_seq, dIt_rng1, dIt_rng2, dIt_enm, dIt_zip, dS_set, dS_unp, dS_par, dS_aug, dS_ret, dS_retN, dS_ite, dS_fo, dS_pass, dS_rai, dS_exp, dS_tr, dSs_nil, dSs_cons, go_nx, go_rt, go_exc, fl_ok, fl_exc, bind_ok, bind_exc, of_some, calm_ok, flof_some, look_0, look_s, lookB_im, lookB_ow, lookB_s, frzL_nil, frzL_cons, frz1_im, frz1_un, frz1_ow, frz1_s, tg_nm, tg_tp, tg_tpl, tgs_nil, tgs_cons, obind, set_0, set_s, lp_nx, lp_ct, lp_bk, lp_rt, lp_exc, out_rt, out_nx, out_exc, ownList, isFr, Bool.and_true, Bool.and_false, Bool.true_and, Bool.false_and, Bool.not_true, Bool.not_false, truD, if_true, if_false, Bool.false_eq_true, ↓reduceIte, startE_nil, startE_cons, reduceCtorEq, decide_true, decide_false, tyD, qe]
      rw [s2, go_nx, dSs_cons]
      have ql := ltN own w
      by_cases q3 : own < w
      · rw [decide_eq_true q3] at ql
        have m2 : binD .mod (.int (a2 : Nat)) (.int 2) = some (.int ((a2 % 2 : Nat) : Int)) := mod_nat (m := 2) (by omega)
        have hz : a2 % 2 < (["zero", "sign"] : List Str).length := Nat.mod_lt _ (by decide)
        have iz := ix_strs hz
        have iz : ixD (.lst [.str "zero", .str "sign"]) (.int ((a2 % 2 : Nat) : Int)) = some (.str (["zero", "sign"] : List Str)[a2 % 2]) := iz
        have kz : (["zero", "sign"] : List Str)[a2 % 2] = "zero" ∨ (["zero", "sign"] : List Str)[a2 % 2] = "sign" := by
          rcases List.mem_cons.mp (List.getElem_mem hz) with e | e
          · exact .inl e
          · exact .inr (List.mem_singleton.mp e)
        have s3 : dS T sub leafS3 [.im (.lst (L.map .int)), .im (.tup (ws.map wT)), .im (.int (w : Nat)), .un, .im (.str x), .im (.int (own : Nat))] = .rt (.tup [.str (["zero", "sign"] : List Str)[a2 % 2], .int ((w - own : Nat) : Int), .tup [.str "var", .str x]]) := by
          simp only [leafS3, dE_cst, dE_glb, dE_var, dE_bin, dE_neg, dE_cmp, dE_chn, dE_and, dE_or, dE_not, dE_ite, dE_tup, dE_lst, dE_call, dE_blt, dE_mkb, dE_isi, dE_ix, dE_sl, dE_rev, dE_comp, dE_gget, dE_gix, dE_dget1, dE_dget, dE_dis, asDic, dT_cst, dT_var, dT_bin, dT_cmp, dT_chn, dT_call, dT_blt, dT_isi, dT_ix, dT_ite, dT_and, dT_or, dT_not, dO_own, dO_ev, dBd_no, dBd_to, dBs_nil, dBs_cons, dEs_nil, dEs_cons, dIt_seq, dIt_rng1, dIt_rng2, dIt_enm, dIt_zip, dS_set, dS_unp, dS_par, dS_aug, dS_ret, dS_retN, dS_ite, dS_fo, dS_pass, dS_rai, dS_exp, dS_tr, dSs_nil, dSs_cons, go_nx, go_rt, go_exc, fl_ok, fl_exc, bind_ok, bind_exc, of_some, calm_ok, flof_some, look_0, look_s, lookB_im, lookB_ow, lookB_s, frzL_nil, frzL_cons, frz1_im, frz1_un, frz1_ow, frz1_s, tg_nm, tg_tp, tg_tpl, tgs_nil, tgs_cons, obind, set_0, set_s, lp_nx, lp_ct, lp_bk, lp_rt, lp_exc, out_rt, out_nx, out_exc, ownList, isFr, Bool.and_true, Bool.and_false, Bool.true_and, Bool.false_and, Bool.not_true, Bool.not_false, truD, if_true, if_false, Bool.false_eq_true, ↓reduceIte, startE_nil, startE_cons, reduceCtorEq, decide_true, decide_false, tyD, ql, i2, int_int, m2, iz, subN (Nat.le_of_lt q3), List.length_cons, List.length_nil, (by decide : (0 + 1 + 1 ≤ lim) = True), (by decide : (0 + 1 + 1 + 1 ≤ lim) = True)]
        have ex := Ex.ext (ws := ws) (n := n + 1) kz (show 1 ≤ w - own by omega) (vx n) (by omega)
        rw [show own + (w - own) = w from by omega] at ex
        refine ⟨_, by rw [s3, go_rt], ex, ?_⟩
        have ck : Node (["zero", "sign"] : List Str)[a2 % 2] [.int ((w - own : Nat) : Int)] 1 := by
          rcases kz with e | e
          · rw [e]; exact .zero _ (by omega)
          · rw [e]; exact .sign _ (by omega)
        have := cnt_kids (n := n + 1) (kids := [.tup [.str "var", .str x]]) ck
        have e : cnt (n + 2) (.tup [.str (["zero", "sign"] : List Str)[a2 % 2], .int ((w - own : Nat) : Int), .tup [.str "var", .str x]]) = 1 + (cnt (n + 1) (.tup [.str "var", .str x]) + 0) := this
        rw [e, c1]
        omega
      · rw [decide_eq_false q3] at ql
        have s3 : dS T sub leafS3 [.im (.lst (L.map .int)), .im (.tup (ws.map wT)), .im (.int (w : Nat)), .un, .im (.str x), .im (.int (own : Nat))] = .nx [.im (.lst (L.map .int)), .im (.tup (ws.map wT)), .im (.int (w : Nat)), .un, .im (.str x), .im (.int (own : Nat))] := by
          simp only [leafS3, dE_cst, dE_glb, dE_var, dE_bin, dE_neg, dE_cmp, dE_chn, dE_and, dE_or, dE_not, dE_ite, dE_tup, dE_lst, dE_call, dE_blt, dE_mkb, dE_isi, dE_ix, dE_sl, dE_rev, dE_comp, dE_gget, dE_gix, dE_dget1, dE_dget, dE_dis, asDic, dT_cst, dT_var, dT_bin, dT_cmp, dT_chn, dT_call, dT_blt, dT_isi, dT_ix, dT_ite, dT_and, dT_or, dT_not, dO_own, dO_ev, dBd_no, dBd_to, dBs_nil, dBs_cons, dEs_nil, dEs_cons, dIt_seq, dIt_rng1, dIt_rng2, dIt_enm, dIt_zip, dS_set, dS_unp, dS_par, dS_aug, dS_ret, dS_retN, dS_ite, dS_fo, dS_pass, dS_rai, dS_exp, dS_tr, dSs_nil, dSs_cons, go_nx, go_rt, go_exc, fl_ok, fl_exc, bind_ok, bind_exc, of_some, calm_ok, flof_some, look_0, look_s, lookB_im, lookB_ow, lookB_s, frzL_nil, frzL_cons, frz1_im, frz1_un, frz1_ow, frz1_s, tg_nm, tg_tp, tg_tpl, tgs_nil, tgs_cons, obind, set_0, set_s, lp_nx, lp_ct, lp_bk, lp_rt, lp_exc, out_rt, out_nx, out_exc, ownList, isFr, Bool.and_true, Bool.and_false, Bool.true_and, Bool.false_and, Bool.not_true, Bool.not_false, truD, if_true, if_false, Bool.false_eq_true, ↓reduceIte, startE_nil, startE_cons, reduceCtorEq, decide_true, decide_false, tyD, ql]
        have pm : 0 < own - w + 1 := by omega
        have a1' : binD .add (.int ((own - w : Nat) : Int)) (.int 1) = some (.int ((own - w + 1 : Nat) : Int)) := addN _ 1
        have s4 : dS T sub leafS4 [.im (.lst (L.map .int)), .im (.tup (ws.map wT)), .im (.int (w : Nat)), .un, .im (.str x), .im (.int (own : Nat))] = .nx [.im (.lst (L.map .int)), .im (.tup (ws.map wT)), .im (.int (w : Nat)), .im (.int ((a2 % (own - w + 1) : Nat) : Int)), .im (.str x), .im (.int (own : Nat))] := by
          simp only [leafS4, dE_cst, dE_glb, dE_var, dE_bin, dE_neg, dE_cmp, dE_chn, dE_and, dE_or, dE_not, dE_ite, dE_tup, dE_lst, dE_call, dE_blt, dE_mkb, dE_isi, dE_ix, dE_sl, dE_rev, dE_comp, dE_gget, dE_gix, dE_dget1, dE_dget, dE_dis, asDic, dT_cst, dT_var, dT_bin, dT_cmp, dT_chn, dT_call, dT_blt, dT_isi, dT_ix, dT_ite, dT_and, dT_or, dT_not, dO_own, dO_ev, dBd_no, dBd_to, dBs_nil, dBs_cons, dEs_nil, dEs_cons, dIt_seq, dIt_rng1, dIt_rng2, dIt_enm, dIt_zip, dS_set, dS_unp, dS_par, dS_aug, dS_ret, dS_retN, dS_ite, dS_fo, dS_pass, dS_rai, dS_exp, dS_tr, dSs_nil, dSs_cons, go_nx, go_rt, go_exc, fl_ok, fl_exc, bind_ok, bind_exc, of_some, calm_ok, flof_some, look_0, look_s, lookB_im, lookB_ow, lookB_s, frzL_nil, frzL_cons, frz1_im, frz1_un, frz1_ow, frz1_s, tg_nm, tg_tp, tg_tpl, tgs_nil, tgs_cons, obind, set_0, set_s, lp_nx, lp_ct, lp_bk, lp_rt, lp_exc, out_rt, out_nx, out_exc, ownList, isFr, Bool.and_true, Bool.and_false, Bool.true_and, Bool.false_and, Bool.not_true, Bool.not_false, truD, if_true, if_false, Bool.false_eq_true, ↓reduceIte, startE_nil, startE_cons, reduceCtorEq, decide_true, decide_false, tyD, i2, int_int, subN (show w ≤ own by omega), a1', mod_nat pm]
        have lt := Nat.mod_lt a2 pm
        generalize a2 % (own - w + 1) = low at s4 lt
        have a3 : binD .sub (.int ((low + w : Nat) : Int)) (.int 1) = some (.int ((low + w - 1 : Nat) : Int)) := subN (b := 1) (by omega)
        have s5 : dS T sub leafS5 [.im (.lst (L.map .int)), .im (.tup (ws.map wT)), .im (.int (w : Nat)), .im (.int (low : Nat)), .im (.str x), .im (.int (own : Nat))] = .rt (.tup [.str "part", .int ((low + w - 1 : Nat) : Int), .int (low : Nat), .tup [.str "var", .str x]]) := by
          simp only [leafS5, dE_cst, dE_glb, dE_var, dE_bin, dE_neg, dE_cmp, dE_chn, dE_and, dE_or, dE_not, dE_ite, dE_tup, dE_lst, dE_call, dE_blt, dE_mkb, dE_isi, dE_ix, dE_sl, dE_rev, dE_comp, dE_gget, dE_gix, dE_dget1, dE_dget, dE_dis, asDic, dT_cst, dT_var, dT_bin, dT_cmp, dT_chn, dT_call, dT_blt, dT_isi, dT_ix, dT_ite, dT_and, dT_or, dT_not, dO_own, dO_ev, dBd_no, dBd_to, dBs_nil, dBs_cons, dEs_nil, dEs_cons, dIt_seq, dIt_rng1, dIt_rng2, dIt_enm, dIt_zip, dS_set, dS_unp, dS_par, dS_aug, dS_ret, dS_retN, dS_ite, dS_fo, dS_pass, dS_rai, dS_exp, dS_tr, dSs_nil, dSs_cons, go_nx, go_rt, go_exc, fl_ok, fl_exc, bind_ok, bind_exc, of_some, calm_ok, flof_some, look_0, look_s, lookB_im, lookB_ow, lookB_s, frzL_nil, frzL_cons, frz1_im, frz1_un, frz1_ow, frz1_s, tg_nm, tg_tp, tg_tpl, tgs_nil, tgs_cons, obind, set_0, set_s, lp_nx, lp_ct, lp_bk, lp_rt, lp_exc, out_rt, out_nx, out_exc, ownList, isFr, Bool.and_true, Bool.and_false, Bool.true_and, Bool.false_and, Bool.not_true, Bool.not_false, truD, if_true, if_false, Bool.false_eq_true, ↓reduceIte, startE_nil, startE_cons, reduceCtorEq, decide_true, decide_false, tyD, addN, a3, List.length_cons, List.length_nil, (by decide : (0 + 1 + 1 ≤ lim) = True), (by decide : (0 + 1 + 1 + 1 + 1 ≤ lim) = True)]
        have ex := Ex.part (ws := ws) (n := n + 1) (lo := low) (hi := low + w - 1) (by omega) (by omega) (by omega) (vx n)
        rw [show low + w - 1 - low + 1 = w from by omega] at ex
        refine ⟨_, by rw [s3, go_nx, dSs_cons, s4, go_nx, dSs_cons, s5, go_rt], ex, ?_⟩
        have := cnt_kids (n := n + 1) (s := "part") (pre := [.int ((low + w - 1 : Nat) : Int), .int (low : Nat)]) (kids := [.tup [.str "var", .str x]]) (.part _ _ (by omega) (by omega))
        have e : cnt (n + 2) (.tup [.str "part", .int ((low + w - 1 : Nat) : Int), .int (low : Nat), .tup [.str "var", .str x]]) = 1 + (cnt (n + 1) (.tup [.str "var", .str x]) + 0) := this
        rw [e, c1]
        omega
/-- the four defs stand in the text at these numbers -/
structure GenOk (t : Txt) (iL iE iA : Nat) : Prop where
  leaf : ∀ n a b c, run t (n + 1) iL [a, b, c] = (dSs (run t n) (subL t.sub) leafB [.im a, .im b, .im c, .un, .un, .un]).out
  expr : ∀ n a b c d, run t (n + 1) iE [a, b, c, d] = (dSs (run t n) (subL t.sub) (exprB iL iE iA) [.im a, .im b, .im c, .im d, .un, .un, .un, .un, .un]).out
  ass : ∀ n a b c, run t (n + 1) iA [a, b, c] = (dSs (run t n) (subL t.sub) (assB iE iA) [.im a, .im b, .im c, .un, .un, .un, .un]).out
section
variable {t : Txt} {iL iE iA : Nat} (G : GenOk t iL iE iA) {ws : List (Str × Nat)} (W : Words ws)
def GE' (t : Txt) (iE : Nat) (ws : List (Str × Nat)) (n k : Nat) : Prop := ∀ (L : List Int) (w : Nat), Pos L → 4 + 9 * n ≤ L.length → 1 ≤ w → w ≤ 8 →
  ∃ d, run t (n + k + 2) iE [.lst (L.map .int), .int (n : Nat), .tup (ws.map wT), .int (w : Nat)] = .ok d ∧ Ex ws (n + 2) d w ∧ cnt (n + 2) d ≤ (cE n).1
def GA' (t : Txt) (iA : Nat) (ws : List (Str × Nat)) (n k : Nat) : Prop := ∀ (L : List Int), Pos L → 4 + 9 * n ≤ L.length →
  ∃ d, run t (n + k + 2) iA [.lst (L.map .int), .int (n : Nat), .tup (ws.map wT)] = .ok d ∧ As ws (n + 2) d ∧ cnt (n + 2) d ≤ (cE n).2
theorem sl_1 {L : List Int} : slD (.lst (L.map .int)) (some 1) none = some (.lst ((L.drop 1).map .int)) := sl_from (k := 1)
theorem sl_2 {L : List Int} : slD (.lst (L.map .int)) (some 2) none = some (.lst ((L.drop 2).map .int)) := sl_from (k := 2)
theorem sl_4 {L : List Int} : slD (.lst (L.map .int)) (some 4) none = some (.lst ((L.drop 4).map .int)) := sl_from (k := 4)
theorem sl_6 {L : List Int} : slD (.lst (L.map .int)) (some 6) none = some (.lst ((L.drop 6).map .int)) := sl_from (k := 6)
theorem sl_7 {L : List Int} : slD (.lst (L.map .int)) (some 7) none = some (.lst ((L.drop 7).map .int)) := sl_from (k := 7)
theorem sl_8 {L : List Int} : slD (.lst (L.map .int)) (some 8) none = some (.lst ((L.drop 8).map .int)) := sl_from (k := 8)
theorem sl_9 {L : List Int} : slD (.lst (L.map .int)) (some 9) none = some (.lst ((L.drop 9).map .int)) := sl_from (k := 9)
theorem sub1 {n : Nat} : binD .sub (.int ((n + 1 : Nat) : Int)) (.int 1) = some (.int (n : Nat)) := by
  have := subN (a := n + 1) (b := 1) (by omega)
  exact this
theorem two_of {l : List Str} {r : Nat} (h : r < l.length) {x y : Str} (hl : l = [x, y]) : l[r] = x ∨ l[r] = y := by
  subst hl
  rcases List.mem_cons.mp (List.getElem_mem h) with e | e
  · exact .inl e
  · exact .inr (List.mem_singleton.mp e)
theorem l2 : ((0 + 1 + 1 ≤ lim) = True) := by decide
theorem l3 : ((0 + 1 + 1 + 1 ≤ lim) = True) := by decide
theorem l4 : ((0 + 1 + 1 + 1 + 1 ≤ lim) = True) := by decide
theorem l12 : ((0 + 1 + 1 + 1 + 1 + 1 + 1 + 1 + 1 + 1 + 1 + 1 + 1 ≤ lim) = True) := by decide
theorem l1 : ((0 + 1 ≤ lim) = True) := by decide
include G W in
theorem gen_step (n : Nat) (ih : ∀ m, n = m + 1 → (∀ k, GE' t iE ws m k) ∧ ∀ k, GA' t iA ws m k) : (∀ k, GE' t iE ws n k) ∧ ∀ k, GA' t iA ws n k := by
    constructor
    · intro k L w hL hl h1 h2
      obtain ⟨a0, e0⟩ := getD_nat hL 0
      obtain ⟨a1, e1⟩ := getD_nat hL 1
      have i0 : ixD (.lst (L.map .int)) (.int 0) = some (.int (a0 : Nat)) := ixL (i := 0) (by omega) e0
      have i1 : ixD (.lst (L.map .int)) (.int 1) = some (.int (a1 : Nat)) := ixL (i := 1) (by omega) e1
      have m24 : binD .mod (.int (a0 : Nat)) (.int 24) = some (.int ((a0 % 24 : Nat) : Int)) := mod_nat (m := 24) (by omega)
      have lK : a0 % 24 < 24 := Nat.mod_lt _ (by omega)
      have s0 : dS (run t (n + k + 1)) (subL t.sub) (exprS0 iL iE iA) [.im (.lst (L.map .int)), .im (.int (n : Nat)), .im (.tup (ws.map wT)), .im (.int (w : Nat)), .un, .un, .un, .un, .un] = .nx [.im (.lst (L.map .int)), .im (.int (n : Nat)), .im (.tup (ws.map wT)), .im (.int (w : Nat)), .im (.int ((a0 % 24 : Nat) : Int)), .im (.int (a1 : Nat)), .un, .un, .un] := by
        simp only [exprS0, dE_cst, dE_glb, dE_var, dE_bin, dE_neg, dE_cmp, dE_chn, dE_and, dE_or, dE_not, dE_ite, dE_tup, dE_lst, dE_call, dE_blt, dE_mkb, dE_isi, dE_ix, dE_sl, dE_rev, dE_comp, dE_gget, dE_gix, dE_dget1, dE_dget, dE_dis, asDic, dT_cst, dT_var, dT_bin, dT_cmp, dT_chn, dT_call, dT_blt, dT_isi, dT_ix, dT_ite, dT_and, dT_or, dT_not, dO_own, dO_ev, dBd_no, dBd_to, dBs_nil, dBs_cons, dEs_nil, dEs_cons, dIt_seq, dIt_rng1, dIt_rng2, dIt_enm, dIt_zip, dS_set, dS_unp, dS_par, dS_aug, dS_ret, dS_retN, dS_ite, dS_fo, dS_pass, dS_rai, dS_exp, dS_tr, dSs_nil, dSs_cons, go_nx, go_rt, go_exc, fl_ok, fl_exc, bind_ok, bind_exc, of_some, calm_ok, flof_some, look_0, look_s, lookB_im, lookB_ow, lookB_s, frzL_nil, frzL_cons, frz1_im, frz1_un, frz1_ow, frz1_s, tg_nm, tg_tp, tg_tpl, tgs_nil, tgs_cons, obind, set_0, set_s, lp_nx, lp_ct, lp_bk, lp_rt, lp_exc, out_rt, out_nx, out_exc, ownList, isFr, Bool.and_true, Bool.and_false, Bool.true_and, Bool.false_and, Bool.not_true, Bool.not_false, truD, if_true, if_false, Bool.false_eq_true, ↓reduceIte, startE_nil, startE_cons, reduceCtorEq, decide_true, decide_false, tyD, i0, i1, int_int, m24, dS_par]
      rw [show n + k + 2 = (n + k + 1) + 1 from rfl, G.expr, exprB, dSs_cons, s0, go_nx, dSs_cons]
      clear s0 m24 e0 i0
      generalize a0 % 24 = K at lK
      have q0 : cmpD .eq (.int (n : Nat)) (.int 0) = some (decide (n = 0)) := eqN n 0
      have q5 : cmpD .lt (.int (K : Nat)) (.int 5) = some (decide (K < 5)) := ltN K 5
      by_cases c0 : n = 0 ∨ K < 5
      · obtain ⟨d, hd, ex, hc⟩ := leaf_ok (T := run t (n + k)) (sub := subL t.sub) W (pos_drop hL 1) (by rw [List.length_drop]; omega) h1 h2 n
        have lf := G.leaf (n + k) (.lst ((L.drop 1).map .int)) (.tup (ws.map wT)) (.int (w : Nat))
        rw [hd, out_rt] at lf
        have s1 : dS (run t (n + k + 1)) (subL t.sub) (exprS1 iL iE iA) [.im (.lst (L.map .int)), .im (.int (n : Nat)), .im (.tup (ws.map wT)), .im (.int (w : Nat)), .im (.int (K : Nat)), .im (.int (a1 : Nat)), .un, .un, .un] = .rt d := by
          by_cases c : n = 0
          · simp only [exprS1, dE_cst, dE_glb, dE_var, dE_bin, dE_neg, dE_cmp, dE_chn, dE_and, dE_or, dE_not, dE_ite, dE_tup, dE_lst, dE_call, dE_blt, dE_mkb, dE_isi, dE_ix, dE_sl, dE_rev, dE_comp, dE_gget, dE_gix, dE_dget1, dE_dget, dE_dis, asDic, dT_cst, dT_var, dT_bin, dT_cmp, dT_chn, dT_call, dT_blt, dT_isi, dT_ix, dT_ite, dT_and, dT_or, dT_not, dO_own, dO_ev, dBd_no, dBd_to, dBs_nil, dBs_cons, dEs_nil, dEs_cons, dIt_seq, dIt_rng1, dIt_rng2, dIt_enm, dIt_zip, dS_set, dS_unp, dS_par, dS_aug, dS_ret, dS_retN, dS_ite, dS_fo, dS_pass, dS_rai, dS_exp, dS_tr, dSs_nil, dSs_cons, go_nx, go_rt, go_exc, fl_ok, fl_exc, bind_ok, bind_exc, of_some, calm_ok, flof_some, look_0, look_s, lookB_im, lookB_ow, lookB_s, frzL_nil, frzL_cons, frz1_im, frz1_un, frz1_ow, frz1_s, tg_nm, tg_tp, tg_tpl, tgs_nil, tgs_cons, obind, set_0, set_s, lp_nx, lp_ct, lp_bk, lp_rt, lp_exc, out_rt, out_nx, out_exc, ownList, isFr, Bool.and_true, Bool.and_false, Bool.true_and, Bool.false_and, Bool.not_true, Bool.not_false, truD, if_true, if_false, Bool.false_eq_true, ↓reduceIte, startE_nil, startE_cons, reduceCtorEq, decide_true, decide_false, tyD, q0, decide_eq_true c, sl_1, lf]
          · simp only [exprS1, dE_cst, dE_glb, dE_var, dE_bin, dE_neg, dE_cmp, dE_chn, dE_and, dE_or, dE_not, dE_ite, dE_tup, dE_lst, dE_call, dE_blt, dE_mkb, dE_isi, dE_ix, dE_sl, dE_rev, dE_comp, dE_gget, dE_gix, dE_dget1, dE_dget, dE_dis, asDic, dT_cst, dT_var, dT_bin, dT_cmp, dT_chn, dT_call, dT_blt, dT_isi, dT_ix, dT_ite, dT_and, dT_or, dT_not, dO_own, dO_ev, dBd_no, dBd_to, dBs_nil, dBs_cons, dEs_nil, dEs_cons, dIt_seq, dIt_rng1, dIt_rng2, dIt_enm, dIt_zip, dS_set, dS_unp, dS_par, dS_aug, dS_ret, dS_retN, dS_ite, dS_fo, dS_pass, dS_rai, dS_exp, dS_tr, dSs_nil, dSs_cons, go_nx, go_rt, go_exc, fl_ok, fl_exc, bind_ok, bind_exc, of_some, calm_ok, flof_some, look_0, look_s, lookB_im, lookB_ow, lookB_s, frzL_nil, frzL_cons, frz1_im, frz1_un, frz1_ow, frz1_s, tg_nm, tg_tp, tg_tpl, tgs_nil, tgs_cons, obind, set_0, set_s, lp_nx, lp_ct, lp_bk, lp_rt, lp_exc, out_rt, out_nx, out_exc, ownList, isFr, Bool.and_true, Bool.and_false, Bool.true_and, Bool.false_and, Bool.not_true, Bool.not_false, truD, if_true, if_false, Bool.false_eq_true, ↓reduceIte, startE_nil, startE_cons, reduceCtorEq, decide_true, decide_false, tyD, q0, decide_eq_false c, q5, decide_eq_true (c0.resolve_left c), sl_1, lf]
        refine ⟨d, by rw [s1, go_rt, out_rt], ex, Nat.le_trans hc ?_⟩
        cases n with
        | zero => exact Nat.le_refl _
        | succ m =>
          show 2 ≤ 1 + (cE m).2 + 2 * (cE m).1
          have : 1 ≤ (cE m).1 := by cases m <;> simp only [cE] <;> omega
          omega
      · have c1 : ¬ n = 0 := fun z => c0 (.inl z)
        have c2 : ¬ K < 5 := fun z => c0 (.inr z)
        obtain ⟨m, rfl⟩ : ∃ m, n = m + 1 := ⟨n - 1, by omega⟩
        obtain ⟨iE', iA'⟩ := ih m rfl
        have gE := iE' k
        have gA := iA' k
        have sE : (cE (m + 1)).1 = 1 + (cE m).2 + 2 * (cE m).1 := rfl
        have le := cE_le m
        have s1 : dS (run t (m + 1 + k + 1)) (subL t.sub) (exprS1 iL iE iA) [.im (.lst (L.map .int)), .im (.int ((m + 1 : Nat) : Int)), .im (.tup (ws.map wT)), .im (.int (w : Nat)), .im (.int (K : Nat)), .im (.int (a1 : Nat)), .un, .un, .un] = .nx [.im (.lst (L.map .int)), .im (.int ((m + 1 : Nat) : Int)), .im (.tup (ws.map wT)), .im (.int (w : Nat)), .im (.int (K : Nat)), .im (.int (a1 : Nat)), .un, .un, .un] := by
          simp only [exprS1, dE_cst, dE_glb, dE_var, dE_bin, dE_neg, dE_cmp, dE_chn, dE_and, dE_or, dE_not, dE_ite, dE_tup, dE_lst, dE_call, dE_blt, dE_mkb, dE_isi, dE_ix, dE_sl, dE_rev, dE_comp, dE_gget, dE_gix, dE_dget1, dE_dget, dE_dis, asDic, dT_cst, dT_var, dT_bin, dT_cmp, dT_chn, dT_call, dT_blt, dT_isi, dT_ix, dT_ite, dT_and, dT_or, dT_not, dO_own, dO_ev, dBd_no, dBd_to, dBs_nil, dBs_cons, dEs_nil, dEs_cons, dIt_seq, dIt_rng1, dIt_rng2, dIt_enm, dIt_zip, dS_set, dS_unp, dS_par, dS_aug, dS_ret, dS_retN, dS_ite, dS_fo, dS_pass, dS_rai, dS_exp, dS_tr, dSs_nil, dSs_cons, go_nx, go_rt, go_exc, fl_ok, fl_exc, bind_ok, bind_exc, of_some, calm_ok, flof_some, look_0, look_s, lookB_im, lookB_ow, lookB_s, frzL_nil, frzL_cons, frz1_im, frz1_un, frz1_ow, frz1_s, tg_nm, tg_tp, tg_tpl, tgs_nil, tgs_cons, obind, set_0, set_s, lp_nx, lp_ct, lp_bk, lp_rt, lp_exc, out_rt, out_nx, out_exc, ownList, isFr, Bool.and_true, Bool.and_false, Bool.true_and, Bool.false_and, Bool.not_true, Bool.not_false, truD, if_true, if_false, Bool.false_eq_true, ↓reduceIte, startE_nil, startE_cons, reduceCtorEq, decide_true, decide_false, tyD, q0, decide_eq_false c1, q5, decide_eq_false c2]
        rw [s1, go_nx, dSs_cons]
        rw [show m + 1 + k + 1 = m + k + 2 from by omega]
        clear s1 q0 q5
        have k5 : cmpD .eq (.int (K : Nat)) (.int 5) = some (decide (K = 5)) := eqN K 5
        have k6 : cmpD .eq (.int (K : Nat)) (.int 6) = some (decide (K = 6)) := eqN K 6
        have k7 : cmpD .eq (.int (K : Nat)) (.int 7) = some (decide (K = 7)) := eqN K 7
        have k10 : cmpD .lt (.int (K : Nat)) (.int 10) = some (decide (K < 10)) := ltN K 10
        have k21 : cmpD .gt (.int (K : Nat)) (.int 21) = some (decide (21 < K)) := gtN K 21
        have w1 : cmpD .gt (.int (w : Nat)) (.int 1) = some (decide (1 < w)) := gtN w 1
        have w7 : cmpD .lt (.int (w : Nat)) (.int 7) = some (decide (w < 7)) := ltN w 7
        by_cases c5 : K = 5 ∧ 1 < w
        · have sw : binD .sub (.int (w : Nat)) (.int 1) = some (.int ((w - 1 : Nat) : Int)) := subN (b := 1) h1
          have pw : 0 < w - 1 := by omega
          have lt := Nat.mod_lt a1 pw
          have ad : binD .add (.int 1) (.int ((a1 % (w - 1) : Nat) : Int)) = some (.int ((1 + a1 % (w - 1) : Nat) : Int)) := addN 1 _
          have md := mod_nat (a := a1) pw
          generalize a1 % (w - 1) = r at lt ad md
          obtain ⟨x, hx, ex, cx⟩ := gE (L.drop 2) (w - (1 + r)) (pos_drop hL 2) (by rw [List.length_drop]; omega) (by omega) (by omega)
          obtain ⟨y, hy, ey, cy⟩ := gE (L.drop 6) (1 + r) (pos_drop hL 6) (by rw [List.length_drop]; omega) (by omega) (by omega)
          have s2 : dS (run t (m + k + 2)) (subL t.sub) (exprS2 iL iE iA) [.im (.lst (L.map .int)), .im (.int ((m + 1 : Nat) : Int)), .im (.tup (ws.map wT)), .im (.int (w : Nat)), .im (.int (K : Nat)), .im (.int (a1 : Nat)), .un, .un, .un] = .rt (.tup [.str "join", x, y]) := by
            simp only [exprS2, dE_cst, dE_glb, dE_var, dE_bin, dE_neg, dE_cmp, dE_chn, dE_and, dE_or, dE_not, dE_ite, dE_tup, dE_lst, dE_call, dE_blt, dE_mkb, dE_isi, dE_ix, dE_sl, dE_rev, dE_comp, dE_gget, dE_gix, dE_dget1, dE_dget, dE_dis, asDic, dT_cst, dT_var, dT_bin, dT_cmp, dT_chn, dT_call, dT_blt, dT_isi, dT_ix, dT_ite, dT_and, dT_or, dT_not, dO_own, dO_ev, dBd_no, dBd_to, dBs_nil, dBs_cons, dEs_nil, dEs_cons, dIt_seq, dIt_rng1, dIt_rng2, dIt_enm, dIt_zip, dS_set, dS_unp, dS_par, dS_aug, dS_ret, dS_retN, dS_ite, dS_fo, dS_pass, dS_rai, dS_exp, dS_tr, dSs_nil, dSs_cons, go_nx, go_rt, go_exc, fl_ok, fl_exc, bind_ok, bind_exc, of_some, calm_ok, flof_some, look_0, look_s, lookB_im, lookB_ow, lookB_s, frzL_nil, frzL_cons, frz1_im, frz1_un, frz1_ow, frz1_s, tg_nm, tg_tp, tg_tpl, tgs_nil, tgs_cons, obind, set_0, set_s, lp_nx, lp_ct, lp_bk, lp_rt, lp_exc, out_rt, out_nx, out_exc, ownList, isFr, Bool.and_true, Bool.and_false, Bool.true_and, Bool.false_and, Bool.not_true, Bool.not_false, truD, if_true, if_false, Bool.false_eq_true, ↓reduceIte, startE_nil, startE_cons, reduceCtorEq, decide_true, decide_false, tyD, k5, w1, decide_eq_true c5.1, decide_eq_true c5.2, sw, md, ad, sl_2, sl_6, sub1, subN (show 1 + r ≤ w by omega), hx, hy, List.length_cons, List.length_nil, l3]
          have e := Ex.join (ws := ws) ex ey (by omega)
          rw [show w - (1 + r) + (1 + r) = w from by omega] at e
          refine ⟨_, by rw [s2, go_rt, out_rt], e, ?_⟩
          have := cnt_kids (n := m + 2) (s := "join") (pre := []) (kids := [x, y]) (.plain _ _ (by simp [plainKinds]))
          have this : cnt (m + 1 + 2) (.tup [.str "join", x, y]) = 1 + (cnt (m + 2) x + (cnt (m + 2) y + 0)) := this
          omega
        have s2 : dS (run t (m + k + 2)) (subL t.sub) (exprS2 iL iE iA) [.im (.lst (L.map .int)), .im (.int ((m + 1 : Nat) : Int)), .im (.tup (ws.map wT)), .im (.int (w : Nat)), .im (.int (K : Nat)), .im (.int (a1 : Nat)), .un, .un, .un] = .nx [.im (.lst (L.map .int)), .im (.int ((m + 1 : Nat) : Int)), .im (.tup (ws.map wT)), .im (.int (w : Nat)), .im (.int (K : Nat)), .im (.int (a1 : Nat)), .un, .un, .un] := by
          by_cases c : K = 5
          · simp only [exprS2, dE_cst, dE_glb, dE_var, dE_bin, dE_neg, dE_cmp, dE_chn, dE_and, dE_or, dE_not, dE_ite, dE_tup, dE_lst, dE_call, dE_blt, dE_mkb, dE_isi, dE_ix, dE_sl, dE_rev, dE_comp, dE_gget, dE_gix, dE_dget1, dE_dget, dE_dis, asDic, dT_cst, dT_var, dT_bin, dT_cmp, dT_chn, dT_call, dT_blt, dT_isi, dT_ix, dT_ite, dT_and, dT_or, dT_not, dO_own, dO_ev, dBd_no, dBd_to, dBs_nil, dBs_cons, dEs_nil, dEs_cons, dIt_seq, dIt_rng1, dIt_rng2, dIt_enm, dIt_zip, dS_set, dS_unp, dS_par, dS_aug, dS_ret, dS_retN, dS_ite, dS_fo, dS_pass, dS_rai, dS_exp, dS_tr, dSs_nil, dSs_cons, go_nx, go_rt, go_exc, fl_ok, fl_exc, bind_ok, bind_exc, of_some, calm_ok, flof_some, look_0, look_s, lookB_im, lookB_ow, lookB_s, frzL_nil, frzL_cons, frz1_im, frz1_un, frz1_ow, frz1_s, tg_nm, tg_tp, tg_tpl, tgs_nil, tgs_cons, obind, set_0, set_s, lp_nx, lp_ct, lp_bk, lp_rt, lp_exc, out_rt, out_nx, out_exc, ownList, isFr, Bool.and_true, Bool.and_false, Bool.true_and, Bool.false_and, Bool.not_true, Bool.not_false, truD, if_true, if_false, Bool.false_eq_true, ↓reduceIte, startE_nil, startE_cons, reduceCtorEq, decide_true, decide_false, tyD, k5, w1, decide_eq_true c, decide_eq_false (show ¬ 1 < w from fun z => c5 ⟨c, z⟩)]
          · simp only [exprS2, dE_cst, dE_glb, dE_var, dE_bin, dE_neg, dE_cmp, dE_chn, dE_and, dE_or, dE_not, dE_ite, dE_tup, dE_lst, dE_call, dE_blt, dE_mkb, dE_isi, dE_ix, dE_sl, dE_rev, dE_comp, dE_gget, dE_gix, dE_dget1, dE_dget, dE_dis, asDic, dT_cst, dT_var, dT_bin, dT_cmp, dT_chn, dT_call, dT_blt, dT_isi, dT_ix, dT_ite, dT_and, dT_or, dT_not, dO_own, dO_ev, dBd_no, dBd_to, dBs_nil, dBs_cons, dEs_nil, dEs_cons, dIt_seq, dIt_rng1, dIt_rng2, dIt_enm, dIt_zip, dS_set, dS_unp, dS_par, dS_aug, dS_ret, dS_retN, dS_ite, dS_fo, dS_pass, dS_rai, dS_exp, dS_tr, dSs_nil, dSs_cons, go_nx, go_rt, go_exc, fl_ok, fl_exc, bind_ok, bind_exc, of_some, calm_ok, flof_some, look_0, look_s, lookB_im, lookB_ow, lookB_s, frzL_nil, frzL_cons, frz1_im, frz1_un, frz1_ow, frz1_s, tg_nm, tg_tp, tg_tpl, tgs_nil, tgs_cons, obind, set_0, set_s, lp_nx, lp_ct, lp_bk, lp_rt, lp_exc, out_rt, out_nx, out_exc, ownList, isFr, Bool.and_true, Bool.and_false, Bool.true_and, Bool.false_and, Bool.not_true, Bool.not_false, truD, if_true, if_false, Bool.false_eq_true, ↓reduceIte, startE_nil, startE_cons, reduceCtorEq, decide_true, decide_false, tyD, k5, decide_eq_false c]
        rw [s2, go_nx, dSs_cons]
        clear s2 c5 k5
        by_cases c6 : K = 6 ∧ 1 < w
        · have sw : binD .sub (.int (w : Nat)) (.int 1) = some (.int ((w - 1 : Nat) : Int)) := subN (b := 1) h1
          have pw : 0 < w - 1 := by omega
          have lt := Nat.mod_lt a1 pw
          have ad : binD .add (.int 1) (.int ((a1 % (w - 1) : Nat) : Int)) = some (.int ((1 + a1 % (w - 1) : Nat) : Int)) := addN 1 _
          have md := mod_nat (a := a1) pw
          generalize a1 % (w - 1) = r at lt ad md
          have d8 : binD .div (.int (a1 : Nat)) (.int 8) = some (.int ((a1 / 8 : Nat) : Int)) := divN (m := 8) (by omega) (by omega)
          have m2 : binD .mod (.int ((a1 / 8 : Nat) : Int)) (.int 2) = some (.int ((a1 / 8 % 2 : Nat) : Int)) := mod_nat (m := 2) (by omega)
          have hz : a1 / 8 % 2 < (["zero", "sign"] : List Str).length := Nat.mod_lt _ (by decide)
          have iz := ix_strs hz
          have iz : ixD (.lst [.str "zero", .str "sign"]) (.int ((a1 / 8 % 2 : Nat) : Int)) = some (.str (["zero", "sign"] : List Str)[a1 / 8 % 2]) := iz
          have kz := two_of hz rfl
          generalize (["zero", "sign"] : List Str)[a1 / 8 % 2] = s at iz kz
          obtain ⟨x, hx, ex, cx⟩ := gE (L.drop 2) (1 + r) (pos_drop hL 2) (by rw [List.length_drop]; omega) (by omega) (by omega)
          have s3 : dS (run t (m + k + 2)) (subL t.sub) (exprS3 iL iE iA) [.im (.lst (L.map .int)), .im (.int ((m + 1 : Nat) : Int)), .im (.tup (ws.map wT)), .im (.int (w : Nat)), .im (.int (K : Nat)), .im (.int (a1 : Nat)), .un, .un, .un] = .rt (.tup [.str s, .int ((w - (1 + r) : Nat) : Int), x]) := by
            simp only [exprS3, dE_cst, dE_glb, dE_var, dE_bin, dE_neg, dE_cmp, dE_chn, dE_and, dE_or, dE_not, dE_ite, dE_tup, dE_lst, dE_call, dE_blt, dE_mkb, dE_isi, dE_ix, dE_sl, dE_rev, dE_comp, dE_gget, dE_gix, dE_dget1, dE_dget, dE_dis, asDic, dT_cst, dT_var, dT_bin, dT_cmp, dT_chn, dT_call, dT_blt, dT_isi, dT_ix, dT_ite, dT_and, dT_or, dT_not, dO_own, dO_ev, dBd_no, dBd_to, dBs_nil, dBs_cons, dEs_nil, dEs_cons, dIt_seq, dIt_rng1, dIt_rng2, dIt_enm, dIt_zip, dS_set, dS_unp, dS_par, dS_aug, dS_ret, dS_retN, dS_ite, dS_fo, dS_pass, dS_rai, dS_exp, dS_tr, dSs_nil, dSs_cons, go_nx, go_rt, go_exc, fl_ok, fl_exc, bind_ok, bind_exc, of_some, calm_ok, flof_some, look_0, look_s, lookB_im, lookB_ow, lookB_s, frzL_nil, frzL_cons, frz1_im, frz1_un, frz1_ow, frz1_s, tg_nm, tg_tp, tg_tpl, tgs_nil, tgs_cons, obind, set_0, set_s, lp_nx, lp_ct, lp_bk, lp_rt, lp_exc, out_rt, out_nx, out_exc, ownList, isFr, Bool.and_true, Bool.and_false, Bool.true_and, Bool.false_and, Bool.not_true, Bool.not_false, truD, if_true, if_false, Bool.false_eq_true, ↓reduceIte, startE_nil, startE_cons, reduceCtorEq, decide_true, decide_false, tyD, k6, w1, decide_eq_true c6.1, decide_eq_true c6.2, sw, md, ad, d8, m2, iz, sl_2, sub1, subN (show 1 + r ≤ w by omega), hx, List.length_cons, List.length_nil, l3, l2]
          have e := Ex.ext (ws := ws) kz (show 1 ≤ w - (1 + r) by omega) ex (by omega)
          rw [show 1 + r + (w - (1 + r)) = w from by omega] at e
          refine ⟨_, by rw [s3, go_rt, out_rt], e, ?_⟩
          have ck : Node s [.int ((w - (1 + r) : Nat) : Int)] 1 := by
            rcases kz with rfl | rfl
            · exact .zero _ (by omega)
            · exact .sign _ (by omega)
          have := cnt_kids (n := m + 2) (kids := [x]) ck
          have this : cnt (m + 1 + 2) (.tup [.str s, .int ((w - (1 + r) : Nat) : Int), x]) = 1 + (cnt (m + 2) x + 0) := this
          omega
        have s3 : dS (run t (m + k + 2)) (subL t.sub) (exprS3 iL iE iA) [.im (.lst (L.map .int)), .im (.int ((m + 1 : Nat) : Int)), .im (.tup (ws.map wT)), .im (.int (w : Nat)), .im (.int (K : Nat)), .im (.int (a1 : Nat)), .un, .un, .un] = .nx [.im (.lst (L.map .int)), .im (.int ((m + 1 : Nat) : Int)), .im (.tup (ws.map wT)), .im (.int (w : Nat)), .im (.int (K : Nat)), .im (.int (a1 : Nat)), .un, .un, .un] := by
          by_cases c : K = 6
          · simp only [exprS3, dE_cst, dE_glb, dE_var, dE_bin, dE_neg, dE_cmp, dE_chn, dE_and, dE_or, dE_not, dE_ite, dE_tup, dE_lst, dE_call, dE_blt, dE_mkb, dE_isi, dE_ix, dE_sl, dE_rev, dE_comp, dE_gget, dE_gix, dE_dget1, dE_dget, dE_dis, asDic, dT_cst, dT_var, dT_bin, dT_cmp, dT_chn, dT_call, dT_blt, dT_isi, dT_ix, dT_ite, dT_and, dT_or, dT_not, dO_own, dO_ev, dBd_no, dBd_to, dBs_nil, dBs_cons, dEs_nil, dEs_cons, dIt_seq, dIt_rng1, dIt_rng2, dIt_enm, dIt_zip, dS_set, dS_unp, dS_par, dS_aug, dS_ret, dS_retN, dS_ite, dS_fo, dS_pass, dS_rai, dS_exp, dS_tr, dSs_nil, dSs_cons, go_nx, go_rt, go_exc, fl_ok, fl_exc, bind_ok, bind_exc, of_some, calm_ok, flof_some, look_0, look_s, lookB_im, lookB_ow, lookB_s, frzL_nil, frzL_cons, frz1_im, frz1_un, frz1_ow, frz1_s, tg_nm, tg_tp, tg_tpl, tgs_nil, tgs_cons, obind, set_0, set_s, lp_nx, lp_ct, lp_bk, lp_rt, lp_exc, out_rt, out_nx, out_exc, ownList, isFr, Bool.and_true, Bool.and_false, Bool.true_and, Bool.false_and, Bool.not_true, Bool.not_false, truD, if_true, if_false, Bool.false_eq_true, ↓reduceIte, startE_nil, startE_cons, reduceCtorEq, decide_true, decide_false, tyD, k6, w1, decide_eq_true c, decide_eq_false (show ¬ 1 < w from fun z => c6 ⟨c, z⟩)]
          · simp only [exprS3, dE_cst, dE_glb, dE_var, dE_bin, dE_neg, dE_cmp, dE_chn, dE_and, dE_or, dE_not, dE_ite, dE_tup, dE_lst, dE_call, dE_blt, dE_mkb, dE_isi, dE_ix, dE_sl, dE_rev, dE_comp, dE_gget, dE_gix, dE_dget1, dE_dget, dE_dis, asDic, dT_cst, dT_var, dT_bin, dT_cmp, dT_chn, dT_call, dT_blt, dT_isi, dT_ix, dT_ite, dT_and, dT_or, dT_not, dO_own, dO_ev, dBd_no, dBd_to, dBs_nil, dBs_cons, dEs_nil, dEs_cons, dIt_seq, dIt_rng1, dIt_rng2, dIt_enm, dIt_zip, dS_set, dS_unp, dS_par, dS_aug, dS_ret, dS_retN, dS_ite, dS_fo, dS_pass, dS_rai, dS_exp, dS_tr, dSs_nil, dSs_cons, go_nx, go_rt, go_exc, fl_ok, fl_exc, bind_ok, bind_exc, of_some, calm_ok, flof_some, look_0, look_s, lookB_im, lookB_ow, lookB_s, frzL_nil, frzL_cons, frz1_im, frz1_un, frz1_ow, frz1_s, tg_nm, tg_tp, tg_tpl, tgs_nil, tgs_cons, obind, set_0, set_s, lp_nx, lp_ct, lp_bk, lp_rt, lp_exc, out_rt, out_nx, out_exc, ownList, isFr, Bool.and_true, Bool.and_false, Bool.true_and, Bool.false_and, Bool.not_true, Bool.not_false, truD, if_true, if_false, Bool.false_eq_true, ↓reduceIte, startE_nil, startE_cons, reduceCtorEq, decide_true, decide_false, tyD, k6, decide_eq_false c]
        rw [s3, go_nx, dSs_cons]
        clear s3 c6 k6
        by_cases c7 : K = 7 ∧ w < 7
        · have m2 : binD .mod (.int (a1 : Nat)) (.int 2) = some (.int ((a1 % 2 : Nat) : Int)) := mod_nat (m := 2) (by omega)
          have lt : a1 % 2 < 2 := Nat.mod_lt _ (by omega)
          generalize a1 % 2 = r at m2 lt
          have ad : binD .add (.int (w : Nat)) (.int 1) = some (.int ((w + 1 : Nat) : Int)) := addN w 1
          obtain ⟨x, hx, ex, cx⟩ := gE (L.drop 2) (w + 1 + r) (pos_drop hL 2) (by rw [List.length_drop]; omega) (by omega) (by omega)
          have s4 : dS (run t (m + k + 2)) (subL t.sub) (exprS4 iL iE iA) [.im (.lst (L.map .int)), .im (.int ((m + 1 : Nat) : Int)), .im (.tup (ws.map wT)), .im (.int (w : Nat)), .im (.int (K : Nat)), .im (.int (a1 : Nat)), .un, .un, .un] = .rt (.tup [.str "part", .int (w : Nat), .int 1, x]) := by
            simp only [exprS4, dE_cst, dE_glb, dE_var, dE_bin, dE_neg, dE_cmp, dE_chn, dE_and, dE_or, dE_not, dE_ite, dE_tup, dE_lst, dE_call, dE_blt, dE_mkb, dE_isi, dE_ix, dE_sl, dE_rev, dE_comp, dE_gget, dE_gix, dE_dget1, dE_dget, dE_dis, asDic, dT_cst, dT_var, dT_bin, dT_cmp, dT_chn, dT_call, dT_blt, dT_isi, dT_ix, dT_ite, dT_and, dT_or, dT_not, dO_own, dO_ev, dBd_no, dBd_to, dBs_nil, dBs_cons, dEs_nil, dEs_cons, dIt_seq, dIt_rng1, dIt_rng2, dIt_enm, dIt_zip, dS_set, dS_unp, dS_par, dS_aug, dS_ret, dS_retN, dS_ite, dS_fo, dS_pass, dS_rai, dS_exp, dS_tr, dSs_nil, dSs_cons, go_nx, go_rt, go_exc, fl_ok, fl_exc, bind_ok, bind_exc, of_some, calm_ok, flof_some, look_0, look_s, lookB_im, lookB_ow, lookB_s, frzL_nil, frzL_cons, frz1_im, frz1_un, frz1_ow, frz1_s, tg_nm, tg_tp, tg_tpl, tgs_nil, tgs_cons, obind, set_0, set_s, lp_nx, lp_ct, lp_bk, lp_rt, lp_exc, out_rt, out_nx, out_exc, ownList, isFr, Bool.and_true, Bool.and_false, Bool.true_and, Bool.false_and, Bool.not_true, Bool.not_false, truD, if_true, if_false, Bool.false_eq_true, ↓reduceIte, startE_nil, startE_cons, reduceCtorEq, decide_true, decide_false, tyD, k7, w7, decide_eq_true c7.1, decide_eq_true c7.2, m2, ad, addN, sl_2, sub1, hx, List.length_cons, List.length_nil, l4]
          have e0 := Ex.part (ws := ws) (lo := 1) (hi := w) (by omega) (by omega) (by omega) ex
          rw [show w - 1 + 1 = w from by omega] at e0
          have e : Ex ws (m + 1 + 2) (.tup [.str "part", .int (w : Nat), .int 1, x]) w := e0
          refine ⟨_, by rw [s4, go_rt, out_rt], e, ?_⟩
          have := cnt_kids (n := m + 2) (s := "part") (pre := [.int (w : Nat), .int ((1 : Nat) : Int)]) (kids := [x]) (.part w 1 (by omega) (by omega))
          have this : cnt (m + 1 + 2) (.tup [.str "part", .int (w : Nat), .int 1, x]) = 1 + (cnt (m + 2) x + 0) := this
          omega
        have s4 : dS (run t (m + k + 2)) (subL t.sub) (exprS4 iL iE iA) [.im (.lst (L.map .int)), .im (.int ((m + 1 : Nat) : Int)), .im (.tup (ws.map wT)), .im (.int (w : Nat)), .im (.int (K : Nat)), .im (.int (a1 : Nat)), .un, .un, .un] = .nx [.im (.lst (L.map .int)), .im (.int ((m + 1 : Nat) : Int)), .im (.tup (ws.map wT)), .im (.int (w : Nat)), .im (.int (K : Nat)), .im (.int (a1 : Nat)), .un, .un, .un] := by
          by_cases c : K = 7
          · simp only [exprS4, dE_cst, dE_glb, dE_var, dE_bin, dE_neg, dE_cmp, dE_chn, dE_and, dE_or, dE_not, dE_ite, dE_tup, dE_lst, dE_call, dE_blt, dE_mkb, dE_isi, dE_ix, dE_sl, dE_rev, dE_comp, dE_gget, dE_gix, dE_dget1, dE_dget, dE_dis, asDic, dT_cst, dT_var, dT_bin, dT_cmp, dT_chn, dT_call, dT_blt, dT_isi, dT_ix, dT_ite, dT_and, dT_or, dT_not, dO_own, dO_ev, dBd_no, dBd_to, dBs_nil, dBs_cons, dEs_nil, dEs_cons, dIt_seq, dIt_rng1, dIt_rng2, dIt_enm, dIt_zip, dS_set, dS_unp, dS_par, dS_aug, dS_ret, dS_retN, dS_ite, dS_fo, dS_pass, dS_rai, dS_exp, dS_tr, dSs_nil, dSs_cons, go_nx, go_rt, go_exc, fl_ok, fl_exc, bind_ok, bind_exc, of_some, calm_ok, flof_some, look_0, look_s, lookB_im, lookB_ow, lookB_s, frzL_nil, frzL_cons, frz1_im, frz1_un, frz1_ow, frz1_s, tg_nm, tg_tp, tg_tpl, tgs_nil, tgs_cons, obind, set_0, set_s, lp_nx, lp_ct, lp_bk, lp_rt, lp_exc, out_rt, out_nx, out_exc, ownList, isFr, Bool.and_true, Bool.and_false, Bool.true_and, Bool.false_and, Bool.not_true, Bool.not_false, truD, if_true, if_false, Bool.false_eq_true, ↓reduceIte, startE_nil, startE_cons, reduceCtorEq, decide_true, decide_false, tyD, k7, w7, decide_eq_true c, decide_eq_false (show ¬ w < 7 from fun z => c7 ⟨c, z⟩)]
          · simp only [exprS4, dE_cst, dE_glb, dE_var, dE_bin, dE_neg, dE_cmp, dE_chn, dE_and, dE_or, dE_not, dE_ite, dE_tup, dE_lst, dE_call, dE_blt, dE_mkb, dE_isi, dE_ix, dE_sl, dE_rev, dE_comp, dE_gget, dE_gix, dE_dget1, dE_dget, dE_dis, asDic, dT_cst, dT_var, dT_bin, dT_cmp, dT_chn, dT_call, dT_blt, dT_isi, dT_ix, dT_ite, dT_and, dT_or, dT_not, dO_own, dO_ev, dBd_no, dBd_to, dBs_nil, dBs_cons, dEs_nil, dEs_cons, dIt_seq, dIt_rng1, dIt_rng2, dIt_enm, dIt_zip, dS_set, dS_unp, dS_par, dS_aug, dS_ret, dS_retN, dS_ite, dS_fo, dS_pass, dS_rai, dS_exp, dS_tr, dSs_nil, dSs_cons, go_nx, go_rt, go_exc, fl_ok, fl_exc, bind_ok, bind_exc, of_some, calm_ok, flof_some, look_0, look_s, lookB_im, lookB_ow, lookB_s, frzL_nil, frzL_cons, frz1_im, frz1_un, frz1_ow, frz1_s, tg_nm, tg_tp, tg_tpl, tgs_nil, tgs_cons, obind, set_0, set_s, lp_nx, lp_ct, lp_bk, lp_rt, lp_exc, out_rt, out_nx, out_exc, ownList, isFr, Bool.and_true, Bool.and_false, Bool.true_and, Bool.false_and, Bool.not_true, Bool.not_false, truD, if_true, if_false, Bool.false_eq_true, ↓reduceIte, startE_nil, startE_cons, reduceCtorEq, decide_true, decide_false, tyD, k7, decide_eq_false c]
        rw [s4, go_nx, dSs_cons]
        clear s4 c7 k7
        obtain ⟨x, hx, ex, cx⟩ := gE (L.drop 2) w (pos_drop hL 2) (by rw [List.length_drop]; omega) h1 h2
        by_cases c10 : K < 10
        · have m2 : binD .mod (.int (a1 : Nat)) (.int 2) = some (.int ((a1 % 2 : Nat) : Int)) := mod_nat (m := 2) (by omega)
          have hz : a1 % 2 < (["not", "neg"] : List Str).length := Nat.mod_lt _ (by decide)
          have iz := ix_strs hz
          have iz : ixD (.lst [.str "not", .str "neg"]) (.int ((a1 % 2 : Nat) : Int)) = some (.str (["not", "neg"] : List Str)[a1 % 2]) := iz
          have kz := two_of hz rfl
          generalize (["not", "neg"] : List Str)[a1 % 2] = s at iz kz
          have s5 : dS (run t (m + k + 2)) (subL t.sub) (exprS5 iL iE iA) [.im (.lst (L.map .int)), .im (.int ((m + 1 : Nat) : Int)), .im (.tup (ws.map wT)), .im (.int (w : Nat)), .im (.int (K : Nat)), .im (.int (a1 : Nat)), .un, .un, .un] = .rt (.tup [.str s, x]) := by
            simp only [exprS5, dE_cst, dE_glb, dE_var, dE_bin, dE_neg, dE_cmp, dE_chn, dE_and, dE_or, dE_not, dE_ite, dE_tup, dE_lst, dE_call, dE_blt, dE_mkb, dE_isi, dE_ix, dE_sl, dE_rev, dE_comp, dE_gget, dE_gix, dE_dget1, dE_dget, dE_dis, asDic, dT_cst, dT_var, dT_bin, dT_cmp, dT_chn, dT_call, dT_blt, dT_isi, dT_ix, dT_ite, dT_and, dT_or, dT_not, dO_own, dO_ev, dBd_no, dBd_to, dBs_nil, dBs_cons, dEs_nil, dEs_cons, dIt_seq, dIt_rng1, dIt_rng2, dIt_enm, dIt_zip, dS_set, dS_unp, dS_par, dS_aug, dS_ret, dS_retN, dS_ite, dS_fo, dS_pass, dS_rai, dS_exp, dS_tr, dSs_nil, dSs_cons, go_nx, go_rt, go_exc, fl_ok, fl_exc, bind_ok, bind_exc, of_some, calm_ok, flof_some, look_0, look_s, lookB_im, lookB_ow, lookB_s, frzL_nil, frzL_cons, frz1_im, frz1_un, frz1_ow, frz1_s, tg_nm, tg_tp, tg_tpl, tgs_nil, tgs_cons, obind, set_0, set_s, lp_nx, lp_ct, lp_bk, lp_rt, lp_exc, out_rt, out_nx, out_exc, ownList, isFr, Bool.and_true, Bool.and_false, Bool.true_and, Bool.false_and, Bool.not_true, Bool.not_false, truD, if_true, if_false, Bool.false_eq_true, ↓reduceIte, startE_nil, startE_cons, reduceCtorEq, decide_true, decide_false, tyD, k10, decide_eq_true c10, m2, iz, sl_2, sub1, hx, List.length_cons, List.length_nil, l2]
          refine ⟨_, by rw [s5, go_rt, out_rt], .one kz ex, ?_⟩
          have := cnt_kids (n := m + 2) (s := s) (pre := []) (kids := [x]) (.plain _ _ (by rcases kz with rfl | rfl <;> simp [plainKinds]))
          have this : cnt (m + 1 + 2) (.tup [.str s, x]) = 1 + (cnt (m + 2) x + 0) := this
          omega
        have s5 : dS (run t (m + k + 2)) (subL t.sub) (exprS5 iL iE iA) [.im (.lst (L.map .int)), .im (.int ((m + 1 : Nat) : Int)), .im (.tup (ws.map wT)), .im (.int (w : Nat)), .im (.int (K : Nat)), .im (.int (a1 : Nat)), .un, .un, .un] = .nx [.im (.lst (L.map .int)), .im (.int ((m + 1 : Nat) : Int)), .im (.tup (ws.map wT)), .im (.int (w : Nat)), .im (.int (K : Nat)), .im (.int (a1 : Nat)), .un, .un, .un] := by
          simp only [exprS5, dE_cst, dE_glb, dE_var, dE_bin, dE_neg, dE_cmp, dE_chn, dE_and, dE_or, dE_not, dE_ite, dE_tup, dE_lst, dE_call, dE_blt, dE_mkb, dE_isi, dE_ix, dE_sl, dE_rev, dE_comp, dE_gget, dE_gix, dE_dget1, dE_dget, dE_dis, asDic, dT_cst, dT_var, dT_bin, dT_cmp, dT_chn, dT_call, dT_blt, dT_isi, dT_ix, dT_ite, dT_and, dT_or, dT_not, dO_own, dO_ev, dBd_no, dBd_to, dBs_nil, dBs_cons, dEs_nil, dEs_cons, dIt_seq, dIt_rng1, dIt_rng2, dIt_enm, dIt_zip, dS_set, dS_unp, dS_par, dS_aug, dS_ret, dS_retN, dS_ite, dS_fo, dS_pass, dS_rai, dS_exp, dS_tr, dSs_nil, dSs_cons, go_nx, go_rt, go_exc, fl_ok, fl_exc, bind_ok, bind_exc, of_some, calm_ok, flof_some, look_0, look_s, lookB_im, lookB_ow, lookB_s, frzL_nil, frzL_cons, frz1_im, frz1_un, frz1_ow, frz1_s, tg_nm, tg_tp, tg_tpl, tgs_nil, tgs_cons, obind, set_0, set_s, lp_nx, lp_ct, lp_bk, lp_rt, lp_exc, out_rt, out_nx, out_exc, ownList, isFr, Bool.and_true, Bool.and_false, Bool.true_and, Bool.false_and, Bool.not_true, Bool.not_false, truD, if_true, if_false, Bool.false_eq_true, ↓reduceIte, startE_nil, startE_cons, reduceCtorEq, decide_true, decide_false, tyD, k10, decide_eq_false c10]
        obtain ⟨y, hy, ey, cy⟩ := gE (L.drop 7) w (pos_drop hL 7) (by rw [List.length_drop]; omega) h1 h2
        have s6 : dS (run t (m + k + 2)) (subL t.sub) (exprS6 iL iE iA) [.im (.lst (L.map .int)), .im (.int ((m + 1 : Nat) : Int)), .im (.tup (ws.map wT)), .im (.int (w : Nat)), .im (.int (K : Nat)), .im (.int (a1 : Nat)), .un, .un, .un] = .nx [.im (.lst (L.map .int)), .im (.int ((m + 1 : Nat) : Int)), .im (.tup (ws.map wT)), .im (.int (w : Nat)), .im (.int (K : Nat)), .im (.int (a1 : Nat)), .un, .im x, .im y] := by
          simp only [exprS6, dE_cst, dE_glb, dE_var, dE_bin, dE_neg, dE_cmp, dE_chn, dE_and, dE_or, dE_not, dE_ite, dE_tup, dE_lst, dE_call, dE_blt, dE_mkb, dE_isi, dE_ix, dE_sl, dE_rev, dE_comp, dE_gget, dE_gix, dE_dget1, dE_dget, dE_dis, asDic, dT_cst, dT_var, dT_bin, dT_cmp, dT_chn, dT_call, dT_blt, dT_isi, dT_ix, dT_ite, dT_and, dT_or, dT_not, dO_own, dO_ev, dBd_no, dBd_to, dBs_nil, dBs_cons, dEs_nil, dEs_cons, dIt_seq, dIt_rng1, dIt_rng2, dIt_enm, dIt_zip, dS_set, dS_unp, dS_par, dS_aug, dS_ret, dS_retN, dS_ite, dS_fo, dS_pass, dS_rai, dS_exp, dS_tr, dSs_nil, dSs_cons, go_nx, go_rt, go_exc, fl_ok, fl_exc, bind_ok, bind_exc, of_some, calm_ok, flof_some, look_0, look_s, lookB_im, lookB_ow, lookB_s, frzL_nil, frzL_cons, frz1_im, frz1_un, frz1_ow, frz1_s, tg_nm, tg_tp, tg_tpl, tgs_nil, tgs_cons, obind, set_0, set_s, lp_nx, lp_ct, lp_bk, lp_rt, lp_exc, out_rt, out_nx, out_exc, ownList, isFr, Bool.and_true, Bool.and_false, Bool.true_and, Bool.false_and, Bool.not_true, Bool.not_false, truD, if_true, if_false, Bool.false_eq_true, ↓reduceIte, startE_nil, startE_cons, reduceCtorEq, decide_true, decide_false, tyD, sl_2, sl_7, sub1, hx, hy]
        rw [s5, go_nx, dSs_cons, s6, go_nx, dSs_cons]
        clear s5 s6 k10
        by_cases c21 : 21 < K
        · obtain ⟨z, hz, ez, cz⟩ := gA (L.drop 4) (pos_drop hL 4) (by rw [List.length_drop]; omega)
          have s7 : dS (run t (m + k + 2)) (subL t.sub) (exprS7 iL iE iA) [.im (.lst (L.map .int)), .im (.int ((m + 1 : Nat) : Int)), .im (.tup (ws.map wT)), .im (.int (w : Nat)), .im (.int (K : Nat)), .im (.int (a1 : Nat)), .un, .im x, .im y] = .rt (.tup [.str "pick", z, x, y]) := by
            simp only [exprS7, dE_cst, dE_glb, dE_var, dE_bin, dE_neg, dE_cmp, dE_chn, dE_and, dE_or, dE_not, dE_ite, dE_tup, dE_lst, dE_call, dE_blt, dE_mkb, dE_isi, dE_ix, dE_sl, dE_rev, dE_comp, dE_gget, dE_gix, dE_dget1, dE_dget, dE_dis, asDic, dT_cst, dT_var, dT_bin, dT_cmp, dT_chn, dT_call, dT_blt, dT_isi, dT_ix, dT_ite, dT_and, dT_or, dT_not, dO_own, dO_ev, dBd_no, dBd_to, dBs_nil, dBs_cons, dEs_nil, dEs_cons, dIt_seq, dIt_rng1, dIt_rng2, dIt_enm, dIt_zip, dS_set, dS_unp, dS_par, dS_aug, dS_ret, dS_retN, dS_ite, dS_fo, dS_pass, dS_rai, dS_exp, dS_tr, dSs_nil, dSs_cons, go_nx, go_rt, go_exc, fl_ok, fl_exc, bind_ok, bind_exc, of_some, calm_ok, flof_some, look_0, look_s, lookB_im, lookB_ow, lookB_s, frzL_nil, frzL_cons, frz1_im, frz1_un, frz1_ow, frz1_s, tg_nm, tg_tp, tg_tpl, tgs_nil, tgs_cons, obind, set_0, set_s, lp_nx, lp_ct, lp_bk, lp_rt, lp_exc, out_rt, out_nx, out_exc, ownList, isFr, Bool.and_true, Bool.and_false, Bool.true_and, Bool.false_and, Bool.not_true, Bool.not_false, truD, if_true, if_false, Bool.false_eq_true, ↓reduceIte, startE_nil, startE_cons, reduceCtorEq, decide_true, decide_false, tyD, k21, decide_eq_true c21, sl_4, sub1, hz, List.length_cons, List.length_nil, l4]
          refine ⟨_, by rw [s7, go_rt, out_rt], .pick ez ex ey, ?_⟩
          have := cnt_kids (n := m + 2) (s := "pick") (pre := []) (kids := [z, x, y]) (.plain _ _ (by simp [plainKinds]))
          have this : cnt (m + 1 + 2) (.tup [.str "pick", z, x, y]) = 1 + (cnt (m + 2) z + (cnt (m + 2) x + (cnt (m + 2) y + 0))) := this
          omega
        have s7 : dS (run t (m + k + 2)) (subL t.sub) (exprS7 iL iE iA) [.im (.lst (L.map .int)), .im (.int ((m + 1 : Nat) : Int)), .im (.tup (ws.map wT)), .im (.int (w : Nat)), .im (.int (K : Nat)), .im (.int (a1 : Nat)), .un, .im x, .im y] = .nx [.im (.lst (L.map .int)), .im (.int ((m + 1 : Nat) : Int)), .im (.tup (ws.map wT)), .im (.int (w : Nat)), .im (.int (K : Nat)), .im (.int (a1 : Nat)), .un, .im x, .im y] := by
          simp only [exprS7, dE_cst, dE_glb, dE_var, dE_bin, dE_neg, dE_cmp, dE_chn, dE_and, dE_or, dE_not, dE_ite, dE_tup, dE_lst, dE_call, dE_blt, dE_mkb, dE_isi, dE_ix, dE_sl, dE_rev, dE_comp, dE_gget, dE_gix, dE_dget1, dE_dget, dE_dis, asDic, dT_cst, dT_var, dT_bin, dT_cmp, dT_chn, dT_call, dT_blt, dT_isi, dT_ix, dT_ite, dT_and, dT_or, dT_not, dO_own, dO_ev, dBd_no, dBd_to, dBs_nil, dBs_cons, dEs_nil, dEs_cons, dIt_seq, dIt_rng1, dIt_rng2, dIt_enm, dIt_zip, dS_set, dS_unp, dS_par, dS_aug, dS_ret, dS_retN, dS_ite, dS_fo, dS_pass, dS_rai, dS_exp, dS_tr, dSs_nil, dSs_cons, go_nx, go_rt, go_exc, fl_ok, fl_exc, bind_ok, bind_exc, of_some, calm_ok, flof_some, look_0, look_s, lookB_im, lookB_ow, lookB_s, frzL_nil, frzL_cons, frz1_im, frz1_un, frz1_ow, frz1_s, tg_nm, tg_tp, tg_tpl, tgs_nil, tgs_cons, obind, set_0, set_s, lp_nx, lp_ct, lp_bk, lp_rt, lp_exc, out_rt, out_nx, out_exc, ownList, isFr, Bool.and_true, Bool.and_false, Bool.true_and, Bool.false_and, Bool.not_true, Bool.not_false, truD, if_true, if_false, Bool.false_eq_true, ↓reduceIte, startE_nil, startE_cons, reduceCtorEq, decide_true, decide_false, tyD, k21, decide_eq_false c21]
        have s10 : binD .sub (.int (K : Nat)) (.int 10) = some (.int ((K - 10 : Nat) : Int)) := subN (b := 10) (by omega)
        have hz : K - 10 < twoK.length := by show K - 10 < 12; omega
        have iz := ix_strs hz
        have iz : ixD (.lst [.str "and", .str "or", .str "xor", .str "add", .str "sub", .str "mul", .str "div", .str "rem", .str "shl", .str "shr", .str "sar", .str "add"]) (.int ((K - 10 : Nat) : Int)) = some (.str twoK[K - 10]) := iz
        have kz : twoK[K - 10] ∈ twoK := List.getElem_mem hz
        generalize twoK[K - 10] = s at iz kz
        have s8 : dS (run t (m + k + 2)) (subL t.sub) (exprS8 iL iE iA) [.im (.lst (L.map .int)), .im (.int ((m + 1 : Nat) : Int)), .im (.tup (ws.map wT)), .im (.int (w : Nat)), .im (.int (K : Nat)), .im (.int (a1 : Nat)), .un, .im x, .im y] = .rt (.tup [.str s, x, y]) := by
          simp only [exprS8, dE_cst, dE_glb, dE_var, dE_bin, dE_neg, dE_cmp, dE_chn, dE_and, dE_or, dE_not, dE_ite, dE_tup, dE_lst, dE_call, dE_blt, dE_mkb, dE_isi, dE_ix, dE_sl, dE_rev, dE_comp, dE_gget, dE_gix, dE_dget1, dE_dget, dE_dis, asDic, dT_cst, dT_var, dT_bin, dT_cmp, dT_chn, dT_call, dT_blt, dT_isi, dT_ix, dT_ite, dT_and, dT_or, dT_not, dO_own, dO_ev, dBd_no, dBd_to, dBs_nil, dBs_cons, dEs_nil, dEs_cons, dIt_seq, dIt_rng1, dIt_rng2, dIt_enm, dIt_zip, dS_set, dS_unp, dS_par, dS_aug, dS_ret, dS_retN, dS_ite, dS_fo, dS_pass, dS_rai, dS_exp, dS_tr, dSs_nil, dSs_cons, go_nx, go_rt, go_exc, fl_ok, fl_exc, bind_ok, bind_exc, of_some, calm_ok, flof_some, look_0, look_s, lookB_im, lookB_ow, lookB_s, frzL_nil, frzL_cons, frz1_im, frz1_un, frz1_ow, frz1_s, tg_nm, tg_tp, tg_tpl, tgs_nil, tgs_cons, obind, set_0, set_s, lp_nx, lp_ct, lp_bk, lp_rt, lp_exc, out_rt, out_nx, out_exc, ownList, isFr, Bool.and_true, Bool.and_false, Bool.true_and, Bool.false_and, Bool.not_true, Bool.not_false, truD, if_true, if_false, Bool.false_eq_true, ↓reduceIte, startE_nil, startE_cons, reduceCtorEq, decide_true, decide_false, tyD, s10, iz, List.length_cons, List.length_nil, l3, l12]
        refine ⟨_, by rw [s7, go_nx, dSs_cons, s8, go_rt, out_rt], .two kz ex ey, ?_⟩
        have := cnt_kids (n := m + 2) (s := s) (pre := []) (kids := [x, y]) (.plain _ _ (by
          simp only [twoK, List.mem_cons, List.not_mem_nil, or_false] at kz
          rcases kz with rfl | rfl | rfl | rfl | rfl | rfl | rfl | rfl | rfl | rfl | rfl | rfl <;> simp [plainKinds]))
        have this : cnt (m + 1 + 2) (.tup [.str s, x, y]) = 1 + (cnt (m + 2) x + (cnt (m + 2) y + 0)) := this
        omega
    · intro k L hL hl
      obtain ⟨a0, e0⟩ := getD_nat hL 0
      obtain ⟨a1, e1⟩ := getD_nat hL 1
      have i0 : ixD (.lst (L.map .int)) (.int 0) = some (.int (a0 : Nat)) := ixL (i := 0) (by omega) e0
      have i1 : ixD (.lst (L.map .int)) (.int 1) = some (.int (a1 : Nat)) := ixL (i := 1) (by omega) e1
      have m12 : binD .mod (.int (a0 : Nat)) (.int 12) = some (.int ((a0 % 12 : Nat) : Int)) := mod_nat (m := 12) (by omega)
      have lK : a0 % 12 < 12 := Nat.mod_lt _ (by omega)
      have s0 : dS (run t (n + k + 1)) (subL t.sub) (assS0 iE iA) [.im (.lst (L.map .int)), .im (.int (n : Nat)), .im (.tup (ws.map wT)), .un, .un, .un, .un] = .nx [.im (.lst (L.map .int)), .im (.int (n : Nat)), .im (.tup (ws.map wT)), .un, .im (.int ((a0 % 12 : Nat) : Int)), .im (.int (a1 : Nat)), .un] := by
        simp only [assS0, dE_cst, dE_glb, dE_var, dE_bin, dE_neg, dE_cmp, dE_chn, dE_and, dE_or, dE_not, dE_ite, dE_tup, dE_lst, dE_call, dE_blt, dE_mkb, dE_isi, dE_ix, dE_sl, dE_rev, dE_comp, dE_gget, dE_gix, dE_dget1, dE_dget, dE_dis, asDic, dT_cst, dT_var, dT_bin, dT_cmp, dT_chn, dT_call, dT_blt, dT_isi, dT_ix, dT_ite, dT_and, dT_or, dT_not, dO_own, dO_ev, dBd_no, dBd_to, dBs_nil, dBs_cons, dEs_nil, dEs_cons, dIt_seq, dIt_rng1, dIt_rng2, dIt_enm, dIt_zip, dS_set, dS_unp, dS_par, dS_aug, dS_ret, dS_retN, dS_ite, dS_fo, dS_pass, dS_rai, dS_exp, dS_tr, dSs_nil, dSs_cons, go_nx, go_rt, go_exc, fl_ok, fl_exc, bind_ok, bind_exc, of_some, calm_ok, flof_some, look_0, look_s, lookB_im, lookB_ow, lookB_s, frzL_nil, frzL_cons, frz1_im, frz1_un, frz1_ow, frz1_s, tg_nm, tg_tp, tg_tpl, tgs_nil, tgs_cons, obind, set_0, set_s, lp_nx, lp_ct, lp_bk, lp_rt, lp_exc, out_rt, out_nx, out_exc, ownList, isFr, Bool.and_true, Bool.and_false, Bool.true_and, Bool.false_and, Bool.not_true, Bool.not_false, truD, if_true, if_false, Bool.false_eq_true, ↓reduceIte, startE_nil, startE_cons, reduceCtorEq, decide_true, decide_false, tyD, i0, i1, int_int, m12, dS_par]
      rw [show n + k + 2 = (n + k + 1) + 1 from rfl, G.ass, assB, dSs_cons, s0, go_nx, dSs_cons]
      clear s0 m12 e0 i0
      generalize a0 % 12 = K at lK
      have k8 : cmpD .gt (.int (K : Nat)) (.int 8) = some (decide (8 < K)) := gtN K 8
      have n1 : cmpD .gt (.int (n : Nat)) (.int 1) = some (decide (1 < n)) := gtN n 1
      by_cases c1 : 8 < K ∧ 1 < n
      · obtain ⟨m, rfl⟩ : ∃ m, n = m + 1 := ⟨n - 1, by omega⟩
        obtain ⟨iE', iA'⟩ := ih m rfl
        have gA := iA' k
        have sA : (cE (m + 1)).2 = 1 + 2 * (cE m).1 := rfl
        have le := cE_le m
        obtain ⟨x, hx, ex, cx⟩ := gA (L.drop 2) (pos_drop hL 2) (by rw [List.length_drop]; omega)
        obtain ⟨y, hy, ey, cy⟩ := gA (L.drop 9) (pos_drop hL 9) (by rw [List.length_drop]; omega)
        have k9 : cmpD .eq (.int (K : Nat)) (.int 9) = some (decide (K = 9)) := eqN K 9
        rw [show m + 1 + k + 1 = m + k + 2 from by omega]
        by_cases c9 : K = 9
        · have s1 : dS (run t (m + k + 2)) (subL t.sub) (assS1 iE iA) [.im (.lst (L.map .int)), .im (.int ((m + 1 : Nat) : Int)), .im (.tup (ws.map wT)), .un, .im (.int (K : Nat)), .im (.int (a1 : Nat)), .un] = .rt (.tup [.str "no", x]) := by
            simp only [assS1, dE_cst, dE_glb, dE_var, dE_bin, dE_neg, dE_cmp, dE_chn, dE_and, dE_or, dE_not, dE_ite, dE_tup, dE_lst, dE_call, dE_blt, dE_mkb, dE_isi, dE_ix, dE_sl, dE_rev, dE_comp, dE_gget, dE_gix, dE_dget1, dE_dget, dE_dis, asDic, dT_cst, dT_var, dT_bin, dT_cmp, dT_chn, dT_call, dT_blt, dT_isi, dT_ix, dT_ite, dT_and, dT_or, dT_not, dO_own, dO_ev, dBd_no, dBd_to, dBs_nil, dBs_cons, dEs_nil, dEs_cons, dIt_seq, dIt_rng1, dIt_rng2, dIt_enm, dIt_zip, dS_set, dS_unp, dS_par, dS_aug, dS_ret, dS_retN, dS_ite, dS_fo, dS_pass, dS_rai, dS_exp, dS_tr, dSs_nil, dSs_cons, go_nx, go_rt, go_exc, fl_ok, fl_exc, bind_ok, bind_exc, of_some, calm_ok, flof_some, look_0, look_s, lookB_im, lookB_ow, lookB_s, frzL_nil, frzL_cons, frz1_im, frz1_un, frz1_ow, frz1_s, tg_nm, tg_tp, tg_tpl, tgs_nil, tgs_cons, obind, set_0, set_s, lp_nx, lp_ct, lp_bk, lp_rt, lp_exc, out_rt, out_nx, out_exc, ownList, isFr, Bool.and_true, Bool.and_false, Bool.true_and, Bool.false_and, Bool.not_true, Bool.not_false, truD, if_true, if_false, Bool.false_eq_true, ↓reduceIte, startE_nil, startE_cons, reduceCtorEq, decide_true, decide_false, tyD, k8, n1, decide_eq_true c1.1, decide_eq_true c1.2, k9, decide_eq_true c9, sl_2, sub1, hx, List.length_cons, List.length_nil, l2]
          refine ⟨_, by rw [s1, go_rt, out_rt], .no ex, ?_⟩
          have := cnt_kids (n := m + 2) (s := "no") (pre := []) (kids := [x]) (.plain _ _ (by simp [plainKinds]))
          have this : cnt (m + 1 + 2) (.tup [.str "no", x]) = 1 + (cnt (m + 2) x + 0) := this
          omega
        · have s10 : binD .sub (.int (K : Nat)) (.int 10) = some (.int ((K - 10 : Nat) : Int)) := subN (b := 10) (by omega)
          have hz : K - 10 < (["both", "either"] : List Str).length := by show K - 10 < 2; omega
          have iz := ix_strs hz
          have iz : ixD (.lst [.str "both", .str "either"]) (.int ((K - 10 : Nat) : Int)) = some (.str (["both", "either"] : List Str)[K - 10]) := iz
          have kz := two_of hz rfl
          generalize (["both", "either"] : List Str)[K - 10] = s at iz kz
          have s1 : dS (run t (m + k + 2)) (subL t.sub) (assS1 iE iA) [.im (.lst (L.map .int)), .im (.int ((m + 1 : Nat) : Int)), .im (.tup (ws.map wT)), .un, .im (.int (K : Nat)), .im (.int (a1 : Nat)), .un] = .rt (.tup [.str s, x, y]) := by
            simp only [assS1, dE_cst, dE_glb, dE_var, dE_bin, dE_neg, dE_cmp, dE_chn, dE_and, dE_or, dE_not, dE_ite, dE_tup, dE_lst, dE_call, dE_blt, dE_mkb, dE_isi, dE_ix, dE_sl, dE_rev, dE_comp, dE_gget, dE_gix, dE_dget1, dE_dget, dE_dis, asDic, dT_cst, dT_var, dT_bin, dT_cmp, dT_chn, dT_call, dT_blt, dT_isi, dT_ix, dT_ite, dT_and, dT_or, dT_not, dO_own, dO_ev, dBd_no, dBd_to, dBs_nil, dBs_cons, dEs_nil, dEs_cons, dIt_seq, dIt_rng1, dIt_rng2, dIt_enm, dIt_zip, dS_set, dS_unp, dS_par, dS_aug, dS_ret, dS_retN, dS_ite, dS_fo, dS_pass, dS_rai, dS_exp, dS_tr, dSs_nil, dSs_cons, go_nx, go_rt, go_exc, fl_ok, fl_exc, bind_ok, bind_exc, of_some, calm_ok, flof_some, look_0, look_s, lookB_im, lookB_ow, lookB_s, frzL_nil, frzL_cons, frz1_im, frz1_un, frz1_ow, frz1_s, tg_nm, tg_tp, tg_tpl, tgs_nil, tgs_cons, obind, set_0, set_s, lp_nx, lp_ct, lp_bk, lp_rt, lp_exc, out_rt, out_nx, out_exc, ownList, isFr, Bool.and_true, Bool.and_false, Bool.true_and, Bool.false_and, Bool.not_true, Bool.not_false, truD, if_true, if_false, Bool.false_eq_true, ↓reduceIte, startE_nil, startE_cons, reduceCtorEq, decide_true, decide_false, tyD, k8, n1, decide_eq_true c1.1, decide_eq_true c1.2, k9, decide_eq_false c9, s10, iz, sl_2, sl_9, sub1, hx, hy, List.length_cons, List.length_nil, l2, l3]
          refine ⟨_, by rw [s1, go_rt, out_rt], .join kz ex ey, ?_⟩
          have := cnt_kids (n := m + 2) (s := s) (pre := []) (kids := [x, y]) (.plain _ _ (by rcases kz with rfl | rfl <;> simp [plainKinds]))
          have this : cnt (m + 1 + 2) (.tup [.str s, x, y]) = 1 + (cnt (m + 2) x + (cnt (m + 2) y + 0)) := this
          omega
      · have s1 : dS (run t (n + k + 1)) (subL t.sub) (assS1 iE iA) [.im (.lst (L.map .int)), .im (.int (n : Nat)), .im (.tup (ws.map wT)), .un, .im (.int (K : Nat)), .im (.int (a1 : Nat)), .un] = .nx [.im (.lst (L.map .int)), .im (.int (n : Nat)), .im (.tup (ws.map wT)), .un, .im (.int (K : Nat)), .im (.int (a1 : Nat)), .un] := by
          by_cases c : 8 < K
          · simp only [assS1, dE_cst, dE_glb, dE_var, dE_bin, dE_neg, dE_cmp, dE_chn, dE_and, dE_or, dE_not, dE_ite, dE_tup, dE_lst, dE_call, dE_blt, dE_mkb, dE_isi, dE_ix, dE_sl, dE_rev, dE_comp, dE_gget, dE_gix, dE_dget1, dE_dget, dE_dis, asDic, dT_cst, dT_var, dT_bin, dT_cmp, dT_chn, dT_call, dT_blt, dT_isi, dT_ix, dT_ite, dT_and, dT_or, dT_not, dO_own, dO_ev, dBd_no, dBd_to, dBs_nil, dBs_cons, dEs_nil, dEs_cons, dIt_seq, dIt_rng1, dIt_rng2, dIt_enm, dIt_zip, dS_set, dS_unp, dS_par, dS_aug, dS_ret, dS_retN, dS_ite, dS_fo, dS_pass, dS_rai, dS_exp, dS_tr, dSs_nil, dSs_cons, go_nx, go_rt, go_exc, fl_ok, fl_exc, bind_ok, bind_exc, of_some, calm_ok, flof_some, look_0, look_s, lookB_im, lookB_ow, lookB_s, frzL_nil, frzL_cons, frz1_im, frz1_un, frz1_ow, frz1_s, tg_nm, tg_tp, tg_tpl, tgs_nil, tgs_cons, obind, set_0, set_s, lp_nx, lp_ct, lp_bk, lp_rt, lp_exc, out_rt, out_nx, out_exc, ownList, isFr, Bool.and_true, Bool.and_false, Bool.true_and, Bool.false_and, Bool.not_true, Bool.not_false, truD, if_true, if_false, Bool.false_eq_true, ↓reduceIte, startE_nil, startE_cons, reduceCtorEq, decide_true, decide_false, tyD, k8, n1, decide_eq_true c, decide_eq_false (show ¬ 1 < n from fun z => c1 ⟨c, z⟩)]
          · simp only [assS1, dE_cst, dE_glb, dE_var, dE_bin, dE_neg, dE_cmp, dE_chn, dE_and, dE_or, dE_not, dE_ite, dE_tup, dE_lst, dE_call, dE_blt, dE_mkb, dE_isi, dE_ix, dE_sl, dE_rev, dE_comp, dE_gget, dE_gix, dE_dget1, dE_dget, dE_dis, asDic, dT_cst, dT_var, dT_bin, dT_cmp, dT_chn, dT_call, dT_blt, dT_isi, dT_ix, dT_ite, dT_and, dT_or, dT_not, dO_own, dO_ev, dBd_no, dBd_to, dBs_nil, dBs_cons, dEs_nil, dEs_cons, dIt_seq, dIt_rng1, dIt_rng2, dIt_enm, dIt_zip, dS_set, dS_unp, dS_par, dS_aug, dS_ret, dS_retN, dS_ite, dS_fo, dS_pass, dS_rai, dS_exp, dS_tr, dSs_nil, dSs_cons, go_nx, go_rt, go_exc, fl_ok, fl_exc, bind_ok, bind_exc, of_some, calm_ok, flof_some, look_0, look_s, lookB_im, lookB_ow, lookB_s, frzL_nil, frzL_cons, frz1_im, frz1_un, frz1_ow, frz1_s, tg_nm, tg_tp, tg_tpl, tgs_nil, tgs_cons, obind, set_0, set_s, lp_nx, lp_ct, lp_bk, lp_rt, lp_exc, out_rt, out_nx, out_exc, ownList, isFr, Bool.and_true, Bool.and_false, Bool.true_and, Bool.false_and, Bool.not_true, Bool.not_false, truD, if_true, if_false, Bool.false_eq_true, ↓reduceIte, startE_nil, startE_cons, reduceCtorEq, decide_true, decide_false, tyD, k8, decide_eq_false c]
        rw [s1, go_nx, dSs_cons]
        clear s1 c1 k8 n1
        have q0 : cmpD .eq (.int (n : Nat)) (.int 0) = some (decide (n = 0)) := eqN n 0
        have q8 : cmpD .eq (.int (K : Nat)) (.int 8) = some (decide (K = 8)) := eqN K 8
        have m4 : binD .mod (.int (a1 : Nat)) (.int 4) = some (.int ((a1 % 4 : Nat) : Int)) := mod_nat (m := 4) (by omega)
        have q4 : cmpD .eq (.int ((a1 % 4 : Nat) : Int)) (.int 0) = some (decide (a1 % 4 = 0)) := eqN _ 0
        by_cases c2 : n = 0 ∨ (K = 8 ∧ a1 % 4 = 0)
        · have s2 : dS (run t (n + k + 1)) (subL t.sub) (assS2 iE iA) [.im (.lst (L.map .int)), .im (.int (n : Nat)), .im (.tup (ws.map wT)), .un, .im (.int (K : Nat)), .im (.int (a1 : Nat)), .un] = .rt (.tup [.str "true"]) := by
            by_cases c : n = 0
            · simp only [assS2, dE_cst, dE_glb, dE_var, dE_bin, dE_neg, dE_cmp, dE_chn, dE_and, dE_or, dE_not, dE_ite, dE_tup, dE_lst, dE_call, dE_blt, dE_mkb, dE_isi, dE_ix, dE_sl, dE_rev, dE_comp, dE_gget, dE_gix, dE_dget1, dE_dget, dE_dis, asDic, dT_cst, dT_var, dT_bin, dT_cmp, dT_chn, dT_call, dT_blt, dT_isi, dT_ix, dT_ite, dT_and, dT_or, dT_not, dO_own, dO_ev, dBd_no, dBd_to, dBs_nil, dBs_cons, dEs_nil, dEs_cons, dIt_seq, dIt_rng1, dIt_rng2, dIt_enm, dIt_zip, dS_set, dS_unp, dS_par, dS_aug, dS_ret, dS_retN, dS_ite, dS_fo, dS_pass, dS_rai, dS_exp, dS_tr, dSs_nil, dSs_cons, go_nx, go_rt, go_exc, fl_ok, fl_exc, bind_ok, bind_exc, of_some, calm_ok, flof_some, look_0, look_s, lookB_im, lookB_ow, lookB_s, frzL_nil, frzL_cons, frz1_im, frz1_un, frz1_ow, frz1_s, tg_nm, tg_tp, tg_tpl, tgs_nil, tgs_cons, obind, set_0, set_s, lp_nx, lp_ct, lp_bk, lp_rt, lp_exc, out_rt, out_nx, out_exc, ownList, isFr, Bool.and_true, Bool.and_false, Bool.true_and, Bool.false_and, Bool.not_true, Bool.not_false, truD, if_true, if_false, Bool.false_eq_true, ↓reduceIte, startE_nil, startE_cons, reduceCtorEq, decide_true, decide_false, tyD, q0, decide_eq_true c, List.length_cons, List.length_nil, l1]
            · have c3 := c2.resolve_left c
              simp only [assS2, dE_cst, dE_glb, dE_var, dE_bin, dE_neg, dE_cmp, dE_chn, dE_and, dE_or, dE_not, dE_ite, dE_tup, dE_lst, dE_call, dE_blt, dE_mkb, dE_isi, dE_ix, dE_sl, dE_rev, dE_comp, dE_gget, dE_gix, dE_dget1, dE_dget, dE_dis, asDic, dT_cst, dT_var, dT_bin, dT_cmp, dT_chn, dT_call, dT_blt, dT_isi, dT_ix, dT_ite, dT_and, dT_or, dT_not, dO_own, dO_ev, dBd_no, dBd_to, dBs_nil, dBs_cons, dEs_nil, dEs_cons, dIt_seq, dIt_rng1, dIt_rng2, dIt_enm, dIt_zip, dS_set, dS_unp, dS_par, dS_aug, dS_ret, dS_retN, dS_ite, dS_fo, dS_pass, dS_rai, dS_exp, dS_tr, dSs_nil, dSs_cons, go_nx, go_rt, go_exc, fl_ok, fl_exc, bind_ok, bind_exc, of_some, calm_ok, flof_some, look_0, look_s, lookB_im, lookB_ow, lookB_s, frzL_nil, frzL_cons, frz1_im, frz1_un, frz1_ow, frz1_s, tg_nm, tg_tp, tg_tpl, tgs_nil, tgs_cons, obind, set_0, set_s, lp_nx, lp_ct, lp_bk, lp_rt, lp_exc, out_rt, out_nx, out_exc, ownList, isFr, Bool.and_true, Bool.and_false, Bool.true_and, Bool.false_and, Bool.not_true, Bool.not_false, truD, if_true, if_false, Bool.false_eq_true, ↓reduceIte, startE_nil, startE_cons, reduceCtorEq, decide_true, decide_false, tyD, q0, decide_eq_false c, q8, decide_eq_true c3.1, m4, q4, decide_eq_true c3.2, List.length_cons, List.length_nil, l1]
          refine ⟨_, by rw [s2, go_rt, out_rt], .true, ?_⟩
          have := cnt_kids (n := n + 1) (s := "true") (pre := []) (kids := []) (.plain _ _ (by simp [plainKinds]))
          have this : cnt (n + 2) (.tup [.str "true"]) = 1 := this
          rw [this]
          cases n with
          | zero => exact Nat.le_refl _
          | succ m => show 1 ≤ 1 + 2 * (cE m).1; omega
        · have c3 : ¬ n = 0 := fun z => c2 (.inl z)
          obtain ⟨m, rfl⟩ : ∃ m, n = m + 1 := ⟨n - 1, by omega⟩
          obtain ⟨iE', iA'⟩ := ih m rfl
          have gE := iE' k
          have sA : (cE (m + 1)).2 = 1 + 2 * (cE m).1 := rfl
          have s2 : dS (run t (m + 1 + k + 1)) (subL t.sub) (assS2 iE iA) [.im (.lst (L.map .int)), .im (.int ((m + 1 : Nat) : Int)), .im (.tup (ws.map wT)), .un, .im (.int (K : Nat)), .im (.int (a1 : Nat)), .un] = .nx [.im (.lst (L.map .int)), .im (.int ((m + 1 : Nat) : Int)), .im (.tup (ws.map wT)), .un, .im (.int (K : Nat)), .im (.int (a1 : Nat)), .un] := by
            by_cases c : K = 8
            · simp only [assS2, dE_cst, dE_glb, dE_var, dE_bin, dE_neg, dE_cmp, dE_chn, dE_and, dE_or, dE_not, dE_ite, dE_tup, dE_lst, dE_call, dE_blt, dE_mkb, dE_isi, dE_ix, dE_sl, dE_rev, dE_comp, dE_gget, dE_gix, dE_dget1, dE_dget, dE_dis, asDic, dT_cst, dT_var, dT_bin, dT_cmp, dT_chn, dT_call, dT_blt, dT_isi, dT_ix, dT_ite, dT_and, dT_or, dT_not, dO_own, dO_ev, dBd_no, dBd_to, dBs_nil, dBs_cons, dEs_nil, dEs_cons, dIt_seq, dIt_rng1, dIt_rng2, dIt_enm, dIt_zip, dS_set, dS_unp, dS_par, dS_aug, dS_ret, dS_retN, dS_ite, dS_fo, dS_pass, dS_rai, dS_exp, dS_tr, dSs_nil, dSs_cons, go_nx, go_rt, go_exc, fl_ok, fl_exc, bind_ok, bind_exc, of_some, calm_ok, flof_some, look_0, look_s, lookB_im, lookB_ow, lookB_s, frzL_nil, frzL_cons, frz1_im, frz1_un, frz1_ow, frz1_s, tg_nm, tg_tp, tg_tpl, tgs_nil, tgs_cons, obind, set_0, set_s, lp_nx, lp_ct, lp_bk, lp_rt, lp_exc, out_rt, out_nx, out_exc, ownList, isFr, Bool.and_true, Bool.and_false, Bool.true_and, Bool.false_and, Bool.not_true, Bool.not_false, truD, if_true, if_false, Bool.false_eq_true, ↓reduceIte, startE_nil, startE_cons, reduceCtorEq, decide_true, decide_false, tyD, q0, decide_eq_false c3, q8, decide_eq_true c, m4, q4, decide_eq_false (show ¬ a1 % 4 = 0 from fun z => c2 (.inr ⟨c, z⟩))]
            · simp only [assS2, dE_cst, dE_glb, dE_var, dE_bin, dE_neg, dE_cmp, dE_chn, dE_and, dE_or, dE_not, dE_ite, dE_tup, dE_lst, dE_call, dE_blt, dE_mkb, dE_isi, dE_ix, dE_sl, dE_rev, dE_comp, dE_gget, dE_gix, dE_dget1, dE_dget, dE_dis, asDic, dT_cst, dT_var, dT_bin, dT_cmp, dT_chn, dT_call, dT_blt, dT_isi, dT_ix, dT_ite, dT_and, dT_or, dT_not, dO_own, dO_ev, dBd_no, dBd_to, dBs_nil, dBs_cons, dEs_nil, dEs_cons, dIt_seq, dIt_rng1, dIt_rng2, dIt_enm, dIt_zip, dS_set, dS_unp, dS_par, dS_aug, dS_ret, dS_retN, dS_ite, dS_fo, dS_pass, dS_rai, dS_exp, dS_tr, dSs_nil, dSs_cons, go_nx, go_rt, go_exc, fl_ok, fl_exc, bind_ok, bind_exc, of_some, calm_ok, flof_some, look_0, look_s, lookB_im, lookB_ow, lookB_s, frzL_nil, frzL_cons, frz1_im, frz1_un, frz1_ow, frz1_s, tg_nm, tg_tp, tg_tpl, tgs_nil, tgs_cons, obind, set_0, set_s, lp_nx, lp_ct, lp_bk, lp_rt, lp_exc, out_rt, out_nx, out_exc, ownList, isFr, Bool.and_true, Bool.and_false, Bool.true_and, Bool.false_and, Bool.not_true, Bool.not_false, truD, if_true, if_false, Bool.false_eq_true, ↓reduceIte, startE_nil, startE_cons, reduceCtorEq, decide_true, decide_false, tyD, q0, decide_eq_false c3, q8, decide_eq_false c]
          rw [s2, go_nx, dSs_cons]
          rw [show m + 1 + k + 1 = m + k + 2 from by omega]
          clear s2 c2 q0 q8 m4 q4
          have hr : a1 % ws.length < ws.length := Nat.mod_lt _ W.ne
          have ixw := ix_ws hr
          have hm : ws[a1 % ws.length] ∈ ws := List.getElem_mem hr
          obtain ⟨⟨x, own⟩, hp⟩ : ∃ p, ws[a1 % ws.length] = p := ⟨_, rfl⟩
          rw [hp] at ixw hm
          obtain ⟨_, o1, o7⟩ := W.nm _ hm
          have o1 : 1 ≤ own := o1
          have o7 : own ≤ 7 := o7
          have iw : ixD (wT (x, own)) (.int 1) = some (.int (own : Nat)) := by kernel_rfl
          have m5 : binD .mod (.int (a1 : Nat)) (.int 5) = some (.int ((a1 % 5 : Nat) : Int)) := mod_nat (m := 5) (by omega)
          have l5 : a1 % 5 < 5 := Nat.mod_lt _ (by omega)
          have ad : binD .add (.int 1) (.int ((a1 % 5 : Nat) : Int)) = some (.int ((1 + a1 % 5 : Nat) : Int)) := addN 1 _
          have d16 : binD .div (.int (a1 : Nat)) (.int 16) = some (.int ((a1 / 16 : Nat) : Int)) := divN (m := 16) (by omega) (by omega)
          have m2 : binD .mod (.int ((a1 / 16 : Nat) : Int)) (.int 2) = some (.int ((a1 / 16 % 2 : Nat) : Int)) := mod_nat (m := 2) (by omega)
          have lt2 : a1 / 16 % 2 < 2 := Nat.mod_lt _ (by omega)
          obtain ⟨w, h1, h2, iz⟩ : ∃ w : Nat, 1 ≤ w ∧ w ≤ 8 ∧ ixD (.lst [.int (own : Nat), .int ((1 + a1 % 5 : Nat) : Int)]) (.int ((a1 / 16 % 2 : Nat) : Int)) = some (.int (w : Nat)) := by
            have : a1 / 16 % 2 = 0 ∨ a1 / 16 % 2 = 1 := by omega
            rcases this with e | e
            · rw [e]; exact ⟨own, by omega, by omega, by kernel_rfl⟩
            · rw [e]; exact ⟨1 + a1 % 5, by omega, by omega, by kernel_rfl⟩
          have s3 : dS (run t (m + k + 2)) (subL t.sub) (assS3 iE iA) [.im (.lst (L.map .int)), .im (.int ((m + 1 : Nat) : Int)), .im (.tup (ws.map wT)), .un, .im (.int (K : Nat)), .im (.int (a1 : Nat)), .un] = .nx [.im (.lst (L.map .int)), .im (.int ((m + 1 : Nat) : Int)), .im (.tup (ws.map wT)), .im (.int (w : Nat)), .im (.int (K : Nat)), .im (.int (a1 : Nat)), .un] := by
            simp only [assS3, dE_cst, dE_glb, dE_var, dE_bin, dE_neg, dE_cmp, dE_chn, dE_and, dE_or, dE_not, dE_ite, dE_tup, dE_lst, dE_call, dE_blt, dE_mkb, dE_isi, dE_ix, dE_sl, dE_rev, dE_comp, dE_gget, dE_gix, dE_dget1, dE_dget, dE_dis, asDic, dT_cst, dT_var, dT_bin, dT_cmp, dT_chn, dT_call, dT_blt, dT_isi, dT_ix, dT_ite, dT_and, dT_or, dT_not, dO_own, dO_ev, dBd_no, dBd_to, dBs_nil, dBs_cons, dEs_nil, dEs_cons, dIt_seq, dIt_rng1, dIt_rng2, dIt_enm, dIt_zip, dS_set, dS_unp, dS_par, dS_aug, dS_ret, dS_retN, dS_ite, dS_fo, dS_pass, dS_rai, dS_exp, dS_tr, dSs_nil, dSs_cons, go_nx, go_rt, go_exc, fl_ok, fl_exc, bind_ok, bind_exc, of_some, calm_ok, flof_some, look_0, look_s, lookB_im, lookB_ow, lookB_s, frzL_nil, frzL_cons, frz1_im, frz1_un, frz1_ow, frz1_s, tg_nm, tg_tp, tg_tpl, tgs_nil, tgs_cons, obind, set_0, set_s, lp_nx, lp_ct, lp_bk, lp_rt, lp_exc, out_rt, out_nx, out_exc, ownList, isFr, Bool.and_true, Bool.and_false, Bool.true_and, Bool.false_and, Bool.not_true, Bool.not_false, truD, if_true, if_false, Bool.false_eq_true, ↓reduceIte, startE_nil, startE_cons, reduceCtorEq, decide_true, decide_false, tyD, len_ws, mod_nat W.ne, ixw, iw, m5, ad, d16, m2, iz, List.length_cons, List.length_nil, l2]
          obtain ⟨y, hy, ey, cy⟩ := gE (L.drop 2) w (pos_drop hL 2) (by rw [List.length_drop]; omega) h1 h2
          obtain ⟨z, hz', ez, cz⟩ := gE (L.drop 8) w (pos_drop hL 8) (by rw [List.length_drop]; omega) h1 h2
          have m3 : binD .mod (.int (K : Nat)) (.int 3) = some (.int ((K % 3 : Nat) : Int)) := mod_nat (m := 3) (by omega)
          have hz : K % 3 < (["same", "below", "less"] : List Str).length := Nat.mod_lt _ (by decide)
          have iz3 := ix_strs hz
          have iz3 : ixD (.lst [.str "same", .str "below", .str "less"]) (.int ((K % 3 : Nat) : Int)) = some (.str (["same", "below", "less"] : List Str)[K % 3]) := iz3
          have kz : (["same", "below", "less"] : List Str)[K % 3] = "same" ∨ (["same", "below", "less"] : List Str)[K % 3] = "below" ∨ (["same", "below", "less"] : List Str)[K % 3] = "less" := by
            rcases List.mem_cons.mp (List.getElem_mem hz) with e | e
            · exact .inl e
            · rcases List.mem_cons.mp e with e | e
              · exact .inr (.inl e)
              · exact .inr (.inr (List.mem_singleton.mp e))
          generalize (["same", "below", "less"] : List Str)[K % 3] = s at iz3 kz
          have s4 : dS (run t (m + k + 2)) (subL t.sub) (assS4 iE iA) [.im (.lst (L.map .int)), .im (.int ((m + 1 : Nat) : Int)), .im (.tup (ws.map wT)), .im (.int (w : Nat)), .im (.int (K : Nat)), .im (.int (a1 : Nat)), .un] = .rt (.tup [.str s, y, z]) := by
            simp only [assS4, dE_cst, dE_glb, dE_var, dE_bin, dE_neg, dE_cmp, dE_chn, dE_and, dE_or, dE_not, dE_ite, dE_tup, dE_lst, dE_call, dE_blt, dE_mkb, dE_isi, dE_ix, dE_sl, dE_rev, dE_comp, dE_gget, dE_gix, dE_dget1, dE_dget, dE_dis, asDic, dT_cst, dT_var, dT_bin, dT_cmp, dT_chn, dT_call, dT_blt, dT_isi, dT_ix, dT_ite, dT_and, dT_or, dT_not, dO_own, dO_ev, dBd_no, dBd_to, dBs_nil, dBs_cons, dEs_nil, dEs_cons, dIt_seq, dIt_rng1, dIt_rng2, dIt_enm, dIt_zip, dS_set, dS_unp, dS_par, dS_aug, dS_ret, dS_retN, dS_ite, dS_fo, dS_pass, dS_rai, dS_exp, dS_tr, dSs_nil, dSs_cons, go_nx, go_rt, go_exc, fl_ok, fl_exc, bind_ok, bind_exc, of_some, calm_ok, flof_some, look_0, look_s, lookB_im, lookB_ow, lookB_s, frzL_nil, frzL_cons, frz1_im, frz1_un, frz1_ow, frz1_s, tg_nm, tg_tp, tg_tpl, tgs_nil, tgs_cons, obind, set_0, set_s, lp_nx, lp_ct, lp_bk, lp_rt, lp_exc, out_rt, out_nx, out_exc, ownList, isFr, Bool.and_true, Bool.and_false, Bool.true_and, Bool.false_and, Bool.not_true, Bool.not_false, truD, if_true, if_false, Bool.false_eq_true, ↓reduceIte, startE_nil, startE_cons, reduceCtorEq, decide_true, decide_false, tyD, m3, iz3, sl_2, sl_8, sub1, hy, hz', List.length_cons, List.length_nil, l3]
          refine ⟨_, by rw [s3, go_nx, dSs_cons, s4, go_rt, out_rt], .look kz ey ez, ?_⟩
          have := cnt_kids (n := m + 2) (s := s) (pre := []) (kids := [y, z]) (.plain _ _ (by rcases kz with rfl | rfl | rfl <;> simp [plainKinds]))
          have this : cnt (m + 1 + 2) (.tup [.str s, y, z]) = 1 + (cnt (m + 2) y + (cnt (m + 2) z + 0)) := this
          omega
include G W in
theorem gen_ok : ∀ (n : Nat), (∀ k, GE' t iE ws n k) ∧ ∀ k, GA' t iA ws n k
  | 0 => gen_step G W 0 fun m e => by omega
  | n + 1 => gen_step G W (n + 1) fun m e => by
    have : n = m := by omega
    subst this
    exact gen_ok n
end
/-! the words -/
theorem words_ok {T : Nat → List D → R D} {sub} {L : List Int} (hL : Pos L) (hl : 4 ≤ L.length) : ∃ ws, Words ws ∧ dSs T sub wordsB [.im (.lst (L.map .int)), .un] = .rt (.tup (ws.map wT)) := by
  obtain ⟨a0, e0⟩ := getD_nat hL 0
  have i0 : ixD (.lst (L.map .int)) (.int 0) = some (.int (a0 : Nat)) := ixL (i := 0) (by omega) e0
  have m3 : binD .mod (.int (a0 : Nat)) (.int 3) = some (.int ((a0 % 3 : Nat) : Int)) := mod_nat (m := 3) (by omega)
  have l3 : a0 % 3 < 3 := Nat.mod_lt _ (by omega)
  generalize a0 % 3 = r at m3 l3
  have ad : binD .add (.int 1) (.int (r : Nat)) = some (.int ((1 + r : Nat) : Int)) := addN 1 r
  obtain ⟨M, hM, m0, m7⟩ : ∃ M : Nat, ixD (.lst [.int 7, .int 3, .int 2]) (.int (r : Nat)) = some (.int (M : Nat)) ∧ 0 < M ∧ M ≤ 7 := by
    have : r = 0 ∨ r = 1 ∨ r = 2 := by omega
    rcases this with rfl | rfl | rfl
    · exact ⟨7, by kernel_rfl, by omega, by omega⟩
    · exact ⟨3, by kernel_rfl, by omega, by omega⟩
    · exact ⟨2, by kernel_rfl, by omega, by omega⟩
  have nm : ∀ k : Nat, k < 3 → ∃ x : Str, (x = "x" ∨ x = "y" ∨ x = "z") ∧ ixD (.str "xyz") (.int (k : Nat)) = some (.str x) := fun k hk => by
    have : k = 0 ∨ k = 1 ∨ k = 2 := by omega
    rcases this with rfl | rfl | rfl
    · exact ⟨"x", .inl rfl, by kernel_rfl⟩
    · exact ⟨"y", .inr (.inl rfl), by kernel_rfl⟩
    · exact ⟨"z", .inr (.inr rfl), by kernel_rfl⟩
  have item : ∀ k : Nat, k < 1 + r → ∃ p : Str × Nat, ((p.1 = "x" ∨ p.1 = "y" ∨ p.1 = "z") ∧ 1 ≤ p.2 ∧ p.2 ≤ 7) ∧ dE T wordsC [.im (.lst (L.map .int)), .im (.int (k : Nat))] = .ok (wT p) := fun k hk => by
    obtain ⟨x, hx, ix⟩ := nm k (by omega)
    obtain ⟨a, e⟩ := getD_nat hL (1 + k)
    have i := ixL (i := 1 + k) (by omega) e
    have lt := Nat.mod_lt a m0
    refine ⟨(x, 1 + a % M), ⟨hx, by show 1 ≤ 1 + a % M; omega, by show 1 + a % M ≤ 7; omega⟩, ?_⟩
    have a1 : binD .add (.int 1) (.int (k : Nat)) = some (.int ((1 + k : Nat) : Int)) := addN 1 k
    have a2 : binD .add (.int 1) (.int ((a % M : Nat) : Int)) = some (.int ((1 + a % M : Nat) : Int)) := addN 1 _
    simp only [wordsC, dE_cst, dE_glb, dE_var, dE_bin, dE_neg, dE_cmp, dE_chn, dE_and, dE_or, dE_not, dE_ite, dE_tup, dE_lst, dE_call, dE_blt, dE_mkb, dE_isi, dE_ix, dE_sl, dE_rev, dE_comp, dE_gget, dE_gix, dE_dget1, dE_dget, dE_dis, asDic, dT_cst, dT_var, dT_bin, dT_cmp, dT_chn, dT_call, dT_blt, dT_isi, dT_ix, dT_ite, dT_and, dT_or, dT_not, dO_own, dO_ev, dBd_no, dBd_to, dBs_nil, dBs_cons, dEs_nil, dEs_cons, dIt_seq, dIt_rng1, dIt_rng2, dIt_enm, dIt_zip, dS_set, dS_unp, dS_par, dS_aug, dS_ret, dS_retN, dS_ite, dS_fo, dS_pass, dS_rai, dS_exp, dS_tr, dSs_nil, dSs_cons, go_nx, go_rt, go_exc, fl_ok, fl_exc, bind_ok, bind_exc, of_some, calm_ok, flof_some, look_0, look_s, lookB_im, lookB_ow, lookB_s, frzL_nil, frzL_cons, frz1_im, frz1_un, frz1_ow, frz1_s, tg_nm, tg_tp, tg_tpl, tgs_nil, tgs_cons, obind, set_0, set_s, lp_nx, lp_ct, lp_bk, lp_rt, lp_exc, out_rt, out_nx, out_exc, ownList, isFr, Bool.and_true, Bool.and_false, Bool.true_and, Bool.false_and, Bool.not_true, Bool.not_false, truD, if_true, if_false, Bool.false_eq_true, ↓reduceIte, startE_nil, startE_cons, reduceCtorEq, decide_true, decide_false, tyD, ix, a1, i, int_int, i0, m3, hM, mod_nat m0, a2, List.length_cons, List.length_nil, l2, Law.l3]
    rfl
  let g : Nat → Str × Nat := fun k => if h : k < 1 + r then (item k h).choose else ("x", 1)
  have hg : ∀ k (h : k < 1 + r), g k = (item k h).choose := fun k h => dif_pos h
  have c := comp_rng (T := T) (ρ := [.im (.lst (L.map .int)), .un]) (x := wordsC) (own := [1]) (t := .nm 1) (m := 1 + r) (fun k => wT (g k)) (it := .rng1 (.bin .add (.cst (.int 1)) (.bin .mod (.blt .int (.cons (.ev (.ix (.own 0) (.cst (.int 0)))) .nil)) (.cst (.int 3))))) (by
    simp only [dE_cst, dE_glb, dE_var, dE_bin, dE_neg, dE_cmp, dE_chn, dE_and, dE_or, dE_not, dE_ite, dE_tup, dE_lst, dE_call, dE_blt, dE_mkb, dE_isi, dE_ix, dE_sl, dE_rev, dE_comp, dE_gget, dE_gix, dE_dget1, dE_dget, dE_dis, asDic, dT_cst, dT_var, dT_bin, dT_cmp, dT_chn, dT_call, dT_blt, dT_isi, dT_ix, dT_ite, dT_and, dT_or, dT_not, dO_own, dO_ev, dBd_no, dBd_to, dBs_nil, dBs_cons, dEs_nil, dEs_cons, dIt_seq, dIt_rng1, dIt_rng2, dIt_enm, dIt_zip, dS_set, dS_unp, dS_par, dS_aug, dS_ret, dS_retN, dS_ite, dS_fo, dS_pass, dS_rai, dS_exp, dS_tr, dSs_nil, dSs_cons, go_nx, go_rt, go_exc, fl_ok, fl_exc, bind_ok, bind_exc, of_some, calm_ok, flof_some, look_0, look_s, lookB_im, lookB_ow, lookB_s, frzL_nil, frzL_cons, frz1_im, frz1_un, frz1_ow, frz1_s, tg_nm, tg_tp, tg_tpl, tgs_nil, tgs_cons, obind, set_0, set_s, lp_nx, lp_ct, lp_bk, lp_rt, lp_exc, out_rt, out_nx, out_exc, ownList, isFr, Bool.and_true, Bool.and_false, Bool.true_and, Bool.false_and, Bool.not_true, Bool.not_false, truD, if_true, if_false, Bool.false_eq_true, ↓reduceIte, startE_nil, startE_cons, reduceCtorEq, decide_true, decide_false, tyD, i0, int_int, m3, ad, inRng_nat (show 1 + r < 2 ^ 60 by omega), toNat_nat]) (by show 1 + r < 16777216; omega) fun k hk => ⟨_, rfl, by
      rw [hg k hk]
      exact (item k hk).choose_spec.2⟩
  refine ⟨(List.range (1 + r)).map g, ⟨by rw [List.length_map, List.length_range]; omega, by rw [List.length_map, List.length_range]; omega, fun p hp => ?_⟩, ?_⟩
  · obtain ⟨k, hk, rfl⟩ := List.mem_map.mp hp
    rw [hg k (List.mem_range.mp hk)]
    exact (item k (List.mem_range.mp hk)).choose_spec.1
  · rw [List.map_map]
    have tl : ∀ {xs : List D}, mkbD .tuple [.lst xs] = some (.tup xs) := nrfl rfl
    simp only [wordsB, dSs_cons, dS_ret, frzL_nil, dE_mkb, dEs_cons, dEs_nil, c, bind_ok, tl, of_some, fl_ok, go_rt]
    rfl
end Law

namespace Law
open PySem PySem.Spec PyProof.Rows L2 Z
/-! ### helpers -/
theorem comp_map {T : Nat → List D → R D} {ρ : Env'} {x : E} {own : List Nat} {t : Tg} {it : Z.It} {ds : List D} (f : D → D) (hit : dIt T it ρ = .ok ds) (hl : ds.length < lim) (h : ∀ d ∈ ds, ∃ ρ', dTg t d (wipeE ρ own) = some ρ' ∧ dE T x ρ' = .ok (f d)) :
    dE T (.comp x own t it (.cst (.bl true))) ρ = .ok (.lst (ds.map f)) := by
  rw [dE_comp, hit, bind_ok, if_pos hl, compL_map f ds fun d hd => by
    obtain ⟨ρ', h1, h2⟩ := h d hd
    exact ⟨ρ', h1, rfl, h2⟩]
  rfl
theorem comp_filter {T : Nat → List D → R D} {ρ : Env'} {x c : E} {own : List Nat} {t : Tg} {it : Z.It} {ds : List D} (p : D → Bool) (f : D → D) (hit : dIt T it ρ = .ok ds) (hl : ds.length < lim) (h : ∀ d ∈ ds, ∃ ρ', dTg t d (wipeE ρ own) = some ρ' ∧ dT T c ρ' = .ok (p d) ∧ (p d = true → dE T x ρ' = .ok (f d))) :
    dE T (.comp x own t it c) ρ = .ok (.lst ((ds.filter p).map f)) := by
  rw [dE_comp, hit, bind_ok, if_pos hl, compL_filter p f ds h]
  rfl
theorem ix0 {x : D} {r : List D} : ixD (.tup (x :: r)) (.int 0) = some x := by
  show atI (x :: r) ((0 : Nat) : Int) = _
  rw [Z.atI_nat (by simp)]
  rfl
theorem sum_ints (xs : List Nat) : bltD .sum [.lst (xs.map fun x : Nat => D.int (x : Nat))] = some (.int ((xs.sum : Nat) : Int)) := by
  show (intsOf (xs.map fun x : Nat => D.int (x : Nat))).map (fun ns => D.int ns.sum) = _
  have e : (xs.map fun x : Nat => D.int (x : Nat)) = (xs.map fun x : Nat => (x : Int)).map D.int := by rw [List.map_map]; rfl
  rw [e, intsOf_ints]
  show some (D.int (xs.map fun x : Nat => (x : Int)).sum) = _
  congr 2
  induction xs with
  | nil => rfl
  | cons x r ih => rw [List.map_cons, List.sum_cons, List.sum_cons, ih (by rw [List.map_map]; rfl)]; omega
theorem all_map {α : Type} (xs : List α) : bltD .all [.lst (xs.map fun _ => D.bl true)] = some (.bl true) := by
  show (blsOf (xs.map fun _ => D.bl true)).map (fun bs => D.bl (bs.all id)) = _
  have e : (xs.map fun _ => D.bl true) = (xs.map fun _ => true).map D.bl := by rw [List.map_map]; rfl
  rw [e, blsOf_bls]
  show some (D.bl ((xs.map fun _ => true).all id)) = _
  congr 2
  rw [List.all_eq_true]
  intro b hb
  obtain ⟨_, _, rfl⟩ := List.mem_map.mp hb
  rfl
theorem first_eq (s : Str) : (List.lookup s [(("word" : Str), D.int 3), ("var", .int 2), ("part", .int 3), ("zero", .int 2), ("sign", .int 2)]).getD (D.int 1) = .int (firstN s : Nat) := by
  unfold firstN
  simp only [List.lookup_cons, List.lookup_nil]
  have b : ∀ x : Str, (s == x) = decide (s = x) := fun x => by
    by_cases h : s = x
    · rw [decide_eq_true h]; exact beq_iff_eq.mpr h
    · rw [decide_eq_false h]; exact beq_eq_false_iff_ne.mpr h
  simp only [b]
  by_cases h1 : s = "word"
  · simp only [h1, decide_true, if_true]; rfl
  · simp only [h1, decide_false, if_false]
    by_cases h2 : s = "var"
    · simp only [h2, decide_true, if_true]; rfl
    · simp only [h2, decide_false, if_false]
      by_cases h3 : s = "part"
      · simp only [h3, decide_true, if_true]; rfl
      · simp only [h3, decide_false, if_false]
        by_cases h4 : s = "zero"
        · simp only [h4, decide_true, if_true]; rfl
        · simp only [h4, decide_false, if_false]
          by_cases h5 : s = "sign"
          · simp only [h5, decide_true, if_true]; rfl
          · simp only [h5, decide_false, if_false]; rfl
theorem slt_drop {xs : List D} {k : Nat} : slD (.tup xs) (some (k : Int)) none = some (.tup (xs.drop k)) := by
  show some (D.tup (Z.cutD _ _ _)) = _
  rw [cut_from]
theorem slt_take {xs : List D} {k : Nat} : slD (.tup xs) none (some (k : Int)) = some (.tup (xs.take k)) := by
  show some (D.tup (Z.cutD _ _ _)) = _
  rw [cut_to]
theorem kids_drop {s : Str} {pre kids : List D} {m : Nat} (h : Node s pre m) : (D.str s :: (pre ++ kids)).drop (firstN s) = kids := by
  rw [← h.pre.1, List.drop_succ_cons, List.drop_left]
/-! ### the defs about shapes -/
theorem run_inner (k : Nat) {s : Str} {pre kids : List D} {m : Nat} (h : Node s pre m) : run txt (k + 1) 3 [.tup (.str s :: (pre ++ kids))] = .ok (.tup kids) := by
  rw [run_s (d := d3) rfl rfl]
  show (dSs _ _ b3 [.im (.tup (.str s :: (pre ++ kids)))]).out = _
  simp only [b3, dE_cst, dE_glb, dE_var, dE_bin, dE_neg, dE_cmp, dE_chn, dE_and, dE_or, dE_not, dE_ite, dE_tup, dE_lst, dE_call, dE_blt, dE_mkb, dE_isi, dE_ix, dE_sl, dE_rev, dE_comp, dE_gget, dE_gix, dE_dget1, dE_dget, dE_dis, asDic, dT_cst, dT_var, dT_bin, dT_cmp, dT_chn, dT_call, dT_blt, dT_isi, dT_ix, dT_ite, dT_and, dT_or, dT_not, dO_own, dO_ev, dBd_no, dBd_to, dBs_nil, dBs_cons, dEs_nil, dEs_cons, dIt_seq, dIt_rng1, dIt_rng2, dIt_enm, dIt_zip, dS_set, dS_unp, dS_par, dS_aug, dS_ret, dS_retN, dS_ite, dS_fo, dS_pass, dS_rai, dS_exp, dS_tr, dSs_nil, dSs_cons, go_nx, go_rt, go_exc, fl_ok, fl_exc, bind_ok, bind_exc, of_some, calm_ok, flof_some, look_0, look_s, lookB_im, lookB_ow, lookB_s, frzL_nil, frzL_cons, frz1_im, frz1_un, frz1_ow, frz1_s, tg_nm, tg_tp, tg_tpl, tgs_nil, tgs_cons, obind, set_0, set_s, lp_nx, lp_ct, lp_bk, lp_rt, lp_exc, out_rt, out_nx, out_exc, ownList, isFr, Bool.and_true, Bool.and_false, Bool.true_and, Bool.false_and, Bool.not_true, Bool.not_false, binD, addD, augD, truD, if_true, if_false, Bool.false_eq_true, ↓reduceIte, startE_nil, startE_cons, reduceCtorEq, decide_true, decide_false, tyD, ix0, first_eq, slt_drop, kids_drop h]
theorem it_seq {T : Nat → List D → R D} {ρ : Env'} {e : E} {ds : List D} (h : dE T e ρ = .ok (.tup ds)) : dIt T (.seq e) ρ = .ok ds := by
  rw [dIt_seq, h]; rfl
theorem lim_kids {s : Str} {pre kids : List D} (h : Node s pre kids.length) : kids.length < lim := by
  have := h.pre.2
  show _ < 16777216
  omega
theorem run_count : ∀ (n k : Nat) (d : D), Sh n d → run txt (n + k + 1) 6 [d] = .ok (.int (cnt n d : Nat))
  | 0, _, _, h => h.elim
  | n + 1, k, d, h => by
    obtain ⟨s, pre, kids, rfl, h1, h2⟩ := h
    rw [show n + 1 + k + 1 = (n + k + 1) + 1 from by omega, run_s (d := d6) rfl rfl]
    show (dSs _ _ b6 [.im (.tup (.str s :: (pre ++ kids))), .un]).out = _
    have c := comp_map (T := run txt (n + k + 1)) (ρ := [.im (.tup (.str s :: (pre ++ kids))), .un]) (x := b6C0) (own := [1]) (t := .nm 1) (it := .seq (.call 3 (.cons (.var 0) .nil))) (ds := kids) (fun q => .int (cnt n q : Nat)) (it_seq (by simp only [dE_cst, dE_glb, dE_var, dE_bin, dE_neg, dE_cmp, dE_chn, dE_and, dE_or, dE_not, dE_ite, dE_tup, dE_lst, dE_call, dE_blt, dE_mkb, dE_isi, dE_ix, dE_sl, dE_rev, dE_comp, dE_gget, dE_gix, dE_dget1, dE_dget, dE_dis, asDic, dT_cst, dT_var, dT_bin, dT_cmp, dT_chn, dT_call, dT_blt, dT_isi, dT_ix, dT_ite, dT_and, dT_or, dT_not, dO_own, dO_ev, dBd_no, dBd_to, dBs_nil, dBs_cons, dEs_nil, dEs_cons, dIt_seq, dIt_rng1, dIt_rng2, dIt_enm, dIt_zip, dS_set, dS_unp, dS_par, dS_aug, dS_ret, dS_retN, dS_ite, dS_fo, dS_pass, dS_rai, dS_exp, dS_tr, dSs_nil, dSs_cons, go_nx, go_rt, go_exc, fl_ok, fl_exc, bind_ok, bind_exc, of_some, calm_ok, flof_some, look_0, look_s, lookB_im, lookB_ow, lookB_s, frzL_nil, frzL_cons, frz1_im, frz1_un, frz1_ow, frz1_s, tg_nm, tg_tp, tg_tpl, tgs_nil, tgs_cons, obind, set_0, set_s, lp_nx, lp_ct, lp_bk, lp_rt, lp_exc, out_rt, out_nx, out_exc, ownList, isFr, Bool.and_true, Bool.and_false, Bool.true_and, Bool.false_and, Bool.not_true, Bool.not_false, binD, addD, augD, truD, if_true, if_false, Bool.false_eq_true, ↓reduceIte, startE_nil, startE_cons, reduceCtorEq, decide_true, decide_false, tyD, run_inner (n + k) h1])) (lim_kids h1) fun q hq => ⟨_, rfl, by
      simp only [b6C0, dE_cst, dE_glb, dE_var, dE_bin, dE_neg, dE_cmp, dE_chn, dE_and, dE_or, dE_not, dE_ite, dE_tup, dE_lst, dE_call, dE_blt, dE_mkb, dE_isi, dE_ix, dE_sl, dE_rev, dE_comp, dE_gget, dE_gix, dE_dget1, dE_dget, dE_dis, asDic, dT_cst, dT_var, dT_bin, dT_cmp, dT_chn, dT_call, dT_blt, dT_isi, dT_ix, dT_ite, dT_and, dT_or, dT_not, dO_own, dO_ev, dBd_no, dBd_to, dBs_nil, dBs_cons, dEs_nil, dEs_cons, dIt_seq, dIt_rng1, dIt_rng2, dIt_enm, dIt_zip, dS_set, dS_unp, dS_par, dS_aug, dS_ret, dS_retN, dS_ite, dS_fo, dS_pass, dS_rai, dS_exp, dS_tr, dSs_nil, dSs_cons, go_nx, go_rt, go_exc, fl_ok, fl_exc, bind_ok, bind_exc, of_some, calm_ok, flof_some, look_0, look_s, lookB_im, lookB_ow, lookB_s, frzL_nil, frzL_cons, frz1_im, frz1_un, frz1_ow, frz1_s, tg_nm, tg_tp, tg_tpl, tgs_nil, tgs_cons, obind, set_0, set_s, lp_nx, lp_ct, lp_bk, lp_rt, lp_exc, out_rt, out_nx, out_exc, ownList, isFr, Bool.and_true, Bool.and_false, Bool.true_and, Bool.false_and, Bool.not_true, Bool.not_false, binD, addD, augD, truD, if_true, if_false, Bool.false_eq_true, ↓reduceIte, startE_nil, startE_cons, reduceCtorEq, decide_true, decide_false, tyD, wipeE, List.set_cons_zero, List.set_cons_succ, run_count n k q (h2 q hq)]⟩
    have e : (kids.map fun q => D.int (cnt n q : Nat)) = (kids.map (cnt n)).map fun x : Nat => D.int (x : Nat) := by rw [List.map_map]; rfl
    have u : cnt (n + 1) (.tup (.str s :: (pre ++ kids))) = 1 + (kids.map (cnt n)).sum := by
      show 1 + ((kidsOf _).map (cnt n)).sum = _
      rw [kids_eq h1]
    rw [u]
    simp only [b6, dSs_cons, dS_ret, frzL_nil, dE_bin, dE_cst, dE_blt, dBs_cons, dBs_nil, dO_ev, bind_ok, c, e, sum_ints, of_some, binD, addD, fl_ok, go_rt, out_rt]
    congr 2
end Law
namespace Law
open PySem PySem.Spec PyProof.Rows L2 Z
theorem shl1 {w : Nat} (h : w ≤ 1000) : binD .shl (.int 1) (.int (w : Nat)) = some (.int ((2 ^ w : Nat) : Int)) := by
  show (if (0 : Int) ≤ (w : Int) ∧ (w : Int) ≤ 1000000 ∧ Int.natAbs 1 < 2 ^ 64 then some (D.int (1 * 2 ^ (w : Int).toNat)) else none) = _
  rw [if_pos ⟨by omega, by omega, by decide⟩, toNat_nat, Int.one_mul]
  congr 2
theorem run_power (n w : Nat) (h : w ≤ 1000) : run txt (n + 1) 1 [.int (w : Nat)] = .ok (.int ((2 ^ w : Nat) : Int)) := by
  rw [run_s (d := d1) rfl rfl]
  show (dSs _ _ b1 [.im (.int (w : Nat))]).out = _
  simp only [b1, dE_cst, dE_glb, dE_var, dE_bin, dE_neg, dE_cmp, dE_chn, dE_and, dE_or, dE_not, dE_ite, dE_tup, dE_lst, dE_call, dE_blt, dE_mkb, dE_isi, dE_ix, dE_sl, dE_rev, dE_comp, dE_gget, dE_gix, dE_dget1, dE_dget, dE_dis, asDic, dT_cst, dT_var, dT_bin, dT_cmp, dT_chn, dT_call, dT_blt, dT_isi, dT_ix, dT_ite, dT_and, dT_or, dT_not, dO_own, dO_ev, dBd_no, dBd_to, dBs_nil, dBs_cons, dEs_nil, dEs_cons, dIt_seq, dIt_rng1, dIt_rng2, dIt_enm, dIt_zip, dS_set, dS_unp, dS_par, dS_aug, dS_ret, dS_retN, dS_ite, dS_fo, dS_pass, dS_rai, dS_exp, dS_tr, dSs_nil, dSs_cons, go_nx, go_rt, go_exc, fl_ok, fl_exc, bind_ok, bind_exc, of_some, calm_ok, flof_some, look_0, look_s, lookB_im, lookB_ow, lookB_s, frzL_nil, frzL_cons, frz1_im, frz1_un, frz1_ow, frz1_s, tg_nm, tg_tp, tg_tpl, tgs_nil, tgs_cons, obind, set_0, set_s, lp_nx, lp_ct, lp_bk, lp_rt, lp_exc, out_rt, out_nx, out_exc, ownList, isFr, Bool.and_true, Bool.and_false, Bool.true_and, Bool.false_and, Bool.not_true, Bool.not_false, truD, if_true, if_false, Bool.false_eq_true, ↓reduceIte, startE_nil, startE_cons, reduceCtorEq, decide_true, decide_false, tyD, shl1 h]
theorem run_whole (n : Nat) (a lo hi : Int) : run txt (n + 1) 0 [.int a, .int lo, .int hi] = .ok (.bl (decide (lo ≤ a) && decide (a ≤ hi))) := by
  rw [run_s (d := d0) rfl rfl]
  show (dSs _ _ b0 [.im (.int a), .im (.int lo), .im (.int hi)]).out = _
  by_cases c : lo ≤ a
  · simp only [b0, dE_cst, dE_glb, dE_var, dE_bin, dE_neg, dE_cmp, dE_chn, dE_and, dE_or, dE_not, dE_ite, dE_tup, dE_lst, dE_call, dE_blt, dE_mkb, dE_isi, dE_ix, dE_sl, dE_rev, dE_comp, dE_gget, dE_gix, dE_dget1, dE_dget, dE_dis, asDic, dT_cst, dT_var, dT_bin, dT_cmp, dT_chn, dT_call, dT_blt, dT_isi, dT_ix, dT_ite, dT_and, dT_or, dT_not, dO_own, dO_ev, dBd_no, dBd_to, dBs_nil, dBs_cons, dEs_nil, dEs_cons, dIt_seq, dIt_rng1, dIt_rng2, dIt_enm, dIt_zip, dS_set, dS_unp, dS_par, dS_aug, dS_ret, dS_retN, dS_ite, dS_fo, dS_pass, dS_rai, dS_exp, dS_tr, dSs_nil, dSs_cons, go_nx, go_rt, go_exc, fl_ok, fl_exc, bind_ok, bind_exc, of_some, calm_ok, flof_some, look_0, look_s, lookB_im, lookB_ow, lookB_s, frzL_nil, frzL_cons, frz1_im, frz1_un, frz1_ow, frz1_s, tg_nm, tg_tp, tg_tpl, tgs_nil, tgs_cons, obind, set_0, set_s, lp_nx, lp_ct, lp_bk, lp_rt, lp_exc, out_rt, out_nx, out_exc, ownList, isFr, Bool.and_true, Bool.and_false, Bool.true_and, Bool.false_and, Bool.not_true, Bool.not_false, binD, addD, augD, truD, if_true, if_false, Bool.false_eq_true, ↓reduceIte, startE_nil, startE_cons, reduceCtorEq, decide_true, decide_false, tyD, cmpD, leD, c]
  · simp only [b0, dE_cst, dE_glb, dE_var, dE_bin, dE_neg, dE_cmp, dE_chn, dE_and, dE_or, dE_not, dE_ite, dE_tup, dE_lst, dE_call, dE_blt, dE_mkb, dE_isi, dE_ix, dE_sl, dE_rev, dE_comp, dE_gget, dE_gix, dE_dget1, dE_dget, dE_dis, asDic, dT_cst, dT_var, dT_bin, dT_cmp, dT_chn, dT_call, dT_blt, dT_isi, dT_ix, dT_ite, dT_and, dT_or, dT_not, dO_own, dO_ev, dBd_no, dBd_to, dBs_nil, dBs_cons, dEs_nil, dEs_cons, dIt_seq, dIt_rng1, dIt_rng2, dIt_enm, dIt_zip, dS_set, dS_unp, dS_par, dS_aug, dS_ret, dS_retN, dS_ite, dS_fo, dS_pass, dS_rai, dS_exp, dS_tr, dSs_nil, dSs_cons, go_nx, go_rt, go_exc, fl_ok, fl_exc, bind_ok, bind_exc, of_some, calm_ok, flof_some, look_0, look_s, lookB_im, lookB_ow, lookB_s, frzL_nil, frzL_cons, frz1_im, frz1_un, frz1_ow, frz1_s, tg_nm, tg_tp, tg_tpl, tgs_nil, tgs_cons, obind, set_0, set_s, lp_nx, lp_ct, lp_bk, lp_rt, lp_exc, out_rt, out_nx, out_exc, ownList, isFr, Bool.and_true, Bool.and_false, Bool.true_and, Bool.false_and, Bool.not_true, Bool.not_false, binD, addD, augD, truD, if_true, if_false, Bool.false_eq_true, ↓reduceIte, startE_nil, startE_cons, reduceCtorEq, decide_true, decide_false, tyD, cmpD, leD, c]
theorem len_tup {xs : List D} : bltD .len [.tup xs] = some (.int xs.length) := nrfl rfl
theorem run_row (n : Nat) (s : Str) (r : List D) : run txt (n + 1) 4 [.tup (.str s :: r)] = .ok (.bl true) := by
  rw [run_s (d := d4) rfl rfl]
  show (dSs _ _ b4 [.im (.tup (.str s :: r))]).out = _
  have e : cmpD .gt (.int ((.str s :: r : List D).length : Nat)) (.int 0) = some true := by
    rw [Z.gt_int, decide_eq_true (by rw [List.length_cons]; omega)]
  simp only [b4, dE_cst, dE_glb, dE_var, dE_bin, dE_neg, dE_cmp, dE_chn, dE_and, dE_or, dE_not, dE_ite, dE_tup, dE_lst, dE_call, dE_blt, dE_mkb, dE_isi, dE_ix, dE_sl, dE_rev, dE_comp, dE_gget, dE_gix, dE_dget1, dE_dget, dE_dis, asDic, dT_cst, dT_var, dT_bin, dT_cmp, dT_chn, dT_call, dT_blt, dT_isi, dT_ix, dT_ite, dT_and, dT_or, dT_not, dO_own, dO_ev, dBd_no, dBd_to, dBs_nil, dBs_cons, dEs_nil, dEs_cons, dIt_seq, dIt_rng1, dIt_rng2, dIt_enm, dIt_zip, dS_set, dS_unp, dS_par, dS_aug, dS_ret, dS_retN, dS_ite, dS_fo, dS_pass, dS_rai, dS_exp, dS_tr, dSs_nil, dSs_cons, go_nx, go_rt, go_exc, fl_ok, fl_exc, bind_ok, bind_exc, of_some, calm_ok, flof_some, look_0, look_s, lookB_im, lookB_ow, lookB_s, frzL_nil, frzL_cons, frz1_im, frz1_un, frz1_ow, frz1_s, tg_nm, tg_tp, tg_tpl, tgs_nil, tgs_cons, obind, set_0, set_s, lp_nx, lp_ct, lp_bk, lp_rt, lp_exc, out_rt, out_nx, out_exc, ownList, isFr, Bool.and_true, Bool.and_false, Bool.true_and, Bool.false_and, Bool.not_true, Bool.not_false, binD, addD, augD, truD, if_true, if_false, Bool.false_eq_true, ↓reduceIte, startE_nil, startE_cons, reduceCtorEq, decide_true, decide_false, tyD, len_tup, e, ix0]
theorem sp (p : Nat) {pre kids : List D} (h : p = pre.length) : pre ++ kids = pre ++ kids := rfl
def szK : List D := [.str "word", .str "var", .str "join", .str "part", .str "zero", .str "sign", .str "pick", .str "no", .str "true"]
def szV : List D := [.int 3, .int 2, .int 3, .int 4, .int 3, .int 3, .int 4, .int 2, .int 1]
abbrev sz : Slot := .im (.dic szK szV)
section
variable {T : Nat → List D → R D} {sub : Str → Str → Option Bool}
theorem plain_S {s : Str} {m : Nat} (h : (s, m) ∈ plainKinds) (v dp a3 a6 : Slot) : dS T sub b7S3 [v, dp, sz, a3, .im (.str s), .im (.int ((m + 1 : Nat) : Int)), a6] = .nx [v, dp, sz, .im (.int ((m + 1 : Nat) : Int)), .im (.str s), .im (.int ((m + 1 : Nat) : Int)), a6] ∧
    dS T sub b7S4 [v, dp, sz, .im (.int ((m + 1 : Nat) : Int)), .im (.str s), .im (.int ((m + 1 : Nat) : Int)), a6] = .nx [v, dp, sz, .im (.int ((m + 1 : Nat) : Int)), .im (.str s), .im (.int ((m + 1 : Nat) : Int)), a6] ∧
    dS T sub b7S5 [v, dp, sz, .im (.int ((m + 1 : Nat) : Int)), .im (.str s), .im (.int ((m + 1 : Nat) : Int)), a6] = .nx [v, dp, sz, .im (.int ((m + 1 : Nat) : Int)), .im (.str s), .im (.int ((m + 1 : Nat) : Int)), a6] ∧
    dS T sub b7S6 [v, dp, sz, .im (.int ((m + 1 : Nat) : Int)), .im (.str s), .im (.int ((m + 1 : Nat) : Int)), a6] = .nx [v, dp, sz, .im (.int ((m + 1 : Nat) : Int)), .im (.str s), .im (.int ((m + 1 : Nat) : Int)), a6] := by
  simp only [plainKinds, List.mem_cons, List.not_mem_nil, or_false, Prod.mk.injEq] at h
  rcases h with ⟨rfl, rfl⟩ | ⟨rfl, rfl⟩ | ⟨rfl, rfl⟩ | ⟨rfl, rfl⟩ | ⟨rfl, rfl⟩ | ⟨rfl, rfl⟩ | ⟨rfl, rfl⟩ | ⟨rfl, rfl⟩ | ⟨rfl, rfl⟩ | ⟨rfl, rfl⟩ | ⟨rfl, rfl⟩ | ⟨rfl, rfl⟩ | ⟨rfl, rfl⟩ | ⟨rfl, rfl⟩ | ⟨rfl, rfl⟩ | ⟨rfl, rfl⟩ | ⟨rfl, rfl⟩ | ⟨rfl, rfl⟩ | ⟨rfl, rfl⟩ | ⟨rfl, rfl⟩ | ⟨rfl, rfl⟩ | ⟨rfl, rfl⟩ <;> exact ⟨by kernel_rfl, by kernel_rfl, by kernel_rfl, by kernel_rfl⟩
end
/-- the first statements -/
theorem sh_start (k : Nat) (sub : Str → Str → Option Bool) (s : Str) (r : List D) (deep : Nat) (a2 a3 a4 a5 a6 : Slot) (rest : Sms) : dSs (run txt (k + 1)) sub (.cons b7S0 (.cons b7S1 (.cons b7S2 rest))) [.im (.tup (.str s :: r)), .im (.int ((deep + 1 : Nat) : Int)), a2, a3, a4, a5, a6] =
    dSs (run txt (k + 1)) sub rest [.im (.tup (.str s :: r)), .im (.int ((deep + 1 : Nat) : Int)), sz, a3, .im (.str s), .im (.int ((r.length + 1 : Nat) : Int)), a6] := by
  have e0 : cmpD .eq (.int ((deep + 1 : Nat) : Int)) (.int 0) = some false := by rw [Z.eq_int, decide_eq_false (by omega)]
  have s0 : dS (run txt (k + 1)) sub b7S0 [.im (.tup (.str s :: r)), .im (.int ((deep + 1 : Nat) : Int)), a2, a3, a4, a5, a6] = .nx [.im (.tup (.str s :: r)), .im (.int ((deep + 1 : Nat) : Int)), a2, a3, a4, a5, a6] := by
    simp only [b7S0, dE_cst, dE_glb, dE_var, dE_bin, dE_neg, dE_cmp, dE_chn, dE_and, dE_or, dE_not, dE_ite, dE_tup, dE_lst, dE_call, dE_blt, dE_mkb, dE_isi, dE_ix, dE_sl, dE_rev, dE_comp, dE_gget, dE_gix, dE_dget1, dE_dget, dE_dis, asDic, dT_cst, dT_var, dT_bin, dT_cmp, dT_chn, dT_call, dT_blt, dT_isi, dT_ix, dT_ite, dT_and, dT_or, dT_not, dO_own, dO_ev, dBd_no, dBd_to, dBs_nil, dBs_cons, dEs_nil, dEs_cons, dIt_seq, dIt_rng1, dIt_rng2, dIt_enm, dIt_zip, dS_set, dS_unp, dS_par, dS_aug, dS_ret, dS_retN, dS_ite, dS_fo, dS_pass, dS_rai, dS_exp, dS_tr, dSs_nil, dSs_cons, go_nx, go_rt, go_exc, fl_ok, fl_exc, bind_ok, bind_exc, of_some, calm_ok, flof_some, look_0, look_s, lookB_im, lookB_ow, lookB_s, frzL_nil, frzL_cons, frz1_im, frz1_un, frz1_ow, frz1_s, tg_nm, tg_tp, tg_tpl, tgs_nil, tgs_cons, obind, set_0, set_s, lp_nx, lp_ct, lp_bk, lp_rt, lp_exc, out_rt, out_nx, out_exc, ownList, isFr, Bool.and_true, Bool.and_false, Bool.true_and, Bool.false_and, Bool.not_true, Bool.not_false, binD, addD, augD, truD, if_true, if_false, Bool.false_eq_true, ↓reduceIte, startE_nil, startE_cons, reduceCtorEq, decide_true, decide_false, tyD, e0, run_row]
  have s1 : dS (run txt (k + 1)) sub b7S1 [.im (.tup (.str s :: r)), .im (.int ((deep + 1 : Nat) : Int)), a2, a3, a4, a5, a6] = .nx [.im (.tup (.str s :: r)), .im (.int ((deep + 1 : Nat) : Int)), a2, a3, .im (.str s), .im (.int ((r.length + 1 : Nat) : Int)), a6] := by
    simp only [b7S1, dE_cst, dE_glb, dE_var, dE_bin, dE_neg, dE_cmp, dE_chn, dE_and, dE_or, dE_not, dE_ite, dE_tup, dE_lst, dE_call, dE_blt, dE_mkb, dE_isi, dE_ix, dE_sl, dE_rev, dE_comp, dE_gget, dE_gix, dE_dget1, dE_dget, dE_dis, asDic, dT_cst, dT_var, dT_bin, dT_cmp, dT_chn, dT_call, dT_blt, dT_isi, dT_ix, dT_ite, dT_and, dT_or, dT_not, dO_own, dO_ev, dBd_no, dBd_to, dBs_nil, dBs_cons, dEs_nil, dEs_cons, dIt_seq, dIt_rng1, dIt_rng2, dIt_enm, dIt_zip, dS_set, dS_unp, dS_par, dS_aug, dS_ret, dS_retN, dS_ite, dS_fo, dS_pass, dS_rai, dS_exp, dS_tr, dSs_nil, dSs_cons, go_nx, go_rt, go_exc, fl_ok, fl_exc, bind_ok, bind_exc, of_some, calm_ok, flof_some, look_0, look_s, lookB_im, lookB_ow, lookB_s, frzL_nil, frzL_cons, frz1_im, frz1_un, frz1_ow, frz1_s, tg_nm, tg_tp, tg_tpl, tgs_nil, tgs_cons, obind, set_0, set_s, lp_nx, lp_ct, lp_bk, lp_rt, lp_exc, out_rt, out_nx, out_exc, ownList, isFr, Bool.and_true, Bool.and_false, Bool.true_and, Bool.false_and, Bool.not_true, Bool.not_false, binD, addD, augD, truD, if_true, if_false, Bool.false_eq_true, ↓reduceIte, startE_nil, startE_cons, reduceCtorEq, decide_true, decide_false, tyD, ix0, len_tup, List.length_cons]
  have s2 : dS (run txt (k + 1)) sub b7S2 [.im (.tup (.str s :: r)), .im (.int ((deep + 1 : Nat) : Int)), a2, a3, .im (.str s), .im (.int ((r.length + 1 : Nat) : Int)), a6] = .nx [.im (.tup (.str s :: r)), .im (.int ((deep + 1 : Nat) : Int)), sz, a3, .im (.str s), .im (.int ((r.length + 1 : Nat) : Int)), a6] := by kernel_rfl
  rw [dSs_cons, s0, go_nx, dSs_cons, s1, go_nx, dSs_cons, s2, go_nx]
/-- the last statement -/
theorem sh_end (k : Nat) (sub : Str → Str → Option Bool) {s : Str} {pre kids : List D} (h1 : Node s pre kids.length) (deep : Nat) (a2 a3 a4 a5 a6 : Slot) (ih : ∀ q ∈ kids, run txt (k + 1) 7 [q, .int (deep : Nat)] = .ok (.bl true)) :
    (dS (run txt (k + 1)) sub b7S7 [.im (.tup (.str s :: (pre ++ kids))), .im (.int ((deep + 1 : Nat) : Int)), a2, a3, a4, a5, a6]) = .rt (.bl true) := by
  have c := comp_map (T := run txt (k + 1)) (ρ := [.im (.tup (.str s :: (pre ++ kids))), .im (.int ((deep + 1 : Nat) : Int)), a2, a3, a4, a5, a6]) (x := b7C1) (own := [6]) (t := .nm 6) (it := .seq (.call 3 (.cons (.var 0) .nil))) (ds := kids) (fun q => .bl true) (it_seq (by simp only [dE_cst, dE_glb, dE_var, dE_bin, dE_neg, dE_cmp, dE_chn, dE_and, dE_or, dE_not, dE_ite, dE_tup, dE_lst, dE_call, dE_blt, dE_mkb, dE_isi, dE_ix, dE_sl, dE_rev, dE_comp, dE_gget, dE_gix, dE_dget1, dE_dget, dE_dis, asDic, dT_cst, dT_var, dT_bin, dT_cmp, dT_chn, dT_call, dT_blt, dT_isi, dT_ix, dT_ite, dT_and, dT_or, dT_not, dO_own, dO_ev, dBd_no, dBd_to, dBs_nil, dBs_cons, dEs_nil, dEs_cons, dIt_seq, dIt_rng1, dIt_rng2, dIt_enm, dIt_zip, dS_set, dS_unp, dS_par, dS_aug, dS_ret, dS_retN, dS_ite, dS_fo, dS_pass, dS_rai, dS_exp, dS_tr, dSs_nil, dSs_cons, go_nx, go_rt, go_exc, fl_ok, fl_exc, bind_ok, bind_exc, of_some, calm_ok, flof_some, look_0, look_s, lookB_im, lookB_ow, lookB_s, frzL_nil, frzL_cons, frz1_im, frz1_un, frz1_ow, frz1_s, tg_nm, tg_tp, tg_tpl, tgs_nil, tgs_cons, obind, set_0, set_s, lp_nx, lp_ct, lp_bk, lp_rt, lp_exc, out_rt, out_nx, out_exc, ownList, isFr, Bool.and_true, Bool.and_false, Bool.true_and, Bool.false_and, Bool.not_true, Bool.not_false, binD, addD, augD, truD, if_true, if_false, Bool.false_eq_true, ↓reduceIte, startE_nil, startE_cons, reduceCtorEq, decide_true, decide_false, tyD, run_inner k h1])) (lim_kids h1) fun q hq => ⟨_, rfl, by
    have e : (((deep + 1 : Nat) : Int) - 1) = ((deep : Nat) : Int) := by omega
    simp only [b7C1, dE_cst, dE_glb, dE_var, dE_bin, dE_neg, dE_cmp, dE_chn, dE_and, dE_or, dE_not, dE_ite, dE_tup, dE_lst, dE_call, dE_blt, dE_mkb, dE_isi, dE_ix, dE_sl, dE_rev, dE_comp, dE_gget, dE_gix, dE_dget1, dE_dget, dE_dis, asDic, dT_cst, dT_var, dT_bin, dT_cmp, dT_chn, dT_call, dT_blt, dT_isi, dT_ix, dT_ite, dT_and, dT_or, dT_not, dO_own, dO_ev, dBd_no, dBd_to, dBs_nil, dBs_cons, dEs_nil, dEs_cons, dIt_seq, dIt_rng1, dIt_rng2, dIt_enm, dIt_zip, dS_set, dS_unp, dS_par, dS_aug, dS_ret, dS_retN, dS_ite, dS_fo, dS_pass, dS_rai, dS_exp, dS_tr, dSs_nil, dSs_cons, go_nx, go_rt, go_exc, fl_ok, fl_exc, bind_ok, bind_exc, of_some, calm_ok, flof_some, look_0, look_s, lookB_im, lookB_ow, lookB_s, frzL_nil, frzL_cons, frz1_im, frz1_un, frz1_ow, frz1_s, tg_nm, tg_tp, tg_tpl, tgs_nil, tgs_cons, obind, set_0, set_s, lp_nx, lp_ct, lp_bk, lp_rt, lp_exc, out_rt, out_nx, out_exc, ownList, isFr, Bool.and_true, Bool.and_false, Bool.true_and, Bool.false_and, Bool.not_true, Bool.not_false, binD, addD, augD, truD, if_true, if_false, Bool.false_eq_true, ↓reduceIte, startE_nil, startE_cons, reduceCtorEq, decide_true, decide_false, tyD, wipeE, List.set_cons_zero, List.set_cons_succ, e, ih q hq]⟩
  simp only [b7S7, dS_ret, frzL_nil, dE_blt, dBs_cons, dBs_nil, dO_ev, bind_ok, c, all_map, of_some, fl_ok]
theorem run_plain_word (k w v : Nat) (h1 : 1 ≤ w) (h2 : w ≤ 16) (h3 : v < 2 ^ w) : run txt (k + 2) 5 [.dic [] [], .tup [.str "word", .int (w : Nat), .int (v : Nat)]] = .ok (.int (w : Nat)) := by
  rw [run_s (d := d5) rfl rfl]
  show (dSs _ _ b5 [.im (.dic [] []), .im (.tup [.str "word", .int (w : Nat), .int (v : Nat)])]).out = _
  have i0 : ixD (.tup [.str "word", .int (w : Nat), .int (v : Nat)]) (.int 0) = some (.str "word") := by kernel_rfl
  have i1 : ixD (.tup [.str "word", .int (w : Nat), .int (v : Nat)]) (.int 1) = some (.int (w : Nat)) := by kernel_rfl
  have i2 : ixD (.tup [.str "word", .int (w : Nat), .int (v : Nat)]) (.int 2) = some (.int (v : Nat)) := by kernel_rfl
  have l3 : bltD .len [.tup [.str "word", .int (w : Nat), .int (v : Nat)]] = some (.int 3) := by kernel_rfl
  have e1 : cmpD .eq (.str "word") (.str "var") = some false := by kernel_rfl
  have e2 : cmpD .ne (.int 3) (.int 3) = some false := by kernel_rfl
  have p1 : 0 < 2 ^ w := Nat.pos_of_ne_zero (by simp)
  have w1 := run_whole k (w : Nat) 1 16
  rw [decide_eq_true (by omega), decide_eq_true (by omega)] at w1
  have w2 := run_whole k (v : Nat) 0 (((2 ^ w : Nat) : Int) - 1)
  rw [decide_eq_true (by omega), decide_eq_true (by omega)] at w2
  have pw := run_power k w (by omega)
  simp only [b5, dE_cst, dE_glb, dE_var, dE_bin, dE_neg, dE_cmp, dE_chn, dE_and, dE_or, dE_not, dE_ite, dE_tup, dE_lst, dE_call, dE_blt, dE_mkb, dE_isi, dE_ix, dE_sl, dE_rev, dE_comp, dE_gget, dE_gix, dE_dget1, dE_dget, dE_dis, asDic, dT_cst, dT_var, dT_bin, dT_cmp, dT_chn, dT_call, dT_blt, dT_isi, dT_ix, dT_ite, dT_and, dT_or, dT_not, dO_own, dO_ev, dBd_no, dBd_to, dBs_nil, dBs_cons, dEs_nil, dEs_cons, dIt_seq, dIt_rng1, dIt_rng2, dIt_enm, dIt_zip, dS_set, dS_unp, dS_par, dS_aug, dS_ret, dS_retN, dS_ite, dS_fo, dS_pass, dS_rai, dS_exp, dS_tr, dSs_nil, dSs_cons, go_nx, go_rt, go_exc, fl_ok, fl_exc, bind_ok, bind_exc, of_some, calm_ok, flof_some, look_0, look_s, lookB_im, lookB_ow, lookB_s, frzL_nil, frzL_cons, frz1_im, frz1_un, frz1_ow, frz1_s, tg_nm, tg_tp, tg_tpl, tgs_nil, tgs_cons, obind, set_0, set_s, lp_nx, lp_ct, lp_bk, lp_rt, lp_exc, out_rt, out_nx, out_exc, ownList, isFr, Bool.and_true, Bool.and_false, Bool.true_and, Bool.false_and, Bool.not_true, Bool.not_false, truD, if_true, if_false, Bool.false_eq_true, ↓reduceIte, startE_nil, startE_cons, reduceCtorEq, decide_true, decide_false, tyD, i0, i1, i2, l3, e1, e2, w1, w2, pw, (show binD .sub (.int ((2 ^ w : Nat) : Int)) (.int 1) = some (.int (((2 ^ w : Nat) : Int) - 1)) from rfl)]
theorem pw16 (k : Nat) : run txt (k + 1) 1 [.int 16] = .ok (.int 65536) := by kernel_rfl
theorem whole16 (k : Nat) (T : Nat → List D → R D) (hT : T = run txt (k + 1)) {ds : List D} (hd : ∀ d ∈ ds, ∃ a : Nat, d = .int (a : Nat) ∧ a ≤ 65536) (hl : ds.length < lim) (a0 a1 a2 a3 a4 a5 a6 : Slot) {it : Z.It} (hit : dIt T it [a0, a1, a2, a3, a4, a5, a6] = .ok ds) :
    dE T (.blt .all (.cons (.ev (.comp b7C0 [6] (.nm 6) it (.cst (.bl true)))) .nil)) [a0, a1, a2, a3, a4, a5, a6] = .ok (.bl true) := by
  have c := comp_map (T := T) (ρ := [a0, a1, a2, a3, a4, a5, a6]) (x := b7C0) (own := [6]) (t := .nm 6) (it := it) (ds := ds) (fun q => .bl true) hit hl fun q hq => ⟨_, rfl, by
    obtain ⟨a, rfl, ha⟩ := hd q hq
    subst hT
    have w2 := run_whole k (a : Nat) 0 65536
    rw [decide_eq_true (by omega), decide_eq_true (by omega)] at w2
    simp only [b7C0, dE_cst, dE_glb, dE_var, dE_bin, dE_neg, dE_cmp, dE_chn, dE_and, dE_or, dE_not, dE_ite, dE_tup, dE_lst, dE_call, dE_blt, dE_mkb, dE_isi, dE_ix, dE_sl, dE_rev, dE_comp, dE_gget, dE_gix, dE_dget1, dE_dget, dE_dis, asDic, dT_cst, dT_var, dT_bin, dT_cmp, dT_chn, dT_call, dT_blt, dT_isi, dT_ix, dT_ite, dT_and, dT_or, dT_not, dO_own, dO_ev, dBd_no, dBd_to, dBs_nil, dBs_cons, dEs_nil, dEs_cons, dIt_seq, dIt_rng1, dIt_rng2, dIt_enm, dIt_zip, dS_set, dS_unp, dS_par, dS_aug, dS_ret, dS_retN, dS_ite, dS_fo, dS_pass, dS_rai, dS_exp, dS_tr, dSs_nil, dSs_cons, go_nx, go_rt, go_exc, fl_ok, fl_exc, bind_ok, bind_exc, of_some, calm_ok, flof_some, look_0, look_s, lookB_im, lookB_ow, lookB_s, frzL_nil, frzL_cons, frz1_im, frz1_un, frz1_ow, frz1_s, tg_nm, tg_tp, tg_tpl, tgs_nil, tgs_cons, obind, set_0, set_s, lp_nx, lp_ct, lp_bk, lp_rt, lp_exc, out_rt, out_nx, out_exc, ownList, isFr, Bool.and_true, Bool.and_false, Bool.true_and, Bool.false_and, Bool.not_true, Bool.not_false, binD, addD, augD, truD, if_true, if_false, Bool.false_eq_true, ↓reduceIte, startE_nil, startE_cons, reduceCtorEq, decide_true, decide_false, tyD, wipeE, List.set_cons_zero, List.set_cons_succ, pw16, w2]⟩
  simp only [dE_blt, dBs_cons, dBs_nil, dO_ev, bind_ok, c, all_map, of_some]
theorem run_shape : ∀ (n k : Nat) (d : D) (deep : Nat), Sh n d → n ≤ deep → run txt (n + k + 2) 7 [d, .int (deep : Nat)] = .ok (.bl true)
  | 0, _, _, _, h, _ => h.elim
  | n + 1, k, d, deep, h, hd => by
    obtain ⟨s, pre, kids, rfl, h1, h2⟩ := h
    obtain ⟨deep, rfl⟩ : ∃ e, deep = e + 1 := ⟨deep - 1, by omega⟩
    have ih : ∀ q ∈ kids, run txt (n + k + 2) 7 [q, .int (deep : Nat)] = .ok (.bl true) := fun q hq => run_shape n k q deep (h2 q hq) (by omega)
    rw [show n + 1 + k + 2 = (n + k + 2) + 1 from by omega, run_s (d := d7) rfl rfl]
    show (dSs (run txt (n + k + 1 + 1)) _ (.cons b7S0 (.cons b7S1 (.cons b7S2 (.cons b7S3 (.cons b7S4 (.cons b7S5 (.cons b7S6 (.cons b7S7 .nil)))))))) [.im (.tup (.str s :: (pre ++ kids))), .im (.int ((deep + 1 : Nat) : Int)), .un, .un, .un, .un, .un]).out = _
    rw [sh_start (n + k + 1)]
    have fin := fun a2 a3 a4 a5 a6 => sh_end (n + k + 1) (subL txt.sub) h1 deep a2 a3 a4 a5 a6 ih
    generalize hm : kids.length = m at h1
    cases h1 with
    | plain s m h =>
      obtain ⟨g1, g2, g3, g4⟩ := plain_S (T := run txt (n + k + 1 + 1)) (sub := subL txt.sub) h (.im (.tup (.str s :: ([] ++ kids)))) (.im (.int ((deep + 1 : Nat) : Int))) .un .un
      rw [List.nil_append] at g1 g2 g3 g4 fin ⊢
      rw [hm, dSs_cons, g1, go_nx, dSs_cons, g2, go_nx, dSs_cons, g3, go_nx, dSs_cons, g4, go_nx, dSs_cons, fin, go_rt, out_rt]
    | word w v q1 q2 q3 =>
      have : kids = [] := List.length_eq_zero_iff.mp hm
      subst this
      have rp := run_plain_word (n + k) w v q1 q2 q3
      have s3 : ∀ (T : Nat → List D → R D) (v dp a3 a6 : Slot), dS T (subL txt.sub) b7S3 [v, dp, sz, a3, .im (.str "word"), .im (.int 3), a6] = .nx [v, dp, sz, .im (.int 3), .im (.str "word"), .im (.int 3), a6] := fun _ _ _ _ _ => by kernel_rfl
      have s4 : ∀ (T : Nat → List D → R D) (v dp a6 : Slot), dS T (subL txt.sub) b7S4 [v, dp, sz, .im (.int 3), .im (.str "word"), .im (.int 3), a6] = .nx [v, dp, sz, .im (.int 3), .im (.str "word"), .im (.int 3), a6] := fun _ _ _ _ => by kernel_rfl
      have e1 : cmpD .eq (.str "word") (.str "word") = some true := by kernel_rfl
      have e2 : cmpD .isn (.int (w : Nat)) .non = some true := nrfl rfl
      have s5 : dS (run txt (n + k + 1 + 1)) (subL txt.sub) b7S5 [.im (.tup [.str "word", .int (w : Nat), .int (v : Nat)]), .im (.int ((deep + 1 : Nat) : Int)), sz, .im (.int 3), .im (.str "word"), .im (.int 3), .un] = .rt (.bl true) := by
        simp only [b7S5, dE_cst, dE_glb, dE_var, dE_bin, dE_neg, dE_cmp, dE_chn, dE_and, dE_or, dE_not, dE_ite, dE_tup, dE_lst, dE_call, dE_blt, dE_mkb, dE_isi, dE_ix, dE_sl, dE_rev, dE_comp, dE_gget, dE_gix, dE_dget1, dE_dget, dE_dis, asDic, dT_cst, dT_var, dT_bin, dT_cmp, dT_chn, dT_call, dT_blt, dT_isi, dT_ix, dT_ite, dT_and, dT_or, dT_not, dO_own, dO_ev, dBd_no, dBd_to, dBs_nil, dBs_cons, dEs_nil, dEs_cons, dIt_seq, dIt_rng1, dIt_rng2, dIt_enm, dIt_zip, dS_set, dS_unp, dS_par, dS_aug, dS_ret, dS_retN, dS_ite, dS_fo, dS_pass, dS_rai, dS_exp, dS_tr, dSs_nil, dSs_cons, go_nx, go_rt, go_exc, fl_ok, fl_exc, bind_ok, bind_exc, of_some, calm_ok, flof_some, look_0, look_s, lookB_im, lookB_ow, lookB_s, frzL_nil, frzL_cons, frz1_im, frz1_un, frz1_ow, frz1_s, tg_nm, tg_tp, tg_tpl, tgs_nil, tgs_cons, obind, set_0, set_s, lp_nx, lp_ct, lp_bk, lp_rt, lp_exc, out_rt, out_nx, out_exc, ownList, isFr, Bool.and_true, Bool.and_false, Bool.true_and, Bool.false_and, Bool.not_true, Bool.not_false, binD, addD, augD, truD, if_true, if_false, Bool.false_eq_true, ↓reduceIte, startE_nil, startE_cons, reduceCtorEq, decide_true, decide_false, tyD, e1, List.map_nil, rp, e2]
      rw [dSs_cons]
      show ((dS _ _ b7S3 [_, _, sz, _, .im (.str "word"), .im (.int 3), _]).go _).out = _
      rw [s3, go_nx, dSs_cons, s4, go_nx, dSs_cons]
      show ((dS (run txt (n + k + 1 + 1)) (subL txt.sub) b7S5 [.im (.tup [.str "word", .int (w : Nat), .int (v : Nat)]), .im (.int ((deep + 1 : Nat) : Int)), sz, .im (.int 3), .im (.str "word"), .im (.int 3), .un]).go _).out = _
      rw [s5, go_rt, out_rt]
    | var x hx =>
      have : kids = [] := List.length_eq_zero_iff.mp hm
      subst this
      have s36 : ∀ (k : Nat) (dp : Slot), dSs (run txt (k + 2)) (subL txt.sub) (.cons b7S3 (.cons b7S4 (.cons b7S5 (.cons b7S6 (.cons b7S7 .nil))))) [.im (.tup [.str "var", .str x]), dp, sz, .un, .im (.str "var"), .im (.int 2), .un] = dSs (run txt (k + 2)) (subL txt.sub) (.cons b7S7 .nil) [.im (.tup [.str "var", .str x]), dp, sz, .im (.int 2), .im (.str "var"), .im (.int 2), .un] := fun k dp => by
        have s3 : ∀ (T : Nat → List D → R D) (v dp a3 a6 : Slot), dS T (subL txt.sub) b7S3 [v, dp, sz, a3, .im (.str "var"), .im (.int 2), a6] = .nx [v, dp, sz, .im (.int 2), .im (.str "var"), .im (.int 2), a6] := fun _ _ _ _ _ => by kernel_rfl
        have s5 : ∀ (T : Nat → List D → R D) (v dp a6 : Slot), dS T (subL txt.sub) b7S5 [v, dp, sz, .im (.int 2), .im (.str "var"), .im (.int 2), a6] = .nx [v, dp, sz, .im (.int 2), .im (.str "var"), .im (.int 2), a6] := fun _ _ _ _ => by kernel_rfl
        have s6 : ∀ (T : Nat → List D → R D) (v dp a6 : Slot), dS T (subL txt.sub) b7S6 [v, dp, sz, .im (.int 2), .im (.str "var"), .im (.int 2), a6] = .nx [v, dp, sz, .im (.int 2), .im (.str "var"), .im (.int 2), a6] := fun _ _ _ _ => by kernel_rfl
        have s4 : dS (run txt (k + 2)) (subL txt.sub) b7S4 [.im (.tup [.str "var", .str x]), dp, sz, .im (.int 2), .im (.str "var"), .im (.int 2), .un] = .nx [.im (.tup [.str "var", .str x]), dp, sz, .im (.int 2), .im (.str "var"), .im (.int 2), .un] := by
          rcases hx with rfl | rfl | rfl <;> kernel_rfl
        rw [dSs_cons, s3, go_nx, dSs_cons, s4, go_nx, dSs_cons, s5, go_nx, dSs_cons, s6, go_nx]
      show (dSs (run txt (n + k + 2)) (subL txt.sub) _ [.im (.tup [.str "var", .str x]), _, sz, .un, .im (.str "var"), .im (.int 2), .un]).out = _
      rw [s36 (n + k), dSs_cons]
      have fin := fin sz (.im (.int 2)) (.im (.str "var")) (.im (.int 2)) .un
      have fin : dS (run txt (n + k + 2)) (subL txt.sub) b7S7 [.im (.tup [.str "var", .str x]), .im (.int ((deep + 1 : Nat) : Int)), sz, .im (.int 2), .im (.str "var"), .im (.int 2), .un] = .rt (.bl true) := fin
      rw [fin, go_rt, out_rt]
    | part a b ha hb =>
      obtain ⟨q, rfl⟩ : ∃ q, kids = [q] := by
        match kids, hm with
        | [q], _ => exact ⟨q, rfl⟩
      have s3 : ∀ (T : Nat → List D → R D) (v dp a3 a6 : Slot), dS T (subL txt.sub) b7S3 [v, dp, sz, a3, .im (.str "part"), .im (.int 4), a6] = .nx [v, dp, sz, .im (.int 4), .im (.str "part"), .im (.int 4), a6] := fun _ _ _ _ _ => by kernel_rfl
      have s4 : ∀ (T : Nat → List D → R D) (v dp a6 : Slot), dS T (subL txt.sub) b7S4 [v, dp, sz, .im (.int 4), .im (.str "part"), .im (.int 4), a6] = .nx [v, dp, sz, .im (.int 4), .im (.str "part"), .im (.int 4), a6] := fun _ _ _ _ => by kernel_rfl
      have s5 : ∀ (T : Nat → List D → R D) (v dp a6 : Slot), dS T (subL txt.sub) b7S5 [v, dp, sz, .im (.int 4), .im (.str "part"), .im (.int 4), a6] = .nx [v, dp, sz, .im (.int 4), .im (.str "part"), .im (.int 4), a6] := fun _ _ _ _ => by kernel_rfl
      have dl := whole16 (n + k + 1) (run txt (n + k + 1 + 1)) rfl (ds := [.int (a : Nat), .int (b : Nat)]) (fun d hd => by
        simp only [List.mem_cons, List.not_mem_nil, or_false] at hd
        rcases hd with rfl | rfl
        · exact ⟨a, rfl, ha⟩
        · exact ⟨b, rfl, hb⟩) (by show _ < 16777216; simp) (.im (.tup [.str "part", .int (a : Nat), .int (b : Nat), q])) (.im (.int ((deep + 1 : Nat) : Int))) sz (.im (.int 4)) (.im (.str "part")) (.im (.int 4)) .un (it := .seq (.sl (.var 0) (.to (.cst (.int 1))) (.to (.gix "FIRST" [("word" , (.int 3)), ("var" , (.int 2)), ("part" , (.int 3)), ("zero" , (.int 2)), ("sign" , (.int 2))] (.var 4))))) (by kernel_rfl)
      have i1 : cmpD .in_ (.str "part") (.tup [.str "part", .str "zero", .str "sign"]) = some true := by kernel_rfl
      have s6 : dS (run txt (n + k + 1 + 1)) (subL txt.sub) b7S6 [.im (.tup [.str "part", .int (a : Nat), .int (b : Nat), q]), .im (.int ((deep + 1 : Nat) : Int)), sz, .im (.int 4), .im (.str "part"), .im (.int 4), .un] = .nx [.im (.tup [.str "part", .int (a : Nat), .int (b : Nat), q]), .im (.int ((deep + 1 : Nat) : Int)), sz, .im (.int 4), .im (.str "part"), .im (.int 4), .un] := by
        have tt : dT (run txt (n + k + 1 + 1)) (.not_ (.blt .all (.cons (.ev (.comp b7C0 [6] (.nm 6) (.seq (.sl (.var 0) (.to (.cst (.int 1))) (.to (.gix "FIRST" [("word" , (.int 3)), ("var" , (.int 2)), ("part" , (.int 3)), ("zero" , (.int 2)), ("sign" , (.int 2))] (.var 4))))) (.cst (.bl true)))) .nil))) [.im (.tup [.str "part", .int (a : Nat), .int (b : Nat), q]), .im (.int ((deep + 1 : Nat) : Int)), sz, .im (.int 4), .im (.str "part"), .im (.int 4), .un] = .ok false := by
          rw [dT_not, dT_blt, dl]; rfl
        have t0 : dT (run txt (n + k + 1 + 1)) (.cmp .in_ (.own 4) (.ev (.tup (.cons (.cst (.str "part")) (.cons (.cst (.str "zero")) (.cons (.cst (.str "sign")) .nil)))))) [.im (.tup [.str "part", .int (a : Nat), .int (b : Nat), q]), .im (.int ((deep + 1 : Nat) : Int)), sz, .im (.int 4), .im (.str "part"), .im (.int 4), .un] = .ok true := by kernel_rfl
        rw [b7S6, dS_ite, frzL_nil, t0, fl_ok, if_pos rfl, dSs_cons, dS_ite, frzL_nil, tt, fl_ok, if_neg (by decide), dSs_nil, go_nx, dSs_nil]
      rw [dSs_cons]
      show ((dS _ _ b7S3 [_, _, sz, _, .im (.str "part"), .im (.int 4), _]).go _).out = _
      rw [s3, go_nx, dSs_cons, s4, go_nx, dSs_cons, s5, go_nx, dSs_cons]
      show ((dS (run txt (n + k + 1 + 1)) (subL txt.sub) b7S6 [.im (.tup [.str "part", .int (a : Nat), .int (b : Nat), q]), .im (.int ((deep + 1 : Nat) : Int)), sz, .im (.int 4), .im (.str "part"), .im (.int 4), .un]).go _).out = _
      rw [s6, go_nx, dSs_cons]
      have fin := fin sz (.im (.int 4)) (.im (.str "part")) (.im (.int 4)) .un
      have fin : dS (run txt (n + k + 1 + 1)) (subL txt.sub) b7S7 [.im (.tup [.str "part", .int (a : Nat), .int (b : Nat), q]), .im (.int ((deep + 1 : Nat) : Int)), sz, .im (.int 4), .im (.str "part"), .im (.int 4), .un] = .rt (.bl true) := fin
      rw [fin, go_rt, out_rt]
    | zero a ha =>
      obtain ⟨q, rfl⟩ : ∃ q, kids = [q] := by
        match kids, hm with
        | [q], _ => exact ⟨q, rfl⟩
      have s3 : ∀ (T : Nat → List D → R D) (v dp a3 a6 : Slot), dS T (subL txt.sub) b7S3 [v, dp, sz, a3, .im (.str "zero"), .im (.int 3), a6] = .nx [v, dp, sz, .im (.int 3), .im (.str "zero"), .im (.int 3), a6] := fun _ _ _ _ _ => by kernel_rfl
      have s4 : ∀ (T : Nat → List D → R D) (v dp a6 : Slot), dS T (subL txt.sub) b7S4 [v, dp, sz, .im (.int 3), .im (.str "zero"), .im (.int 3), a6] = .nx [v, dp, sz, .im (.int 3), .im (.str "zero"), .im (.int 3), a6] := fun _ _ _ _ => by kernel_rfl
      have s5 : ∀ (T : Nat → List D → R D) (v dp a6 : Slot), dS T (subL txt.sub) b7S5 [v, dp, sz, .im (.int 3), .im (.str "zero"), .im (.int 3), a6] = .nx [v, dp, sz, .im (.int 3), .im (.str "zero"), .im (.int 3), a6] := fun _ _ _ _ => by kernel_rfl
      have dl := whole16 (n + k + 1) (run txt (n + k + 1 + 1)) rfl (ds := [.int (a : Nat)]) (fun d hd => by
        simp only [List.mem_cons, List.not_mem_nil, or_false] at hd
        rcases hd with rfl
        exact ⟨a, rfl, ha⟩) (by show _ < 16777216; simp) (.im (.tup [.str "zero", .int (a : Nat), q])) (.im (.int ((deep + 1 : Nat) : Int))) sz (.im (.int 3)) (.im (.str "zero")) (.im (.int 3)) .un (it := .seq (.sl (.var 0) (.to (.cst (.int 1))) (.to (.gix "FIRST" [("word" , (.int 3)), ("var" , (.int 2)), ("part" , (.int 3)), ("zero" , (.int 2)), ("sign" , (.int 2))] (.var 4))))) (by kernel_rfl)
      have i1 : cmpD .in_ (.str "zero") (.tup [.str "part", .str "zero", .str "sign"]) = some true := by kernel_rfl
      have s6 : dS (run txt (n + k + 1 + 1)) (subL txt.sub) b7S6 [.im (.tup [.str "zero", .int (a : Nat), q]), .im (.int ((deep + 1 : Nat) : Int)), sz, .im (.int 3), .im (.str "zero"), .im (.int 3), .un] = .nx [.im (.tup [.str "zero", .int (a : Nat), q]), .im (.int ((deep + 1 : Nat) : Int)), sz, .im (.int 3), .im (.str "zero"), .im (.int 3), .un] := by
        have tt : dT (run txt (n + k + 1 + 1)) (.not_ (.blt .all (.cons (.ev (.comp b7C0 [6] (.nm 6) (.seq (.sl (.var 0) (.to (.cst (.int 1))) (.to (.gix "FIRST" [("word" , (.int 3)), ("var" , (.int 2)), ("part" , (.int 3)), ("zero" , (.int 2)), ("sign" , (.int 2))] (.var 4))))) (.cst (.bl true)))) .nil))) [.im (.tup [.str "zero", .int (a : Nat), q]), .im (.int ((deep + 1 : Nat) : Int)), sz, .im (.int 3), .im (.str "zero"), .im (.int 3), .un] = .ok false := by
          rw [dT_not, dT_blt, dl]; rfl
        have t0 : dT (run txt (n + k + 1 + 1)) (.cmp .in_ (.own 4) (.ev (.tup (.cons (.cst (.str "part")) (.cons (.cst (.str "zero")) (.cons (.cst (.str "sign")) .nil)))))) [.im (.tup [.str "zero", .int (a : Nat), q]), .im (.int ((deep + 1 : Nat) : Int)), sz, .im (.int 3), .im (.str "zero"), .im (.int 3), .un] = .ok true := by kernel_rfl
        rw [b7S6, dS_ite, frzL_nil, t0, fl_ok, if_pos rfl, dSs_cons, dS_ite, frzL_nil, tt, fl_ok, if_neg (by decide), dSs_nil, go_nx, dSs_nil]
      rw [dSs_cons]
      show ((dS _ _ b7S3 [_, _, sz, _, .im (.str "zero"), .im (.int 3), _]).go _).out = _
      rw [s3, go_nx, dSs_cons, s4, go_nx, dSs_cons, s5, go_nx, dSs_cons]
      show ((dS (run txt (n + k + 1 + 1)) (subL txt.sub) b7S6 [.im (.tup [.str "zero", .int (a : Nat), q]), .im (.int ((deep + 1 : Nat) : Int)), sz, .im (.int 3), .im (.str "zero"), .im (.int 3), .un]).go _).out = _
      rw [s6, go_nx, dSs_cons]
      have fin := fin sz (.im (.int 3)) (.im (.str "zero")) (.im (.int 3)) .un
      have fin : dS (run txt (n + k + 1 + 1)) (subL txt.sub) b7S7 [.im (.tup [.str "zero", .int (a : Nat), q]), .im (.int ((deep + 1 : Nat) : Int)), sz, .im (.int 3), .im (.str "zero"), .im (.int 3), .un] = .rt (.bl true) := fin
      rw [fin, go_rt, out_rt]
    | sign a ha =>
      obtain ⟨q, rfl⟩ : ∃ q, kids = [q] := by
        match kids, hm with
        | [q], _ => exact ⟨q, rfl⟩
      have s3 : ∀ (T : Nat → List D → R D) (v dp a3 a6 : Slot), dS T (subL txt.sub) b7S3 [v, dp, sz, a3, .im (.str "sign"), .im (.int 3), a6] = .nx [v, dp, sz, .im (.int 3), .im (.str "sign"), .im (.int 3), a6] := fun _ _ _ _ _ => by kernel_rfl
      have s4 : ∀ (T : Nat → List D → R D) (v dp a6 : Slot), dS T (subL txt.sub) b7S4 [v, dp, sz, .im (.int 3), .im (.str "sign"), .im (.int 3), a6] = .nx [v, dp, sz, .im (.int 3), .im (.str "sign"), .im (.int 3), a6] := fun _ _ _ _ => by kernel_rfl
      have s5 : ∀ (T : Nat → List D → R D) (v dp a6 : Slot), dS T (subL txt.sub) b7S5 [v, dp, sz, .im (.int 3), .im (.str "sign"), .im (.int 3), a6] = .nx [v, dp, sz, .im (.int 3), .im (.str "sign"), .im (.int 3), a6] := fun _ _ _ _ => by kernel_rfl
      have dl := whole16 (n + k + 1) (run txt (n + k + 1 + 1)) rfl (ds := [.int (a : Nat)]) (fun d hd => by
        simp only [List.mem_cons, List.not_mem_nil, or_false] at hd
        rcases hd with rfl
        exact ⟨a, rfl, ha⟩) (by show _ < 16777216; simp) (.im (.tup [.str "sign", .int (a : Nat), q])) (.im (.int ((deep + 1 : Nat) : Int))) sz (.im (.int 3)) (.im (.str "sign")) (.im (.int 3)) .un (it := .seq (.sl (.var 0) (.to (.cst (.int 1))) (.to (.gix "FIRST" [("word" , (.int 3)), ("var" , (.int 2)), ("part" , (.int 3)), ("zero" , (.int 2)), ("sign" , (.int 2))] (.var 4))))) (by kernel_rfl)
      have i1 : cmpD .in_ (.str "sign") (.tup [.str "part", .str "zero", .str "sign"]) = some true := by kernel_rfl
      have s6 : dS (run txt (n + k + 1 + 1)) (subL txt.sub) b7S6 [.im (.tup [.str "sign", .int (a : Nat), q]), .im (.int ((deep + 1 : Nat) : Int)), sz, .im (.int 3), .im (.str "sign"), .im (.int 3), .un] = .nx [.im (.tup [.str "sign", .int (a : Nat), q]), .im (.int ((deep + 1 : Nat) : Int)), sz, .im (.int 3), .im (.str "sign"), .im (.int 3), .un] := by
        have tt : dT (run txt (n + k + 1 + 1)) (.not_ (.blt .all (.cons (.ev (.comp b7C0 [6] (.nm 6) (.seq (.sl (.var 0) (.to (.cst (.int 1))) (.to (.gix "FIRST" [("word" , (.int 3)), ("var" , (.int 2)), ("part" , (.int 3)), ("zero" , (.int 2)), ("sign" , (.int 2))] (.var 4))))) (.cst (.bl true)))) .nil))) [.im (.tup [.str "sign", .int (a : Nat), q]), .im (.int ((deep + 1 : Nat) : Int)), sz, .im (.int 3), .im (.str "sign"), .im (.int 3), .un] = .ok false := by
          rw [dT_not, dT_blt, dl]; rfl
        have t0 : dT (run txt (n + k + 1 + 1)) (.cmp .in_ (.own 4) (.ev (.tup (.cons (.cst (.str "part")) (.cons (.cst (.str "zero")) (.cons (.cst (.str "sign")) .nil)))))) [.im (.tup [.str "sign", .int (a : Nat), q]), .im (.int ((deep + 1 : Nat) : Int)), sz, .im (.int 3), .im (.str "sign"), .im (.int 3), .un] = .ok true := by kernel_rfl
        rw [b7S6, dS_ite, frzL_nil, t0, fl_ok, if_pos rfl, dSs_cons, dS_ite, frzL_nil, tt, fl_ok, if_neg (by decide), dSs_nil, go_nx, dSs_nil]
      rw [dSs_cons]
      show ((dS _ _ b7S3 [_, _, sz, _, .im (.str "sign"), .im (.int 3), _]).go _).out = _
      rw [s3, go_nx, dSs_cons, s4, go_nx, dSs_cons, s5, go_nx, dSs_cons]
      show ((dS (run txt (n + k + 1 + 1)) (subL txt.sub) b7S6 [.im (.tup [.str "sign", .int (a : Nat), q]), .im (.int ((deep + 1 : Nat) : Int)), sz, .im (.int 3), .im (.str "sign"), .im (.int 3), .un]).go _).out = _
      rw [s6, go_nx, dSs_cons]
      have fin := fin sz (.im (.int 3)) (.im (.str "sign")) (.im (.int 3)) .un
      have fin : dS (run txt (n + k + 1 + 1)) (subL txt.sub) b7S7 [.im (.tup [.str "sign", .int (a : Nat), q]), .im (.int ((deep + 1 : Nat) : Int)), sz, .im (.int 3), .im (.str "sign"), .im (.int 3), .un] = .rt (.bl true) := fin
      rw [fin, go_rt, out_rt]
theorem run_has (k : Nat) (d : D) (h : Sh 7 d) (hc : cnt 7 d ≤ 60) : run txt (k + 10) 8 [d] = .ok (.bl true) := by
  rw [run_s (d := d8) rfl rfl]
  show (dSs _ _ b8 [.im d]).out = _
  have a := run_shape 7 k d 7 h (by omega)
  have b := run_count 7 (k + 1) d h
  have c : cmpD .le (.int (cnt 7 d : Nat)) (.int 60) = some true := by
    show some (decide (((cnt 7 d : Nat) : Int) ≤ 60)) = _
    rw [decide_eq_true (by omega)]
  have a : run txt (k + 9) 7 [d, .int 7] = .ok (.bl true) := by rw [show k + 9 = 7 + k + 2 from by omega]; exact a
  have b : run txt (k + 9) 6 [d] = .ok (.int (cnt 7 d : Nat)) := by rw [show k + 9 = 7 + (k + 1) + 1 from by omega]; exact b
  simp only [b8, dE_cst, dE_glb, dE_var, dE_bin, dE_neg, dE_cmp, dE_chn, dE_and, dE_or, dE_not, dE_ite, dE_tup, dE_lst, dE_call, dE_blt, dE_mkb, dE_isi, dE_ix, dE_sl, dE_rev, dE_comp, dE_gget, dE_gix, dE_dget1, dE_dget, dE_dis, asDic, dT_cst, dT_var, dT_bin, dT_cmp, dT_chn, dT_call, dT_blt, dT_isi, dT_ix, dT_ite, dT_and, dT_or, dT_not, dO_own, dO_ev, dBd_no, dBd_to, dBs_nil, dBs_cons, dEs_nil, dEs_cons, dIt_seq, dIt_rng1, dIt_rng2, dIt_enm, dIt_zip, dS_set, dS_unp, dS_par, dS_aug, dS_ret, dS_retN, dS_ite, dS_fo, dS_pass, dS_rai, dS_exp, dS_tr, dSs_nil, dSs_cons, go_nx, go_rt, go_exc, fl_ok, fl_exc, bind_ok, bind_exc, of_some, calm_ok, flof_some, look_0, look_s, lookB_im, lookB_ow, lookB_s, frzL_nil, frzL_cons, frz1_im, frz1_un, frz1_ow, frz1_s, tg_nm, tg_tp, tg_tpl, tgs_nil, tgs_cons, obind, set_0, set_s, lp_nx, lp_ct, lp_bk, lp_rt, lp_exc, out_rt, out_nx, out_exc, ownList, isFr, Bool.and_true, Bool.and_false, Bool.true_and, Bool.false_and, Bool.not_true, Bool.not_false, binD, addD, augD, truD, if_true, if_false, Bool.false_eq_true, ↓reduceIte, startE_nil, startE_cons, reduceCtorEq, decide_true, decide_false, tyD, a, b, c]
theorem run_check (k : Nat) (d : D) (h : Sh 7 d) (hc : cnt 7 d ≤ 60) : run txt (k + 11) 9 [d] = .ok .non := by
  rw [run_s (d := d9) rfl rfl]
  show (dSs _ _ b9 [.im d]).out = _
  simp only [b9, dE_cst, dE_glb, dE_var, dE_bin, dE_neg, dE_cmp, dE_chn, dE_and, dE_or, dE_not, dE_ite, dE_tup, dE_lst, dE_call, dE_blt, dE_mkb, dE_isi, dE_ix, dE_sl, dE_rev, dE_comp, dE_gget, dE_gix, dE_dget1, dE_dget, dE_dis, asDic, dT_cst, dT_var, dT_bin, dT_cmp, dT_chn, dT_call, dT_blt, dT_isi, dT_ix, dT_ite, dT_and, dT_or, dT_not, dO_own, dO_ev, dBd_no, dBd_to, dBs_nil, dBs_cons, dEs_nil, dEs_cons, dIt_seq, dIt_rng1, dIt_rng2, dIt_enm, dIt_zip, dS_set, dS_unp, dS_par, dS_aug, dS_ret, dS_retN, dS_ite, dS_fo, dS_pass, dS_rai, dS_exp, dS_tr, dSs_nil, dSs_cons, go_nx, go_rt, go_exc, fl_ok, fl_exc, bind_ok, bind_exc, of_some, calm_ok, flof_some, look_0, look_s, lookB_im, lookB_ow, lookB_s, frzL_nil, frzL_cons, frz1_im, frz1_un, frz1_ow, frz1_s, tg_nm, tg_tp, tg_tpl, tgs_nil, tgs_cons, obind, set_0, set_s, lp_nx, lp_ct, lp_bk, lp_rt, lp_exc, out_rt, out_nx, out_exc, ownList, isFr, Bool.and_true, Bool.and_false, Bool.true_and, Bool.false_and, Bool.not_true, Bool.not_false, binD, addD, augD, truD, if_true, if_false, Bool.false_eq_true, ↓reduceIte, startE_nil, startE_cons, reduceCtorEq, decide_true, decide_false, tyD, run_has k d h hc]
end Law
namespace Law
open PySem PySem.Spec PyProof.Rows L2 Z
/-! ### places -/
theorem add_tup {xs ys : List D} (h : xs.length + ys.length ≤ 1000000) : binD .add (.tup xs) (.tup ys) = some (.tup (xs ++ ys)) := by
  show (if xs.length + ys.length ≤ lim then some (D.tup (xs ++ ys)) else none) = _
  exact if_pos (by show _ ≤ 16777216; omega)
theorem add_lst {xs ys : List D} (h : xs.length + ys.length ≤ 1000000) : binD .add (.lst xs) (.lst ys) = some (.lst (xs ++ ys)) := by
  show (if xs.length + ys.length ≤ lim then some (D.lst (xs ++ ys)) else none) = _
  exact if_pos (by show _ ≤ 16777216; omega)
theorem snocI {ab : List Int} {j : Int} : ab.map D.int ++ [D.int j] = (ab ++ [j]).map D.int := by rw [List.map_append]; rfl
theorem add_abv {ab : List Int} {j : Int} (h : ab.length ≤ 1000) : binD .add (tupI ab) (.tup [.int j]) = some (tupI (ab ++ [j])) := by
  show binD .add (.tup (ab.map .int)) (.tup [.int j]) = _
  rw [add_tup (by rw [List.length_map, List.length_cons, List.length_nil]; omega), snocI]
  rfl
theorem dS_ext {T : Nat → List D → R D} {sub} {fz i e} {ρ : Env'} : dS T sub (.ext fz i e) ρ = match (frzL ρ fz)[i]? with
    | some (.ow (.lst ds)) => (dE T e (frzL ρ fz)).fl (frzL ρ fz) fun d => match d with
      | .lst es => if ds.length + es.length ≤ lim then .nx ((frzL ρ fz).set i (.ow (.lst (ds ++ es)))) else .bad
      | _ => .bad
    | _ => .bad := rfl
def pT (p : List Int × D) : D := tupI p.1
def pP (p : List Int × D) : D := .tup [tupI p.1, p.2]
theorem places_loop {T : Nat → List D → R D} {sub} (d : D) (ab : List Int) (hab : ab.length ≤ 1000) (f : D → List Int → List (List Int × D)) (B : Nat) : ∀ (ks : List D) (j : Nat) (L : List D) (s3 s4 : Slot),
    (∀ q ∈ ks, ∀ c : Int, T 10 [q, tupI (ab ++ [c])] = .ok (.lst ((f q (ab ++ [c])).map pT)) ∧ (f q (ab ++ [c])).length ≤ B) → L.length + ks.length * B ≤ 1000000 →
    ∃ s3' s4', forL (dTg (.tp (.cons (.nm 3) (.cons (.nm 4) .nil)))) (dSs T sub b10L0) (enumL j ks) [.im d, .im (tupI ab), .ow (.lst L), s3, s4] = .nx [.im d, .im (tupI ab), .ow (.lst (L ++ (plcL f ab j ks).map pT)), s3', s4']
  | [], j, L, s3, s4, _, _ => ⟨s3, s4, by show Fl.nx _ = _; rw [show plcL f ab j [] = [] from rfl, List.map_nil, List.append_nil]⟩
  | q :: r, j, L, s3, s4, h, hl => by
    obtain ⟨h1, h2⟩ := h q List.mem_cons_self (j : Int)
    rw [List.length_cons, Nat.succ_mul] at hl
    obtain ⟨s3', s4', ih⟩ := places_loop (T := T) (sub := sub) d ab hab f B r (j + 1) (L ++ (f q (ab ++ [(j : Int)])).map pT) (.im (.int (j : Int))) (.im q) (fun z hz => h z (List.mem_cons_of_mem _ hz)) (by rw [List.length_append, List.length_map]; omega)
    refine ⟨s3', s4', ?_⟩
    have e : enumL j (q :: r) = .tup [.int (j : Int), q] :: enumL (j + 1) r := rfl
    rw [e, forL_cons (ρ1 := [.im d, .im (tupI ab), .ow (.lst L), .im (.int (j : Int)), .im q]) rfl]
    have b : dSs T sub b10L0 [.im d, .im (tupI ab), .ow (.lst L), .im (.int (j : Int)), .im q] = .nx [.im d, .im (tupI ab), .ow (.lst (L ++ (f q (ab ++ [(j : Int)])).map pT)), .im (.int (j : Int)), .im q] := by
      have ex : dE T (.call 10 (.cons (.var 4) (.cons (.bin .add (.var 1) (.tup (.cons (.var 3) .nil))) .nil))) [.im d, .im (tupI ab), .ow (.lst L), .im (.int (j : Int)), .im q] = .ok (.lst ((f q (ab ++ [(j : Int)])).map pT)) := by
        simp only [dE_cst, dE_glb, dE_var, dE_bin, dE_neg, dE_cmp, dE_chn, dE_and, dE_or, dE_not, dE_ite, dE_tup, dE_lst, dE_call, dE_blt, dE_mkb, dE_isi, dE_ix, dE_sl, dE_rev, dE_comp, dE_gget, dE_gix, dE_dget1, dE_dget, dE_dis, asDic, dT_cst, dT_var, dT_bin, dT_cmp, dT_chn, dT_call, dT_blt, dT_isi, dT_ix, dT_ite, dT_and, dT_or, dT_not, dO_own, dO_ev, dBd_no, dBd_to, dBs_nil, dBs_cons, dEs_nil, dEs_cons, dIt_seq, dIt_rng1, dIt_rng2, dIt_enm, dIt_zip, dS_set, dS_unp, dS_par, dS_aug, dS_ret, dS_retN, dS_ite, dS_fo, dS_pass, dS_rai, dS_exp, dS_tr, dSs_nil, dSs_cons, go_nx, go_rt, go_exc, fl_ok, fl_exc, bind_ok, bind_exc, of_some, calm_ok, flof_some, look_0, look_s, lookB_im, lookB_ow, lookB_s, frzL_nil, frzL_cons, frz1_im, frz1_un, frz1_ow, frz1_s, tg_nm, tg_tp, tg_tpl, tgs_nil, tgs_cons, obind, set_0, set_s, lp_nx, lp_ct, lp_bk, lp_rt, lp_exc, out_rt, out_nx, out_exc, ownList, isFr, Bool.and_true, Bool.and_false, Bool.true_and, Bool.false_and, Bool.not_true, Bool.not_false, truD, if_true, if_false, Bool.false_eq_true, ↓reduceIte, startE_nil, startE_cons, reduceCtorEq, decide_true, decide_false, tyD, (by decide : (0 + 1 ≤ lim) = True), List.length_cons, List.length_nil, add_abv hab, h1]
      have st : dS T sub (.ext [] 2 (.call 10 (.cons (.var 4) (.cons (.bin .add (.var 1) (.tup (.cons (.var 3) .nil))) .nil)))) [.im d, .im (tupI ab), .ow (.lst L), .im (.int (j : Int)), .im q] = .nx [.im d, .im (tupI ab), .ow (.lst (L ++ (f q (ab ++ [(j : Int)])).map pT)), .im (.int (j : Int)), .im q] := by
        rw [dS_ext, frzL_nil]
        show (dE T _ _).fl _ _ = _
        rw [ex, fl_ok]
        show (if _ then _ else _) = _
        rw [if_pos (by rw [List.length_map]; show _ ≤ 16777216; omega)]
        rfl
      rw [b10L0, dSs_cons, st, go_nx, dSs_nil]
    rw [b, lp_nx, ih]
    show Fl.nx _ = Fl.nx _
    rw [show plcL f ab j (q :: r) = f q (ab ++ [(j : Int)]) ++ plcL f ab (j + 1) r from rfl, List.map_append, List.append_assoc]
theorem pow4 {n : Nat} (h : n ≤ 8) : 4 ^ n ≤ 65536 := by
  have := Nat.pow_le_pow_right (by decide : 0 < 4) h
  exact this
theorem plc_u {n : Nat} {s : Str} {pre kids : List D} (h1 : Node s pre kids.length) (ab : List Int) : plc (n + 1) (.tup (.str s :: (pre ++ kids))) ab = (ab, .tup (.str s :: (pre ++ kids))) :: plcL (plc n) ab 0 kids := by
  show (_ :: plcL (plc n) ab 0 (kidsOf _)) = _
  rw [kids_eq h1]
theorem run_places : ∀ (n k : Nat) (d : D) (ab : List Int), Sh n d → n ≤ 8 → ab.length + n ≤ 1000 → run txt (n + k + 1) 10 [d, tupI ab] = .ok (.lst ((plc n d ab).map pT))
  | 0, _, _, _, h, _, _ => h.elim
  | n + 1, k, d, ab, h, hn, ha => by
    obtain ⟨s, pre, kids, rfl, h1, h2⟩ := h
    rw [show n + 1 + k + 1 = (n + k + 1) + 1 from by omega, run_s (d := d10) rfl rfl]
    show (dSs _ _ b10 [.im (.tup (.str s :: (pre ++ kids))), .im (tupI ab), .un, .un, .un]).out = _
    have m := h1.pre.2
    have p4 := pow4 (n := n) (by omega)
    obtain ⟨s3, s4, lp⟩ := places_loop (T := run txt (n + k + 1)) (sub := subL txt.sub) (.tup (.str s :: (pre ++ kids))) ab (by omega) (plc n) (4 ^ n) kids 0 [tupI ab] .un .un (fun q hq c => ⟨run_places n k q _ (h2 q hq) (by omega) (by rw [List.length_append, List.length_singleton]; omega), plc_len n q _ (h2 q hq)⟩) (by
      have : kids.length * 4 ^ n ≤ 3 * 4 ^ n := Nat.mul_le_mul_right _ m
      rw [List.length_singleton]
      omega)
    have it : dIt (run txt (n + k + 1)) (.enm (.call 3 (.cons (.var 0) .nil))) [.im (.tup (.str s :: (pre ++ kids))), .im (tupI ab), .ow (.lst [tupI ab]), .un, .un] = .ok (enumL 0 kids) := by
      simp only [dE_cst, dE_glb, dE_var, dE_bin, dE_neg, dE_cmp, dE_chn, dE_and, dE_or, dE_not, dE_ite, dE_tup, dE_lst, dE_call, dE_blt, dE_mkb, dE_isi, dE_ix, dE_sl, dE_rev, dE_comp, dE_gget, dE_gix, dE_dget1, dE_dget, dE_dis, asDic, dT_cst, dT_var, dT_bin, dT_cmp, dT_chn, dT_call, dT_blt, dT_isi, dT_ix, dT_ite, dT_and, dT_or, dT_not, dO_own, dO_ev, dBd_no, dBd_to, dBs_nil, dBs_cons, dEs_nil, dEs_cons, dIt_seq, dIt_rng1, dIt_rng2, dIt_enm, dIt_zip, dS_set, dS_unp, dS_par, dS_aug, dS_ret, dS_retN, dS_ite, dS_fo, dS_pass, dS_rai, dS_exp, dS_tr, dSs_nil, dSs_cons, go_nx, go_rt, go_exc, fl_ok, fl_exc, bind_ok, bind_exc, of_some, calm_ok, flof_some, look_0, look_s, lookB_im, lookB_ow, lookB_s, frzL_nil, frzL_cons, frz1_im, frz1_un, frz1_ow, frz1_s, tg_nm, tg_tp, tg_tpl, tgs_nil, tgs_cons, obind, set_0, set_s, lp_nx, lp_ct, lp_bk, lp_rt, lp_exc, out_rt, out_nx, out_exc, ownList, isFr, Bool.and_true, Bool.and_false, Bool.true_and, Bool.false_and, Bool.not_true, Bool.not_false, binD, addD, augD, truD, if_true, if_false, Bool.false_eq_true, ↓reduceIte, startE_nil, startE_cons, reduceCtorEq, decide_true, decide_false, tyD, run_inner (n + k) h1, itemsT]
    have s0 : dS (run txt (n + k + 1)) (subL txt.sub) (.set [] 2 true (.lst (.cons (.var 1) .nil))) [.im (.tup (.str s :: (pre ++ kids))), .im (tupI ab), .un, .un, .un] = .nx [.im (.tup (.str s :: (pre ++ kids))), .im (tupI ab), .ow (.lst [tupI ab]), .un, .un] := by
      simp only [dE_cst, dE_glb, dE_var, dE_bin, dE_neg, dE_cmp, dE_chn, dE_and, dE_or, dE_not, dE_ite, dE_tup, dE_lst, dE_call, dE_blt, dE_mkb, dE_isi, dE_ix, dE_sl, dE_rev, dE_comp, dE_gget, dE_gix, dE_dget1, dE_dget, dE_dis, asDic, dT_cst, dT_var, dT_bin, dT_cmp, dT_chn, dT_call, dT_blt, dT_isi, dT_ix, dT_ite, dT_and, dT_or, dT_not, dO_own, dO_ev, dBd_no, dBd_to, dBs_nil, dBs_cons, dEs_nil, dEs_cons, dIt_seq, dIt_rng1, dIt_rng2, dIt_enm, dIt_zip, dS_set, dS_unp, dS_par, dS_aug, dS_ret, dS_retN, dS_ite, dS_fo, dS_pass, dS_rai, dS_exp, dS_tr, dSs_nil, dSs_cons, go_nx, go_rt, go_exc, fl_ok, fl_exc, bind_ok, bind_exc, of_some, calm_ok, flof_some, look_0, look_s, lookB_im, lookB_ow, lookB_s, frzL_nil, frzL_cons, frz1_im, frz1_un, frz1_ow, frz1_s, tg_nm, tg_tp, tg_tpl, tgs_nil, tgs_cons, obind, set_0, set_s, lp_nx, lp_ct, lp_bk, lp_rt, lp_exc, out_rt, out_nx, out_exc, ownList, isFr, Bool.and_true, Bool.and_false, Bool.true_and, Bool.false_and, Bool.not_true, Bool.not_false, binD, addD, augD, truD, if_true, if_false, Bool.false_eq_true, ↓reduceIte, startE_nil, startE_cons, reduceCtorEq, decide_true, decide_false, tyD, List.length_cons, List.length_nil, (by decide : (0 + 1 ≤ lim) = True)]
    rw [b10, dSs_cons, s0, go_nx, dSs_cons, dS_fo, frzL_nil, it, fl_ok, lp, go_nx, dSs_cons]
    simp only [dE_cst, dE_glb, dE_var, dE_bin, dE_neg, dE_cmp, dE_chn, dE_and, dE_or, dE_not, dE_ite, dE_tup, dE_lst, dE_call, dE_blt, dE_mkb, dE_isi, dE_ix, dE_sl, dE_rev, dE_comp, dE_gget, dE_gix, dE_dget1, dE_dget, dE_dis, asDic, dT_cst, dT_var, dT_bin, dT_cmp, dT_chn, dT_call, dT_blt, dT_isi, dT_ix, dT_ite, dT_and, dT_or, dT_not, dO_own, dO_ev, dBd_no, dBd_to, dBs_nil, dBs_cons, dEs_nil, dEs_cons, dIt_seq, dIt_rng1, dIt_rng2, dIt_enm, dIt_zip, dS_set, dS_unp, dS_par, dS_aug, dS_ret, dS_retN, dS_ite, dS_fo, dS_pass, dS_rai, dS_exp, dS_tr, dSs_nil, dSs_cons, go_nx, go_rt, go_exc, fl_ok, fl_exc, bind_ok, bind_exc, of_some, calm_ok, flof_some, look_0, look_s, lookB_im, lookB_ow, lookB_s, frzL_nil, frzL_cons, frz1_im, frz1_un, frz1_ow, frz1_s, tg_nm, tg_tp, tg_tpl, tgs_nil, tgs_cons, obind, set_0, set_s, lp_nx, lp_ct, lp_bk, lp_rt, lp_exc, out_rt, out_nx, out_exc, ownList, isFr, Bool.and_true, Bool.and_false, Bool.true_and, Bool.false_and, Bool.not_true, Bool.not_false, binD, addD, augD, truD, if_true, if_false, Bool.false_eq_true, ↓reduceIte, startE_nil, startE_cons, reduceCtorEq, decide_true, decide_false, tyD]
    rw [plc_u h1, List.map_cons]
    rfl
theorem run_places0 (k : Nat) (d : D) (h : Sh 7 d) : run txt (k + 8) 10 [d, .tup []] = .ok (.lst ((plc 7 d []).map pT)) := by
  have := run_places 7 k d [] h (by omega) (by simp)
  rw [show k + 8 = 7 + k + 1 from by omega]
  exact this
/-! ### the law's places -/
theorem lplaces_loop {T : Nat → List D → R D} {sub} (d : D) (ab : List Int) (hab : ab.length ≤ 1000) (f : D → List Int → List (List Int × D)) (B : Nat) (kids : List D) (s5 : Slot) : ∀ (m j : Nat) (L : List D) (s4 : Slot), j + m = kids.length →
    (∀ q ∈ kids, ∀ c : Int, T 25 [q, tupI (ab ++ [c])] = .ok (.lst ((f q (ab ++ [c])).map pP)) ∧ (f q (ab ++ [c])).length ≤ B) → L.length + m * B ≤ 1000000 →
    ∃ s4', forL (dTg (.nm 4)) (dSs T sub b25L0) (rngL (j : Nat) m) [.im d, .im (tupI ab), .im (.lst L), .im (.lst kids), s4, s5] = .nx [.im d, .im (tupI ab), .im (.lst (L ++ (plcL f ab j (kids.drop j)).map pP)), .im (.lst kids), s4', s5]
  | 0, j, L, s4, hj, _, _ => ⟨s4, by
    rw [List.drop_of_length_le (by omega), show plcL f ab j [] = [] from rfl, List.map_nil, List.append_nil]; rfl⟩
  | m + 1, j, L, s4, hj, h, hl => by
    have hlt : j < kids.length := by omega
    have hq : kids.drop j = kids[j] :: kids.drop (j + 1) := List.drop_eq_getElem_cons hlt
    obtain ⟨h1, h2⟩ := h kids[j] (List.getElem_mem hlt) (j : Int)
    rw [Nat.succ_mul] at hl
    obtain ⟨s4', ih⟩ := lplaces_loop (T := T) (sub := sub) d ab hab f B kids s5 m (j + 1) (L ++ (f kids[j] (ab ++ [(j : Int)])).map pP) (.im (.int (j : Int))) (by omega) h (by rw [List.length_append, List.length_map]; omega)
    refine ⟨s4', ?_⟩
    rw [rngL_cons, forL_cons (ρ1 := [.im d, .im (tupI ab), .im (.lst L), .im (.lst kids), .im (.int (j : Int)), s5]) rfl]
    have ix : ixD (.lst kids) (.int (j : Int)) = some kids[j] := by
      show atI kids (j : Int) = _
      rw [Z.atI_nat hlt, List.getElem?_eq_getElem hlt]
    have b : dSs T sub b25L0 [.im d, .im (tupI ab), .im (.lst L), .im (.lst kids), .im (.int (j : Int)), s5] = .nx [.im d, .im (tupI ab), .im (.lst (L ++ (f kids[j] (ab ++ [(j : Int)])).map pP)), .im (.lst kids), .im (.int (j : Int)), s5] := by
      simp only [b25L0, dE_cst, dE_glb, dE_var, dE_bin, dE_neg, dE_cmp, dE_chn, dE_and, dE_or, dE_not, dE_ite, dE_tup, dE_lst, dE_call, dE_blt, dE_mkb, dE_isi, dE_ix, dE_sl, dE_rev, dE_comp, dE_gget, dE_gix, dE_dget1, dE_dget, dE_dis, asDic, dT_cst, dT_var, dT_bin, dT_cmp, dT_chn, dT_call, dT_blt, dT_isi, dT_ix, dT_ite, dT_and, dT_or, dT_not, dO_own, dO_ev, dBd_no, dBd_to, dBs_nil, dBs_cons, dEs_nil, dEs_cons, dIt_seq, dIt_rng1, dIt_rng2, dIt_enm, dIt_zip, dS_set, dS_unp, dS_par, dS_aug, dS_ret, dS_retN, dS_ite, dS_fo, dS_pass, dS_rai, dS_exp, dS_tr, dSs_nil, dSs_cons, go_nx, go_rt, go_exc, fl_ok, fl_exc, bind_ok, bind_exc, of_some, calm_ok, flof_some, look_0, look_s, lookB_im, lookB_ow, lookB_s, frzL_nil, frzL_cons, frz1_im, frz1_un, frz1_ow, frz1_s, tg_nm, tg_tp, tg_tpl, tgs_nil, tgs_cons, obind, set_0, set_s, lp_nx, lp_ct, lp_bk, lp_rt, lp_exc, out_rt, out_nx, out_exc, ownList, isFr, Bool.and_true, Bool.and_false, Bool.true_and, Bool.false_and, Bool.not_true, Bool.not_false, truD, if_true, if_false, Bool.false_eq_true, ↓reduceIte, startE_nil, startE_cons, reduceCtorEq, decide_true, decide_false, tyD, (by decide : (0 + 1 ≤ lim) = True), List.length_cons, List.length_nil, add_abv hab, ix, h1, add_lst (show L.length + ((f kids[j] (ab ++ [(j : Int)])).map pP).length ≤ 1000000 by rw [List.length_map]; omega)]
    rw [b, lp_nx]
    have e : ((j : Int) + 1) = ((j + 1 : Nat) : Int) := by omega
    rw [e, ih, hq]
    show Fl.nx _ = Fl.nx _
    rw [show plcL f ab j (kids[j] :: kids.drop (j + 1)) = f kids[j] (ab ++ [(j : Int)]) ++ plcL f ab (j + 1) (kids.drop (j + 1)) from rfl, List.map_append, List.append_assoc]
theorem ty_tup {d : D} (h : (∃ xs, d = .tup xs) ∨ (∃ i, d = .int i) ∨ ∃ x, d = .str x) : tyD d .tuple = some (isT d) := by
  rcases h with ⟨_, rfl⟩ | ⟨_, rfl⟩ | ⟨_, rfl⟩ <;> rfl
theorem isi_tup {T : Nat → List D → R D} {ρ : Env'} {i : Nat} {d : D} (h : (∃ xs, d = .tup xs) ∨ (∃ i, d = .int i) ∨ ∃ x, d = .str x) (hi : look ρ i = .ok d := by rfl) : dT T (.isi (.var i) .tuple) ρ = .ok (isT d) := by
  rw [dT_isi, dE_isi, dE_var, hi, bind_ok, ty_tup h]
  rfl
theorem Node.forms {s : Str} {pre kids : List D} {m n : Nat} (h : Node s pre m) (hk : ∀ q ∈ kids, Sh n q) : ∀ d ∈ pre ++ kids, (∃ xs, d = .tup xs) ∨ (∃ i, d = .int i) ∨ ∃ x, d = .str x := fun d hd => by
  rcases List.mem_append.mp hd with z | z
  · cases h <;> simp only [List.mem_cons, List.not_mem_nil, or_false] at z
    · rcases z with rfl | rfl <;> exact .inr (.inl ⟨_, rfl⟩)
    · subst z; exact .inr (.inr ⟨_, rfl⟩)
    · rcases z with rfl | rfl <;> exact .inr (.inl ⟨_, rfl⟩)
    · subst z; exact .inr (.inl ⟨_, rfl⟩)
    · subst z; exact .inr (.inl ⟨_, rfl⟩)
  · have := hk d z
    cases n with
    | zero => exact this.elim
    | succ n => obtain ⟨s, pre, ks, rfl, _⟩ := this; exact .inl ⟨_, rfl⟩
theorem Node.plen {s : Str} {pre : List D} {m : Nat} (h : Node s pre m) : pre.length ≤ 2 := by
  cases h <;> simp
theorem one_drop {x : D} {r : List D} : slD (.tup (x :: r)) (some 1) none = some (.tup r) := by
  have := slt_drop (xs := x :: r) (k := 1)
  exact this
theorem run_lplaces : ∀ (n k : Nat) (d : D) (ab : List Int), Sh n d → n ≤ 8 → ab.length + n ≤ 1000 → run txt (n + k + 1) 25 [d, tupI ab] = .ok (.lst ((plc n d ab).map pP))
  | 0, _, _, _, h, _, _ => h.elim
  | n + 1, k, d, ab, h, hn, ha => by
    obtain ⟨s, pre, kids, rfl, h1, h2⟩ := h
    rw [show n + 1 + k + 1 = (n + k + 1) + 1 from by omega, run_s (d := d25) rfl rfl]
    show (dSs _ _ b25 [.im (.tup (.str s :: (pre ++ kids))), .im (tupI ab), .un, .un, .un, .un]).out = _
    have m := h1.pre.2
    have pl := h1.plen
    have p4 := pow4 (n := n) (by omega)
    have s0 : dS (run txt (n + k + 1)) (subL txt.sub) b25S0 [.im (.tup (.str s :: (pre ++ kids))), .im (tupI ab), .un, .un, .un, .un] = .nx [.im (.tup (.str s :: (pre ++ kids))), .im (tupI ab), .im (.lst [.tup [tupI ab, .tup (.str s :: (pre ++ kids))]]), .un, .un, .un] := by
      simp only [b25S0, dE_cst, dE_glb, dE_var, dE_bin, dE_neg, dE_cmp, dE_chn, dE_and, dE_or, dE_not, dE_ite, dE_tup, dE_lst, dE_call, dE_blt, dE_mkb, dE_isi, dE_ix, dE_sl, dE_rev, dE_comp, dE_gget, dE_gix, dE_dget1, dE_dget, dE_dis, asDic, dT_cst, dT_var, dT_bin, dT_cmp, dT_chn, dT_call, dT_blt, dT_isi, dT_ix, dT_ite, dT_and, dT_or, dT_not, dO_own, dO_ev, dBd_no, dBd_to, dBs_nil, dBs_cons, dEs_nil, dEs_cons, dIt_seq, dIt_rng1, dIt_rng2, dIt_enm, dIt_zip, dS_set, dS_unp, dS_par, dS_aug, dS_ret, dS_retN, dS_ite, dS_fo, dS_pass, dS_rai, dS_exp, dS_tr, dSs_nil, dSs_cons, go_nx, go_rt, go_exc, fl_ok, fl_exc, bind_ok, bind_exc, of_some, calm_ok, flof_some, look_0, look_s, lookB_im, lookB_ow, lookB_s, frzL_nil, frzL_cons, frz1_im, frz1_un, frz1_ow, frz1_s, tg_nm, tg_tp, tg_tpl, tgs_nil, tgs_cons, obind, set_0, set_s, lp_nx, lp_ct, lp_bk, lp_rt, lp_exc, out_rt, out_nx, out_exc, ownList, isFr, Bool.and_true, Bool.and_false, Bool.true_and, Bool.false_and, Bool.not_true, Bool.not_false, binD, addD, augD, truD, if_true, if_false, Bool.false_eq_true, ↓reduceIte, startE_nil, startE_cons, reduceCtorEq, decide_true, decide_false, tyD, List.length_cons, List.length_nil, (by decide : (0 + 1 ≤ lim) = True), (by decide : (0 + 1 + 1 ≤ lim) = True)]
    have c := comp_filter (T := run txt (n + k + 1)) (ρ := [.im (.tup (.str s :: (pre ++ kids))), .im (tupI ab), .im (.lst [.tup [tupI ab, .tup (.str s :: (pre ++ kids))]]), .un, .un, .un]) (x := b25C0) (c := b25T0) (own := [5]) (t := .nm 5) (it := .seq (.sl (.var 0) (.to (.cst (.int 1))) .no)) (ds := pre ++ kids) isT (fun q => q) (it_seq (by simp only [dE_cst, dE_glb, dE_var, dE_bin, dE_neg, dE_cmp, dE_chn, dE_and, dE_or, dE_not, dE_ite, dE_tup, dE_lst, dE_call, dE_blt, dE_mkb, dE_isi, dE_ix, dE_sl, dE_rev, dE_comp, dE_gget, dE_gix, dE_dget1, dE_dget, dE_dis, asDic, dT_cst, dT_var, dT_bin, dT_cmp, dT_chn, dT_call, dT_blt, dT_isi, dT_ix, dT_ite, dT_and, dT_or, dT_not, dO_own, dO_ev, dBd_no, dBd_to, dBs_nil, dBs_cons, dEs_nil, dEs_cons, dIt_seq, dIt_rng1, dIt_rng2, dIt_enm, dIt_zip, dS_set, dS_unp, dS_par, dS_aug, dS_ret, dS_retN, dS_ite, dS_fo, dS_pass, dS_rai, dS_exp, dS_tr, dSs_nil, dSs_cons, go_nx, go_rt, go_exc, fl_ok, fl_exc, bind_ok, bind_exc, of_some, calm_ok, flof_some, look_0, look_s, lookB_im, lookB_ow, lookB_s, frzL_nil, frzL_cons, frz1_im, frz1_un, frz1_ow, frz1_s, tg_nm, tg_tp, tg_tpl, tgs_nil, tgs_cons, obind, set_0, set_s, lp_nx, lp_ct, lp_bk, lp_rt, lp_exc, out_rt, out_nx, out_exc, ownList, isFr, Bool.and_true, Bool.and_false, Bool.true_and, Bool.false_and, Bool.not_true, Bool.not_false, binD, addD, augD, truD, if_true, if_false, Bool.false_eq_true, ↓reduceIte, startE_nil, startE_cons, reduceCtorEq, decide_true, decide_false, tyD, one_drop])) (by show _ < 16777216; rw [List.length_append]; omega) fun q hq => ⟨_, rfl, isi_tup (h1.forms h2 q hq), fun _ => by
        simp only [b25C0, dE_cst, dE_glb, dE_var, dE_bin, dE_neg, dE_cmp, dE_chn, dE_and, dE_or, dE_not, dE_ite, dE_tup, dE_lst, dE_call, dE_blt, dE_mkb, dE_isi, dE_ix, dE_sl, dE_rev, dE_comp, dE_gget, dE_gix, dE_dget1, dE_dget, dE_dis, asDic, dT_cst, dT_var, dT_bin, dT_cmp, dT_chn, dT_call, dT_blt, dT_isi, dT_ix, dT_ite, dT_and, dT_or, dT_not, dO_own, dO_ev, dBd_no, dBd_to, dBs_nil, dBs_cons, dEs_nil, dEs_cons, dIt_seq, dIt_rng1, dIt_rng2, dIt_enm, dIt_zip, dS_set, dS_unp, dS_par, dS_aug, dS_ret, dS_retN, dS_ite, dS_fo, dS_pass, dS_rai, dS_exp, dS_tr, dSs_nil, dSs_cons, go_nx, go_rt, go_exc, fl_ok, fl_exc, bind_ok, bind_exc, of_some, calm_ok, flof_some, look_0, look_s, lookB_im, lookB_ow, lookB_s, frzL_nil, frzL_cons, frz1_im, frz1_un, frz1_ow, frz1_s, tg_nm, tg_tp, tg_tpl, tgs_nil, tgs_cons, obind, set_0, set_s, lp_nx, lp_ct, lp_bk, lp_rt, lp_exc, out_rt, out_nx, out_exc, ownList, isFr, Bool.and_true, Bool.and_false, Bool.true_and, Bool.false_and, Bool.not_true, Bool.not_false, binD, addD, augD, truD, if_true, if_false, Bool.false_eq_true, ↓reduceIte, startE_nil, startE_cons, reduceCtorEq, decide_true, decide_false, tyD, wipeE, List.set_cons_zero, List.set_cons_succ]⟩
    rw [filter_kids h1 h2, List.map_id'] at c
    have s1 : dS (run txt (n + k + 1)) (subL txt.sub) b25S1 [.im (.tup (.str s :: (pre ++ kids))), .im (tupI ab), .im (.lst [.tup [tupI ab, .tup (.str s :: (pre ++ kids))]]), .un, .un, .un] = .nx [.im (.tup (.str s :: (pre ++ kids))), .im (tupI ab), .im (.lst [.tup [tupI ab, .tup (.str s :: (pre ++ kids))]]), .im (.lst kids), .un, .un] := by
      rw [b25S1, dS_set, frzL_nil, c, fl_ok]; rfl
    obtain ⟨s4, lp⟩ := lplaces_loop (T := run txt (n + k + 1)) (sub := subL txt.sub) (.tup (.str s :: (pre ++ kids))) ab (by omega) (plc n) (4 ^ n) kids .un kids.length 0 [.tup [tupI ab, .tup (.str s :: (pre ++ kids))]] .un (by omega) (fun q hq c => ⟨run_lplaces n k q _ (h2 q hq) (by omega) (by rw [List.length_append, List.length_singleton]; omega), plc_len n q _ (h2 q hq)⟩) (by
      have : kids.length * 4 ^ n ≤ 3 * 4 ^ n := Nat.mul_le_mul_right _ m
      rw [List.length_singleton]
      omega)
    have it : dIt (run txt (n + k + 1)) (.rng1 (.blt .len (.cons (.own 3) .nil))) [.im (.tup (.str s :: (pre ++ kids))), .im (tupI ab), .im (.lst [.tup [tupI ab, .tup (.str s :: (pre ++ kids))]]), .im (.lst kids), .un, .un] = .ok (rngL ((0 : Nat) : Int) kids.length) := by
      simp only [dE_cst, dE_glb, dE_var, dE_bin, dE_neg, dE_cmp, dE_chn, dE_and, dE_or, dE_not, dE_ite, dE_tup, dE_lst, dE_call, dE_blt, dE_mkb, dE_isi, dE_ix, dE_sl, dE_rev, dE_comp, dE_gget, dE_gix, dE_dget1, dE_dget, dE_dis, asDic, dT_cst, dT_var, dT_bin, dT_cmp, dT_chn, dT_call, dT_blt, dT_isi, dT_ix, dT_ite, dT_and, dT_or, dT_not, dO_own, dO_ev, dBd_no, dBd_to, dBs_nil, dBs_cons, dEs_nil, dEs_cons, dIt_seq, dIt_rng1, dIt_rng2, dIt_enm, dIt_zip, dS_set, dS_unp, dS_par, dS_aug, dS_ret, dS_retN, dS_ite, dS_fo, dS_pass, dS_rai, dS_exp, dS_tr, dSs_nil, dSs_cons, go_nx, go_rt, go_exc, fl_ok, fl_exc, bind_ok, bind_exc, of_some, calm_ok, flof_some, look_0, look_s, lookB_im, lookB_ow, lookB_s, frzL_nil, frzL_cons, frz1_im, frz1_un, frz1_ow, frz1_s, tg_nm, tg_tp, tg_tpl, tgs_nil, tgs_cons, obind, set_0, set_s, lp_nx, lp_ct, lp_bk, lp_rt, lp_exc, out_rt, out_nx, out_exc, ownList, isFr, Bool.and_true, Bool.and_false, Bool.true_and, Bool.false_and, Bool.not_true, Bool.not_false, binD, addD, augD, truD, if_true, if_false, Bool.false_eq_true, ↓reduceIte, startE_nil, startE_cons, reduceCtorEq, decide_true, decide_false, tyD, len_lst, inRng_nat (show kids.length < 2 ^ 60 by omega), toNat_nat]
      rfl
    rw [b25, dSs_cons, s0, go_nx, dSs_cons, s1, go_nx, dSs_cons, b25S2, dS_fo, frzL_nil, it, fl_ok, lp, go_nx, dSs_cons]
    simp only [b25S3, dE_cst, dE_glb, dE_var, dE_bin, dE_neg, dE_cmp, dE_chn, dE_and, dE_or, dE_not, dE_ite, dE_tup, dE_lst, dE_call, dE_blt, dE_mkb, dE_isi, dE_ix, dE_sl, dE_rev, dE_comp, dE_gget, dE_gix, dE_dget1, dE_dget, dE_dis, asDic, dT_cst, dT_var, dT_bin, dT_cmp, dT_chn, dT_call, dT_blt, dT_isi, dT_ix, dT_ite, dT_and, dT_or, dT_not, dO_own, dO_ev, dBd_no, dBd_to, dBs_nil, dBs_cons, dEs_nil, dEs_cons, dIt_seq, dIt_rng1, dIt_rng2, dIt_enm, dIt_zip, dS_set, dS_unp, dS_par, dS_aug, dS_ret, dS_retN, dS_ite, dS_fo, dS_pass, dS_rai, dS_exp, dS_tr, dSs_nil, dSs_cons, go_nx, go_rt, go_exc, fl_ok, fl_exc, bind_ok, bind_exc, of_some, calm_ok, flof_some, look_0, look_s, lookB_im, lookB_ow, lookB_s, frzL_nil, frzL_cons, frz1_im, frz1_un, frz1_ow, frz1_s, tg_nm, tg_tp, tg_tpl, tgs_nil, tgs_cons, obind, set_0, set_s, lp_nx, lp_ct, lp_bk, lp_rt, lp_exc, out_rt, out_nx, out_exc, ownList, isFr, Bool.and_true, Bool.and_false, Bool.true_and, Bool.false_and, Bool.not_true, Bool.not_false, binD, addD, augD, truD, if_true, if_false, Bool.false_eq_true, ↓reduceIte, startE_nil, startE_cons, reduceCtorEq, decide_true, decide_false, tyD, List.drop_zero]
    rw [plc_u h1, List.map_cons]
    rfl
theorem run_lplaces0 (k : Nat) (d : D) (h : Sh 7 d) : run txt (k + 8) 25 [d, .tup []] = .ok (.lst ((plc 7 d []).map pP)) := by
  have := run_lplaces 7 k d [] h (by omega) (by simp)
  rw [show k + 8 = 7 + k + 1 from by omega]
  exact this
end Law
namespace Law
open PySem PySem.Spec PyProof.Rows L2 Z
/-! ### what stands at a place -/
theorem plc_cases {n : Nat} {s : Str} {pre kids : List D} (h1 : Node s pre kids.length) (h2 : ∀ q ∈ kids, Sh n q) {p : List Int} {y : D} (h : (p, y) ∈ plc (n + 1) (.tup (.str s :: (pre ++ kids))) []) :
    (p = [] ∧ y = .tup (.str s :: (pre ++ kids))) ∨ ∃ (i : Nat) (p' : List Int), p = (i : Int) :: p' ∧ ∃ h : i < kids.length, (p', y) ∈ plc n kids[i] [] := by
  rw [plc_u h1] at h
  rcases List.mem_cons.mp h with e | h
  · cases e; exact .inl ⟨rfl, rfl⟩
  · obtain ⟨i, q, hq, hx⟩ := plcL_mem kids 0 h
    have hi : i < kids.length := by
      rcases Nat.lt_or_ge i kids.length with z | z
      · exact z
      · rw [List.getElem?_eq_none z] at hq; cases hq
    rw [List.getElem?_eq_getElem hi] at hq
    cases hq
    obtain ⟨q', e, _, _, hm⟩ := plc_form n kids[i] _ (h2 _ (List.getElem_mem hi)) _ hx
    have e : p = [] ++ [((0 + i : Nat) : Int)] ++ q' := e
    refine .inr ⟨i, q', by rw [e, Nat.zero_add]; rfl, hi, ?_⟩
    have := hm []
    rw [List.nil_append] at this
    exact this
theorem ix_tup {xs : List D} {i : Nat} (h : i < xs.length) : ixD (.tup xs) (.int (i : Nat)) = some xs[i] := by
  show atI xs (i : Int) = _
  rw [Z.atI_nat h, List.getElem?_eq_getElem h]
theorem stands_loop (k : Nat) {sub} (pl : Slot) : ∀ (n : Nat) (d : D), Sh n d → ∀ (p : List Int) (y : D), (p, y) ∈ plc n d [] → ∀ s2 : Slot, ∃ s2', forL (dTg (.nm 2)) (dSs (run txt (k + 1)) sub b12L0) (p.map .int) [.im d, pl, s2] = .nx [.im y, pl, s2']
  | 0, _, h, _, _, _, _ => h.elim
  | n + 1, d, h, p, y, hp, s2 => by
    obtain ⟨s, pre, kids, rfl, h1, h2⟩ := h
    rcases plc_cases h1 h2 hp with ⟨rfl, rfl⟩ | ⟨i, p', rfl, hi, hm⟩
    · exact ⟨s2, rfl⟩
    · obtain ⟨s2', ih⟩ := stands_loop k (sub := sub) pl n kids[i] (h2 _ (List.getElem_mem hi)) p' y hm (.im (.int (i : Nat)))
      refine ⟨s2', ?_⟩
      rw [List.map_cons, forL_cons (ρ1 := [.im (.tup (.str s :: (pre ++ kids))), pl, .im (.int (i : Nat))]) rfl]
      have b : dSs (run txt (k + 1)) sub b12L0 [.im (.tup (.str s :: (pre ++ kids))), pl, .im (.int (i : Nat))] = .nx [.im kids[i], pl, .im (.int (i : Nat))] := by
        simp only [b12L0, dE_cst, dE_glb, dE_var, dE_bin, dE_neg, dE_cmp, dE_chn, dE_and, dE_or, dE_not, dE_ite, dE_tup, dE_lst, dE_call, dE_blt, dE_mkb, dE_isi, dE_ix, dE_sl, dE_rev, dE_comp, dE_gget, dE_gix, dE_dget1, dE_dget, dE_dis, asDic, dT_cst, dT_var, dT_bin, dT_cmp, dT_chn, dT_call, dT_blt, dT_isi, dT_ix, dT_ite, dT_and, dT_or, dT_not, dO_own, dO_ev, dBd_no, dBd_to, dBs_nil, dBs_cons, dEs_nil, dEs_cons, dIt_seq, dIt_rng1, dIt_rng2, dIt_enm, dIt_zip, dS_set, dS_unp, dS_par, dS_aug, dS_ret, dS_retN, dS_ite, dS_fo, dS_pass, dS_rai, dS_exp, dS_tr, dSs_nil, dSs_cons, go_nx, go_rt, go_exc, fl_ok, fl_exc, bind_ok, bind_exc, of_some, calm_ok, flof_some, look_0, look_s, lookB_im, lookB_ow, lookB_s, frzL_nil, frzL_cons, frz1_im, frz1_un, frz1_ow, frz1_s, tg_nm, tg_tp, tg_tpl, tgs_nil, tgs_cons, obind, set_0, set_s, lp_nx, lp_ct, lp_bk, lp_rt, lp_exc, out_rt, out_nx, out_exc, ownList, isFr, Bool.and_true, Bool.and_false, Bool.true_and, Bool.false_and, Bool.not_true, Bool.not_false, binD, addD, augD, truD, if_true, if_false, Bool.false_eq_true, ↓reduceIte, startE_nil, startE_cons, reduceCtorEq, decide_true, decide_false, tyD, run_inner k h1, ix_tup hi]
      rw [b, lp_nx, ih]
theorem run_stands (k n : Nat) {d : D} (h : Sh n d) {p : List Int} {y : D} (hp : (p, y) ∈ plc n d []) : run txt (k + 2) 12 [d, tupI p] = .ok y := by
  rw [run_s (d := d12) rfl rfl]
  show (dSs _ _ b12 [.im d, .im (tupI p), .un]).out = _
  obtain ⟨s2, lp⟩ := stands_loop k (sub := subL txt.sub) (.im (tupI p)) n d h p y hp .un
  have it : dIt (run txt (k + 1)) (.seq (.var 1)) [.im d, .im (tupI p), .un] = .ok (p.map .int) := rfl
  rw [b12, dSs_cons, dS_fo, frzL_nil, it, fl_ok, lp, go_nx, dSs_cons]
  simp only [dE_cst, dE_glb, dE_var, dE_bin, dE_neg, dE_cmp, dE_chn, dE_and, dE_or, dE_not, dE_ite, dE_tup, dE_lst, dE_call, dE_blt, dE_mkb, dE_isi, dE_ix, dE_sl, dE_rev, dE_comp, dE_gget, dE_gix, dE_dget1, dE_dget, dE_dis, asDic, dT_cst, dT_var, dT_bin, dT_cmp, dT_chn, dT_call, dT_blt, dT_isi, dT_ix, dT_ite, dT_and, dT_or, dT_not, dO_own, dO_ev, dBd_no, dBd_to, dBs_nil, dBs_cons, dEs_nil, dEs_cons, dIt_seq, dIt_rng1, dIt_rng2, dIt_enm, dIt_zip, dS_set, dS_unp, dS_par, dS_aug, dS_ret, dS_retN, dS_ite, dS_fo, dS_pass, dS_rai, dS_exp, dS_tr, dSs_nil, dSs_cons, go_nx, go_rt, go_exc, fl_ok, fl_exc, bind_ok, bind_exc, of_some, calm_ok, flof_some, look_0, look_s, lookB_im, lookB_ow, lookB_s, frzL_nil, frzL_cons, frz1_im, frz1_un, frz1_ow, frz1_s, tg_nm, tg_tp, tg_tpl, tgs_nil, tgs_cons, obind, set_0, set_s, lp_nx, lp_ct, lp_bk, lp_rt, lp_exc, out_rt, out_nx, out_exc, ownList, isFr, Bool.and_true, Bool.and_false, Bool.true_and, Bool.false_and, Bool.not_true, Bool.not_false, binD, addD, augD, truD, if_true, if_false, Bool.false_eq_true, ↓reduceIte, startE_nil, startE_cons, reduceCtorEq, decide_true, decide_false, tyD]
/-! ### another value put there -/
def putN (o : D) : List Int → D → D
  | [], _ => o
  | i :: p, d => (match d with
    | .tup (.str s :: r) => .tup ((.str s :: r).take (firstN s + i.toNat) ++ [putN o p ((.str s :: r).getD (firstN s + i.toNat) .non)] ++ (.str s :: r).drop (firstN s + i.toNat + 1))
    | d => d)
theorem node_at {s : Str} {pre kids : List D} {m i : Nat} (h1 : Node s pre m) (hi : i < kids.length) : ∃ h : firstN s + i < (D.str s :: (pre ++ kids)).length, (D.str s :: (pre ++ kids))[firstN s + i] = kids[i] := by
  have e := h1.pre.1
  have hl : firstN s + i < (D.str s :: (pre ++ kids)).length := by rw [List.length_cons, List.length_append]; omega
  refine ⟨hl, ?_⟩
  have e2 : firstN s + i = (pre.length + i) + 1 := by omega
  simp only [e2, List.getElem_cons_succ]
  rw [List.getElem_append_right (by omega)]
  congr 1
  omega
theorem flat_ti (p : List Int) : flat 60 (tupI p) = true := flatL_ints 59 p
theorem eq_ti (p q : List Int) : cmpD .eq (tupI p) (tupI q) = some (decide (p = q)) := by
  show (if (flat 60 (tupI p) && flat 60 (tupI q)) = true then some (eqvL (p.map .int) (q.map .int)) else none) = _
  rw [flat_ti, flat_ti, eqvL_ints]
  rfl
theorem eq_nil (p : List Int) : cmpD .eq (tupI p) (.tup []) = some (decide (p = [])) := eq_ti p []
theorem ti_ix {i : Int} {p : List Int} : ixD (tupI (i :: p)) (.int 0) = some (.int i) := ix0
theorem ti_sl {i : Int} {p : List Int} : slD (tupI (i :: p)) (some 1) none = some (tupI p) := one_drop
theorem putN_u {o : D} {i : Nat} {p : List Int} {s : Str} {r : List D} : putN o ((i : Int) :: p) (.tup (.str s :: r)) = .tup ((.str s :: r).take (firstN s + i) ++ [putN o p ((.str s :: r).getD (firstN s + i) .non)] ++ (.str s :: r).drop (firstN s + i + 1)) := by
  show (D.tup ((.str s :: r).take (firstN s + (i : Int).toNat) ++ _ ++ _)) = _
  rw [toNat_nat]
/-- what both defs make of a node -/
theorem put_tail (T : Nat → List D → R D) (f : Nat) (ρ : Env') (s : Str) (pre kids : List D) (h1 : Node s pre kids.length) (i : Nat) (hi : i < kids.length) (p : List Int) (o r : D) (h0 : look ρ 0 = .ok (.tup (.str s :: (pre ++ kids)))) (h0b : lookB ρ 0 = .ok (.tup (.str s :: (pre ++ kids)))) (g1 : look ρ 1 = .ok (tupI ((i : Int) :: p))) (g2 : look ρ 2 = .ok o) (g3 : look ρ 3 = .ok (.int ((firstN s + i : Nat) : Int)))
    (hT : T f [kids[i], tupI p, o] = .ok r) :
    dE T (.bin .add (.bin .add (.sl (.var 0) .no (.to (.var 3))) (.tup (.cons (.call f (.cons (.ix (.own 0) (.var 3)) (.cons (.sl (.var 1) (.to (.cst (.int 1))) .no) (.cons (.var 2) .nil)))) .nil))) (.sl (.var 0) (.to (.bin .add (.var 3) (.cst (.int 1)))) .no)) ρ =
      .ok (.tup ((D.str s :: (pre ++ kids)).take (firstN s + i) ++ [r] ++ (D.str s :: (pre ++ kids)).drop (firstN s + i + 1))) := by
  have pl := h1.plen
  have m := h1.pre.2
  obtain ⟨hl, e⟩ := node_at h1 hi
  have e1 : (((firstN s + i : Nat) : Int) + 1) = ((firstN s + i + 1 : Nat) : Int) := by omega
  have a1 : binD .add (.tup ((D.str s :: (pre ++ kids)).take (firstN s + i))) (.tup [r]) = some (.tup ((D.str s :: (pre ++ kids)).take (firstN s + i) ++ [r])) := add_tup (by rw [List.length_take, List.length_cons, List.length_append, List.length_cons, List.length_nil]; omega)
  have a2 : binD .add (.tup ((D.str s :: (pre ++ kids)).take (firstN s + i) ++ [r])) (.tup ((D.str s :: (pre ++ kids)).drop (firstN s + i + 1))) = some (.tup ((D.str s :: (pre ++ kids)).take (firstN s + i) ++ [r] ++ (D.str s :: (pre ++ kids)).drop (firstN s + i + 1))) := add_tup (by rw [List.length_append, List.length_take, List.length_drop, List.length_cons, List.length_append, List.length_cons, List.length_nil]; omega)
  have a3 : binD .add (.int ((firstN s + i : Nat) : Int)) (.int 1) = some (.int ((firstN s + i + 1 : Nat) : Int)) := by
    show some (D.int (((firstN s + i : Nat) : Int) + 1)) = _
    rw [e1]
  have ix := ix_tup hl
  rw [e] at ix
  simp only [dE_bin, dE_sl, dE_tup, dE_call, dE_var, dE_ix, dE_cst, dBd_no, dBd_to, dEs_cons, dEs_nil, dO_own, h0, h0b, g1, g2, g3, bind_ok, of_some, slt_take, slt_drop, a3, ix, ti_sl, hT, List.length_cons, List.length_nil, (by decide : (0 + 1 ≤ lim) = True), if_true, a1, a2]
theorem run_put : ∀ (n k : Nat) (d o : D), Sh n d → ∀ (p : List Int) (y : D), (p, y) ∈ plc n d [] → run txt (n + k + 1) 13 [d, tupI p, o] = .ok (putN o p d)
  | 0, _, _, _, h, _, _, _ => h.elim
  | n + 1, k, d, o, h, p, y, hp => by
    obtain ⟨s, pre, kids, rfl, h1, h2⟩ := h
    rw [show n + 1 + k + 1 = (n + k + 1) + 1 from by omega, run_s (d := d13) rfl rfl]
    show (dSs _ _ b13 [.im (.tup (.str s :: (pre ++ kids))), .im (tupI p), .im o, .un]).out = _
    rcases plc_cases h1 h2 hp with ⟨rfl, rfl⟩ | ⟨i, p', rfl, hi, hm⟩
    · have e := eq_nil []
      have e : cmpD .eq (tupI []) (.tup []) = some true := e
      simp only [b13, dE_cst, dE_glb, dE_var, dE_bin, dE_neg, dE_cmp, dE_chn, dE_and, dE_or, dE_not, dE_ite, dE_tup, dE_lst, dE_call, dE_blt, dE_mkb, dE_isi, dE_ix, dE_sl, dE_rev, dE_comp, dE_gget, dE_gix, dE_dget1, dE_dget, dE_dis, asDic, dT_cst, dT_var, dT_bin, dT_cmp, dT_chn, dT_call, dT_blt, dT_isi, dT_ix, dT_ite, dT_and, dT_or, dT_not, dO_own, dO_ev, dBd_no, dBd_to, dBs_nil, dBs_cons, dEs_nil, dEs_cons, dIt_seq, dIt_rng1, dIt_rng2, dIt_enm, dIt_zip, dS_set, dS_unp, dS_par, dS_aug, dS_ret, dS_retN, dS_ite, dS_fo, dS_pass, dS_rai, dS_exp, dS_tr, dSs_nil, dSs_cons, go_nx, go_rt, go_exc, fl_ok, fl_exc, bind_ok, bind_exc, of_some, calm_ok, flof_some, look_0, look_s, lookB_im, lookB_ow, lookB_s, frzL_nil, frzL_cons, frz1_im, frz1_un, frz1_ow, frz1_s, tg_nm, tg_tp, tg_tpl, tgs_nil, tgs_cons, obind, set_0, set_s, lp_nx, lp_ct, lp_bk, lp_rt, lp_exc, out_rt, out_nx, out_exc, ownList, isFr, Bool.and_true, Bool.and_false, Bool.true_and, Bool.false_and, Bool.not_true, Bool.not_false, binD, addD, augD, truD, if_true, if_false, Bool.false_eq_true, ↓reduceIte, startE_nil, startE_cons, reduceCtorEq, decide_true, decide_false, tyD, List.length_nil, (by decide : (0 ≤ lim) = True), e]
      rfl
    · have e := eq_nil ((i : Int) :: p')
      rw [decide_eq_false (by simp)] at e
      have ih := run_put n k kids[i] o (h2 _ (List.getElem_mem hi)) p' y hm
      have a3 : binD .add (.int (firstN s : Nat)) (.int (i : Nat)) = some (.int ((firstN s + i : Nat) : Int)) := by
        show some (D.int ((firstN s : Int) + (i : Int))) = _
        rw [← Int.natCast_add]
      have tl := put_tail (run txt (n + k + 1)) 13 [.im (.tup (.str s :: (pre ++ kids))), .im (tupI ((i : Int) :: p')), .im o, .im (.int ((firstN s + i : Nat) : Int))] s pre kids h1 i hi p' o _ rfl rfl rfl rfl rfl ih
      obtain ⟨hl, e4⟩ := node_at h1 hi
      rw [putN_u, List.getD_eq_getElem?_getD, List.getElem?_eq_getElem hl, Option.getD_some, e4]
      have s0 : dS (run txt (n + k + 1)) (subL txt.sub) (.ite [] (.cmp .eq (.own 1) (.ev (.tup .nil))) (.cons (.ret [] (.var 2)) .nil) .nil) [.im (.tup (.str s :: (pre ++ kids))), .im (tupI ((i : Int) :: p')), .im o, .un] = .nx [.im (.tup (.str s :: (pre ++ kids))), .im (tupI ((i : Int) :: p')), .im o, .un] := by
        simp only [dE_cst, dE_glb, dE_var, dE_bin, dE_neg, dE_cmp, dE_chn, dE_and, dE_or, dE_not, dE_ite, dE_tup, dE_lst, dE_call, dE_blt, dE_mkb, dE_isi, dE_ix, dE_sl, dE_rev, dE_comp, dE_gget, dE_gix, dE_dget1, dE_dget, dE_dis, asDic, dT_cst, dT_var, dT_bin, dT_cmp, dT_chn, dT_call, dT_blt, dT_isi, dT_ix, dT_ite, dT_and, dT_or, dT_not, dO_own, dO_ev, dBd_no, dBd_to, dBs_nil, dBs_cons, dEs_nil, dEs_cons, dIt_seq, dIt_rng1, dIt_rng2, dIt_enm, dIt_zip, dS_set, dS_unp, dS_par, dS_aug, dS_ret, dS_retN, dS_ite, dS_fo, dS_pass, dS_rai, dS_exp, dS_tr, dSs_nil, dSs_cons, go_nx, go_rt, go_exc, fl_ok, fl_exc, bind_ok, bind_exc, of_some, calm_ok, flof_some, look_0, look_s, lookB_im, lookB_ow, lookB_s, frzL_nil, frzL_cons, frz1_im, frz1_un, frz1_ow, frz1_s, tg_nm, tg_tp, tg_tpl, tgs_nil, tgs_cons, obind, set_0, set_s, lp_nx, lp_ct, lp_bk, lp_rt, lp_exc, out_rt, out_nx, out_exc, ownList, isFr, Bool.and_true, Bool.and_false, Bool.true_and, Bool.false_and, Bool.not_true, Bool.not_false, binD, addD, augD, truD, if_true, if_false, Bool.false_eq_true, ↓reduceIte, startE_nil, startE_cons, reduceCtorEq, decide_true, decide_false, tyD, List.length_nil, (by decide : (0 ≤ lim) = True), e]
      have s1 : dS (run txt (n + k + 1)) (subL txt.sub) (.set [] 3 false (.bin .add (.gget "FIRST" [("word" , (.int 3)), ("var" , (.int 2)), ("part" , (.int 3)), ("zero" , (.int 2)), ("sign" , (.int 2))] (.ix (.own 0) (.cst (.int 0))) (.cst (.int 1))) (.ix (.own 1) (.cst (.int 0))))) [.im (.tup (.str s :: (pre ++ kids))), .im (tupI ((i : Int) :: p')), .im o, .un] = .nx [.im (.tup (.str s :: (pre ++ kids))), .im (tupI ((i : Int) :: p')), .im o, .im (.int ((firstN s + i : Nat) : Int))] := by
        simp only [dE_cst, dE_glb, dE_var, dE_bin, dE_neg, dE_cmp, dE_chn, dE_and, dE_or, dE_not, dE_ite, dE_tup, dE_lst, dE_call, dE_blt, dE_mkb, dE_isi, dE_ix, dE_sl, dE_rev, dE_comp, dE_gget, dE_gix, dE_dget1, dE_dget, dE_dis, asDic, dT_cst, dT_var, dT_bin, dT_cmp, dT_chn, dT_call, dT_blt, dT_isi, dT_ix, dT_ite, dT_and, dT_or, dT_not, dO_own, dO_ev, dBd_no, dBd_to, dBs_nil, dBs_cons, dEs_nil, dEs_cons, dIt_seq, dIt_rng1, dIt_rng2, dIt_enm, dIt_zip, dS_set, dS_unp, dS_par, dS_aug, dS_ret, dS_retN, dS_ite, dS_fo, dS_pass, dS_rai, dS_exp, dS_tr, dSs_nil, dSs_cons, go_nx, go_rt, go_exc, fl_ok, fl_exc, bind_ok, bind_exc, of_some, calm_ok, flof_some, look_0, look_s, lookB_im, lookB_ow, lookB_s, frzL_nil, frzL_cons, frz1_im, frz1_un, frz1_ow, frz1_s, tg_nm, tg_tp, tg_tpl, tgs_nil, tgs_cons, obind, set_0, set_s, lp_nx, lp_ct, lp_bk, lp_rt, lp_exc, out_rt, out_nx, out_exc, ownList, isFr, Bool.and_true, Bool.and_false, Bool.true_and, Bool.false_and, Bool.not_true, Bool.not_false, truD, if_true, if_false, Bool.false_eq_true, ↓reduceIte, startE_nil, startE_cons, reduceCtorEq, decide_true, decide_false, tyD, ix0, first_eq, ti_ix, a3]
      rw [b13, dSs_cons, s0, go_nx, dSs_cons, s1, go_nx, dSs_cons, dS_ret, frzL_nil, tl, fl_ok, go_rt, out_rt]
theorem run_lput : ∀ (n k : Nat) (d o : D), Sh n d → ∀ (p : List Int) (y : D), (p, y) ∈ plc n d [] → run txt (n + k + 1) 26 [d, tupI p, o] = .ok (putN o p d)
  | 0, _, _, _, h, _, _, _ => h.elim
  | n + 1, k, d, o, h, p, y, hp => by
    obtain ⟨s, pre, kids, rfl, h1, h2⟩ := h
    rw [show n + 1 + k + 1 = (n + k + 1) + 1 from by omega, run_s (d := d26) rfl rfl]
    show (dSs _ _ b26 [.im (.tup (.str s :: (pre ++ kids))), .im (tupI p), .im o, .un, .un]).out = _
    rcases plc_cases h1 h2 hp with ⟨rfl, rfl⟩ | ⟨i, p', rfl, hi, hm⟩
    · have e := eq_nil []
      have e : cmpD .eq (tupI []) (.tup []) = some true := e
      simp only [b26, dE_cst, dE_glb, dE_var, dE_bin, dE_neg, dE_cmp, dE_chn, dE_and, dE_or, dE_not, dE_ite, dE_tup, dE_lst, dE_call, dE_blt, dE_mkb, dE_isi, dE_ix, dE_sl, dE_rev, dE_comp, dE_gget, dE_gix, dE_dget1, dE_dget, dE_dis, asDic, dT_cst, dT_var, dT_bin, dT_cmp, dT_chn, dT_call, dT_blt, dT_isi, dT_ix, dT_ite, dT_and, dT_or, dT_not, dO_own, dO_ev, dBd_no, dBd_to, dBs_nil, dBs_cons, dEs_nil, dEs_cons, dIt_seq, dIt_rng1, dIt_rng2, dIt_enm, dIt_zip, dS_set, dS_unp, dS_par, dS_aug, dS_ret, dS_retN, dS_ite, dS_fo, dS_pass, dS_rai, dS_exp, dS_tr, dSs_nil, dSs_cons, go_nx, go_rt, go_exc, fl_ok, fl_exc, bind_ok, bind_exc, of_some, calm_ok, flof_some, look_0, look_s, lookB_im, lookB_ow, lookB_s, frzL_nil, frzL_cons, frz1_im, frz1_un, frz1_ow, frz1_s, tg_nm, tg_tp, tg_tpl, tgs_nil, tgs_cons, obind, set_0, set_s, lp_nx, lp_ct, lp_bk, lp_rt, lp_exc, out_rt, out_nx, out_exc, ownList, isFr, Bool.and_true, Bool.and_false, Bool.true_and, Bool.false_and, Bool.not_true, Bool.not_false, binD, addD, augD, truD, if_true, if_false, Bool.false_eq_true, ↓reduceIte, startE_nil, startE_cons, reduceCtorEq, decide_true, decide_false, tyD, List.length_nil, (by decide : (0 ≤ lim) = True), e]
      rfl
    · have e := eq_nil ((i : Int) :: p')
      rw [decide_eq_false (by simp)] at e
      have ih := run_lput n k kids[i] o (h2 _ (List.getElem_mem hi)) p' y hm
      have pl := h1.plen
      have m := h1.pre.2
      have fp := h1.pre.1
      have a2 : binD .sub (.int (((D.str s :: (pre ++ kids)).length : Nat) : Int)) (.int ((kids.length : Nat) : Int)) = some (.int (firstN s : Nat)) := by
        show some (D.int ((((D.str s :: (pre ++ kids)).length : Nat) : Int) - (kids.length : Nat))) = _
        rw [List.length_cons, List.length_append]
        congr 2
        omega
      have a3 : binD .add (.int (firstN s : Nat)) (.int (i : Nat)) = some (.int ((firstN s + i : Nat) : Int)) := by
        show some (D.int ((firstN s : Int) + (i : Int))) = _
        rw [← Int.natCast_add]
      have tl := put_tail (run txt (n + k + 1)) 26 [.im (.tup (.str s :: (pre ++ kids))), .im (tupI ((i : Int) :: p')), .im o, .im (.int ((firstN s + i : Nat) : Int)), .un] s pre kids h1 i hi p' o _ rfl rfl rfl rfl rfl ih
      obtain ⟨hl, e4⟩ := node_at h1 hi
      rw [putN_u, List.getD_eq_getElem?_getD, List.getElem?_eq_getElem hl, Option.getD_some, e4]
      have s0 : dS (run txt (n + k + 1)) (subL txt.sub) (.ite [] (.cmp .eq (.own 1) (.ev (.tup .nil))) (.cons (.ret [] (.var 2)) .nil) .nil) [.im (.tup (.str s :: (pre ++ kids))), .im (tupI ((i : Int) :: p')), .im o, .un, .un] = .nx [.im (.tup (.str s :: (pre ++ kids))), .im (tupI ((i : Int) :: p')), .im o, .un, .un] := by
        simp only [dE_cst, dE_glb, dE_var, dE_bin, dE_neg, dE_cmp, dE_chn, dE_and, dE_or, dE_not, dE_ite, dE_tup, dE_lst, dE_call, dE_blt, dE_mkb, dE_isi, dE_ix, dE_sl, dE_rev, dE_comp, dE_gget, dE_gix, dE_dget1, dE_dget, dE_dis, asDic, dT_cst, dT_var, dT_bin, dT_cmp, dT_chn, dT_call, dT_blt, dT_isi, dT_ix, dT_ite, dT_and, dT_or, dT_not, dO_own, dO_ev, dBd_no, dBd_to, dBs_nil, dBs_cons, dEs_nil, dEs_cons, dIt_seq, dIt_rng1, dIt_rng2, dIt_enm, dIt_zip, dS_set, dS_unp, dS_par, dS_aug, dS_ret, dS_retN, dS_ite, dS_fo, dS_pass, dS_rai, dS_exp, dS_tr, dSs_nil, dSs_cons, go_nx, go_rt, go_exc, fl_ok, fl_exc, bind_ok, bind_exc, of_some, calm_ok, flof_some, look_0, look_s, lookB_im, lookB_ow, lookB_s, frzL_nil, frzL_cons, frz1_im, frz1_un, frz1_ow, frz1_s, tg_nm, tg_tp, tg_tpl, tgs_nil, tgs_cons, obind, set_0, set_s, lp_nx, lp_ct, lp_bk, lp_rt, lp_exc, out_rt, out_nx, out_exc, ownList, isFr, Bool.and_true, Bool.and_false, Bool.true_and, Bool.false_and, Bool.not_true, Bool.not_false, binD, addD, augD, truD, if_true, if_false, Bool.false_eq_true, ↓reduceIte, startE_nil, startE_cons, reduceCtorEq, decide_true, decide_false, tyD, List.length_nil, (by decide : (0 ≤ lim) = True), e]
      have c := comp_filter (T := run txt (n + k + 1)) (ρ := [.im (.tup (.str s :: (pre ++ kids))), .im (tupI ((i : Int) :: p')), .im o, .un, .un]) (x := b26C0) (c := b26T0) (own := [4]) (t := .nm 4) (it := .seq (.sl (.var 0) (.to (.cst (.int 1))) .no)) (ds := pre ++ kids) isT (fun q => q) (it_seq (by simp only [dE_cst, dE_glb, dE_var, dE_bin, dE_neg, dE_cmp, dE_chn, dE_and, dE_or, dE_not, dE_ite, dE_tup, dE_lst, dE_call, dE_blt, dE_mkb, dE_isi, dE_ix, dE_sl, dE_rev, dE_comp, dE_gget, dE_gix, dE_dget1, dE_dget, dE_dis, asDic, dT_cst, dT_var, dT_bin, dT_cmp, dT_chn, dT_call, dT_blt, dT_isi, dT_ix, dT_ite, dT_and, dT_or, dT_not, dO_own, dO_ev, dBd_no, dBd_to, dBs_nil, dBs_cons, dEs_nil, dEs_cons, dIt_seq, dIt_rng1, dIt_rng2, dIt_enm, dIt_zip, dS_set, dS_unp, dS_par, dS_aug, dS_ret, dS_retN, dS_ite, dS_fo, dS_pass, dS_rai, dS_exp, dS_tr, dSs_nil, dSs_cons, go_nx, go_rt, go_exc, fl_ok, fl_exc, bind_ok, bind_exc, of_some, calm_ok, flof_some, look_0, look_s, lookB_im, lookB_ow, lookB_s, frzL_nil, frzL_cons, frz1_im, frz1_un, frz1_ow, frz1_s, tg_nm, tg_tp, tg_tpl, tgs_nil, tgs_cons, obind, set_0, set_s, lp_nx, lp_ct, lp_bk, lp_rt, lp_exc, out_rt, out_nx, out_exc, ownList, isFr, Bool.and_true, Bool.and_false, Bool.true_and, Bool.false_and, Bool.not_true, Bool.not_false, binD, addD, augD, truD, if_true, if_false, Bool.false_eq_true, ↓reduceIte, startE_nil, startE_cons, reduceCtorEq, decide_true, decide_false, tyD, one_drop])) (by show _ < 16777216; rw [List.length_append]; omega) fun q hq => ⟨_, rfl, isi_tup (h1.forms h2 q hq), fun _ => by
          simp only [b26C0, dE_cst, dE_glb, dE_var, dE_bin, dE_neg, dE_cmp, dE_chn, dE_and, dE_or, dE_not, dE_ite, dE_tup, dE_lst, dE_call, dE_blt, dE_mkb, dE_isi, dE_ix, dE_sl, dE_rev, dE_comp, dE_gget, dE_gix, dE_dget1, dE_dget, dE_dis, asDic, dT_cst, dT_var, dT_bin, dT_cmp, dT_chn, dT_call, dT_blt, dT_isi, dT_ix, dT_ite, dT_and, dT_or, dT_not, dO_own, dO_ev, dBd_no, dBd_to, dBs_nil, dBs_cons, dEs_nil, dEs_cons, dIt_seq, dIt_rng1, dIt_rng2, dIt_enm, dIt_zip, dS_set, dS_unp, dS_par, dS_aug, dS_ret, dS_retN, dS_ite, dS_fo, dS_pass, dS_rai, dS_exp, dS_tr, dSs_nil, dSs_cons, go_nx, go_rt, go_exc, fl_ok, fl_exc, bind_ok, bind_exc, of_some, calm_ok, flof_some, look_0, look_s, lookB_im, lookB_ow, lookB_s, frzL_nil, frzL_cons, frz1_im, frz1_un, frz1_ow, frz1_s, tg_nm, tg_tp, tg_tpl, tgs_nil, tgs_cons, obind, set_0, set_s, lp_nx, lp_ct, lp_bk, lp_rt, lp_exc, out_rt, out_nx, out_exc, ownList, isFr, Bool.and_true, Bool.and_false, Bool.true_and, Bool.false_and, Bool.not_true, Bool.not_false, binD, addD, augD, truD, if_true, if_false, Bool.false_eq_true, ↓reduceIte, startE_nil, startE_cons, reduceCtorEq, decide_true, decide_false, tyD, wipeE, List.set_cons_zero, List.set_cons_succ]⟩
      rw [filter_kids h1 h2, List.map_id'] at c
      have s1 : dS (run txt (n + k + 1)) (subL txt.sub) (.set [] 3 false (.bin .add (.bin .sub (.blt .len (.cons (.own 0) .nil)) (.blt .len (.cons (.ev (.comp b26C0 [4] (.nm 4) (.seq (.sl (.var 0) (.to (.cst (.int 1))) .no)) b26T0)) .nil))) (.ix (.own 1) (.cst (.int 0))))) [.im (.tup (.str s :: (pre ++ kids))), .im (tupI ((i : Int) :: p')), .im o, .un, .un] = .nx [.im (.tup (.str s :: (pre ++ kids))), .im (tupI ((i : Int) :: p')), .im o, .im (.int ((firstN s + i : Nat) : Int)), .un] := by
        simp only [dS_set, frzL_nil, dE_bin, dE_blt, dBs_cons, dBs_nil, dO_own, dO_ev, lookB_s, lookB_im, c, bind_ok, len_tup, len_lst, of_some, a2, dE_ix, dE_cst, ti_ix, a3, fl_ok, isFr, Bool.and_true, Bool.and_false, Bool.false_and, set_s, set_0, ownList]
      rw [b26, dSs_cons, s0, go_nx, dSs_cons, s1, go_nx, dSs_cons, dS_ret, frzL_nil, tl, fl_ok, go_rt, out_rt]
theorem putN_self : ∀ (n : Nat) (d : D), Sh n d → ∀ (p : List Int) (y : D), (p, y) ∈ plc n d [] → putN y p d = d
  | 0, _, h, _, _, _ => h.elim
  | n + 1, d, h, p, y, hp => by
    obtain ⟨s, pre, kids, rfl, h1, h2⟩ := h
    rcases plc_cases h1 h2 hp with ⟨rfl, rfl⟩ | ⟨i, p', rfl, hi, hm⟩
    · rfl
    · obtain ⟨hl, e4⟩ := node_at h1 hi
      rw [putN_u, List.getD_eq_getElem?_getD, List.getElem?_eq_getElem hl, Option.getD_some, e4, putN_self n kids[i] (h2 _ (List.getElem_mem hi)) p' y hm]
      congr 1
      rw [← e4, List.append_assoc]
      show List.take _ _ ++ (_ :: List.drop _ _) = _
      rw [← List.drop_eq_getElem_cons hl, List.take_append_drop]
end Law
namespace Law
open PySem PySem.Spec PyProof.Rows L2 Z
/-! ### weights -/
def allK : List Str := ["word", "var", "part", "zero", "sign", "not", "neg", "no", "true", "join", "pick", "and", "or", "xor", "add", "sub", "mul", "div", "rem", "shl", "shr", "sar", "same", "below", "less", "both", "either"]
theorem Node.kind {s : Str} {pre : List D} {m : Nat} (h : Node s pre m) : s ∈ allK := by
  cases h with
  | plain s m h =>
    simp only [plainKinds, List.mem_cons, List.not_mem_nil, or_false, Prod.mk.injEq] at h
    simp only [allK, List.mem_cons, List.not_mem_nil, or_false]
    rcases h with ⟨rfl, _⟩ | ⟨rfl, _⟩ | ⟨rfl, _⟩ | ⟨rfl, _⟩ | ⟨rfl, _⟩ | ⟨rfl, _⟩ | ⟨rfl, _⟩ | ⟨rfl, _⟩ | ⟨rfl, _⟩ | ⟨rfl, _⟩ | ⟨rfl, _⟩ | ⟨rfl, _⟩ | ⟨rfl, _⟩ | ⟨rfl, _⟩ | ⟨rfl, _⟩ | ⟨rfl, _⟩ | ⟨rfl, _⟩ | ⟨rfl, _⟩ | ⟨rfl, _⟩ | ⟨rfl, _⟩ | ⟨rfl, _⟩ | ⟨rfl, _⟩ <;> simp
  | _ => simp [allK]
def ownW (s : Str) : Nat := if s = "word" ∨ s = "var" ∨ s = "true" ∨ s = "no" then 1 else if s = "mul" ∨ s = "div" ∨ s = "rem" then 6 else if s = "below" ∨ s = "less" then 5 else if s = "shl" ∨ s = "shr" ∨ s = "sar" then 4 else if s = "pick" then 3 else 2
def wK : List D := [.str "word", .str "var", .str "true", .str "no", .str "mul", .str "div", .str "rem", .str "below", .str "less", .str "shl", .str "shr", .str "sar", .str "pick"]
def wV : List D := [.int 1, .int 1, .int 1, .int 1, .int 6, .int 6, .int 6, .int 5, .int 5, .int 4, .int 4, .int 4, .int 3]
theorem weights {s : Str} (h : s ∈ allK) : (List.lookup s [(("word" : Str), D.int 1), ("var", .int 1), ("true", .int 1), ("no", .int 1), ("mul", .int 6), ("div", .int 6), ("rem", .int 6), ("below", .int 5), ("less", .int 5)]).getD ((List.lookup s [(("shl" : Str), D.int 4), ("shr", .int 4), ("sar", .int 4), ("pick", .int 3)]).getD (.int 2)) = .int (ownW s : Nat) ∧ dgetD wK wV (.str s) (.int 2) = some (.int (ownW s : Nat)) := by
  simp only [allK, List.mem_cons, List.not_mem_nil, or_false] at h
  rcases h with rfl | rfl | rfl | rfl | rfl | rfl | rfl | rfl | rfl | rfl | rfl | rfl | rfl | rfl | rfl | rfl | rfl | rfl | rfl | rfl | rfl | rfl | rfl | rfl | rfl | rfl | rfl <;> exact ⟨by kernel_rfl, by kernel_rfl⟩
def kindOf : D → Str
  | .tup (.str s :: _) => s
  | _ => ""
def wgt : Nat → D → Nat
  | 0, _ => 0
  | n + 1, d => ownW (kindOf d) + ((kidsOf d).map (wgt n)).sum
theorem run_weight : ∀ (n k : Nat) (d : D), Sh n d → run txt (n + k + 1) 18 [d] = .ok (.int (wgt n d : Nat))
  | 0, _, _, h => h.elim
  | n + 1, k, d, h => by
    obtain ⟨s, pre, kids, rfl, h1, h2⟩ := h
    rw [show n + 1 + k + 1 = (n + k + 1) + 1 from by omega, run_s (d := d18) rfl rfl]
    show (dSs _ _ b18 [.im (.tup (.str s :: (pre ++ kids))), .un, .un]).out = _
    have w := (weights h1.kind).1
    have c := comp_map (T := run txt (n + k + 1)) (ρ := [.im (.tup (.str s :: (pre ++ kids))), .im (.int (ownW s : Nat)), .un]) (x := b18C0) (own := [2]) (t := .nm 2) (it := .seq (.call 3 (.cons (.var 0) .nil))) (ds := kids) (fun q => .int (wgt n q : Nat)) (it_seq (by simp only [dE_cst, dE_glb, dE_var, dE_bin, dE_neg, dE_cmp, dE_chn, dE_and, dE_or, dE_not, dE_ite, dE_tup, dE_lst, dE_call, dE_blt, dE_mkb, dE_isi, dE_ix, dE_sl, dE_rev, dE_comp, dE_gget, dE_gix, dE_dget1, dE_dget, dE_dis, asDic, dT_cst, dT_var, dT_bin, dT_cmp, dT_chn, dT_call, dT_blt, dT_isi, dT_ix, dT_ite, dT_and, dT_or, dT_not, dO_own, dO_ev, dBd_no, dBd_to, dBs_nil, dBs_cons, dEs_nil, dEs_cons, dIt_seq, dIt_rng1, dIt_rng2, dIt_enm, dIt_zip, dS_set, dS_unp, dS_par, dS_aug, dS_ret, dS_retN, dS_ite, dS_fo, dS_pass, dS_rai, dS_exp, dS_tr, dSs_nil, dSs_cons, go_nx, go_rt, go_exc, fl_ok, fl_exc, bind_ok, bind_exc, of_some, calm_ok, flof_some, look_0, look_s, lookB_im, lookB_ow, lookB_s, frzL_nil, frzL_cons, frz1_im, frz1_un, frz1_ow, frz1_s, tg_nm, tg_tp, tg_tpl, tgs_nil, tgs_cons, obind, set_0, set_s, lp_nx, lp_ct, lp_bk, lp_rt, lp_exc, out_rt, out_nx, out_exc, ownList, isFr, Bool.and_true, Bool.and_false, Bool.true_and, Bool.false_and, Bool.not_true, Bool.not_false, binD, addD, augD, truD, if_true, if_false, Bool.false_eq_true, ↓reduceIte, startE_nil, startE_cons, reduceCtorEq, decide_true, decide_false, tyD, run_inner (n + k) h1])) (lim_kids h1) fun q hq => ⟨_, rfl, by
      simp only [b18C0, dE_cst, dE_glb, dE_var, dE_bin, dE_neg, dE_cmp, dE_chn, dE_and, dE_or, dE_not, dE_ite, dE_tup, dE_lst, dE_call, dE_blt, dE_mkb, dE_isi, dE_ix, dE_sl, dE_rev, dE_comp, dE_gget, dE_gix, dE_dget1, dE_dget, dE_dis, asDic, dT_cst, dT_var, dT_bin, dT_cmp, dT_chn, dT_call, dT_blt, dT_isi, dT_ix, dT_ite, dT_and, dT_or, dT_not, dO_own, dO_ev, dBd_no, dBd_to, dBs_nil, dBs_cons, dEs_nil, dEs_cons, dIt_seq, dIt_rng1, dIt_rng2, dIt_enm, dIt_zip, dS_set, dS_unp, dS_par, dS_aug, dS_ret, dS_retN, dS_ite, dS_fo, dS_pass, dS_rai, dS_exp, dS_tr, dSs_nil, dSs_cons, go_nx, go_rt, go_exc, fl_ok, fl_exc, bind_ok, bind_exc, of_some, calm_ok, flof_some, look_0, look_s, lookB_im, lookB_ow, lookB_s, frzL_nil, frzL_cons, frz1_im, frz1_un, frz1_ow, frz1_s, tg_nm, tg_tp, tg_tpl, tgs_nil, tgs_cons, obind, set_0, set_s, lp_nx, lp_ct, lp_bk, lp_rt, lp_exc, out_rt, out_nx, out_exc, ownList, isFr, Bool.and_true, Bool.and_false, Bool.true_and, Bool.false_and, Bool.not_true, Bool.not_false, binD, addD, augD, truD, if_true, if_false, Bool.false_eq_true, ↓reduceIte, startE_nil, startE_cons, reduceCtorEq, decide_true, decide_false, tyD, wipeE, List.set_cons_zero, List.set_cons_succ, run_weight n k q (h2 q hq)]⟩
    have e : (kids.map fun q => D.int (wgt n q : Nat)) = (kids.map (wgt n)).map fun x : Nat => D.int (x : Nat) := by rw [List.map_map]; rfl
    have u : wgt (n + 1) (.tup (.str s :: (pre ++ kids))) = ownW s + (kids.map (wgt n)).sum := by
      show ownW s + ((kidsOf _).map (wgt n)).sum = _
      rw [kids_eq h1]
    rw [u]
    simp only [b18, dSs_cons, dS_set, dS_ret, frzL_nil, dE_bin, dE_cst, dE_gget, dE_glb, dE_ix, dO_own, lookB_im, dE_var, look_0, look_s, dE_blt, dBs_cons, dBs_nil, dO_ev, bind_ok, ix0, w, isFr, Bool.and_false, ownList, set_0, set_s, go_nx, c, e, sum_ints, of_some, binD, addD, fl_ok, go_rt, out_rt]
    congr 2
theorem plcL_sum (g : List Int × D → Nat) (f : D → List Int → List (List Int × D)) (h' : D → Nat) (ab : List Int) : ∀ (ks : List D) (j : Nat), (∀ q ∈ ks, ∀ ab, ((f q ab).map g).sum = h' q) → ((plcL f ab j ks).map g).sum = (ks.map h').sum
  | [], _, _ => rfl
  | q :: r, j, h => by
    rw [show plcL f ab j (q :: r) = f q (ab ++ [(j : Int)]) ++ plcL f ab (j + 1) r from rfl, List.map_append, List.sum_append, h q List.mem_cons_self, plcL_sum g f h' ab r (j + 1) fun z hz => h z (List.mem_cons_of_mem _ hz), List.map_cons, List.sum_cons]
theorem plc_sum : ∀ (n : Nat) (d : D) (ab : List Int), Sh n d → ((plc n d ab).map fun p => ownW (kindOf p.2)).sum = wgt n d
  | 0, _, _, h => h.elim
  | n + 1, d, ab, h => by
    obtain ⟨s, pre, kids, rfl, h1, h2⟩ := h
    rw [plc_u h1, List.map_cons, List.sum_cons, plcL_sum _ _ (wgt n) ab kids 0 fun q hq ab => plc_sum n q ab (h2 q hq)]
    show _ = ownW s + ((kidsOf _).map (wgt n)).sum
    rw [kids_eq h1]
    rfl
theorem plc_sh : ∀ (n : Nat) (d : D) (ab : List Int), Sh n d → ∀ x ∈ plc n d ab, Sh n x.2
  | 0, _, _, h, _, _ => h.elim
  | n + 1, d, ab, h, x, hx => by
    have h0 := h
    obtain ⟨s, pre, kids, rfl, h1, h2⟩ := h
    rw [plc_u h1] at hx
    rcases List.mem_cons.mp hx with rfl | hx
    · exact h0
    · obtain ⟨i, q, hq, hx⟩ := plcL_mem kids 0 hx
      exact (plc_sh n q _ (h2 q (List.mem_of_getElem? hq)) x hx).up
theorem mem_sum_le {l : List Nat} {x : Nat} (h : x ∈ l) : x ≤ l.sum := by
  induction l with
  | nil => cases h
  | cons y r ih =>
    rw [List.sum_cons]
    rcases List.mem_cons.mp h with rfl | h
    · omega
    · have := ih h; omega
theorem plc_cnt : ∀ (n : Nat) (d : D) (ab : List Int), Sh n d → ∀ x ∈ plc n d ab, cnt n x.2 ≤ cnt n d
  | 0, _, _, h, _, _ => h.elim
  | n + 1, d, ab, h, x, hx => by
    have h0 := h
    obtain ⟨s, pre, kids, rfl, h1, h2⟩ := h
    have hs := plc_sh (n + 1) _ ab h0 x hx
    rw [plc_u h1] at hx
    rcases List.mem_cons.mp hx with rfl | hx
    · exact Nat.le_refl _
    · obtain ⟨i, q, hq, hx⟩ := plcL_mem kids 0 hx
      have hq := List.mem_of_getElem? hq
      have a := plc_cnt n q _ (h2 q hq) x hx
      have b := plc_sh n q _ (h2 q hq) x hx
      rw [cnt_up n _ b, cnt_kids h1]
      have : cnt n q ≤ (kids.map (cnt n)).sum := mem_sum_le (List.mem_map_of_mem hq)
      omega
theorem Sh.node {n : Nat} {d : D} (h : Sh n d) : ∃ s r, d = .tup (.str s :: r) ∧ s ∈ allK := by
  cases n with
  | zero => exact h.elim
  | succ n =>
    obtain ⟨s, pre, kids, rfl, h1, _⟩ := h
    exact ⟨s, _, rfl, h1.kind⟩
theorem run_lweight (k : Nat) (d : D) (h : Sh 7 d) : run txt (k + 9) 27 [d] = .ok (.int (wgt 7 d : Nat)) := by
  rw [run_s (d := d27) rfl rfl]
  show (dSs _ _ b27 [.im d, .un, .un, .un]).out = _
  have len := plc_len 7 d [] h
  have p4 : 4 ^ 7 = 16384 := rfl
  have c := comp_map (T := run txt (k + 8)) (ρ := [.im d, .im (.dic wK wV), .un, .un]) (x := b27C0) (own := [2, 3]) (t := .tp (.cons (.nm 2) (.cons (.nm 3) .nil))) (it := .seq (.call 25 (.cons (.var 0) (.cons (.tup .nil) .nil)))) (ds := (plc 7 d []).map pP) (fun q => match q with
      | .tup [_, y] => .int (ownW (kindOf y) : Nat)
      | _ => .non) (by
      rw [dIt_seq]
      have e : dE (run txt (k + 8)) (.call 25 (.cons (.var 0) (.cons (.tup .nil) .nil))) [.im d, .im (.dic wK wV), .un, .un] = .ok (.lst ((plc 7 d []).map pP)) := by
        simp only [dE_cst, dE_glb, dE_var, dE_bin, dE_neg, dE_cmp, dE_chn, dE_and, dE_or, dE_not, dE_ite, dE_tup, dE_lst, dE_call, dE_blt, dE_mkb, dE_isi, dE_ix, dE_sl, dE_rev, dE_comp, dE_gget, dE_gix, dE_dget1, dE_dget, dE_dis, asDic, dT_cst, dT_var, dT_bin, dT_cmp, dT_chn, dT_call, dT_blt, dT_isi, dT_ix, dT_ite, dT_and, dT_or, dT_not, dO_own, dO_ev, dBd_no, dBd_to, dBs_nil, dBs_cons, dEs_nil, dEs_cons, dIt_seq, dIt_rng1, dIt_rng2, dIt_enm, dIt_zip, dS_set, dS_unp, dS_par, dS_aug, dS_ret, dS_retN, dS_ite, dS_fo, dS_pass, dS_rai, dS_exp, dS_tr, dSs_nil, dSs_cons, go_nx, go_rt, go_exc, fl_ok, fl_exc, bind_ok, bind_exc, of_some, calm_ok, flof_some, look_0, look_s, lookB_im, lookB_ow, lookB_s, frzL_nil, frzL_cons, frz1_im, frz1_un, frz1_ow, frz1_s, tg_nm, tg_tp, tg_tpl, tgs_nil, tgs_cons, obind, set_0, set_s, lp_nx, lp_ct, lp_bk, lp_rt, lp_exc, out_rt, out_nx, out_exc, ownList, isFr, Bool.and_true, Bool.and_false, Bool.true_and, Bool.false_and, Bool.not_true, Bool.not_false, binD, addD, augD, truD, if_true, if_false, Bool.false_eq_true, ↓reduceIte, startE_nil, startE_cons, reduceCtorEq, decide_true, decide_false, tyD, List.length_nil, (by decide : (0 ≤ lim) = True), run_lplaces0 k d h]
      rw [e]; rfl) (by show _ < 16777216; rw [List.length_map]; omega) fun q hq => by
      obtain ⟨x, hx, rfl⟩ := List.mem_map.mp hq
      obtain ⟨s, r, e, hs⟩ := (plc_sh 7 d [] h x hx).node
      refine ⟨[.im d, .im (.dic wK wV), .im (tupI x.1), .im x.2], rfl, ?_⟩
      have w := (weights hs).2
      show dE _ b27C0 _ = .ok (.int (ownW (kindOf x.2) : Nat))
      rw [e]
      simp only [b27C0, dE_cst, dE_glb, dE_var, dE_bin, dE_neg, dE_cmp, dE_chn, dE_and, dE_or, dE_not, dE_ite, dE_tup, dE_lst, dE_call, dE_blt, dE_mkb, dE_isi, dE_ix, dE_sl, dE_rev, dE_comp, dE_gget, dE_gix, dE_dget1, dE_dget, dE_dis, asDic, dT_cst, dT_var, dT_bin, dT_cmp, dT_chn, dT_call, dT_blt, dT_isi, dT_ix, dT_ite, dT_and, dT_or, dT_not, dO_own, dO_ev, dBd_no, dBd_to, dBs_nil, dBs_cons, dEs_nil, dEs_cons, dIt_seq, dIt_rng1, dIt_rng2, dIt_enm, dIt_zip, dS_set, dS_unp, dS_par, dS_aug, dS_ret, dS_retN, dS_ite, dS_fo, dS_pass, dS_rai, dS_exp, dS_tr, dSs_nil, dSs_cons, go_nx, go_rt, go_exc, fl_ok, fl_exc, bind_ok, bind_exc, of_some, calm_ok, flof_some, look_0, look_s, lookB_im, lookB_ow, lookB_s, frzL_nil, frzL_cons, frz1_im, frz1_un, frz1_ow, frz1_s, tg_nm, tg_tp, tg_tpl, tgs_nil, tgs_cons, obind, set_0, set_s, lp_nx, lp_ct, lp_bk, lp_rt, lp_exc, out_rt, out_nx, out_exc, ownList, isFr, Bool.and_true, Bool.and_false, Bool.true_and, Bool.false_and, Bool.not_true, Bool.not_false, binD, addD, augD, truD, if_true, if_false, Bool.false_eq_true, ↓reduceIte, startE_nil, startE_cons, reduceCtorEq, decide_true, decide_false, tyD, ix0, w]
      rfl
  have e1 : (((plc 7 d []).map pP).map fun q : D => match q with
      | .tup [_, y] => D.int (ownW (kindOf y) : Nat)
      | _ => .non) = ((plc 7 d []).map fun p => ownW (kindOf p.2)).map fun x : Nat => D.int (x : Nat) := by rw [List.map_map, List.map_map]; rfl
  rw [e1] at c
  have s0 : ∀ (T : Nat → List D → R D) (v a1 a2 a3 : Slot), dS T (subL txt.sub) (.set [] 1 false (.dis [.inr "word", .inr "var", .inr "true", .inr "no", .inr "mul", .inr "div", .inr "rem", .inr "below", .inr "less", .inr "shl", .inr "shr", .inr "sar", .inr "pick"] (.cons (.cst (.int 1)) (.cons (.cst (.int 1)) (.cons (.cst (.int 1)) (.cons (.cst (.int 1)) (.cons (.cst (.int 6)) (.cons (.cst (.int 6)) (.cons (.cst (.int 6)) (.cons (.cst (.int 5)) (.cons (.cst (.int 5)) (.cons (.cst (.int 4)) (.cons (.cst (.int 4)) (.cons (.cst (.int 4)) (.cons (.cst (.int 3)) .nil))))))))))))))) [v, a1, a2, a3] = .nx [v, .im (.dic wK wV), a2, a3] := fun _ _ _ _ _ => by kernel_rfl
  rw [b27, dSs_cons, s0, go_nx, dSs_cons]
  simp only [dS_ret, frzL_nil, dE_blt, dBs_cons, dBs_nil, dO_ev, bind_ok, c, sum_ints, of_some, fl_ok, go_rt, out_rt]
  rw [plc_sum 7 d [] h]
/-! ### what is a place -/
theorem run_isplace (k : Nat) (p : List Int) (hp : ∀ i ∈ p, 0 ≤ i) (hl : p.length ≤ 1000) : run txt (k + 1) 14 [tupI p] = .ok (.bl true) := by
  rw [run_s (d := d14) rfl rfl]
  show (dSs _ _ b14 [.im (.tup (p.map .int)), .un]).out = _
  have c := comp_map (T := run txt k) (ρ := [.im (.tup (p.map .int)), .un]) (x := b14C0) (own := [1]) (t := .nm 1) (it := .seq (.var 0)) (ds := p.map .int) (fun q => .bl true) rfl (by show _ < 16777216; rw [List.length_map]; omega) fun q hq => ⟨_, rfl, by
    obtain ⟨i, hi, rfl⟩ := List.mem_map.mp hq
    simp only [b14C0, dE_cst, dE_glb, dE_var, dE_bin, dE_neg, dE_cmp, dE_chn, dE_and, dE_or, dE_not, dE_ite, dE_tup, dE_lst, dE_call, dE_blt, dE_mkb, dE_isi, dE_ix, dE_sl, dE_rev, dE_comp, dE_gget, dE_gix, dE_dget1, dE_dget, dE_dis, asDic, dT_cst, dT_var, dT_bin, dT_cmp, dT_chn, dT_call, dT_blt, dT_isi, dT_ix, dT_ite, dT_and, dT_or, dT_not, dO_own, dO_ev, dBd_no, dBd_to, dBs_nil, dBs_cons, dEs_nil, dEs_cons, dIt_seq, dIt_rng1, dIt_rng2, dIt_enm, dIt_zip, dS_set, dS_unp, dS_par, dS_aug, dS_ret, dS_retN, dS_ite, dS_fo, dS_pass, dS_rai, dS_exp, dS_tr, dSs_nil, dSs_cons, go_nx, go_rt, go_exc, fl_ok, fl_exc, bind_ok, bind_exc, of_some, calm_ok, flof_some, look_0, look_s, lookB_im, lookB_ow, lookB_s, frzL_nil, frzL_cons, frz1_im, frz1_un, frz1_ow, frz1_s, tg_nm, tg_tp, tg_tpl, tgs_nil, tgs_cons, obind, set_0, set_s, lp_nx, lp_ct, lp_bk, lp_rt, lp_exc, out_rt, out_nx, out_exc, ownList, isFr, Bool.and_true, Bool.and_false, Bool.true_and, Bool.false_and, Bool.not_true, Bool.not_false, binD, addD, augD, truD, if_true, if_false, Bool.false_eq_true, ↓reduceIte, startE_nil, startE_cons, reduceCtorEq, decide_true, decide_false, tyD, wipeE, List.set_cons_zero, List.set_cons_succ, Z.ge_int, decide_eq_true (hp i hi)]⟩
  simp only [b14, dE_cst, dE_glb, dE_var, dE_bin, dE_neg, dE_cmp, dE_chn, dE_and, dE_or, dE_not, dE_ite, dE_tup, dE_lst, dE_call, dE_blt, dE_mkb, dE_isi, dE_ix, dE_sl, dE_rev, dE_comp, dE_gget, dE_gix, dE_dget1, dE_dget, dE_dis, asDic, dT_cst, dT_var, dT_bin, dT_cmp, dT_chn, dT_call, dT_blt, dT_isi, dT_ix, dT_ite, dT_and, dT_or, dT_not, dO_own, dO_ev, dBd_no, dBd_to, dBs_nil, dBs_cons, dEs_nil, dEs_cons, dIt_seq, dIt_rng1, dIt_rng2, dIt_enm, dIt_zip, dS_set, dS_unp, dS_par, dS_aug, dS_ret, dS_retN, dS_ite, dS_fo, dS_pass, dS_rai, dS_exp, dS_tr, dSs_nil, dSs_cons, go_nx, go_rt, go_exc, fl_ok, fl_exc, bind_ok, bind_exc, of_some, calm_ok, flof_some, look_0, look_s, lookB_im, lookB_ow, lookB_s, frzL_nil, frzL_cons, frz1_im, frz1_un, frz1_ow, frz1_s, tg_nm, tg_tp, tg_tpl, tgs_nil, tgs_cons, obind, set_0, set_s, lp_nx, lp_ct, lp_bk, lp_rt, lp_exc, out_rt, out_nx, out_exc, ownList, isFr, Bool.and_true, Bool.and_false, Bool.true_and, Bool.false_and, Bool.not_true, Bool.not_false, binD, addD, augD, truD, if_true, if_false, Bool.false_eq_true, ↓reduceIte, startE_nil, startE_cons, reduceCtorEq, decide_true, decide_false, tyD, c, all_map]
theorem in_places (p : List Int) (xs : List (List Int × D)) : inD (tupI p) (.lst (xs.map pT)) = some (xs.any fun x => decide (x.1 = p)) := by
  have f1 : flatL 59 (xs.map pT) = true := by
    induction xs with
    | nil => rfl
    | cons x r ih =>
      show (flat 59 (tupI x.1) && flatL 59 (r.map pT)) = true
      rw [ih, Bool.and_true]
      exact flatL_ints 58 x.1
  have f2 : ((xs.map pT).any fun y => eqv y (tupI p)) = xs.any fun x => decide (x.1 = p) := by
    rw [List.any_map]
    congr 1
    funext x
    exact eqvL_ints x.1 p
  show (if ((leaf (tupI p) && (xs.map pT).all leaf) || (flat 60 (tupI p) && flatL 59 (xs.map pT))) = true then some ((xs.map pT).any fun y => eqv y (tupI p)) else none) = _
  rw [f1, f2, flat_ti, Bool.and_true, Bool.or_true, if_pos rfl]
theorem nin_places (p : List Int) (xs : List (List Int × D)) : cmpD .nin (tupI p) (.lst (xs.map pT)) = some (!xs.any fun x => decide (x.1 = p)) := by
  show (inD (tupI p) (.lst (xs.map pT))).map (!·) = _
  rw [in_places]
  rfl
theorem run_check_place (k : Nat) (d : D) (h : Sh 7 d) {p : List Int} {y : D} (hp : (p, y) ∈ plc 7 d []) : run txt (k + 9) 15 [d, tupI p] = .ok .non := by
  rw [run_s (d := d15) rfl rfl]
  show (dSs _ _ b15 [.im d, .im (tupI p)]).out = _
  obtain ⟨q, e, l, sm, _⟩ := plc_form 7 d [] h _ hp
  have e : p = q := by rw [List.nil_append] at e; exact e
  have ip := run_isplace (k + 7) p (by rw [e]; exact fun i hi => (sm i hi).1) (by rw [e]; omega)
  have a : ((plc 7 d []).any fun x => decide (x.1 = p)) = true := List.any_eq_true.mpr ⟨_, hp, by simp⟩
  have n := nin_places p (plc 7 d [])
  rw [a] at n
  simp only [b15, dE_cst, dE_glb, dE_var, dE_bin, dE_neg, dE_cmp, dE_chn, dE_and, dE_or, dE_not, dE_ite, dE_tup, dE_lst, dE_call, dE_blt, dE_mkb, dE_isi, dE_ix, dE_sl, dE_rev, dE_comp, dE_gget, dE_gix, dE_dget1, dE_dget, dE_dis, asDic, dT_cst, dT_var, dT_bin, dT_cmp, dT_chn, dT_call, dT_blt, dT_isi, dT_ix, dT_ite, dT_and, dT_or, dT_not, dO_own, dO_ev, dBd_no, dBd_to, dBs_nil, dBs_cons, dEs_nil, dEs_cons, dIt_seq, dIt_rng1, dIt_rng2, dIt_enm, dIt_zip, dS_set, dS_unp, dS_par, dS_aug, dS_ret, dS_retN, dS_ite, dS_fo, dS_pass, dS_rai, dS_exp, dS_tr, dSs_nil, dSs_cons, go_nx, go_rt, go_exc, fl_ok, fl_exc, bind_ok, bind_exc, of_some, calm_ok, flof_some, look_0, look_s, lookB_im, lookB_ow, lookB_s, frzL_nil, frzL_cons, frz1_im, frz1_un, frz1_ow, frz1_s, tg_nm, tg_tp, tg_tpl, tgs_nil, tgs_cons, obind, set_0, set_s, lp_nx, lp_ct, lp_bk, lp_rt, lp_exc, out_rt, out_nx, out_exc, ownList, isFr, Bool.and_true, Bool.and_false, Bool.true_and, Bool.false_and, Bool.not_true, Bool.not_false, binD, addD, augD, truD, if_true, if_false, Bool.false_eq_true, ↓reduceIte, startE_nil, startE_cons, reduceCtorEq, decide_true, decide_false, tyD, ip, List.length_nil, (by decide : (0 ≤ lim) = True), run_places0 k d h, n]
theorem check_wrong (k : Nat) (d : D) (h : Sh 7 d) {p : List Int} (h0 : ∀ i ∈ p, 0 ≤ i) (hl : p.length ≤ 1000) (hp : ∀ x ∈ plc 7 d [], x.1 ≠ p) : run txt (k + 9) 15 [d, tupI p] = .exc "BadPlace" := by
  rw [run_s (d := d15) rfl rfl]
  show (dSs _ _ b15 [.im d, .im (tupI p)]).out = _
  have ip := run_isplace (k + 7) p h0 hl
  have a : ((plc 7 d []).any fun x => decide (x.1 = p)) = false := by
    rw [List.any_eq_false]
    intro x hx
    simpa using hp x hx
  have n := nin_places p (plc 7 d [])
  rw [a] at n
  simp only [b15, dE_cst, dE_glb, dE_var, dE_bin, dE_neg, dE_cmp, dE_chn, dE_and, dE_or, dE_not, dE_ite, dE_tup, dE_lst, dE_call, dE_blt, dE_mkb, dE_isi, dE_ix, dE_sl, dE_rev, dE_comp, dE_gget, dE_gix, dE_dget1, dE_dget, dE_dis, asDic, dT_cst, dT_var, dT_bin, dT_cmp, dT_chn, dT_call, dT_blt, dT_isi, dT_ix, dT_ite, dT_and, dT_or, dT_not, dO_own, dO_ev, dBd_no, dBd_to, dBs_nil, dBs_cons, dEs_nil, dEs_cons, dIt_seq, dIt_rng1, dIt_rng2, dIt_enm, dIt_zip, dS_set, dS_unp, dS_par, dS_aug, dS_ret, dS_retN, dS_ite, dS_fo, dS_pass, dS_rai, dS_exp, dS_tr, dSs_nil, dSs_cons, go_nx, go_rt, go_exc, fl_ok, fl_exc, bind_ok, bind_exc, of_some, calm_ok, flof_some, look_0, look_s, lookB_im, lookB_ow, lookB_s, frzL_nil, frzL_cons, frz1_im, frz1_un, frz1_ow, frz1_s, tg_nm, tg_tp, tg_tpl, tgs_nil, tgs_cons, obind, set_0, set_s, lp_nx, lp_ct, lp_bk, lp_rt, lp_exc, out_rt, out_nx, out_exc, ownList, isFr, Bool.and_true, Bool.and_false, Bool.true_and, Bool.false_and, Bool.not_true, Bool.not_false, binD, addD, augD, truD, if_true, if_false, Bool.false_eq_true, ↓reduceIte, startE_nil, startE_cons, reduceCtorEq, decide_true, decide_false, tyD, ip, List.length_nil, (by decide : (0 ≤ lim) = True), run_places0 k d h, n, dS_rai]
theorem check_none (k : Nat) (d w : D) (hw : run txt (k + 8) 14 [w] = .ok (.bl false)) : run txt (k + 9) 15 [d, w] = .exc "BadPlace" := by
  rw [run_s (d := d15) rfl rfl]
  show (dSs _ _ b15 [.im d, .im w]).out = _
  simp only [b15, dE_cst, dE_glb, dE_var, dE_bin, dE_neg, dE_cmp, dE_chn, dE_and, dE_or, dE_not, dE_ite, dE_tup, dE_lst, dE_call, dE_blt, dE_mkb, dE_isi, dE_ix, dE_sl, dE_rev, dE_comp, dE_gget, dE_gix, dE_dget1, dE_dget, dE_dis, asDic, dT_cst, dT_var, dT_bin, dT_cmp, dT_chn, dT_call, dT_blt, dT_isi, dT_ix, dT_ite, dT_and, dT_or, dT_not, dO_own, dO_ev, dBd_no, dBd_to, dBs_nil, dBs_cons, dEs_nil, dEs_cons, dIt_seq, dIt_rng1, dIt_rng2, dIt_enm, dIt_zip, dS_set, dS_unp, dS_par, dS_aug, dS_ret, dS_retN, dS_ite, dS_fo, dS_pass, dS_rai, dS_exp, dS_tr, dSs_nil, dSs_cons, go_nx, go_rt, go_exc, fl_ok, fl_exc, bind_ok, bind_exc, of_some, calm_ok, flof_some, look_0, look_s, lookB_im, lookB_ow, lookB_s, frzL_nil, frzL_cons, frz1_im, frz1_un, frz1_ow, frz1_s, tg_nm, tg_tp, tg_tpl, tgs_nil, tgs_cons, obind, set_0, set_s, lp_nx, lp_ct, lp_bk, lp_rt, lp_exc, out_rt, out_nx, out_exc, ownList, isFr, Bool.and_true, Bool.and_false, Bool.true_and, Bool.false_and, Bool.not_true, Bool.not_false, binD, addD, augD, truD, if_true, if_false, Bool.false_eq_true, ↓reduceIte, startE_nil, startE_cons, reduceCtorEq, decide_true, decide_false, tyD, hw, dS_rai]
structure Good (d : D) : Prop where
  sh : Sh 7 d
  few : cnt 7 d ≤ 60
theorem run_at (k : Nat) {d : D} (g : Good d) {p : List Int} {y : D} (hp : (p, y) ∈ plc 7 d []) : run txt (k + 12) 16 [d, tupI p] = .ok y := by
  rw [run_s (d := d16) rfl rfl]
  show (dSs _ _ b16 [.im d, .im (tupI p)]).out = _
  simp only [b16, dE_cst, dE_glb, dE_var, dE_bin, dE_neg, dE_cmp, dE_chn, dE_and, dE_or, dE_not, dE_ite, dE_tup, dE_lst, dE_call, dE_blt, dE_mkb, dE_isi, dE_ix, dE_sl, dE_rev, dE_comp, dE_gget, dE_gix, dE_dget1, dE_dget, dE_dis, asDic, dT_cst, dT_var, dT_bin, dT_cmp, dT_chn, dT_call, dT_blt, dT_isi, dT_ix, dT_ite, dT_and, dT_or, dT_not, dO_own, dO_ev, dBd_no, dBd_to, dBs_nil, dBs_cons, dEs_nil, dEs_cons, dIt_seq, dIt_rng1, dIt_rng2, dIt_enm, dIt_zip, dS_set, dS_unp, dS_par, dS_aug, dS_ret, dS_retN, dS_ite, dS_fo, dS_pass, dS_rai, dS_exp, dS_tr, dSs_nil, dSs_cons, go_nx, go_rt, go_exc, fl_ok, fl_exc, bind_ok, bind_exc, of_some, calm_ok, flof_some, look_0, look_s, lookB_im, lookB_ow, lookB_s, frzL_nil, frzL_cons, frz1_im, frz1_un, frz1_ow, frz1_s, tg_nm, tg_tp, tg_tpl, tgs_nil, tgs_cons, obind, set_0, set_s, lp_nx, lp_ct, lp_bk, lp_rt, lp_exc, out_rt, out_nx, out_exc, ownList, isFr, Bool.and_true, Bool.and_false, Bool.true_and, Bool.false_and, Bool.not_true, Bool.not_false, binD, addD, augD, truD, if_true, if_false, Bool.false_eq_true, ↓reduceIte, startE_nil, startE_cons, reduceCtorEq, decide_true, decide_false, tyD, run_check k d g.sh g.few, run_check_place (k + 2) d g.sh hp, run_stands (k + 9) 7 g.sh hp]
theorem run_putat (k : Nat) {d o : D} (g : Good d) (go : Good o) {p : List Int} {y : D} (hp : (p, y) ∈ plc 7 d []) : run txt (k + 12) 17 [d, tupI p, o] = .ok (putN o p d) := by
  rw [run_s (d := d17) rfl rfl]
  show (dSs _ _ b17 [.im d, .im (tupI p), .im o]).out = _
  have pt := run_put 7 (k + 3) d o g.sh p y hp
  rw [show 7 + (k + 3) + 1 = k + 11 from by omega] at pt
  simp only [b17, b17S0, b17S1, b17S2, b17S3, dE_cst, dE_glb, dE_var, dE_bin, dE_neg, dE_cmp, dE_chn, dE_and, dE_or, dE_not, dE_ite, dE_tup, dE_lst, dE_call, dE_blt, dE_mkb, dE_isi, dE_ix, dE_sl, dE_rev, dE_comp, dE_gget, dE_gix, dE_dget1, dE_dget, dE_dis, asDic, dT_cst, dT_var, dT_bin, dT_cmp, dT_chn, dT_call, dT_blt, dT_isi, dT_ix, dT_ite, dT_and, dT_or, dT_not, dO_own, dO_ev, dBd_no, dBd_to, dBs_nil, dBs_cons, dEs_nil, dEs_cons, dIt_seq, dIt_rng1, dIt_rng2, dIt_enm, dIt_zip, dS_set, dS_unp, dS_par, dS_aug, dS_ret, dS_retN, dS_ite, dS_fo, dS_pass, dS_rai, dS_exp, dS_tr, dSs_nil, dSs_cons, go_nx, go_rt, go_exc, fl_ok, fl_exc, bind_ok, bind_exc, of_some, calm_ok, flof_some, look_0, look_s, lookB_im, lookB_ow, lookB_s, frzL_nil, frzL_cons, frz1_im, frz1_un, frz1_ow, frz1_s, tg_nm, tg_tp, tg_tpl, tgs_nil, tgs_cons, obind, set_0, set_s, lp_nx, lp_ct, lp_bk, lp_rt, lp_exc, out_rt, out_nx, out_exc, ownList, isFr, Bool.and_true, Bool.and_false, Bool.true_and, Bool.false_and, Bool.not_true, Bool.not_false, binD, addD, augD, truD, if_true, if_false, Bool.false_eq_true, ↓reduceIte, startE_nil, startE_cons, reduceCtorEq, decide_true, decide_false, tyD, run_check k d g.sh g.few, run_check k o go.sh go.few, run_check_place (k + 2) d g.sh hp, pt]
theorem tis_map : ∀ nss : List (List Int), tisOf (nss.map tupI) = some nss
  | [] => rfl
  | ns :: r => by
    show ((intsOf (ns.map .int)).bind fun ns => (tisOf (r.map tupI)).map fun t => ns :: t) = _
    rw [intsOf_ints, tis_map r]
    rfl
theorem sort_ti (nss : List (List Int)) : mkbD .sorted [.lst (([] :: nss).map tupI)] = some (.lst ((sortT ([] :: nss)).map tupI)) := by
  have e : intsOf (([] :: nss).map tupI) = none := rfl
  have t := tis_map ([] :: nss)
  show (sortD _).map _ = _
  unfold sortD
  rw [e, t]
  rfl
theorem plc_head {d : D} (h : Sh 7 d) : ∃ r, (plc 7 d []).map (·.1) = [] :: r := ⟨_, rfl⟩
theorem sort_plc {d : D} (h : Sh 7 d) : mkbD .sorted [.lst ((plc 7 d []).map pT)] = some (.lst ((sortT ((plc 7 d []).map (·.1))).map tupI)) := by
  obtain ⟨r, e⟩ := plc_head h
  have e2 : (plc 7 d []).map pT = ((plc 7 d []).map (·.1)).map tupI := by rw [List.map_map]; rfl
  rw [e2, e, sort_ti]
theorem tup_lst {xs : List D} : mkbD .tuple [.lst xs] = some (.tup xs) := nrfl rfl
theorem run_placesof (k : Nat) {d : D} (g : Good d) : run txt (k + 12) 11 [d] = .ok (.tup ((sortT ((plc 7 d []).map (·.1))).map tupI)) := by
  rw [run_s (d := d11) rfl rfl]
  show (dSs _ _ b11 [.im d]).out = _
  simp only [b11, dE_cst, dE_glb, dE_var, dE_bin, dE_neg, dE_cmp, dE_chn, dE_and, dE_or, dE_not, dE_ite, dE_tup, dE_lst, dE_call, dE_blt, dE_mkb, dE_isi, dE_ix, dE_sl, dE_rev, dE_comp, dE_gget, dE_gix, dE_dget1, dE_dget, dE_dis, asDic, dT_cst, dT_var, dT_bin, dT_cmp, dT_chn, dT_call, dT_blt, dT_isi, dT_ix, dT_ite, dT_and, dT_or, dT_not, dO_own, dO_ev, dBd_no, dBd_to, dBs_nil, dBs_cons, dEs_nil, dEs_cons, dIt_seq, dIt_rng1, dIt_rng2, dIt_enm, dIt_zip, dS_set, dS_unp, dS_par, dS_aug, dS_ret, dS_retN, dS_ite, dS_fo, dS_pass, dS_rai, dS_exp, dS_tr, dSs_nil, dSs_cons, go_nx, go_rt, go_exc, fl_ok, fl_exc, bind_ok, bind_exc, of_some, calm_ok, flof_some, look_0, look_s, lookB_im, lookB_ow, lookB_s, frzL_nil, frzL_cons, frz1_im, frz1_un, frz1_ow, frz1_s, tg_nm, tg_tp, tg_tpl, tgs_nil, tgs_cons, obind, set_0, set_s, lp_nx, lp_ct, lp_bk, lp_rt, lp_exc, out_rt, out_nx, out_exc, ownList, isFr, Bool.and_true, Bool.and_false, Bool.true_and, Bool.false_and, Bool.not_true, Bool.not_false, binD, addD, augD, truD, if_true, if_false, Bool.false_eq_true, ↓reduceIte, startE_nil, startE_cons, reduceCtorEq, decide_true, decide_false, tyD, run_check k d g.sh g.few, List.length_nil, (by decide : (0 ≤ lim) = True), run_places0 (k + 3) d g.sh, sort_plc g.sh, tup_lst]
theorem run_weightof (k : Nat) {d : D} (g : Good d) : run txt (k + 12) 19 [d] = .ok (.int (wgt 7 d : Nat)) := by
  rw [run_s (d := d19) rfl rfl]
  show (dSs _ _ b19 [.im d]).out = _
  have w := run_weight 7 (k + 3) d g.sh
  rw [show 7 + (k + 3) + 1 = k + 11 from by omega] at w
  simp only [b19, dE_cst, dE_glb, dE_var, dE_bin, dE_neg, dE_cmp, dE_chn, dE_and, dE_or, dE_not, dE_ite, dE_tup, dE_lst, dE_call, dE_blt, dE_mkb, dE_isi, dE_ix, dE_sl, dE_rev, dE_comp, dE_gget, dE_gix, dE_dget1, dE_dget, dE_dis, asDic, dT_cst, dT_var, dT_bin, dT_cmp, dT_chn, dT_call, dT_blt, dT_isi, dT_ix, dT_ite, dT_and, dT_or, dT_not, dO_own, dO_ev, dBd_no, dBd_to, dBs_nil, dBs_cons, dEs_nil, dEs_cons, dIt_seq, dIt_rng1, dIt_rng2, dIt_enm, dIt_zip, dS_set, dS_unp, dS_par, dS_aug, dS_ret, dS_retN, dS_ite, dS_fo, dS_pass, dS_rai, dS_exp, dS_tr, dSs_nil, dSs_cons, go_nx, go_rt, go_exc, fl_ok, fl_exc, bind_ok, bind_exc, of_some, calm_ok, flof_some, look_0, look_s, lookB_im, lookB_ow, lookB_s, frzL_nil, frzL_cons, frz1_im, frz1_un, frz1_ow, frz1_s, tg_nm, tg_tp, tg_tpl, tgs_nil, tgs_cons, obind, set_0, set_s, lp_nx, lp_ct, lp_bk, lp_rt, lp_exc, out_rt, out_nx, out_exc, ownList, isFr, Bool.and_true, Bool.and_false, Bool.true_and, Bool.false_and, Bool.not_true, Bool.not_false, binD, addD, augD, truD, if_true, if_false, Bool.false_eq_true, ↓reduceIte, startE_nil, startE_cons, reduceCtorEq, decide_true, decide_false, tyD, run_check k d g.sh g.few, w]
end Law
namespace Law
open PySem PySem.Spec PyProof.Rows L2 Z
/-! ### the last place -/
theorem lex_snoc : ∀ (p : List Int) (x : Int), HT.lexLt p (p ++ [x]) = true
  | [], x => rfl
  | y :: p, x => by
    rw [List.cons_append, HT.lexLt_cons, if_pos rfl]
    exact lex_snoc p x
theorem sorted_last {l : List (List Int)} (hs : SrtdT l) {x : List Int} (hx : l.getLast? = some x) : ∀ y ∈ l, HT.lexLt x y = false := by
  intro y hy
  have irr : ∀ z : List Int, HT.lexLt z z = false := fun z => by
    cases e : HT.lexLt z z with
    | false => rfl
    | true => have := NtL.lex_asym z z e; rw [e] at this; exact this
  obtain ⟨pre, rfl⟩ : ∃ pre, l = pre ++ [x] := List.getLast?_eq_some_iff.mp hx
  obtain ⟨_, _, h3⟩ := List.pairwise_append.mp hs
  rcases List.mem_append.mp hy with z | z
  · exact h3 y z x (by simp)
  · rw [List.mem_singleton.mp z]; exact irr x
theorem last_ix {l : List (List Int)} (h : l ≠ []) : ∃ x, l.getLast? = some x ∧ ixD (.lst (l.map tupI)) (.int (-1)) = some (tupI x) := by
  obtain ⟨x, hx⟩ : ∃ x, l.getLast? = some x := ⟨l.getLast h, List.getLast?_eq_getLast h⟩
  refine ⟨x, hx, ?_⟩
  obtain ⟨pre, rfl⟩ : ∃ pre, l = pre ++ [x] := List.getLast?_eq_some_iff.mp hx
  show L2.atI _ _ = _
  unfold L2.atI
  have e : ixN ((pre ++ [x]).map tupI).length (-1) = some pre.length := by
    unfold ixN
    rw [List.length_map, List.length_append, List.length_singleton]
    rw [if_neg (by decide), if_pos (by omega)]
    congr 1
    omega
  rw [e]
  show ((pre ++ [x]).map tupI)[pre.length]? = _
  rw [List.getElem?_map, List.getElem?_append_right (Nat.le_refl _), Nat.sub_self]
  rfl
theorem last_of {d : D} (h : Sh 7 d) : ∃ x y, (x, y) ∈ plc 7 d [] ∧ ixD (.lst ((sortT ((plc 7 d []).map (·.1))).map tupI)) (.int (-1)) = some (tupI x) ∧ ∀ z ∈ plc 7 d [], z.1 ≠ x ++ [0] := by
  have p := sortT_perm ((plc 7 d []).map (·.1))
  obtain ⟨r, e⟩ := plc_head h
  have ne : sortT ((plc 7 d []).map (·.1)) ≠ [] := fun z => by
    rw [z] at p
    have := p.length_eq
    rw [e] at this
    simp at this
  obtain ⟨x, hx, ix⟩ := last_ix ne
  have mx := sorted_last (sortT_sorted _) hx
  have hm : x ∈ (plc 7 d []).map (·.1) := p.mem_iff.mp (List.mem_of_getLast? hx)
  obtain ⟨⟨x', y⟩, hxy, rfl⟩ := List.mem_map.mp hm
  refine ⟨x', y, hxy, ix, fun z hz e2 => ?_⟩
  have := mx z.1 (p.mem_iff.mpr (List.mem_map_of_mem hz))
  rw [e2, lex_snoc] at this
  cases this
/-! ### what is told of errors -/
theorem told_place (k : Nat) {d w : D} (g : Good d) (hw : run txt (k + 11) 15 [d, w] = .exc "BadPlace") (o : D) : run txt (k + 13) 28 [.int 0, d, w, o] = .ok (.str "place") ∧ run txt (k + 13) 28 [.int 1, d, w, o] = .ok (.str "place") := by
  have ck := run_check k d g.sh g.few
  have a16 : run txt (k + 12) 16 [d, w] = .exc "BadPlace" := by
    rw [run_s (d := d16) rfl rfl]
    show (dSs _ _ b16 [.im d, .im w]).out = _
    simp only [b16, dE_cst, dE_glb, dE_var, dE_bin, dE_neg, dE_cmp, dE_chn, dE_and, dE_or, dE_not, dE_ite, dE_tup, dE_lst, dE_call, dE_blt, dE_mkb, dE_isi, dE_ix, dE_sl, dE_rev, dE_comp, dE_gget, dE_gix, dE_dget1, dE_dget, dE_dis, asDic, dT_cst, dT_var, dT_bin, dT_cmp, dT_chn, dT_call, dT_blt, dT_isi, dT_ix, dT_ite, dT_and, dT_or, dT_not, dO_own, dO_ev, dBd_no, dBd_to, dBs_nil, dBs_cons, dEs_nil, dEs_cons, dIt_seq, dIt_rng1, dIt_rng2, dIt_enm, dIt_zip, dS_set, dS_unp, dS_par, dS_aug, dS_ret, dS_retN, dS_ite, dS_fo, dS_pass, dS_rai, dS_exp, dS_tr, dSs_nil, dSs_cons, go_nx, go_rt, go_exc, fl_ok, fl_exc, bind_ok, bind_exc, of_some, calm_ok, flof_some, look_0, look_s, lookB_im, lookB_ow, lookB_s, frzL_nil, frzL_cons, frz1_im, frz1_un, frz1_ow, frz1_s, tg_nm, tg_tp, tg_tpl, tgs_nil, tgs_cons, obind, set_0, set_s, lp_nx, lp_ct, lp_bk, lp_rt, lp_exc, out_rt, out_nx, out_exc, ownList, isFr, Bool.and_true, Bool.and_false, Bool.true_and, Bool.false_and, Bool.not_true, Bool.not_false, binD, addD, augD, truD, if_true, if_false, Bool.false_eq_true, ↓reduceIte, startE_nil, startE_cons, reduceCtorEq, decide_true, decide_false, tyD, ck, hw]
  have a17 : run txt (k + 12) 17 [d, w, o] = .exc "BadPlace" := by
    rw [run_s (d := d17) rfl rfl]
    show (dSs _ _ b17 [.im d, .im w, .im o]).out = _
    simp only [b17, b17S0, b17S1, b17S2, b17S3, dE_cst, dE_glb, dE_var, dE_bin, dE_neg, dE_cmp, dE_chn, dE_and, dE_or, dE_not, dE_ite, dE_tup, dE_lst, dE_call, dE_blt, dE_mkb, dE_isi, dE_ix, dE_sl, dE_rev, dE_comp, dE_gget, dE_gix, dE_dget1, dE_dget, dE_dis, asDic, dT_cst, dT_var, dT_bin, dT_cmp, dT_chn, dT_call, dT_blt, dT_isi, dT_ix, dT_ite, dT_and, dT_or, dT_not, dO_own, dO_ev, dBd_no, dBd_to, dBs_nil, dBs_cons, dEs_nil, dEs_cons, dIt_seq, dIt_rng1, dIt_rng2, dIt_enm, dIt_zip, dS_set, dS_unp, dS_par, dS_aug, dS_ret, dS_retN, dS_ite, dS_fo, dS_pass, dS_rai, dS_exp, dS_tr, dSs_nil, dSs_cons, go_nx, go_rt, go_exc, fl_ok, fl_exc, bind_ok, bind_exc, of_some, calm_ok, flof_some, look_0, look_s, lookB_im, lookB_ow, lookB_s, frzL_nil, frzL_cons, frz1_im, frz1_un, frz1_ow, frz1_s, tg_nm, tg_tp, tg_tpl, tgs_nil, tgs_cons, obind, set_0, set_s, lp_nx, lp_ct, lp_bk, lp_rt, lp_exc, out_rt, out_nx, out_exc, ownList, isFr, Bool.and_true, Bool.and_false, Bool.true_and, Bool.false_and, Bool.not_true, Bool.not_false, binD, addD, augD, truD, if_true, if_false, Bool.false_eq_true, ↓reduceIte, startE_nil, startE_cons, reduceCtorEq, decide_true, decide_false, tyD, ck, hw]
  have e0 : cmpD .eq (.int 0) (.int 0) = some true := by kernel_rfl
  have e1 : cmpD .eq (.int 1) (.int 0) = some false := by kernel_rfl
  have hs : ∀ ρ, dHs (subL txt.sub) "BadPlace" ρ (.ret "BadValue" (.str "value") (.ret "BadPlace" (.str "place") .nil)) = .rt (.str "place") := fun ρ => by kernel_rfl
  constructor
  · rw [run_s (d := d28) rfl rfl]
    show (dSs _ _ b28 [.im (.int 0), .im d, .im w, .im o]).out = _
    have b : dSs (run txt (k + 12)) (subL txt.sub) b28B0 [.im (.int 0), .im d, .im w, .im o] = .exc "BadPlace" [.im (.int 0), .im d, .im w, .im o] := by
      simp only [b28B0, dE_cst, dE_glb, dE_var, dE_bin, dE_neg, dE_cmp, dE_chn, dE_and, dE_or, dE_not, dE_ite, dE_tup, dE_lst, dE_call, dE_blt, dE_mkb, dE_isi, dE_ix, dE_sl, dE_rev, dE_comp, dE_gget, dE_gix, dE_dget1, dE_dget, dE_dis, asDic, dT_cst, dT_var, dT_bin, dT_cmp, dT_chn, dT_call, dT_blt, dT_isi, dT_ix, dT_ite, dT_and, dT_or, dT_not, dO_own, dO_ev, dBd_no, dBd_to, dBs_nil, dBs_cons, dEs_nil, dEs_cons, dIt_seq, dIt_rng1, dIt_rng2, dIt_enm, dIt_zip, dS_set, dS_unp, dS_par, dS_aug, dS_ret, dS_retN, dS_ite, dS_fo, dS_pass, dS_rai, dS_exp, dS_tr, dSs_nil, dSs_cons, go_nx, go_rt, go_exc, fl_ok, fl_exc, bind_ok, bind_exc, of_some, calm_ok, flof_some, look_0, look_s, lookB_im, lookB_ow, lookB_s, frzL_nil, frzL_cons, frz1_im, frz1_un, frz1_ow, frz1_s, tg_nm, tg_tp, tg_tpl, tgs_nil, tgs_cons, obind, set_0, set_s, lp_nx, lp_ct, lp_bk, lp_rt, lp_exc, out_rt, out_nx, out_exc, ownList, isFr, Bool.and_true, Bool.and_false, Bool.true_and, Bool.false_and, Bool.not_true, Bool.not_false, binD, addD, augD, truD, if_true, if_false, Bool.false_eq_true, ↓reduceIte, startE_nil, startE_cons, reduceCtorEq, decide_true, decide_false, tyD, e0, a16]
    rw [b28, dSs_cons, dS_tr, b]
    show ((dHs _ _ _ _).go _).out = _
    rw [hs, go_rt, out_rt]
  · rw [run_s (d := d28) rfl rfl]
    show (dSs _ _ b28 [.im (.int 1), .im d, .im w, .im o]).out = _
    have b : dSs (run txt (k + 12)) (subL txt.sub) b28B0 [.im (.int 1), .im d, .im w, .im o] = .exc "BadPlace" [.im (.int 1), .im d, .im w, .im o] := by
      simp only [b28B0, dE_cst, dE_glb, dE_var, dE_bin, dE_neg, dE_cmp, dE_chn, dE_and, dE_or, dE_not, dE_ite, dE_tup, dE_lst, dE_call, dE_blt, dE_mkb, dE_isi, dE_ix, dE_sl, dE_rev, dE_comp, dE_gget, dE_gix, dE_dget1, dE_dget, dE_dis, asDic, dT_cst, dT_var, dT_bin, dT_cmp, dT_chn, dT_call, dT_blt, dT_isi, dT_ix, dT_ite, dT_and, dT_or, dT_not, dO_own, dO_ev, dBd_no, dBd_to, dBs_nil, dBs_cons, dEs_nil, dEs_cons, dIt_seq, dIt_rng1, dIt_rng2, dIt_enm, dIt_zip, dS_set, dS_unp, dS_par, dS_aug, dS_ret, dS_retN, dS_ite, dS_fo, dS_pass, dS_rai, dS_exp, dS_tr, dSs_nil, dSs_cons, go_nx, go_rt, go_exc, fl_ok, fl_exc, bind_ok, bind_exc, of_some, calm_ok, flof_some, look_0, look_s, lookB_im, lookB_ow, lookB_s, frzL_nil, frzL_cons, frz1_im, frz1_un, frz1_ow, frz1_s, tg_nm, tg_tp, tg_tpl, tgs_nil, tgs_cons, obind, set_0, set_s, lp_nx, lp_ct, lp_bk, lp_rt, lp_exc, out_rt, out_nx, out_exc, ownList, isFr, Bool.and_true, Bool.and_false, Bool.true_and, Bool.false_and, Bool.not_true, Bool.not_false, binD, addD, augD, truD, if_true, if_false, Bool.false_eq_true, ↓reduceIte, startE_nil, startE_cons, reduceCtorEq, decide_true, decide_false, tyD, e1, a17]
    rw [b28, dSs_cons, dS_tr, b]
    show ((dHs _ _ _ _).go _).out = _
    rw [hs, go_rt, out_rt]
theorem told_value (k : Nat) {d w : D} (g : Good d) (hw : run txt (k + 11) 9 [w] = .exc "BadValue") : run txt (k + 13) 28 [.int 1, d, .tup [], w] = .ok (.str "value") := by
  have ck := run_check k d g.sh g.few
  have hp : (([] : List Int), d) ∈ plc 7 d [] := by
    obtain ⟨s, pre, kids, rfl, h1, h2⟩ := g.sh
    rw [plc_u h1]
    exact List.mem_cons_self
  have cp := run_check_place (k + 2) d g.sh hp
  have cp : run txt (k + 11) 15 [d, .tup []] = .ok .non := cp
  have a17 : run txt (k + 12) 17 [d, .tup [], w] = .exc "BadValue" := by
    rw [run_s (d := d17) rfl rfl]
    show (dSs _ _ b17 [.im d, .im (.tup []), .im w]).out = _
    simp only [b17, b17S0, b17S1, b17S2, b17S3, dE_cst, dE_glb, dE_var, dE_bin, dE_neg, dE_cmp, dE_chn, dE_and, dE_or, dE_not, dE_ite, dE_tup, dE_lst, dE_call, dE_blt, dE_mkb, dE_isi, dE_ix, dE_sl, dE_rev, dE_comp, dE_gget, dE_gix, dE_dget1, dE_dget, dE_dis, asDic, dT_cst, dT_var, dT_bin, dT_cmp, dT_chn, dT_call, dT_blt, dT_isi, dT_ix, dT_ite, dT_and, dT_or, dT_not, dO_own, dO_ev, dBd_no, dBd_to, dBs_nil, dBs_cons, dEs_nil, dEs_cons, dIt_seq, dIt_rng1, dIt_rng2, dIt_enm, dIt_zip, dS_set, dS_unp, dS_par, dS_aug, dS_ret, dS_retN, dS_ite, dS_fo, dS_pass, dS_rai, dS_exp, dS_tr, dSs_nil, dSs_cons, go_nx, go_rt, go_exc, fl_ok, fl_exc, bind_ok, bind_exc, of_some, calm_ok, flof_some, look_0, look_s, lookB_im, lookB_ow, lookB_s, frzL_nil, frzL_cons, frz1_im, frz1_un, frz1_ow, frz1_s, tg_nm, tg_tp, tg_tpl, tgs_nil, tgs_cons, obind, set_0, set_s, lp_nx, lp_ct, lp_bk, lp_rt, lp_exc, out_rt, out_nx, out_exc, ownList, isFr, Bool.and_true, Bool.and_false, Bool.true_and, Bool.false_and, Bool.not_true, Bool.not_false, binD, addD, augD, truD, if_true, if_false, Bool.false_eq_true, ↓reduceIte, startE_nil, startE_cons, reduceCtorEq, decide_true, decide_false, tyD, ck, cp, hw]
  have e1 : cmpD .eq (.int 1) (.int 0) = some false := by kernel_rfl
  have hs : ∀ ρ, dHs (subL txt.sub) "BadValue" ρ (.ret "BadValue" (.str "value") (.ret "BadPlace" (.str "place") .nil)) = .rt (.str "value") := fun ρ => by kernel_rfl
  rw [run_s (d := d28) rfl rfl]
  show (dSs _ _ b28 [.im (.int 1), .im d, .im (.tup []), .im w]).out = _
  have b : dSs (run txt (k + 12)) (subL txt.sub) b28B0 [.im (.int 1), .im d, .im (.tup []), .im w] = .exc "BadValue" [.im (.int 1), .im d, .im (.tup []), .im w] := by
    simp only [b28B0, dE_cst, dE_glb, dE_var, dE_bin, dE_neg, dE_cmp, dE_chn, dE_and, dE_or, dE_not, dE_ite, dE_tup, dE_lst, dE_call, dE_blt, dE_mkb, dE_isi, dE_ix, dE_sl, dE_rev, dE_comp, dE_gget, dE_gix, dE_dget1, dE_dget, dE_dis, asDic, dT_cst, dT_var, dT_bin, dT_cmp, dT_chn, dT_call, dT_blt, dT_isi, dT_ix, dT_ite, dT_and, dT_or, dT_not, dO_own, dO_ev, dBd_no, dBd_to, dBs_nil, dBs_cons, dEs_nil, dEs_cons, dIt_seq, dIt_rng1, dIt_rng2, dIt_enm, dIt_zip, dS_set, dS_unp, dS_par, dS_aug, dS_ret, dS_retN, dS_ite, dS_fo, dS_pass, dS_rai, dS_exp, dS_tr, dSs_nil, dSs_cons, go_nx, go_rt, go_exc, fl_ok, fl_exc, bind_ok, bind_exc, of_some, calm_ok, flof_some, look_0, look_s, lookB_im, lookB_ow, lookB_s, frzL_nil, frzL_cons, frz1_im, frz1_un, frz1_ow, frz1_s, tg_nm, tg_tp, tg_tpl, tgs_nil, tgs_cons, obind, set_0, set_s, lp_nx, lp_ct, lp_bk, lp_rt, lp_exc, out_rt, out_nx, out_exc, ownList, isFr, Bool.and_true, Bool.and_false, Bool.true_and, Bool.false_and, Bool.not_true, Bool.not_false, binD, addD, augD, truD, if_true, if_false, Bool.false_eq_true, ↓reduceIte, startE_nil, startE_cons, reduceCtorEq, decide_true, decide_false, tyD, e1, a17]
  rw [b28, dSs_cons, dS_tr, b]
  show ((dHs _ _ _ _).go _).out = _
  rw [hs, go_rt, out_rt]
end Law
namespace Law
open PySem PySem.Spec PyProof.Rows L2 Z
theorem gen : GenOk txt 22 23 24 := ⟨fun _ _ _ _ => run_s (d := d22) rfl rfl, fun _ _ _ _ _ => run_s (d := d23) rfl rfl, fun _ _ _ _ => run_s (d := d24) rfl rfl⟩
/-! ### data that == takes -/
theorem kind_ok {s : Str} (h : s ∈ allK) : PyData.strOk s = true := by
  simp only [allK, List.mem_cons, List.not_mem_nil, or_false] at h
  rcases h with rfl | rfl | rfl | rfl | rfl | rfl | rfl | rfl | rfl | rfl | rfl | rfl | rfl | rfl | rfl | rfl | rfl | rfl | rfl | rfl | rfl | rfl | rfl | rfl | rfl | rfl | rfl <;> decide +kernel
theorem flatL_app : ∀ {n : Nat} {xs ys : List D}, flatL n (xs ++ ys) = (flatL n xs && flatL n ys)
  | n, [], ys => rfl
  | n, x :: xs, ys => by
    show (flat n x && flatL n (xs ++ ys)) = ((flat n x && flatL n xs) && flatL n ys)
    rw [flatL_app, Bool.and_assoc]
theorem flatL_of {n : Nat} : ∀ {xs : List D}, (∀ x ∈ xs, flat n x = true) → flatL n xs = true
  | [], _ => rfl
  | x :: xs, h => by
    show (flat n x && flatL n xs) = true
    rw [h x List.mem_cons_self, flatL_of fun y hy => h y (List.mem_cons_of_mem _ hy)]
    rfl
theorem flat_int {n : Nat} {i : Int} : flat n (.int i) = true := by cases n <;> rfl
theorem flat_str {n : Nat} {x : Str} (h : PyData.strOk x = true) : flat n (.str x) = true := by cases n <;> exact h
theorem Node.flat {s : Str} {pre : List D} {m n : Nat} (h : Node s pre m) : flatL n pre = true := by
  refine flatL_of fun x hx => ?_
  cases h with
  | word =>
    simp only [List.mem_cons, List.not_mem_nil, or_false] at hx
    rcases hx with rfl | rfl <;> exact flat_int
  | var y hy =>
    rw [List.mem_singleton.mp hx]
    rcases hy with rfl | rfl | rfl <;> exact flat_str (by decide +kernel)
  | part =>
    simp only [List.mem_cons, List.not_mem_nil, or_false] at hx
    rcases hx with rfl | rfl <;> exact flat_int
  | zero => rw [List.mem_singleton.mp hx]; exact flat_int
  | sign => rw [List.mem_singleton.mp hx]; exact flat_int
  | plain => cases hx
theorem Sh.flat : ∀ {n : Nat} {d : D}, Sh n d → Z.flat n d = true
  | 0, _, h => h.elim
  | n + 1, d, h => by
    obtain ⟨s, pre, kids, rfl, h1, h2⟩ := h
    show (Z.flat n (.str s) && flatL n (pre ++ kids)) = true
    rw [flat_str (kind_ok h1.kind), flatL_app, h1.flat, flatL_of fun q hq => (h2 q hq).flat]
    rfl
theorem Sh.flat60 {n : Nat} {d : D} (h : Sh n d) (hn : n ≤ 60) : Z.flat 60 d = true := (h.le hn).flat
theorem putN_sh {m : Nat} {o : D} (ho : Sh m o) : ∀ (n : Nat) (d : D), Sh n d → ∀ (p : List Int) (y : D), (p, y) ∈ plc n d [] → Sh (n + m) (putN o p d)
  | 0, _, h, _, _, _ => h.elim
  | n + 1, d, h, p, y, hp => by
    obtain ⟨s, pre, kids, rfl, h1, h2⟩ := h
    rcases plc_cases h1 h2 hp with ⟨rfl, rfl⟩ | ⟨i, p', rfl, hi, hm⟩
    · exact ho.le (by omega)
    · obtain ⟨hl, e4⟩ := node_at h1 hi
      rw [putN_u, List.getD_eq_getElem?_getD, List.getElem?_eq_getElem hl, Option.getD_some, e4]
      have ih := putN_sh ho n kids[i] (h2 _ (List.getElem_mem hi)) p' y hm
      have fp := h1.pre.1
      have e1 : (D.str s :: (pre ++ kids)).take (firstN s + i) = .str s :: (pre ++ kids.take i) := by
        rw [← fp, show pre.length + 1 + i = (pre.length + i) + 1 from by omega, List.take_succ_cons, List.take_append, List.take_of_length_le (by omega), show pre.length + i - pre.length = i from by omega]
      have e2 : (D.str s :: (pre ++ kids)).drop (firstN s + i + 1) = kids.drop (i + 1) := by
        rw [← fp, show pre.length + 1 + i + 1 = (pre.length + (i + 1)) + 1 from by omega, List.drop_succ_cons, List.drop_append, List.drop_of_length_le (by omega), List.nil_append, show pre.length + (i + 1) - pre.length = i + 1 from by omega]
      rw [e1, e2, show n + 1 + m = (n + m) + 1 from by omega]
      refine ⟨s, pre, kids.take i ++ [putN o p' kids[i]] ++ kids.drop (i + 1), by simp [List.append_assoc], ?_, fun q hq => ?_⟩
      · have : (kids.take i ++ [putN o p' kids[i]] ++ kids.drop (i + 1)).length = kids.length := by
          rw [List.length_append, List.length_append, List.length_take, List.length_drop, List.length_singleton]
          omega
        rw [this]
        exact h1
      · rcases List.mem_append.mp hq with z | z
        · rcases List.mem_append.mp z with z | z
          · exact (h2 q (List.mem_of_mem_take z)).le (by omega)
          · rw [List.mem_singleton.mp z]; exact ih
        · exact (h2 q (List.mem_of_mem_drop z)).le (by omega)
/-! ### a turn -/
section
variable {n : Nat} {sub : Str → Str → Option Bool} {d o : D} (g : Good d) (go : Good o)
variable (a0 a1 a2 a3 a4 a5 a6 a9 a10 a11 a12 : Slot)
theorem comp_rows (k : Nat) (x : E) (hx : x = .var 11) (g : Good d) : dE (run txt k) (.comp x [11, 12] (.tp (.cons (.nm 11) (.cons (.nm 12) .nil))) (.seq (.var 9)) (.cst (.bl true))) [a0, a1, a2, a3, a4, a5, a6, .im d, .im o, .im (.lst ((plc 7 d []).map pP)), a10, a11, a12] = .ok (.lst ((plc 7 d []).map pT)) := by
  subst hx
  have len := plc_len 7 d [] g.sh
  have p4 : 4 ^ 7 = 16384 := rfl
  have c := comp_map (T := run txt k) (ρ := [a0, a1, a2, a3, a4, a5, a6, .im d, .im o, .im (.lst ((plc 7 d []).map pP)), a10, a11, a12]) (x := .var 11) (own := [11, 12]) (t := .tp (.cons (.nm 11) (.cons (.nm 12) .nil))) (it := .seq (.var 9)) (ds := (plc 7 d []).map pP) (fun q => match q with
      | .tup [p, _] => p
      | _ => .non) rfl (by show _ < 16777216; rw [List.length_map]; omega) fun q hq => by
      obtain ⟨x, hx, rfl⟩ := List.mem_map.mp hq
      exact ⟨_, rfl, rfl⟩
  rw [c, List.map_map]
  rfl
theorem flat_tis (l : List (List Int)) : flatL 59 (l.map tupI) = true := flatL_of fun x hx => by
  obtain ⟨p, _, rfl⟩ := List.mem_map.mp hx
  exact flatL_ints 58 p
include g in
theorem tu3 : dS (run txt (n + 13)) sub b30L2S3 [a0, a1, a2, a3, a4, a5, a6, .im d, .im o, .im (.lst ((plc 7 d []).map pP)), a10, a11, a12] = .nx [a0, a1, a2, a3, a4, a5, a6, .im d, .im o, .im (.lst ((plc 7 d []).map pP)), a10, a11, a12] := by
  have c := comp_rows (o := o) a0 a1 a2 a3 a4 a5 a6 a10 a11 a12 (n + 13) b30C0 rfl g
  have q1 := run_placesof (n + 1) g
  have q2 := run_weightof (n + 1) g
  have q3 := run_lweight (n + 4) d g.sh
  have e1 : cmpD .ne (.tup ((sortT ((plc 7 d []).map (·.1))).map tupI)) (.tup ((sortT ((plc 7 d []).map (·.1))).map tupI)) = some false := ne_self (flat_tis _)
  have e2 : cmpD .ne (.int (wgt 7 d : Nat)) (.int (wgt 7 d : Nat)) = some false := ne_self rfl
  simp only [b30L2S3, dS_ite, frzL_nil, dT_or, dT_cmp, dE_cmp, dO_ev, dE_call, dEs_cons, dEs_nil, dE_var, look_s, look_0, dE_mkb, c, bind_ok, q1, q2, q3, sort_plc g.sh, tup_lst, of_some, e1, e2, truD, Bool.false_eq_true, if_false, fl_ok, dSs_nil]
include g go in
theorem tu4 : ∃ a11' a12', dS (run txt (n + 13)) sub b30L2S4 [a0, a1, a2, a3, a4, a5, a6, .im d, .im o, .im (.lst ((plc 7 d []).map pP)), a10, a11, a12] = .nx [a0, a1, a2, a3, a4, a5, a6, .im d, .im o, .im (.lst ((plc 7 d []).map pP)), a10, a11', a12'] := by
  have loop : ∀ (l : List (List Int × D)) (a11 a12 : Slot), (∀ x ∈ l, x ∈ plc 7 d []) → ∃ a11' a12', forL (dTg (.tp (.cons (.nm 11) (.cons (.nm 12) .nil)))) (dSs (run txt (n + 13)) sub b30L0) (l.map pP) [a0, a1, a2, a3, a4, a5, a6, .im d, .im o, .im (.lst ((plc 7 d []).map pP)), a10, a11, a12] = .nx [a0, a1, a2, a3, a4, a5, a6, .im d, .im o, .im (.lst ((plc 7 d []).map pP)), a10, a11', a12'] := by
    intro l
    induction l with
    | nil => intro a11 a12 _; exact ⟨a11, a12, rfl⟩
    | cons x l ih =>
      intro a11 a12 h
      obtain ⟨p, y⟩ := x
      have hm := h (p, y) List.mem_cons_self
      obtain ⟨a11', a12', e⟩ := ih (.im (tupI p)) (.im y) (fun z hz => h z (List.mem_cons_of_mem _ hz))
      refine ⟨a11', a12', ?_⟩
      rw [List.map_cons, forL_cons (ρ1 := [a0, a1, a2, a3, a4, a5, a6, .im d, .im o, .im (.lst ((plc 7 d []).map pP)), a10, .im (tupI p), .im y]) rfl]
      have sy := plc_sh 7 d [] g.sh _ hm
      have sy : Sh 7 y := sy
      have gy : cnt 7 y ≤ 60 := Nat.le_trans (plc_cnt 7 d [] g.sh _ hm) g.few
      have q1 := run_at (n + 1) g hm
      have q2 := run_putat (n + 1) g ⟨sy, gy⟩ hm
      have q3 := run_putat (n + 1) g go hm
      have q4 := run_lput 7 (n + 5) d o g.sh p y hm
      rw [putN_self 7 d g.sh p y hm] at q2
      rw [show 7 + (n + 5) + 1 = n + 13 from by omega] at q4
      have e1 : cmpD .ne y y = some false := ne_self (sy.flat60 (by omega))
      have e2 : cmpD .ne d d = some false := ne_self (g.sh.flat60 (by omega))
      have e3 : cmpD .ne (putN o p d) (putN o p d) = some false := ne_self ((putN_sh go.sh 7 d g.sh p y hm).flat60 (by omega))
      have b : dSs (run txt (n + 13)) sub b30L0 [a0, a1, a2, a3, a4, a5, a6, .im d, .im o, .im (.lst ((plc 7 d []).map pP)), a10, .im (tupI p), .im y] = .nx [a0, a1, a2, a3, a4, a5, a6, .im d, .im o, .im (.lst ((plc 7 d []).map pP)), a10, .im (tupI p), .im y] := by
        simp only [b30L0, dE_cst, dE_glb, dE_var, dE_bin, dE_neg, dE_cmp, dE_chn, dE_and, dE_or, dE_not, dE_ite, dE_tup, dE_lst, dE_call, dE_blt, dE_mkb, dE_isi, dE_ix, dE_sl, dE_rev, dE_comp, dE_gget, dE_gix, dE_dget1, dE_dget, dE_dis, asDic, dT_cst, dT_var, dT_bin, dT_cmp, dT_chn, dT_call, dT_blt, dT_isi, dT_ix, dT_ite, dT_and, dT_or, dT_not, dO_own, dO_ev, dBd_no, dBd_to, dBs_nil, dBs_cons, dEs_nil, dEs_cons, dIt_seq, dIt_rng1, dIt_rng2, dIt_enm, dIt_zip, dS_set, dS_unp, dS_par, dS_aug, dS_ret, dS_retN, dS_ite, dS_fo, dS_pass, dS_rai, dS_exp, dS_tr, dSs_nil, dSs_cons, go_nx, go_rt, go_exc, fl_ok, fl_exc, bind_ok, bind_exc, of_some, calm_ok, flof_some, look_0, look_s, lookB_im, lookB_ow, lookB_s, frzL_nil, frzL_cons, frz1_im, frz1_un, frz1_ow, frz1_s, tg_nm, tg_tp, tg_tpl, tgs_nil, tgs_cons, obind, set_0, set_s, lp_nx, lp_ct, lp_bk, lp_rt, lp_exc, out_rt, out_nx, out_exc, ownList, isFr, Bool.and_true, Bool.and_false, Bool.true_and, Bool.false_and, Bool.not_true, Bool.not_false, binD, addD, augD, truD, if_true, if_false, Bool.false_eq_true, ↓reduceIte, startE_nil, startE_cons, reduceCtorEq, decide_true, decide_false, tyD, q1, q2, q3, q4, e1, e2, e3]
      rw [b, lp_nx, e]
  obtain ⟨a11', a12', e⟩ := loop (plc 7 d []) a11 a12 fun _ h => h
  refine ⟨a11', a12', ?_⟩
  have it : dIt (run txt (n + 13)) (.seq (.var 9)) [a0, a1, a2, a3, a4, a5, a6, .im d, .im o, .im (.lst ((plc 7 d []).map pP)), a10, a11, a12] = .ok ((plc 7 d []).map pP) := rfl
  rw [b30L2S4, dS_fo, frzL_nil, it, fl_ok, e]
include g in
theorem tu5 : ∃ x y, (x, y) ∈ plc 7 d [] ∧ (∀ z ∈ plc 7 d [], z.1 ≠ x ++ [0]) ∧ dS (run txt (n + 13)) sub b30L2S5 [a0, a1, a2, a3, a4, a5, a6, .im d, .im o, .im (.lst ((plc 7 d []).map pP)), a10, a11, a12] = .nx [a0, a1, a2, a3, a4, a5, a6, .im d, .im o, .im (.lst ((plc 7 d []).map pP)), .im (tupI x), a11, a12] := by
  obtain ⟨x, y, hm, ix, hz⟩ := last_of g.sh
  refine ⟨x, y, hm, hz, ?_⟩
  have c := comp_rows (o := o) a0 a1 a2 a3 a4 a5 a6 a10 a11 a12 (n + 13) b30C1 rfl g
  have ng : (-(1 : Int)) = -1 := rfl
  simp only [b30L2S5, dS_set, frzL_nil, dE_ix, dO_ev, dE_mkb, dEs_cons, dEs_nil, c, bind_ok, sort_plc g.sh, of_some, dE_neg, dE_cst, ix, fl_ok, isFr, Bool.and_false, ownList, set_s, set_0]
include g in
theorem tu6 {x : List Int} {y : D} (hm : (x, y) ∈ plc 7 d []) (hz : ∀ z ∈ plc 7 d [], z.1 ≠ x ++ [0]) : ∃ a4', dS (run txt (n + 13)) sub b30L2S6 [a0, a1, a2, a3, a4, a5, a6, .im d, .im o, a9, .im (tupI x), a11, a12] = .nx [a0, a1, a2, a3, a4', a5, a6, .im d, .im o, a9, .im (tupI x), a11, a12] := by
  have loop : ∀ (l : List D) (a4 : Slot), (∀ w ∈ l, run txt (n + 11) 15 [d, w] = .exc "BadPlace") → ∃ a4', forL (dTg (.nm 4)) (dSs (run txt (n + 13)) sub b30L1) l [a0, a1, a2, a3, a4, a5, a6, .im d, .im o, a9, .im (tupI x), a11, a12] = .nx [a0, a1, a2, a3, a4', a5, a6, .im d, .im o, a9, .im (tupI x), a11, a12] := by
    intro l
    induction l with
    | nil => intro a4 _; exact ⟨a4, rfl⟩
    | cons w l ih =>
      intro a4 h
      obtain ⟨a4', e⟩ := ih (.im w) (fun z hz => h z (List.mem_cons_of_mem _ hz))
      refine ⟨a4', ?_⟩
      rw [forL_cons (ρ1 := [a0, a1, a2, a3, .im w, a5, a6, .im d, .im o, a9, .im (tupI x), a11, a12]) rfl]
      obtain ⟨t0, t1⟩ := told_place n g (h w List.mem_cons_self) .non
      have ep : cmpD .ne (.str "place") (.str "place") = some false := by kernel_rfl
      have b : dSs (run txt (n + 13)) sub b30L1 [a0, a1, a2, a3, .im w, a5, a6, .im d, .im o, a9, .im (tupI x), a11, a12] = .nx [a0, a1, a2, a3, .im w, a5, a6, .im d, .im o, a9, .im (tupI x), a11, a12] := by
        simp only [b30L1, dE_cst, dE_glb, dE_var, dE_bin, dE_neg, dE_cmp, dE_chn, dE_and, dE_or, dE_not, dE_ite, dE_tup, dE_lst, dE_call, dE_blt, dE_mkb, dE_isi, dE_ix, dE_sl, dE_rev, dE_comp, dE_gget, dE_gix, dE_dget1, dE_dget, dE_dis, asDic, dT_cst, dT_var, dT_bin, dT_cmp, dT_chn, dT_call, dT_blt, dT_isi, dT_ix, dT_ite, dT_and, dT_or, dT_not, dO_own, dO_ev, dBd_no, dBd_to, dBs_nil, dBs_cons, dEs_nil, dEs_cons, dIt_seq, dIt_rng1, dIt_rng2, dIt_enm, dIt_zip, dS_set, dS_unp, dS_par, dS_aug, dS_ret, dS_retN, dS_ite, dS_fo, dS_pass, dS_rai, dS_exp, dS_tr, dSs_nil, dSs_cons, go_nx, go_rt, go_exc, fl_ok, fl_exc, bind_ok, bind_exc, of_some, calm_ok, flof_some, look_0, look_s, lookB_im, lookB_ow, lookB_s, frzL_nil, frzL_cons, frz1_im, frz1_un, frz1_ow, frz1_s, tg_nm, tg_tp, tg_tpl, tgs_nil, tgs_cons, obind, set_0, set_s, lp_nx, lp_ct, lp_bk, lp_rt, lp_exc, out_rt, out_nx, out_exc, ownList, isFr, Bool.and_true, Bool.and_false, Bool.true_and, Bool.false_and, Bool.not_true, Bool.not_false, binD, addD, augD, truD, if_true, if_false, Bool.false_eq_true, ↓reduceIte, startE_nil, startE_cons, reduceCtorEq, decide_true, decide_false, tyD, t0, t1, ep]
      rw [b, lp_nx, e]
  obtain ⟨q, e, l, sm, _⟩ := plc_form 7 d [] g.sh _ hm
  have e : x = q := by rw [List.nil_append] at e; exact e
  have c5 : run txt (n + 11) 15 [d, tupI (x ++ [0])] = .exc "BadPlace" := check_wrong (n + 2) d g.sh (fun i hi => by
    rcases List.mem_append.mp hi with z | z
    · rw [e] at z; exact (sm i z).1
    · rw [List.mem_singleton.mp z]; exact Int.le_refl 0) (by rw [e, List.length_append, List.length_singleton]; omega) hz
  have c3 : run txt (n + 11) 15 [d, tupI [9]] = .exc "BadPlace" := check_wrong (n + 2) d g.sh (fun i hi => by rw [List.mem_singleton.mp hi]; decide) (by simp) fun z hz e => by
    obtain ⟨q, e2, _, sm, _⟩ := plc_form 7 d [] g.sh z hz
    rw [List.nil_append] at e2
    have := sm 9 (by rw [← e2, e]; exact List.mem_singleton.mpr rfl)
    omega
  obtain ⟨a4', lp⟩ := loop [.non, .lst [.int 0], tupI [9], .tup [.bl true], tupI (x ++ [0]), tupI [-1], .str "a", .int 0] a4 fun w hw => by
    simp only [List.mem_cons, List.not_mem_nil, or_false] at hw
    rcases hw with rfl | rfl | rfl | rfl | rfl | rfl | rfl | rfl
    · exact check_none (n + 2) d _ (by kernel_rfl)
    · exact check_none (n + 2) d _ (by kernel_rfl)
    · exact c3
    · exact check_none (n + 2) d _ (by kernel_rfl)
    · exact c5
    · exact check_none (n + 2) d _ (by kernel_rfl)
    · exact check_none (n + 2) d _ (by kernel_rfl)
    · exact check_none (n + 2) d _ (by kernel_rfl)
  refine ⟨a4', ?_⟩
  have ad := add_abv (ab := x) (j := 0) (by rw [e]; omega)
  have it : dIt (run txt (n + 13)) (.seq (.tup (.cons (.cst .non) (.cons (.lst (.cons (.cst (.int 0)) .nil)) (.cons (.tup (.cons (.cst (.int 9)) .nil)) (.cons (.tup (.cons (.cst (.bl true)) .nil)) (.cons (.bin .add (.var 10) (.tup (.cons (.cst (.int 0)) .nil))) (.cons (.tup (.cons (.neg (.cst (.int 1))) .nil)) (.cons (.cst (.str "a")) (.cons (.cst (.int 0)) .nil)))))))))) [a0, a1, a2, a3, a4, a5, a6, .im d, .im o, a9, .im (tupI x), a11, a12] = .ok [.non, .lst [.int 0], tupI [9], .tup [.bl true], tupI (x ++ [0]), tupI [-1], .str "a", .int 0] := by
    simp only [dE_cst, dE_glb, dE_var, dE_bin, dE_neg, dE_cmp, dE_chn, dE_and, dE_or, dE_not, dE_ite, dE_tup, dE_lst, dE_call, dE_blt, dE_mkb, dE_isi, dE_ix, dE_sl, dE_rev, dE_comp, dE_gget, dE_gix, dE_dget1, dE_dget, dE_dis, asDic, dT_cst, dT_var, dT_bin, dT_cmp, dT_chn, dT_call, dT_blt, dT_isi, dT_ix, dT_ite, dT_and, dT_or, dT_not, dO_own, dO_ev, dBd_no, dBd_to, dBs_nil, dBs_cons, dEs_nil, dEs_cons, dIt_seq, dIt_rng1, dIt_rng2, dIt_enm, dIt_zip, dS_set, dS_unp, dS_par, dS_aug, dS_ret, dS_retN, dS_ite, dS_fo, dS_pass, dS_rai, dS_exp, dS_tr, dSs_nil, dSs_cons, go_nx, go_rt, go_exc, fl_ok, fl_exc, bind_ok, bind_exc, of_some, calm_ok, flof_some, look_0, look_s, lookB_im, lookB_ow, lookB_s, frzL_nil, frzL_cons, frz1_im, frz1_un, frz1_ow, frz1_s, tg_nm, tg_tp, tg_tpl, tgs_nil, tgs_cons, obind, set_0, set_s, lp_nx, lp_ct, lp_bk, lp_rt, lp_exc, out_rt, out_nx, out_exc, ownList, isFr, Bool.and_true, Bool.and_false, Bool.true_and, Bool.false_and, Bool.not_true, Bool.not_false, truD, if_true, if_false, Bool.false_eq_true, ↓reduceIte, startE_nil, startE_cons, reduceCtorEq, decide_true, decide_false, tyD, ad, List.length_cons, List.length_nil, l1, (by decide : (0 + 1 + 1 + 1 + 1 + 1 + 1 + 1 + 1 ≤ lim) = True), itemsD]
    rfl
  rw [b30L2S6, dS_fo, frzL_nil, it, fl_ok, lp]
include g in
theorem tu7 : dS (run txt (n + 13)) sub b30L2S7 [a0, a1, a2, a3, a4, a5, a6, .im d, .im o, a9, a10, a11, a12] = .nx [a0, a1, a2, a3, a4, a5, a6, .im d, .im o, a9, a10, a11, a12] := by
  have c := comp_map (T := run txt (n + 13)) (ρ := [a0, a1, a2, a3, a4, a5, a6, .im d, .im o, a9, a10, a11, a12]) (x := b30C2) (own := [4]) (t := .nm 4) (it := .seq (.tup (.cons (.cst .non) (.cons (.tup .nil) (.cons (.tup (.cons (.cst (.str "no")) .nil)) (.cons (.tup (.cons (.cst (.str "word")) (.cons (.cst (.int 2)) (.cons (.cst (.int 4)) .nil)))) (.cons (.tup (.cons (.cst (.str "add")) (.cons (.var 8) .nil))) .nil))))))) (ds := [.non, .tup [], .tup [.str "no"], .tup [.str "word", .int 2, .int 4], .tup [.str "add", o]]) (fun q => .str "value") (by kernel_rfl) (by show _ < 16777216; simp) fun q hq => by
      have hv : run txt (n + 11) 9 [q] = .exc "BadValue" := by
        simp only [List.mem_cons, List.not_mem_nil, or_false] at hq
        rcases hq with rfl | rfl | rfl | rfl | rfl <;> kernel_rfl
      have t := told_value n g hv
      refine ⟨[a0, a1, a2, a3, .im q, a5, a6, .im d, .im o, a9, a10, a11, a12], rfl, ?_⟩
      simp only [b30C2, dE_cst, dE_glb, dE_var, dE_bin, dE_neg, dE_cmp, dE_chn, dE_and, dE_or, dE_not, dE_ite, dE_tup, dE_lst, dE_call, dE_blt, dE_mkb, dE_isi, dE_ix, dE_sl, dE_rev, dE_comp, dE_gget, dE_gix, dE_dget1, dE_dget, dE_dis, asDic, dT_cst, dT_var, dT_bin, dT_cmp, dT_chn, dT_call, dT_blt, dT_isi, dT_ix, dT_ite, dT_and, dT_or, dT_not, dO_own, dO_ev, dBd_no, dBd_to, dBs_nil, dBs_cons, dEs_nil, dEs_cons, dIt_seq, dIt_rng1, dIt_rng2, dIt_enm, dIt_zip, dS_set, dS_unp, dS_par, dS_aug, dS_ret, dS_retN, dS_ite, dS_fo, dS_pass, dS_rai, dS_exp, dS_tr, dSs_nil, dSs_cons, go_nx, go_rt, go_exc, fl_ok, fl_exc, bind_ok, bind_exc, of_some, calm_ok, flof_some, look_0, look_s, lookB_im, lookB_ow, lookB_s, frzL_nil, frzL_cons, frz1_im, frz1_un, frz1_ow, frz1_s, tg_nm, tg_tp, tg_tpl, tgs_nil, tgs_cons, obind, set_0, set_s, lp_nx, lp_ct, lp_bk, lp_rt, lp_exc, out_rt, out_nx, out_exc, ownList, isFr, Bool.and_true, Bool.and_false, Bool.true_and, Bool.false_and, Bool.not_true, Bool.not_false, binD, addD, augD, truD, if_true, if_false, Bool.false_eq_true, ↓reduceIte, startE_nil, startE_cons, reduceCtorEq, decide_true, decide_false, tyD, List.length_nil, (by decide : (0 ≤ lim) = True), t]
  have m5 : binD .mul (.lst [.str "value"]) (.int 5) = some (.lst [.str "value", .str "value", .str "value", .str "value", .str "value"]) := by kernel_rfl
  have e : cmpD .ne (.lst [.str "value", .str "value", .str "value", .str "value", .str "value"]) (.lst [.str "value", .str "value", .str "value", .str "value", .str "value"]) = some false := by kernel_rfl
  simp only [b30L2S7, dS_ite, frzL_nil, dT_cmp, dE_cmp, dO_ev, c, bind_ok, List.map_cons, List.map_nil, dE_bin, dE_lst, dEs_cons, dEs_nil, dE_cst, List.length_cons, List.length_nil, l1, if_true, m5, of_some, e, truD, Bool.false_eq_true, if_false, fl_ok, dSs_nil]
end
end Law
namespace Law
open PySem PySem.Spec PyProof.Rows L2 Z
theorem goodE {ws : List (Str × Nat)} (W : Words ws) {d : D} {w : Nat} (h : Ex ws 5 d w) (hc : cnt 5 d ≤ (cE 3).1) : Good d := by
  have s := (sh_of W 5 d).1 w h
  refine ⟨s.le (by omega), ?_⟩
  rw [cnt_le s (by omega : 5 ≤ 7)]
  have : (cE 3).1 = 50 := rfl
  omega
theorem goodA {ws : List (Str × Nat)} (W : Words ws) {d : D} {n : Nat} (hn : n ≤ 3) (h : As ws (n + 2) d) (hc : cnt (n + 2) d ≤ (cE n).2) : Good d := by
  have s := (sh_of W (n + 2) d).2 h
  refine ⟨s.le (by omega), ?_⟩
  rw [cnt_le s (by omega : n + 2 ≤ 7)]
  have : n = 0 ∨ n = 1 ∨ n = 2 ∨ n = 3 := by omega
  rcases this with rfl | rfl | rfl | rfl
  · have : (cE 0).2 = 1 := rfl
    omega
  · have : (cE 1).2 = 5 := rfl
    omega
  · have : (cE 2).2 = 13 := rfl
    omega
  · have : (cE 3).2 = 37 := rfl
    omega
def EnvT (a0 : Slot) (L : List Int) (ws : List (Str × Nat)) (ρ : Env') : Prop := ∃ a3 a4 a5 a6 a7 a8 a9 a10 a11 a12 : Slot, ρ = [a0, .im (.lst (L.map .int)), .im (.tup (ws.map wT)), a3, a4, a5, a6, a7, a8, a9, a10, a11, a12]
theorem one_turn {n : Nat} {sub : Str → Str → Option Bool} {a0 : Slot} {L : List Int} (hL : Pos L) (hl : L.length = 300) {ws : List (Str × Nat)} (W : Words ws) {t : Nat} (ht : t < 6) {ρ : Env'} (h : EnvT a0 L ws ρ) :
    ∃ ρ1, dTg (.nm 3) (.int (t : Nat)) ρ = some ρ1 ∧ ∃ ρ2, dSs (run txt (n + 13)) sub b30L2 ρ1 = .nx ρ2 ∧ EnvT a0 L ws ρ2 := by
  obtain ⟨a3, a4, a5, a6, a7, a8, a9, a10, a11, a12, rfl⟩ := h
  refine ⟨[a0, .im (.lst (L.map .int)), .im (.tup (ws.map wT)), .im (.int (t : Nat)), a4, a5, a6, a7, a8, a9, a10, a11, a12], rfl, ?_⟩
  obtain ⟨c4, e4⟩ := getD_nat hL 4
  have i4 : ixD (.lst (L.map .int)) (.int 4) = some (.int (c4 : Nat)) := ixL (i := 4) (by omega) e4
  have m6 : binD .mod (.int (c4 : Nat)) (.int 6) = some (.int ((c4 % 6 : Nat) : Int)) := mod_nat (m := 6) (by omega)
  have l6 : c4 % 6 < 6 := Nat.mod_lt _ (by omega)
  have a6' : binD .add (.int 1) (.int ((c4 % 6 : Nat) : Int)) = some (.int ((1 + c4 % 6 : Nat) : Int)) := addN 1 _
  generalize 1 + c4 % 6 = w at a6' 
  have hw : ∃ w : Nat, 1 ≤ w ∧ w ≤ 8 ∧ binD .add (.int 1) (.int ((c4 % 6 : Nat) : Int)) = some (.int (w : Nat)) := ⟨1 + c4 % 6, by omega, by omega, addN 1 _⟩
  clear a6' w
  obtain ⟨w, w1, w8, aw⟩ := hw
  have m2 : binD .mod (.int (t : Nat)) (.int 2) = some (.int ((t % 2 : Nat) : Int)) := mod_nat (m := 2) (by omega)
  have q2 : cmpD .eq (.int ((t % 2 : Nat) : Int)) (.int 0) = some (decide (t % 2 = 0)) := eqN _ 0
  have m29 : binD .mul (.int 29) (.int (t : Nat)) = some (.int ((29 * t : Nat) : Int)) := by
    show mulD (.int 29) (.int (t : Nat)) = _
    rw [mul_l (by decide)]
    congr 2
  have a5' : binD .add (.int 5) (.int ((29 * t : Nat) : Int)) = some (.int ((5 + 29 * t : Nat) : Int)) := addN 5 _
  have a200 : binD .add (.int 200) (.int (t : Nat)) = some (.int ((200 + t : Nat) : Int)) := addN 200 _
  have s5 : slD (.lst (L.map .int)) (some ((5 + 29 * t : Nat) : Int)) none = some (.lst ((L.drop (5 + 29 * t)).map .int)) := sl_from
  have s200 : slD (.lst (L.map .int)) (some ((200 + t : Nat) : Int)) none = some (.lst ((L.drop (200 + t)).map .int)) := sl_from
  obtain ⟨x, hx, ex, cx⟩ := (gen_ok gen W 3).1 (n + 8) (L.drop (5 + 29 * t)) w (pos_drop hL _) (by rw [List.length_drop]; omega) w1 w8
  obtain ⟨y, hy, ey, cy⟩ := (gen_ok gen W 3).2 (n + 8) (L.drop (5 + 29 * t)) (pos_drop hL _) (by rw [List.length_drop]; omega)
  obtain ⟨o, ho, eo, co⟩ := (gen_ok gen W 1).2 (n + 10) (L.drop (200 + t)) (pos_drop hL _) (by rw [List.length_drop]; omega)
  have hx : run txt (n + 13) 23 [.lst ((L.drop (5 + 29 * t)).map .int), .int 3, .tup (ws.map wT), .int (w : Nat)] = .ok x := by
    rw [show n + 13 = 3 + (n + 8) + 2 from by omega]; exact hx
  have hy : run txt (n + 13) 24 [.lst ((L.drop (5 + 29 * t)).map .int), .int 3, .tup (ws.map wT)] = .ok y := by
    rw [show n + 13 = 3 + (n + 8) + 2 from by omega]; exact hy
  have ho : run txt (n + 13) 24 [.lst ((L.drop (200 + t)).map .int), .int 1, .tup (ws.map wT)] = .ok o := by
    rw [show n + 13 = 1 + (n + 10) + 2 from by omega]; exact ho
  have go : Good o := goodA W (n := 1) (by omega) eo co
  obtain ⟨d, g, st0⟩ : ∃ d, Good d ∧ dS (run txt (n + 13)) sub b30L2S0 [a0, .im (.lst (L.map .int)), .im (.tup (ws.map wT)), .im (.int (t : Nat)), a4, a5, a6, a7, a8, a9, a10, a11, a12] = .nx [a0, .im (.lst (L.map .int)), .im (.tup (ws.map wT)), .im (.int (t : Nat)), a4, a5, a6, .im d, a8, a9, a10, a11, a12] := by
    by_cases c : t % 2 = 0
    · exact ⟨x, goodE W ex cx, by simp only [b30L2S0, dE_cst, dE_glb, dE_var, dE_bin, dE_neg, dE_cmp, dE_chn, dE_and, dE_or, dE_not, dE_ite, dE_tup, dE_lst, dE_call, dE_blt, dE_mkb, dE_isi, dE_ix, dE_sl, dE_rev, dE_comp, dE_gget, dE_gix, dE_dget1, dE_dget, dE_dis, asDic, dT_cst, dT_var, dT_bin, dT_cmp, dT_chn, dT_call, dT_blt, dT_isi, dT_ix, dT_ite, dT_and, dT_or, dT_not, dO_own, dO_ev, dBd_no, dBd_to, dBs_nil, dBs_cons, dEs_nil, dEs_cons, dIt_seq, dIt_rng1, dIt_rng2, dIt_enm, dIt_zip, dS_set, dS_unp, dS_par, dS_aug, dS_ret, dS_retN, dS_ite, dS_fo, dS_pass, dS_rai, dS_exp, dS_tr, dSs_nil, dSs_cons, go_nx, go_rt, go_exc, fl_ok, fl_exc, bind_ok, bind_exc, of_some, calm_ok, flof_some, look_0, look_s, lookB_im, lookB_ow, lookB_s, frzL_nil, frzL_cons, frz1_im, frz1_un, frz1_ow, frz1_s, tg_nm, tg_tp, tg_tpl, tgs_nil, tgs_cons, obind, set_0, set_s, lp_nx, lp_ct, lp_bk, lp_rt, lp_exc, out_rt, out_nx, out_exc, ownList, isFr, Bool.and_true, Bool.and_false, Bool.true_and, Bool.false_and, Bool.not_true, Bool.not_false, truD, if_true, if_false, Bool.false_eq_true, ↓reduceIte, startE_nil, startE_cons, reduceCtorEq, decide_true, decide_false, tyD, m2, q2, decide_eq_true c, m29, a5', s5, i4, int_int, m6, aw, hx]⟩
    · exact ⟨y, goodA W (n := 3) (by omega) ey cy, by simp only [b30L2S0, dE_cst, dE_glb, dE_var, dE_bin, dE_neg, dE_cmp, dE_chn, dE_and, dE_or, dE_not, dE_ite, dE_tup, dE_lst, dE_call, dE_blt, dE_mkb, dE_isi, dE_ix, dE_sl, dE_rev, dE_comp, dE_gget, dE_gix, dE_dget1, dE_dget, dE_dis, asDic, dT_cst, dT_var, dT_bin, dT_cmp, dT_chn, dT_call, dT_blt, dT_isi, dT_ix, dT_ite, dT_and, dT_or, dT_not, dO_own, dO_ev, dBd_no, dBd_to, dBs_nil, dBs_cons, dEs_nil, dEs_cons, dIt_seq, dIt_rng1, dIt_rng2, dIt_enm, dIt_zip, dS_set, dS_unp, dS_par, dS_aug, dS_ret, dS_retN, dS_ite, dS_fo, dS_pass, dS_rai, dS_exp, dS_tr, dSs_nil, dSs_cons, go_nx, go_rt, go_exc, fl_ok, fl_exc, bind_ok, bind_exc, of_some, calm_ok, flof_some, look_0, look_s, lookB_im, lookB_ow, lookB_s, frzL_nil, frzL_cons, frz1_im, frz1_un, frz1_ow, frz1_s, tg_nm, tg_tp, tg_tpl, tgs_nil, tgs_cons, obind, set_0, set_s, lp_nx, lp_ct, lp_bk, lp_rt, lp_exc, out_rt, out_nx, out_exc, ownList, isFr, Bool.and_true, Bool.and_false, Bool.true_and, Bool.false_and, Bool.not_true, Bool.not_false, truD, if_true, if_false, Bool.false_eq_true, ↓reduceIte, startE_nil, startE_cons, reduceCtorEq, decide_true, decide_false, tyD, m2, q2, decide_eq_false c, m29, a5', s5, hy]⟩
  have st1 : dS (run txt (n + 13)) sub b30L2S1 [a0, .im (.lst (L.map .int)), .im (.tup (ws.map wT)), .im (.int (t : Nat)), a4, a5, a6, .im d, a8, a9, a10, a11, a12] = .nx [a0, .im (.lst (L.map .int)), .im (.tup (ws.map wT)), .im (.int (t : Nat)), a4, a5, a6, .im d, .im o, a9, a10, a11, a12] := by
    simp only [b30L2S1, dE_cst, dE_glb, dE_var, dE_bin, dE_neg, dE_cmp, dE_chn, dE_and, dE_or, dE_not, dE_ite, dE_tup, dE_lst, dE_call, dE_blt, dE_mkb, dE_isi, dE_ix, dE_sl, dE_rev, dE_comp, dE_gget, dE_gix, dE_dget1, dE_dget, dE_dis, asDic, dT_cst, dT_var, dT_bin, dT_cmp, dT_chn, dT_call, dT_blt, dT_isi, dT_ix, dT_ite, dT_and, dT_or, dT_not, dO_own, dO_ev, dBd_no, dBd_to, dBs_nil, dBs_cons, dEs_nil, dEs_cons, dIt_seq, dIt_rng1, dIt_rng2, dIt_enm, dIt_zip, dS_set, dS_unp, dS_par, dS_aug, dS_ret, dS_retN, dS_ite, dS_fo, dS_pass, dS_rai, dS_exp, dS_tr, dSs_nil, dSs_cons, go_nx, go_rt, go_exc, fl_ok, fl_exc, bind_ok, bind_exc, of_some, calm_ok, flof_some, look_0, look_s, lookB_im, lookB_ow, lookB_s, frzL_nil, frzL_cons, frz1_im, frz1_un, frz1_ow, frz1_s, tg_nm, tg_tp, tg_tpl, tgs_nil, tgs_cons, obind, set_0, set_s, lp_nx, lp_ct, lp_bk, lp_rt, lp_exc, out_rt, out_nx, out_exc, ownList, isFr, Bool.and_true, Bool.and_false, Bool.true_and, Bool.false_and, Bool.not_true, Bool.not_false, truD, if_true, if_false, Bool.false_eq_true, ↓reduceIte, startE_nil, startE_cons, reduceCtorEq, decide_true, decide_false, tyD, a200, s200, ho]
  have lp := run_lplaces0 (n + 5) d g.sh
  have st2 : dS (run txt (n + 13)) sub b30L2S2 [a0, .im (.lst (L.map .int)), .im (.tup (ws.map wT)), .im (.int (t : Nat)), a4, a5, a6, .im d, .im o, a9, a10, a11, a12] = .nx [a0, .im (.lst (L.map .int)), .im (.tup (ws.map wT)), .im (.int (t : Nat)), a4, a5, a6, .im d, .im o, .im (.lst ((plc 7 d []).map pP)), a10, a11, a12] := by
    simp only [b30L2S2, dE_cst, dE_glb, dE_var, dE_bin, dE_neg, dE_cmp, dE_chn, dE_and, dE_or, dE_not, dE_ite, dE_tup, dE_lst, dE_call, dE_blt, dE_mkb, dE_isi, dE_ix, dE_sl, dE_rev, dE_comp, dE_gget, dE_gix, dE_dget1, dE_dget, dE_dis, asDic, dT_cst, dT_var, dT_bin, dT_cmp, dT_chn, dT_call, dT_blt, dT_isi, dT_ix, dT_ite, dT_and, dT_or, dT_not, dO_own, dO_ev, dBd_no, dBd_to, dBs_nil, dBs_cons, dEs_nil, dEs_cons, dIt_seq, dIt_rng1, dIt_rng2, dIt_enm, dIt_zip, dS_set, dS_unp, dS_par, dS_aug, dS_ret, dS_retN, dS_ite, dS_fo, dS_pass, dS_rai, dS_exp, dS_tr, dSs_nil, dSs_cons, go_nx, go_rt, go_exc, fl_ok, fl_exc, bind_ok, bind_exc, of_some, calm_ok, flof_some, look_0, look_s, lookB_im, lookB_ow, lookB_s, frzL_nil, frzL_cons, frz1_im, frz1_un, frz1_ow, frz1_s, tg_nm, tg_tp, tg_tpl, tgs_nil, tgs_cons, obind, set_0, set_s, lp_nx, lp_ct, lp_bk, lp_rt, lp_exc, out_rt, out_nx, out_exc, ownList, isFr, Bool.and_true, Bool.and_false, Bool.true_and, Bool.false_and, Bool.not_true, Bool.not_false, truD, if_true, if_false, Bool.false_eq_true, ↓reduceIte, startE_nil, startE_cons, reduceCtorEq, decide_true, decide_false, tyD, List.length_nil, (by decide : (0 ≤ lim) = True), lp]
  have st3 := tu3 (n := n) (sub := sub) (o := o) g a0 (.im (.lst (L.map .int))) (.im (.tup (ws.map wT))) (.im (.int (t : Nat))) a4 a5 a6 a10 a11 a12
  obtain ⟨b11, b12, st4⟩ := tu4 (n := n) (sub := sub) g go a0 (.im (.lst (L.map .int))) (.im (.tup (ws.map wT))) (.im (.int (t : Nat))) a4 a5 a6 a10 a11 a12
  obtain ⟨p, y', hm, hz, st5⟩ := tu5 (n := n) (sub := sub) (o := o) g a0 (.im (.lst (L.map .int))) (.im (.tup (ws.map wT))) (.im (.int (t : Nat))) a4 a5 a6 a10 b11 b12
  obtain ⟨b4, st6⟩ := tu6 (n := n) (sub := sub) (o := o) g a0 (.im (.lst (L.map .int))) (.im (.tup (ws.map wT))) (.im (.int (t : Nat))) a4 a5 a6 (.im (.lst ((plc 7 d []).map pP))) b11 b12 hm hz
  have st7 := tu7 (n := n) (sub := sub) (o := o) g a0 (.im (.lst (L.map .int))) (.im (.tup (ws.map wT))) (.im (.int (t : Nat))) b4 a5 a6 (.im (.lst ((plc 7 d []).map pP))) (.im (tupI p)) b11 b12
  refine ⟨_, by rw [b30L2, dSs_cons, st0, go_nx, dSs_cons, st1, go_nx, dSs_cons, st2, go_nx, dSs_cons, st3, go_nx, dSs_cons, st4, go_nx, dSs_cons, st5, go_nx, dSs_cons, st6, go_nx, dSs_cons, st7, go_nx, dSs_nil], _, _, _, _, _, _, _, _, _, _, rfl⟩
def level : Nat := 30
abbrev TT : Nat → List D → Z.R D := run txt 29
theorem close3 (sub : Str → Str → Option Bool) (a0 a1 a2 a3 a4 a5 a6 a7 a8 a9 a10 a11 a12 : Slot) : dS TT (subL txt.sub) b30S3 [a0, a1, a2, a3, a4, a5, a6, a7, a8, a9, a10, a11, a12] = .nx [a0, a1, a2, a3, .im (.str "true"), a5, a6, a7, a8, a9, a10, a11, a12] := by kernel_rfl
theorem close4 (a0 a1 a2 a3 a4 a5 a6 a7 a8 a9 a10 a11 a12 : Slot) : (dSs TT (subL txt.sub) (.cons b30S4 (.cons b30S5 (.cons b30S6 .nil))) [a0, a1, a2, a3, a4, a5, a6, a7, a8, a9, a10, a11, a12]).out = .ok (.bl true) := by kernel_rfl
theorem law_true (ns : List Int) (h : ns.length ≤ 63) : run txt level 30 [.scr ns] = .ok (.bl true) := by
  show run txt (29 + 1) 30 [.scr ns] = _
  rw [run_s (d := d30) rfl rfl]
  obtain ⟨L, hL, hl, hd⟩ := run_draws (t := txt) (i := 20) (d := d20) rfl rfl rfl rfl 28 ns 300 (by decide)
  have hd : TT 20 [.scr ns, .int 300] = .ok (.lst (L.map .int)) := hd
  obtain ⟨ws, W, hw⟩ := words_ok (T := run txt 28) (sub := subL txt.sub) hL (by omega)
  have hw : TT 21 [.lst (L.map .int)] = .ok (.tup (ws.map wT)) := by
    show run txt (28 + 1) 21 _ = _
    rw [run_s (d := d21) rfl rfl]
    show (dSs (run txt 28) (subL txt.sub) wordsB [.im (.lst (L.map .int)), .un]).out = _
    rw [hw, out_rt]
  show (dSs TT (subL txt.sub) b30 [.im (.scr ns), .un, .un, .un, .un, .un, .un, .un, .un, .un, .un, .un, .un]).out = _
  have e0 : dS TT (subL txt.sub) b30S0 [.im (.scr ns), .un, .un, .un, .un, .un, .un, .un, .un, .un, .un, .un, .un] = .nx [.im (.scr ns), .im (.lst (L.map .int)), .un, .un, .un, .un, .un, .un, .un, .un, .un, .un, .un] := by
    simp only [b30S0, dE_cst, dE_glb, dE_var, dE_bin, dE_neg, dE_cmp, dE_chn, dE_and, dE_or, dE_not, dE_ite, dE_tup, dE_lst, dE_call, dE_blt, dE_mkb, dE_isi, dE_ix, dE_sl, dE_rev, dE_comp, dE_gget, dE_gix, dE_dget1, dE_dget, dE_dis, asDic, dT_cst, dT_var, dT_bin, dT_cmp, dT_chn, dT_call, dT_blt, dT_isi, dT_ix, dT_ite, dT_and, dT_or, dT_not, dO_own, dO_ev, dBd_no, dBd_to, dBs_nil, dBs_cons, dEs_nil, dEs_cons, dIt_seq, dIt_rng1, dIt_rng2, dIt_enm, dIt_zip, dS_set, dS_unp, dS_par, dS_aug, dS_ret, dS_retN, dS_ite, dS_fo, dS_pass, dS_rai, dS_exp, dS_tr, dSs_nil, dSs_cons, go_nx, go_rt, go_exc, fl_ok, fl_exc, bind_ok, bind_exc, of_some, calm_ok, flof_some, look_0, look_s, lookB_im, lookB_ow, lookB_s, frzL_nil, frzL_cons, frz1_im, frz1_un, frz1_ow, frz1_s, tg_nm, tg_tp, tg_tpl, tgs_nil, tgs_cons, obind, set_0, set_s, lp_nx, lp_ct, lp_bk, lp_rt, lp_exc, out_rt, out_nx, out_exc, ownList, isFr, Bool.and_true, Bool.and_false, Bool.true_and, Bool.false_and, Bool.not_true, Bool.not_false, binD, addD, augD, truD, if_true, if_false, Bool.false_eq_true, ↓reduceIte, startE_nil, startE_cons, reduceCtorEq, decide_true, decide_false, tyD, hd]
  have e1 : dS TT (subL txt.sub) b30S1 [.im (.scr ns), .im (.lst (L.map .int)), .un, .un, .un, .un, .un, .un, .un, .un, .un, .un, .un] = .nx [.im (.scr ns), .im (.lst (L.map .int)), .im (.tup (ws.map wT)), .un, .un, .un, .un, .un, .un, .un, .un, .un, .un] := by
    simp only [b30S1, dE_cst, dE_glb, dE_var, dE_bin, dE_neg, dE_cmp, dE_chn, dE_and, dE_or, dE_not, dE_ite, dE_tup, dE_lst, dE_call, dE_blt, dE_mkb, dE_isi, dE_ix, dE_sl, dE_rev, dE_comp, dE_gget, dE_gix, dE_dget1, dE_dget, dE_dis, asDic, dT_cst, dT_var, dT_bin, dT_cmp, dT_chn, dT_call, dT_blt, dT_isi, dT_ix, dT_ite, dT_and, dT_or, dT_not, dO_own, dO_ev, dBd_no, dBd_to, dBs_nil, dBs_cons, dEs_nil, dEs_cons, dIt_seq, dIt_rng1, dIt_rng2, dIt_enm, dIt_zip, dS_set, dS_unp, dS_par, dS_aug, dS_ret, dS_retN, dS_ite, dS_fo, dS_pass, dS_rai, dS_exp, dS_tr, dSs_nil, dSs_cons, go_nx, go_rt, go_exc, fl_ok, fl_exc, bind_ok, bind_exc, of_some, calm_ok, flof_some, look_0, look_s, lookB_im, lookB_ow, lookB_s, frzL_nil, frzL_cons, frz1_im, frz1_un, frz1_ow, frz1_s, tg_nm, tg_tp, tg_tpl, tgs_nil, tgs_cons, obind, set_0, set_s, lp_nx, lp_ct, lp_bk, lp_rt, lp_exc, out_rt, out_nx, out_exc, ownList, isFr, Bool.and_true, Bool.and_false, Bool.true_and, Bool.false_and, Bool.not_true, Bool.not_false, binD, addD, augD, truD, if_true, if_false, Bool.false_eq_true, ↓reduceIte, startE_nil, startE_cons, reduceCtorEq, decide_true, decide_false, tyD, hw]
  obtain ⟨ρ1, f1, E⟩ := forL_inv (tg := dTg (.nm 3)) (b := dSs TT (subL txt.sub) b30L2) (fun _ ρ => EnvT (.im (.scr ns)) L ws ρ) (rngL 0 6) 0 [.im (.scr ns), .im (.lst (L.map .int)), .im (.tup (ws.map wT)), .un, .un, .un, .un, .un, .un, .un, .un, .un, .un] ⟨_, _, _, _, _, _, _, _, _, _, rfl⟩ (fun i d ρ hi hP => by
    have i6 : i < 6 := by
      rcases Nat.lt_or_ge i 6 with q | q
      · exact q
      · rw [List.getElem?_eq_none (by rw [rngL_len]; exact q)] at hi; cases hi
    rw [rngL_get i6, Int.zero_add] at hi
    cases hi
    obtain ⟨ρ1, q1, ρ2, q2, q3⟩ := one_turn (n := 16) (sub := subL txt.sub) hL hl W i6 hP
    exact ⟨ρ1, q1, ρ2, .inl q2, q3⟩)
  obtain ⟨a3, a4, a5, a6, a7, a8, a9, a10, a11, a12, rfl⟩ := E
  have it : ∀ ρ, dIt TT (.rng1 (.cst (.int 6))) ρ = .ok (rngL 0 6) := fun ρ => rfl
  have e2 : dS TT (subL txt.sub) b30S2 [.im (.scr ns), .im (.lst (L.map .int)), .im (.tup (ws.map wT)), .un, .un, .un, .un, .un, .un, .un, .un, .un, .un] = .nx [.im (.scr ns), .im (.lst (L.map .int)), .im (.tup (ws.map wT)), a3, a4, a5, a6, a7, a8, a9, a10, a11, a12] := by
    rw [b30S2, dS_fo, frzL_nil, it, fl_ok]
    exact f1
  rw [b30, dSs_cons, e0, go_nx, dSs_cons, e1, go_nx, dSs_cons, e2, go_nx, dSs_cons, close3 (subL txt.sub), go_nx, close4]
end Law

namespace Law
open PySem PySem.Spec PyProof.Rows L2 Z
def loose : List Str := (["is_whole", "power", "is_name", "inner", "_is_row", "_plain_width", "count_parts", "_shape", "has_shape", "check_value", "places_by", "places_of", "stands_at", "put_in", "_is_place", "_check_place", "at_place", "put_at", "weight_by", "weight_of", "_law_draws", "_law_words", "_law_leaf", "_law_expression", "_law_assertion", "_law_text", "_law_bits", "_law_number", "_law_high", "_law_value"] : List Str) ++ (["_law_sum", "_law_is_so", "_law_known", "_law_rows", "_law_fitting", "_law_places", "_law_put", "_law_weight", "_law_told", "_law_is_refused", "BlastError", "BadValue", "BadPlace", "LETTERS", "MOST_NAME", "MOST_WIDE", "MOST_DEEP", "MOST_PARTS", "ONE", "TWO", "LOOKS", "JOINS", "FIRST", "WEIGHTS", "MORE_WEIGHTS", "PLAIN_WEIGHT"] : List Str)
abbrev R : PySem.W.OpenRow := PySem.W.OpenLaw.row PySem.Challenge.rw_wordsblasted_k09_whole_places
abbrev hk : PySem.W.Hook := Z.hookZ 5 txt.fa txt.fn txt.cst txt.dcs
def ob (s : PySem.W.SharedT) : Z.AlZ := Z.obsZG 5 txt.fa txt.fn txt.cst txt.dcs (HandSHeadRun.getT s)
theorem ob_eq (s : PySem.W.SharedT) : ob s = hk.obs s.abs := Z.obsZG_eq (HandSHeadRun.getT_eq s)
theorem hrunF (w : World) : HandSHeadRun.RunEq R (PySem.W.view R.prog [60]) hk ob 6000 loose (w.withFollow "special-get-raises" false) := by
  intro os
  kernel_rfl
theorem hrunT (w : World) : HandSHeadRun.RunEq R (PySem.W.view R.prog [60]) hk ob 6000 loose (w.withFollow "special-get-raises" true) := by
  intro os
  kernel_rfl
theorem hrun (w : World) : HandSHeadRun.RunEq R (PySem.W.view R.prog [60]) hk ob 6000 loose w := PySem.W.byRow2 "special-get-raises" (P := fun w => HandSHeadRun.RunEq R (PySem.W.view R.prog [60]) hk ob 6000 loose w) hrunF hrunT w
end Law
open PySem PySem.W PySem.Calls PyProof.Rows
theorem PySem.Challenge.cw_wordsblasted_k09_whole_places_holds : PySem.Challenge.rw_wordsblasted_k09_whole_places.Holds := by
  w_on; o_law
  refine HandSHeadRun.head_any (r := OpenLaw.row PySem.Challenge.rw_wordsblasted_k09_whole_places) (q := view (OpenLaw.row PySem.Challenge.rw_wordsblasted_k09_whole_places).prog [60]) (H := Law.hk) (ob := Law.ob) (M := 6000) (loose := Law.loose) (d := HandSHeadRun.topDef (OpenLaw.row PySem.Challenge.rw_wordsblasted_k09_whole_places).prog 60) (kwd := []) Law.ob_eq
    (by kernel_rfl) (fun s => by kernel_rfl) Law.hrun (by kernel_rfl) (by kernel_rfl) (by kernel_rfl) (by rfl) (by first | assumption | decide +kernel) (by decide +kernel) ⟨rfl, rfl, rfl, rfl, rfl, by decide +kernel⟩ ?hw ?hc
  case hw => w_witness2
  case hc =>
    refine L2.walk_ofE (l := PySem.Challenge.rw_wordsblasted_k09_whole_places) (n := 63) (k := Law.level) (x := "script") (CX := Z.CXw) rfl (by decide) (by kernel_rfl) ⟨rfl, by decide, by decide⟩ ?F (fun _ _ _ _ z => Z.CXw.no z)
    intro w mg fa h Y G hmg0
    obtain ⟨K, KX, c⟩ := Y
    have hmg : mg ("law" : PySem.Str) = some (.ref fa) := by
      have e : (HandSHeadRun.topDef (OpenLaw.row PySem.Challenge.rw_wordsblasted_k09_whole_places).prog 60).name = ("law" : PySem.Str) := by kernel_rfl
      rw [← e]
      exact hmg0
    obtain ⟨fd, sp, hb, hs, hF⟩ := Z.law_facts (P := (PySem.Challenge.rw_wordsblasted_k09_whole_places).prog) (w := w) Law.tok Law.fit (i := 30) (d := Law.d30) rfl rfl rfl (LV := Law.level) Law.law_true KX G c hmg
    exact ⟨K, fd, sp, KX, hb, hs, hF⟩
