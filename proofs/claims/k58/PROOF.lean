import PyProof.Rows.All
import Wide.All
import OpenK.AllK
import Wide.FinOn
import KE.KStateDown
import HandS.ForMost
import HandS.WordsExc
import HandS.ForExc
import HandS.TryMany
import HandS.IsInst
import HandS.Deep
import HandS.Style
import HandS.TupAny
import HandS.TupLe
import HandS.TupMul
import HandS.Wide
import HandS.Zip
import HandS.Flow
import HandS.Defaults
import HandS.NoneIn
import KE.GoesEnum
import HandS.HeadHook2
import HandS.HeadEnd
import HandS.Head2
import PySem.Challenge.RW_wordsblasted_k58_whole_spans
import KE.OsArith
set_option Elab.async false
set_option linter.all false
set_option maxRecDepth 100000
set_option maxHeartbeats 0
/-! Values as trees, and what it is for a value of the heap to stand for one. -/
namespace Z
open PySem PySem.Spec PyProof.Rows L2

/-- a value as a tree -/
inductive D where
  | non | bl (b : Bool) | int (i : Int) | str (x : Str)
  | tup (xs : List D) | lst (xs : List D) | dic (ks vs : List D)
  | scr (ns : List Int)
  | obj (c : Nat) (ns : List Str) (vs : List D)

abbrev lim : Nat := 16777216
theorem lim_eq : lim = sizeLine := rfl

/-- a key as a tree -/
def keyD : Key → D
  | .inl i => .int i
  | .inr x => .str x

section
variable (K : PySem.W.Frag)
mutual
def Rep (F : Hp) : D → V → Prop
  | .non, v => v = .non
  | .bl b, v => v = .bl b
  | .int i, v => v = .int i
  | .str x, v => v = .str x
  | .tup ds, v => ∃ a vs, v = .ref a ∧ SqT K F a vs ∧ RepL F ds vs
  | .lst ds, v => ∃ a vs, v = .ref a ∧ F a = some (.lst vs) ∧ RepL F ds vs
  | .scr ns, v => ∃ a, v = .ref a ∧ SqL K F a (ns.map V.int)
  | .dic ks ds, v => ∃ a kvs, v = .ref a ∧ Rd F a (.dK kvs) ∧ ks = kvs.map (fun p => keyD p.1) ∧ (kvs.map (·.1)).Nodup ∧ RepL F ds (kvs.map (·.2))
  | .obj _ _ _, _ => False
def RepL (F : Hp) : List D → List V → Prop
  | [], vs => vs = []
  | d :: ds, vs => ∃ v r, vs = v :: r ∧ Rep F d v ∧ RepL F ds r
end
end

theorem Same.seqT {K : PySem.W.Frag} {H H' : Hp} {a : Addr} {xs : List V} (e : Same H H') (h : SqT K H a xs) : SqT K H' a xs := by
  rcases h with (h | ⟨o, h⟩) | h
  · exact .inl (.inl (e _ _ h))
  · exact .inl (.inr ⟨o, e _ _ h⟩)
  · exact .inr h
theorem Same.rd {H H' : Hp} {a : Addr} {u : HO} (e : Same H H') (h : Rd H a u) : Rd H' a u := by
  rcases h with h | ⟨o, h⟩
  · exact .inl (e _ _ h)
  · exact .inr ⟨o, e _ _ h⟩

section
variable {K : PySem.W.Frag} {F F' : Hp}
mutual
theorem Rep.mono (e : Same F F') : ∀ {d : D} {v : V}, Rep K F d v → Rep K F' d v
  | .non, _, h => by simpa only [Rep] using h
  | .bl _, _, h => by simpa only [Rep] using h
  | .int _, _, h => by simpa only [Rep] using h
  | .str _, _, h => by simpa only [Rep] using h
  | .tup _, _, h => by
    simp only [Rep] at h ⊢
    obtain ⟨a, vs, h1, h2, h3⟩ := h
    exact ⟨a, vs, h1, Same.seqT e h2, RepL.mono e h3⟩
  | .lst _, _, h => by
    simp only [Rep] at h ⊢
    obtain ⟨a, vs, h1, h2, h3⟩ := h
    exact ⟨a, vs, h1, e _ _ h2, RepL.mono e h3⟩
  | .dic _ _, _, h => by
    simp only [Rep] at h ⊢
    obtain ⟨a, vs, h1, h2, h3, h5, h4⟩ := h
    exact ⟨a, vs, h1, Same.rd e h2, h3, h5, RepL.mono e h4⟩
  | .scr _, _, h => by
    simp only [Rep] at h ⊢
    obtain ⟨a, h1, h2⟩ := h
    exact ⟨a, h1, Same.seq e h2⟩
  | .obj _ _ _, _, h => by
    simp only [Rep] at h
theorem RepL.mono (e : Same F F') : ∀ {ds : List D} {vs : List V}, RepL K F ds vs → RepL K F' ds vs
  | [], _, h => by simpa only [RepL] using h
  | _ :: _, _, h => by
    simp only [RepL] at h ⊢
    obtain ⟨v, r, h1, h2, h3⟩ := h
    exact ⟨v, r, h1, Rep.mono e h2, RepL.mono e h3⟩
end
theorem RepL.nil : RepL K F [] [] := by simp only [RepL]
theorem RepL.cons {d : D} {v : V} {ds : List D} {vs : List V} (h : Rep K F d v) (t : RepL K F ds vs) : RepL K F (d :: ds) (v :: vs) := by
  simp only [RepL]; exact ⟨v, vs, rfl, h, t⟩
theorem RepL.nil_inv {vs : List V} (h : RepL K F [] vs) : vs = [] := by simpa only [RepL] using h
theorem RepL.cons_inv {d : D} {ds : List D} {vs : List V} (h : RepL K F (d :: ds) vs) : ∃ v r, vs = v :: r ∧ Rep K F d v ∧ RepL K F ds r := by simpa only [RepL] using h
theorem RepL.length : ∀ {ds : List D} {vs : List V}, RepL K F ds vs → ds.length = vs.length
  | [], _, h => by rw [h.nil_inv]; rfl
  | d :: ds, _, h => by
    obtain ⟨v, r, rfl, _, t⟩ := h.cons_inv
    rw [List.length_cons, List.length_cons, RepL.length t]
theorem RepL.get : ∀ {ds : List D} {vs : List V} {i : Nat} {d : D}, RepL K F ds vs → ds[i]? = some d → ∃ v, vs[i]? = some v ∧ Rep K F d v
  | [], _, _, _, _, e => by simp at e
  | d :: ds, _, i, _, h, e => by
    obtain ⟨v, r, rfl, h1, t⟩ := h.cons_inv
    cases i with
    | zero => rw [List.getElem?_cons_zero] at e; cases e; exact ⟨v, rfl, h1⟩
    | succ i =>
      rw [List.getElem?_cons_succ] at e
      obtain ⟨u, hu, hr⟩ := RepL.get t e
      exact ⟨u, by rw [List.getElem?_cons_succ]; exact hu, hr⟩
theorem RepL.getV : ∀ {ds : List D} {vs : List V} {i : Nat} {v : V}, RepL K F ds vs → vs[i]? = some v → ∃ d, ds[i]? = some d ∧ Rep K F d v := fun {ds vs i v} h e => by
  have hl := h.length
  have hi : i < vs.length := by
    rcases Nat.lt_or_ge i vs.length with q | q
    · exact q
    · rw [List.getElem?_eq_none q] at e; cases e
  have hi2 : i < ds.length := by omega
  obtain ⟨u, hu, hr⟩ := h.get (List.getElem?_eq_getElem hi2)
  rw [hu] at e; cases e
  exact ⟨_, List.getElem?_eq_getElem hi2, hr⟩
theorem RepL.append : ∀ {ds es : List D} {vs us : List V}, RepL K F ds vs → RepL K F es us → RepL K F (ds ++ es) (vs ++ us)
  | [], _, _, _, h, g => by rw [h.nil_inv]; exact g
  | d :: ds, _, _, _, h, g => by
    obtain ⟨v, r, rfl, h1, t⟩ := h.cons_inv
    exact RepL.cons h1 (RepL.append t g)
theorem RepL.take : ∀ {ds : List D} {vs : List V} (n : Nat), RepL K F ds vs → RepL K F (ds.take n) (vs.take n)
  | _, _, 0, _ => RepL.nil
  | [], _, _ + 1, h => by rw [h.nil_inv]; exact RepL.nil
  | d :: ds, _, n + 1, h => by
    obtain ⟨v, r, rfl, h1, t⟩ := h.cons_inv
    exact RepL.cons h1 (RepL.take n t)
theorem RepL.drop : ∀ {ds : List D} {vs : List V} (n : Nat), RepL K F ds vs → RepL K F (ds.drop n) (vs.drop n)
  | _, _, 0, h => h
  | [], _, _ + 1, h => by rw [h.nil_inv]; exact RepL.nil
  | d :: ds, _, n + 1, h => by
    obtain ⟨v, r, rfl, h1, t⟩ := h.cons_inv
    exact RepL.drop n t
theorem RepL.set : ∀ {ds : List D} {vs : List V} {d : D} {v : V} (n : Nat), RepL K F ds vs → Rep K F d v → RepL K F (ds.set n d) (vs.set n v)
  | [], _, _, _, _, h, _ => by rw [h.nil_inv]; exact RepL.nil
  | d :: ds, _, _, _, 0, h, g => by
    obtain ⟨v, r, rfl, h1, t⟩ := h.cons_inv
    exact RepL.cons g t
  | d :: ds, _, _, _, n + 1, h, g => by
    obtain ⟨v, r, rfl, h1, t⟩ := h.cons_inv
    exact RepL.cons h1 (RepL.set n t g)
theorem RepL.reverse : ∀ {ds : List D} {vs : List V}, RepL K F ds vs → RepL K F ds.reverse vs.reverse
  | [], _, h => by rw [h.nil_inv]; exact RepL.nil
  | d :: ds, _, h => by
    obtain ⟨v, r, rfl, h1, t⟩ := h.cons_inv
    rw [List.reverse_cons, List.reverse_cons]
    exact RepL.append (RepL.reverse t) (RepL.cons h1 RepL.nil)
theorem RepL.one {d : D} {vs : List V} (h : RepL K F [d] vs) : ∃ v, vs = [v] ∧ Rep K F d v := by
  obtain ⟨v, r, rfl, h1, t⟩ := h.cons_inv
  rw [t.nil_inv]; exact ⟨v, rfl, h1⟩
theorem RepL.two {d e : D} {vs : List V} (h : RepL K F [d, e] vs) : ∃ v u, vs = [v, u] ∧ Rep K F d v ∧ Rep K F e u := by
  obtain ⟨v, r, rfl, h1, t⟩ := h.cons_inv
  obtain ⟨u, rfl, h2⟩ := t.one
  exact ⟨v, u, rfl, h1, h2⟩
/-- ints -/
theorem RepL.ints : ∀ {ns : List Int} {vs : List V}, RepL K F (ns.map D.int) vs → vs = ns.map V.int
  | [], _, h => h.nil_inv
  | n :: ns, _, h => by
    obtain ⟨v, r, rfl, h1, t⟩ := RepL.cons_inv (d := D.int n) (ds := ns.map D.int) h
    simp only [Rep] at h1
    rw [h1, RepL.ints t]; rfl
theorem RepL.of_ints : ∀ (ns : List Int), RepL K F (ns.map D.int) (ns.map V.int)
  | [] => RepL.nil
  | n :: ns => RepL.cons (by simp only [Rep]) (RepL.of_ints ns)
theorem RepL.bls : ∀ {ns : List Bool} {vs : List V}, RepL K F (ns.map D.bl) vs → vs = ns.map V.bl
  | [], _, h => h.nil_inv
  | n :: ns, _, h => by
    obtain ⟨v, r, rfl, h1, t⟩ := RepL.cons_inv (d := D.bl n) (ds := ns.map D.bl) h
    simp only [Rep] at h1
    rw [h1, RepL.bls t]; rfl
theorem RepL.strs : ∀ {ns : List Str} {vs : List V}, RepL K F (ns.map D.str) vs → vs = ns.map V.str
  | [], _, h => h.nil_inv
  | n :: ns, _, h => by
    obtain ⟨v, r, rfl, h1, t⟩ := RepL.cons_inv (d := D.str n) (ds := ns.map D.str) h
    simp only [Rep] at h1
    rw [h1, RepL.strs t]; rfl
theorem Rep.non_iff {v : V} : Rep K F .non v ↔ v = .non := by simp only [Rep]
theorem Rep.bl_iff {b : Bool} {v : V} : Rep K F (.bl b) v ↔ v = .bl b := by simp only [Rep]
theorem Rep.int_iff {i : Int} {v : V} : Rep K F (.int i) v ↔ v = .int i := by simp only [Rep]
theorem Rep.str_iff {x : Str} {v : V} : Rep K F (.str x) v ↔ v = .str x := by simp only [Rep]
theorem Rep.tup_iff {ds : List D} {v : V} : Rep K F (.tup ds) v ↔ ∃ a vs, v = .ref a ∧ SqT K F a vs ∧ RepL K F ds vs := by simp only [Rep]
theorem Rep.scr_iff {ns : List Int} {v : V} : Rep K F (.scr ns) v ↔ ∃ a, v = .ref a ∧ SqL K F a (ns.map V.int) := by simp only [Rep]
theorem Rep.lst_iff {ds : List D} {v : V} : Rep K F (.lst ds) v ↔ ∃ a vs, v = .ref a ∧ F a = some (.lst vs) ∧ RepL K F ds vs := by simp only [Rep]
theorem Rep.dic_iff {ks ds : List D} {v : V} : Rep K F (.dic ks ds) v ↔ ∃ a kvs, v = .ref a ∧ Rd F a (.dK kvs) ∧ ks = kvs.map (fun p => keyD p.1) ∧ (kvs.map (·.1)).Nodup ∧ RepL K F ds (kvs.map (·.2)) := by simp only [Rep]
theorem Rep.obj_iff {c : Nat} {ns : List Str} {ds : List D} {v : V} : Rep K F (.obj c ns ds) v ↔ False := by simp only [Rep]
end

/-! ### how a heap, and the part of it that nothing changes, go on -/
structure Ex (H F H' F' : Hp) : Prop where
  sH : Same H H'
  sF : Same F F'
  sFH : Same F' H'
  new : ∀ b o, F b = none → H b = some o → F' b = none
theorem Ex.refl {H F : Hp} (h : Same F H) : Ex H F H F := ⟨Same.refl _, Same.refl _, h, fun _ _ q _ => q⟩
theorem Ex.trans {H F H1 F1 H2 F2 : Hp} (a : Ex H F H1 F1) (b : Ex H1 F1 H2 F2) : Ex H F H2 F2 :=
  ⟨a.sH.trans b.sH, a.sF.trans b.sF, b.sFH, fun c o q r => b.new c o (a.new c o q r) (a.sH c o r)⟩
theorem same_upd {H : Hp} {p : Addr} {o : HO} (h : H p = none) : Same H (upd H p o) := fun b x e => by
  rw [upd_ne (ne_of_none e h)]
  exact e
theorem same_upd2 {F H : Hp} {p : Addr} {o : HO} (s : Same F H) : Same (upd F p o) (upd H p o) := fun b x e => by
  by_cases hb : b = p
  · subst hb; rw [upd_same] at e ⊢; exact e
  · rw [upd_ne hb] at e ⊢; exact s b x e
theorem Ex.alloc {H F : Hp} {p : Addr} {o : HO} (s : Same F H) (h : H p = none) : Ex H F (upd H p o) (upd F p o) :=
  ⟨same_upd h, same_upd (s.free h), same_upd2 s, fun b o' q r => by rw [upd_ne (ne_of_none r h)]; exact q⟩
theorem Ex.allocH {H F : Hp} {p : Addr} {o : HO} (s : Same F H) (h : H p = none) : Ex H F (upd H p o) F :=
  ⟨same_upd h, Same.refl _, fun b x e => same_upd h b x (s b x e), fun _ _ q _ => q⟩

/-! ### slots -/
inductive Slot where
  | un
  | im (d : D)
  | ow (d : D)
abbrev Env' := List Slot

section
variable (K : PySem.W.Frag)
/-- a list, a dict at p that only one name knows; its items stand for trees -/
def Own (F H : Hp) (p : Addr) : D → Prop
  | .lst ds => ∃ vs, H p = some (.lst vs) ∧ RepL K F ds vs
  | .dic ks ds => ∃ kvs, H p = some (.dK kvs) ∧ ks = kvs.map (fun q => keyD q.1) ∧ (kvs.map (·.1)).Nodup ∧ RepL K F ds (kvs.map (·.2))
  | _ => False
def SlotOk (F H : Hp) (A : Nat → Addr) (σ : L2.St) (i : Nat) : Slot → Prop
  | .un => True
  | .im d => ∃ v, σ[i]? = some (some v) ∧ Rep K F d v
  | .ow d => σ[i]? = some (some (.ref (A i))) ∧ F (A i) = none ∧ Own K F H (A i) d
structure Rl (H0 F0 : Hp) (ρ : Env') (σ : L2.St) (H F : Hp) (A : Nat → Addr) : Prop where
  ex : Ex H0 F0 H F
  len : ρ.length = σ.length
  slot : ∀ i s, ρ[i]? = some s → SlotOk K F H A σ i s
  old : ∀ i d, ρ[i]? = some (.ow d) → H0 (A i) = none
  apart : ∀ i j d e, ρ[i]? = some (.ow d) → ρ[j]? = some (.ow e) → i ≠ j → A i ≠ A j
end
section
variable {K : PySem.W.Frag} {H0 F0 H F H' F' : Hp} {ρ : Env'} {σ : L2.St} {A : Nat → Addr}
theorem Own.there {p : Addr} {d : D} (h : Own K F H p d) : ∃ o, H p = some o := by
  cases d <;> simp only [Own] at h
  · obtain ⟨vs, h, _⟩ := h; exact ⟨_, h⟩
  · obtain ⟨vs, h, _⟩ := h; exact ⟨_, h⟩
theorem Own.mono {p : Addr} {d : D} (sF : Same F F') (sH : Same H H') (h : Own K F H p d) : Own K F' H' p d := by
  cases d <;> simp only [Own] at h ⊢
  · obtain ⟨vs, h, g⟩ := h; exact ⟨vs, sH _ _ h, g.mono sF⟩
  · obtain ⟨vs, h, g1, g3, g2⟩ := h; exact ⟨vs, sH _ _ h, g1, g3, g2.mono sF⟩
/-- an expression's run keeps the relation -/
theorem Rl.go (r : Rl K H0 F0 ρ σ H F A) (e : Ex H F H' F') : Rl K H0 F0 ρ σ H' F' A := by
  refine ⟨r.ex.trans e, r.len, fun i s hs => ?_, r.old, r.apart⟩
  have q := r.slot i s hs
  cases s with
  | un => trivial
  | im d => obtain ⟨v, h1, h2⟩ := q; exact ⟨v, h1, h2.mono e.sF⟩
  | ow d =>
    obtain ⟨h1, h2, h3⟩ := q
    obtain ⟨o, ho⟩ := h3.there
    exact ⟨h1, e.new _ _ h2 ho, h3.mono e.sF e.sH⟩
theorem Rl.sFH (r : Rl K H0 F0 ρ σ H F A) : Same F H := r.ex.sFH
theorem Rl.im {i : Nat} {d : D} (r : Rl K H0 F0 ρ σ H F A) (h : ρ[i]? = some (.im d)) : ∃ v, σ[i]? = some (some v) ∧ Rep K F d v := r.slot i _ h
end
end Z
/-! What the operators do, on trees. -/
namespace Z
open PySem PySem.Spec PyProof.Rows L2

inductive BOp where
  | add | sub | mul | div | mod | pow | shl | shr | and | or | xor
inductive COp where
  | eq | ne | lt | le | gt | ge | is | isn | in_ | nin

/-! ### equality -/
mutual
def eqv : D → D → Bool
  | .non, .non => true
  | .bl a, .bl b => a == b
  | .bl a, .int j => (if a = true then (1 : Int) else 0) == j
  | .int i, .bl b => i == (if b = true then (1 : Int) else 0)
  | .int i, .int j => i == j
  | .str x, .str y => x == y
  | .tup xs, .tup ys => eqvL xs ys
  | .lst xs, .lst ys => eqvL xs ys
  | _, _ => false
def eqvL : List D → List D → Bool
  | [], [] => true
  | x :: xs, y :: ys => eqv x y && eqvL xs ys
  | _, _ => false
end
mutual
/-- data that == takes: no dict, no object within, so deep at most -/
def flat : Nat → D → Bool
  | _, .non => true
  | _, .bl _ => true
  | _, .int _ => true
  | _, .str x => PyData.strOk x
  | 0, .tup _ => false
  | 0, .lst _ => false
  | n + 1, .tup xs => flatL n xs
  | n + 1, .lst xs => flatL n xs
  | _, _ => false
def flatL : Nat → List D → Bool
  | _, [] => true
  | n, x :: xs => flat n x && flatL n xs
end
mutual
def py : D → PyData
  | .non => .none
  | .bl b => .bool b
  | .int i => .int i
  | .str x => .str x
  | .tup xs => .tuple (pyL xs)
  | .lst xs => .list (pyL xs)
  | _ => .dict []
def pyL : List D → List PyData
  | [] => []
  | x :: xs => py x :: pyL xs
end
mutual
theorem eqv_py : ∀ (n m : Nat) (d e : D), flat n d = true → flat m e = true → PyData.eqv (py d) (py e) = eqv d e
  | n, m, .tup xs, .tup ys, h, g => by
    cases n with
    | zero => simp [flat] at h
    | succ n =>
      cases m with
      | zero => simp [flat] at g
      | succ m =>
        simp only [flat] at h g
        simp only [py, eqv, PyData.eqv]
        exact eqvL_py n m xs ys h g
  | n, m, .lst xs, .lst ys, h, g => by
    cases n with
    | zero => simp [flat] at h
    | succ n =>
      cases m with
      | zero => simp [flat] at g
      | succ m =>
        simp only [flat] at h g
        simp only [py, eqv, PyData.eqv]
        exact eqvL_py n m xs ys h g
  | n, m, .non, e, h, g => by cases e <;> first | rfl | (simp only [py, eqv, PyData.eqv]) | (cases m <;> simp [flat] at g)
  | n, m, .bl _, e, h, g => by cases e <;> first | rfl | (simp only [py, eqv, PyData.eqv]) | (cases m <;> simp [flat] at g)
  | n, m, .int _, e, h, g => by cases e <;> first | rfl | (simp only [py, eqv, PyData.eqv]) | (cases m <;> simp [flat] at g)
  | n, m, .str _, e, h, g => by cases e <;> first | rfl | (simp only [py, eqv, PyData.eqv]) | (cases m <;> simp [flat] at g)
  | n, m, .tup _, .non, h, g => by simp only [py, eqv, PyData.eqv]
  | n, m, .tup _, .bl _, h, g => by simp only [py, eqv, PyData.eqv]
  | n, m, .tup _, .int _, h, g => by simp only [py, eqv, PyData.eqv]
  | n, m, .tup _, .str _, h, g => by simp only [py, eqv, PyData.eqv]
  | n, m, .tup _, .lst _, h, g => by simp only [py, eqv, PyData.eqv]
  | n, m, .lst _, .non, h, g => by simp only [py, eqv, PyData.eqv]
  | n, m, .lst _, .bl _, h, g => by simp only [py, eqv, PyData.eqv]
  | n, m, .lst _, .int _, h, g => by simp only [py, eqv, PyData.eqv]
  | n, m, .lst _, .str _, h, g => by simp only [py, eqv, PyData.eqv]
  | n, m, .lst _, .tup _, h, g => by simp only [py, eqv, PyData.eqv]
  | n, m, .tup _, .dic _ _, h, g => by cases m <;> simp [flat] at g
  | n, m, .tup _, .scr _, h, g => by cases m <;> simp [flat] at g
  | n, m, .tup _, .obj _ _ _, h, g => by cases m <;> simp [flat] at g
  | n, m, .lst _, .dic _ _, h, g => by cases m <;> simp [flat] at g
  | n, m, .lst _, .scr _, h, g => by cases m <;> simp [flat] at g
  | n, m, .lst _, .obj _ _ _, h, g => by cases m <;> simp [flat] at g
  | n, m, .dic _ _, _, h, g => by cases n <;> simp [flat] at h
  | n, m, .scr _, _, h, g => by cases n <;> simp [flat] at h
  | n, m, .obj _ _ _, _, h, g => by cases n <;> simp [flat] at h
theorem eqvL_py : ∀ (n m : Nat) (d e : List D), flatL n d = true → flatL m e = true → PyData.eqvAll (pyL d) (pyL e) = eqvL d e
  | _, _, [], [], _, _ => by simp only [pyL, eqvL, PyData.eqvAll]
  | _, _, [], _ :: _, _, _ => by simp only [pyL, eqvL, PyData.eqvAll]
  | _, _, _ :: _, [], _, _ => by simp only [pyL, eqvL, PyData.eqvAll]
  | n, m, x :: xs, y :: ys, h, g => by
    simp only [flatL, Bool.and_eq_true] at h g
    simp only [pyL, eqvL, PyData.eqvAll]
    rw [eqv_py n m x y h.1 g.1, eqvL_py n m xs ys h.2 g.2]
end

mutual
theorem flat_lay : ∀ (n : Nat) (d : D), flat n d = true → (py d).canLay0 = true ∧ (py d).depth ≤ n
  | n, .non, _ => by simp only [py, PyData.canLay0, PyData.depth]; exact ⟨trivial, Nat.zero_le _⟩
  | n, .bl _, _ => by simp only [py, PyData.canLay0, PyData.depth]; exact ⟨trivial, Nat.zero_le _⟩
  | n, .int _, _ => by simp only [py, PyData.canLay0, PyData.depth]; exact ⟨trivial, Nat.zero_le _⟩
  | n, .str x, h => by
    simp only [py, PyData.canLay0, PyData.depth]
    exact ⟨by cases n <;> simpa only [flat] using h, Nat.zero_le _⟩
  | 0, .tup _, h => by simp [flat] at h
  | 0, .lst _, h => by simp [flat] at h
  | n + 1, .tup xs, h => by
    simp only [flat] at h
    have q := flatL_lay n xs h
    simp only [py, PyData.canLay0, PyData.depth]
    exact ⟨q.1, Nat.succ_le_succ q.2⟩
  | n + 1, .lst xs, h => by
    simp only [flat] at h
    have q := flatL_lay n xs h
    simp only [py, PyData.canLay0, PyData.depth]
    exact ⟨q.1, Nat.succ_le_succ q.2⟩
  | n, .dic _ _, h => by cases n <;> simp [flat] at h
  | n, .scr _, h => by cases n <;> simp [flat] at h
  | n, .obj _ _ _, h => by cases n <;> simp [flat] at h
theorem flatL_lay : ∀ (n : Nat) (ds : List D), flatL n ds = true → PyData.canLayAll0 (pyL ds) = true ∧ PyData.depthAll (pyL ds) ≤ n
  | n, [], _ => by simp only [pyL, PyData.canLayAll0, PyData.depthAll]; exact ⟨trivial, Nat.zero_le _⟩
  | n, d :: ds, h => by
    simp only [flatL, Bool.and_eq_true] at h
    have q1 := flat_lay n d h.1
    have q2 := flatL_lay n ds h.2
    simp only [pyL, PyData.canLayAll0, PyData.depthAll]
    exact ⟨Bool.and_eq_true_iff.mpr ⟨q1.1, q2.1⟩, Nat.max_le.mpr ⟨q1.2, q2.2⟩⟩
end
theorem flat_shaped {d : D} (h : flat 60 d = true) : SeqAt.shaped (py d) = true := by
  have q := flat_lay 60 d h
  exact Bool.and_eq_true_iff.mpr ⟨q.1, decide_eq_true (by omega)⟩
section
variable {K : PySem.W.Frag} {F H : Hp}
mutual
theorem Rep.dp : ∀ (n : Nat) (d : D) (v : V), flat n d = true → Rep K F d v → Dp K F v (py d)
  | n, .non, v, _, r => by rw [Rep.non_iff.mp r]; exact .non
  | n, .bl _, v, _, r => by rw [Rep.bl_iff.mp r]; exact .bl _
  | n, .int _, v, _, r => by rw [Rep.int_iff.mp r]; exact .int _
  | n, .str _, v, _, r => by rw [Rep.str_iff.mp r]; exact .str _
  | 0, .tup _, _, h, _ => by simp [flat] at h
  | 0, .lst _, _, h, _ => by simp [flat] at h
  | n + 1, .tup xs, v, h, r => by
    simp only [flat] at h
    obtain ⟨a, vs, rfl, h1, h2⟩ := Rep.tup_iff.mp r
    simp only [py]
    exact .tup h1 (RepL.dp n xs vs h h2)
  | n + 1, .lst xs, v, h, r => by
    simp only [flat] at h
    obtain ⟨a, vs, rfl, h1, h2⟩ := Rep.lst_iff.mp r
    simp only [py]
    exact .lst (.inl (.inl h1)) (RepL.dp n xs vs h h2)
  | n, .dic _ _, _, h, _ => by cases n <;> simp [flat] at h
  | n, .scr _, _, h, _ => by cases n <;> simp [flat] at h
  | n, .obj _ _ _, _, h, _ => by cases n <;> simp [flat] at h
theorem RepL.dp : ∀ (n : Nat) (ds : List D) (vs : List V), flatL n ds = true → RepL K F ds vs → DpAll K F vs (pyL ds)
  | n, [], vs, _, r => by rw [r.nil_inv]; simp only [pyL]; exact .nil
  | n, d :: ds, vs, h, r => by
    simp only [flatL, Bool.and_eq_true] at h
    obtain ⟨v, t, rfl, h1, h2⟩ := r.cons_inv
    simp only [pyL]
    exact .cons (Rep.dp n d v h.1 h1) (RepL.dp n ds t h.2 h2)
end
mutual
theorem dp_mono (s : Same F H) : ∀ {v : V} {d : PyData}, Dp K F v d → Dp K H v d
  | _, _, .non => .non
  | _, _, .bl b => .bl b
  | _, _, .int i => .int i
  | _, _, .str x => .str x
  | _, _, .lst h t => .lst (Same.seq s h) (dpAll_mono s t)
  | _, _, .tup h t => .tup (Same.seqT s h) (dpAll_mono s t)
theorem dpAll_mono (s : Same F H) : ∀ {vs : List V} {ds : List PyData}, DpAll K F vs ds → DpAll K H vs ds
  | _, _, .nil => .nil
  | _, _, .cons h t => .cons (dp_mono s h) (dpAll_mono s t)
end
end

/-! ### comparisons -/
def isNon : D → Bool
  | .non => true
  | _ => false
def leaf : D → Bool
  | .non => true
  | .bl _ => true
  | .int _ => true
  | .str _ => true
  | _ => false
def intsOf : List D → Option (List Int)
  | [] => some []
  | .int i :: r => (intsOf r).map fun t => i :: t
  | _ :: _ => none
def ltD : D → D → Option Bool
  | .int i, .int j => some (decide (i < j))
  | .str x, .str y => some (decide (x.cps.toList < y.cps.toList))
  | .tup xs, .tup ys => (intsOf xs).bind fun ns => (intsOf ys).map fun ms => HT.lexLt ns ms
  | _, _ => none
def gtD : D → D → Option Bool
  | .int i, .int j => some (decide (j < i))
  | .str x, .str y => some (decide (y.cps.toList < x.cps.toList))
  | _, _ => none
def leD : D → D → Option Bool
  | .int i, .int j => some (decide (i ≤ j))
  | _, _ => none
def geD : D → D → Option Bool
  | .int i, .int j => some (decide (j ≤ i))
  | _, _ => none
def inD : D → D → Option Bool
  | d, .tup xs => if leaf d && xs.all leaf then some (xs.any fun y => eqv y d) else none
  | d, .lst xs => if leaf d && xs.all leaf then some (xs.any fun y => eqv y d) else none
  | .str x, .str y => some (!(Builtin.Str.occurrences y x 0 y.length 1).isEmpty)
  | _, _ => none
def cmpD : COp → D → D → Option Bool
  | .eq, d, e => if flat 60 d && flat 60 e then some (eqv d e) else none
  | .ne, d, e => if flat 60 d && flat 60 e then some (!eqv d e) else none
  | .lt, d, e => ltD d e
  | .gt, d, e => gtD d e
  | .le, d, e => leD d e
  | .ge, d, e => geD d e
  | .is, d, .non => some (isNon d)
  | .isn, d, .non => some (!isNon d)
  | .in_, d, e => inD d e
  | .nin, d, e => (inD d e).map (!·)
  | _, _, _ => none
def cOp : COp → CmpOp
  | .eq => .Eq | .ne => .NotEq | .lt => .Lt | .le => .LtE | .gt => .Gt | .ge => .GtE | .is => .Is | .isn => .IsNot | .in_ => .In | .nin => .NotIn

theorem intsOf_map : ∀ {ds : List D} {ns : List Int}, intsOf ds = some ns → ds = ns.map D.int
  | [], ns, h => by simp only [intsOf, Option.some.injEq] at h; subst h; rfl
  | .int i :: r, ns, h => by
    simp only [intsOf, Option.map_eq_some_iff] at h
    obtain ⟨t, h1, rfl⟩ := h
    rw [intsOf_map h1]; rfl
  | .non :: _, _, h => by simp [intsOf] at h
  | .bl _ :: _, _, h => by simp [intsOf] at h
  | .str _ :: _, _, h => by simp [intsOf] at h
  | .tup _ :: _, _, h => by simp [intsOf] at h
  | .lst _ :: _, _, h => by simp [intsOf] at h
  | .dic _ _ :: _, _, h => by simp [intsOf] at h
  | .scr _ :: _, _, h => by simp [intsOf] at h
  | .obj _ _ _ :: _, _, h => by simp [intsOf] at h
theorem intsOf_ints : ∀ ns : List Int, intsOf (ns.map D.int) = some ns
  | [] => rfl
  | n :: ns => by rw [List.map_cons, intsOf, intsOf_ints ns]; rfl

/-- the reading of a comparison, on trees -/
def rC (K : PySem.W.Frag) (o : COp) : R2 := fun x y H Q => ∃ F d e b, Same F H ∧ Rep K F d x ∧ Rep K F e y ∧ cmpD o d e = some b ∧ Q (.bl b) H
section
variable {X : Cx} {K : PySem.W.Frag} {F H : Hp}
theorem isNon_iff {d : D} {v : V} (r : Rep K F d v) : decide (v = .non) = isNon d := by
  cases d <;> simp only [Rep] at r
  · subst r; rfl
  · subst r; rfl
  · subst r; rfl
  · subst r; rfl
  · obtain ⟨_, _, rfl, _⟩ := r; rfl
  · obtain ⟨_, _, rfl, _⟩ := r; rfl
  · obtain ⟨_, _, rfl, _⟩ := r; rfl
  · obtain ⟨_, rfl, _⟩ := r; rfl
theorem leaf_flatV {d : D} {v : V} (r : Rep K F d v) (h : leaf d = true) : flatV v = true := by
  cases d <;> simp only [leaf, Bool.false_eq_true] at h <;> simp only [Rep] at r <;> subst r <;> rfl
theorem leaf_all : ∀ {ds : List D} {vs : List V}, RepL K F ds vs → ds.all leaf = true → vs.all flatV = true
  | [], _, r, _ => by rw [r.nil_inv]; rfl
  | d :: ds, _, r, h => by
    obtain ⟨v, t, rfl, h1, h2⟩ := r.cons_inv
    rw [List.all_cons, Bool.and_eq_true] at h
    rw [List.all_cons, Bool.and_eq_true]
    exact ⟨leaf_flatV h1 h.1, leaf_all h2 h.2⟩
theorem leaf_eqv {d e : D} {v u : V} (rd : Rep K F d v) (re : Rep K F e u) (hd : leaf d = true) (he : leaf e = true) : eqV v u = eqv d e := by
  cases d <;> simp only [leaf, Bool.false_eq_true] at hd <;> cases e <;> simp only [leaf, Bool.false_eq_true] at he <;> simp only [Rep] at rd re <;> subst rd <;> subst re <;> simp only [eqv] <;> rfl
theorem leaf_in {d : D} {v : V} (rd : Rep K F d v) (hd : leaf d = true) : ∀ {ds : List D} {vs : List V}, RepL K F ds vs → ds.all leaf = true → inV v vs = ds.any fun y => eqv y d
  | [], _, r, _ => by rw [r.nil_inv]; rfl
  | e :: ds, _, r, h => by
    obtain ⟨u, t, rfl, h1, h2⟩ := r.cons_inv
    rw [List.all_cons, Bool.and_eq_true] at h
    have ih := leaf_in rd hd h2 h.2
    show (u :: t).any (fun y => eqV y v) = _
    rw [List.any_cons, List.any_cons, leaf_eqv h1 rd h.1 hd, ← ih]
    rfl
theorem OpR.imp {f : Value → Value → Sem Value} {r r' : R2} (o : OpR X f r) (h : ∀ x y H Q, r' x y H Q → r x y H Q) : OpR X f r' :=
  fun pins s σ H x y v u Q I rx ry q => o pins s σ H x y v u Q I rx ry (h _ _ _ _ q)
theorem op_inn {f : Value → Value → Sem Value} {g : Bool → Bool} (o1 : OpR X f (fun x y H Q => ∃ p xs, y = .ref p ∧ (SqL X.K H p xs ∨ SqT X.K H p xs) ∧ flatV x = true ∧ xs.all flatV = true ∧ Q (.bl (g (inV x xs))) H))
    (o2 : OpR X f (fun x y H Q => ∃ i j, x = .str i ∧ y = .str j ∧ Q (.bl (g (!(Builtin.Str.occurrences j i 0 j.length 1).isEmpty))) H)) :
    OpR X f (fun x y H Q => ∃ F d e b, Same F H ∧ Rep X.K F d x ∧ Rep X.K F e y ∧ inD d e = some b ∧ Q (.bl (g b)) H) := by
  intro pins s σ H x y v u Q I rx ry h
  obtain ⟨F, d, e, b, sF, rd, re, hb, q⟩ := h
  cases e with
  | tup es =>
    have hb' : (if (leaf d && es.all leaf) = true then some (es.any fun y => eqv y d) else none) = some b := by cases d <;> exact hb
    split at hb'
    · rename_i hc
      simp only [Bool.and_eq_true] at hc
      cases hb'
      obtain ⟨a, vs, rfl, h1, h2⟩ := Rep.tup_iff.mp re
      exact o1 pins s σ H x _ v u Q I rx ry ⟨a, vs, rfl, .inr (Same.seqT sF h1), leaf_flatV rd hc.1, leaf_all h2 hc.2, by rw [leaf_in rd hc.1 h2 hc.2]; exact q⟩
    · cases hb'
  | lst es =>
    have hb' : (if (leaf d && es.all leaf) = true then some (es.any fun y => eqv y d) else none) = some b := by cases d <;> exact hb
    split at hb'
    · rename_i hc
      simp only [Bool.and_eq_true] at hc
      cases hb'
      obtain ⟨a, vs, rfl, h1, h2⟩ := Rep.lst_iff.mp re
      exact o1 pins s σ H x _ v u Q I rx ry ⟨a, vs, rfl, .inl (.inl (.inl (sF _ _ h1))), leaf_flatV rd hc.1, leaf_all h2 hc.2, by rw [leaf_in rd hc.1 h2 hc.2]; exact q⟩
    · cases hb'
  | str z =>
    cases d with
    | str w' =>
      have hb' : some (!(Builtin.Str.occurrences z w' 0 z.length 1).isEmpty) = some b := hb
      cases hb'
      exact o2 pins s σ H x y v u Q I rx ry ⟨w', z, Rep.str_iff.mp rd, Rep.str_iff.mp re, q⟩
    | _ => cases hb
  | _ => cases d <;> cases hb
theorem op_C (hu : X.A.units + 64 < cLine) : ∀ o : COp, OpR X (compareOp (cOp o)) (rC X.K o)
  | .eq => by
    refine OpR.imp (op_eqD hu) fun x y H Q h => ?_
    obtain ⟨F, d, e, b, sF, rd, re, hb, q⟩ := h
    simp only [cmpD] at hb
    split at hb
    · rename_i hc
      simp only [Bool.and_eq_true] at hc
      cases hb
      exact ⟨_, _, dp_mono sF (Rep.dp _ d x hc.1 rd), dp_mono sF (Rep.dp _ e y hc.2 re), flat_shaped hc.1, flat_shaped hc.2, by rw [eqv_py _ _ d e hc.1 hc.2]; exact q⟩
    · cases hb
  | .ne => by
    refine OpR.imp (op_neD hu) fun x y H Q h => ?_
    obtain ⟨F, d, e, b, sF, rd, re, hb, q⟩ := h
    simp only [cmpD] at hb
    split at hb
    · rename_i hc
      simp only [Bool.and_eq_true] at hc
      cases hb
      exact ⟨_, _, dp_mono sF (Rep.dp _ d x hc.1 rd), dp_mono sF (Rep.dp _ e y hc.2 re), flat_shaped hc.1, flat_shaped hc.2, by rw [eqv_py _ _ d e hc.1 hc.2]; exact q⟩
    · cases hb
  | .lt => by
    intro pins s σ H x y v u Q I rx ry h
    obtain ⟨F, d, e, b, sF, rd, re, hb, q⟩ := h
    simp only [cmpD] at hb
    cases d <;> cases e <;> simp only [ltD, Option.some.injEq, reduceCtorEq] at hb
    · subst hb
      exact op_lt pins s σ H x y v u Q I rx ry ⟨_, _, Rep.int_iff.mp rd, Rep.int_iff.mp re, q⟩
    · subst hb
      exact op_lt_str pins s σ H x y v u Q I rx ry ⟨_, _, Rep.str_iff.mp rd, Rep.str_iff.mp re, q⟩
    · simp only [Option.bind_eq_some_iff, Option.map_eq_some_iff] at hb
      obtain ⟨ns, e1, ms, e2, rfl⟩ := hb
      rw [intsOf_map e1] at rd
      rw [intsOf_map e2] at re
      obtain ⟨a, vs, rfl, h1, h2⟩ := Rep.tup_iff.mp rd
      obtain ⟨a', vs', rfl, h1', h2'⟩ := Rep.tup_iff.mp re
      rw [h2.ints] at h1
      rw [h2'.ints] at h1'
      exact op_ltT (by omega) pins s σ H _ _ v u Q I rx ry ⟨a, a', ns, ms, rfl, rfl, Same.seqT sF h1, Same.seqT sF h1', q⟩
  | .gt => by
    intro pins s σ H x y v u Q I rx ry h
    obtain ⟨F, d, e, b, sF, rd, re, hb, q⟩ := h
    simp only [cmpD] at hb
    cases d <;> cases e <;> simp only [gtD, Option.some.injEq, reduceCtorEq] at hb
    · subst hb
      exact op_gt pins s σ H x y v u Q I rx ry ⟨_, _, Rep.int_iff.mp rd, Rep.int_iff.mp re, q⟩
    · subst hb
      exact op_gt_str pins s σ H x y v u Q I rx ry ⟨_, _, Rep.str_iff.mp rd, Rep.str_iff.mp re, q⟩
  | .le => by
    intro pins s σ H x y v u Q I rx ry h
    obtain ⟨F, d, e, b, sF, rd, re, hb, q⟩ := h
    simp only [cmpD] at hb
    cases d <;> cases e <;> simp only [leD, Option.some.injEq, reduceCtorEq] at hb
    · subst hb
      exact op_le pins s σ H x y v u Q I rx ry ⟨_, _, Rep.int_iff.mp rd, Rep.int_iff.mp re, q⟩
  | .ge => by
    intro pins s σ H x y v u Q I rx ry h
    obtain ⟨F, d, e, b, sF, rd, re, hb, q⟩ := h
    simp only [cmpD] at hb
    cases d <;> cases e <;> simp only [geD, Option.some.injEq, reduceCtorEq] at hb
    · subst hb
      exact op_ge pins s σ H x y v u Q I rx ry ⟨_, _, Rep.int_iff.mp rd, Rep.int_iff.mp re, q⟩
  | .is => by
    refine OpR.imp op_isN fun x y H Q h => ?_
    obtain ⟨F, d, e, b, sF, rd, re, hb, q⟩ := h
    cases e <;> simp only [cmpD, Option.some.injEq, reduceCtorEq] at hb
    subst hb
    exact ⟨Rep.non_iff.mp re, by rw [isNon_iff rd]; exact q⟩
  | .isn => by
    refine OpR.imp op_notN fun x y H Q h => ?_
    obtain ⟨F, d, e, b, sF, rd, re, hb, q⟩ := h
    cases e <;> simp only [cmpD, Option.some.injEq, reduceCtorEq] at hb
    subst hb
    exact ⟨Rep.non_iff.mp re, by rw [isNon_iff rd]; exact q⟩
  | .in_ => op_inn (g := fun b => b) op_in_seq op_in_str
  | .nin => by
    refine OpR.imp (op_inn (g := fun b => !b) op_notIn_seq op_notIn_str) fun x y H Q h => ?_
    obtain ⟨F, d, e, b, sF, rd, re, hb, q⟩ := h
    simp only [cmpD, Option.map_eq_some_iff] at hb
    obtain ⟨b', hb', rfl⟩ := hb
    exact ⟨F, d, e, b', sF, rd, re, hb', q⟩
end

/-! ### what is new -/
/-- v stands for d; if d is a list or a dict, it is new since H, and not of the part F' that stays -/
def RepF (K : PySem.W.Frag) (F' H H' : Hp) : D → V → Prop
  | .lst ds, v => ∃ p vs, v = .ref p ∧ H p = none ∧ H' p = some (.lst vs) ∧ F' p = none ∧ RepL K F' ds vs
  | .dic ks ds, v => ∃ p kvs, v = .ref p ∧ H p = none ∧ H' p = some (.dK kvs) ∧ F' p = none ∧ ks = kvs.map (fun q => keyD q.1) ∧ (kvs.map (·.1)).Nodup ∧ RepL K F' ds (kvs.map (·.2))
  | d, v => Rep K F' d v
/-- what is new becomes part of what stays -/
theorem RepF.rep {K : PySem.W.Frag} {F H F' H' : Hp} {d : D} {v : V} (e : Ex H F H' F') (r : RepF K F' H H' d v) : ∃ F2, Ex H F H' F2 ∧ Rep K F2 d v := by
  cases d <;> simp only [RepF] at r <;> try exact ⟨F', e, r⟩
  · obtain ⟨p, vs, rfl, h1, h2, h3, h4⟩ := r
    refine ⟨upd F' p (.lst vs), ⟨e.sH, e.sF.trans (same_upd h3), fun b o q => ?_, fun b o q1 q2 => ?_⟩, Rep.lst_iff.mpr ⟨p, vs, rfl, upd_same, h4.mono (same_upd h3)⟩⟩
    · by_cases hb : b = p
      · subst hb; rw [upd_same] at q; rw [← q]; exact h2
      · rw [upd_ne hb] at q; exact e.sFH _ _ q
    · rw [upd_ne (ne_of_none q2 h1)]; exact e.new _ _ q1 q2
  · obtain ⟨p, kvs, rfl, h1, h2, h3, h5, h6, h4⟩ := r
    refine ⟨upd F' p (.dK kvs), ⟨e.sH, e.sF.trans (same_upd h3), fun b o q => ?_, fun b o q1 q2 => ?_⟩, Rep.dic_iff.mpr ⟨p, kvs, rfl, .inl upd_same, h5, h6, h4.mono (same_upd h3)⟩⟩
    · by_cases hb : b = p
      · subst hb; rw [upd_same] at q; rw [← q]; exact h2
      · rw [upd_ne hb] at q; exact e.sFH _ _ q
    · rw [upd_ne (ne_of_none q2 h1)]; exact e.new _ _ q1 q2
/-- the reading of what makes a value -/
def rMk (K : PySem.W.Frag) (r : Option D) (F : Hp) (H : Hp) (Q : VK) : Prop := ∃ d, r = some d ∧ ∀ v H' F', Ex H F H' F' → RepF K F' H H' d v → Q v H'

/-! ### operators -/
def addD : D → D → Option D
  | .int i, .int j => some (.int (i + j))
  | .str x, .str y => if x.length + y.length ≤ lim then some (.str (x ++ y)) else none
  | .tup xs, .tup ys => if xs.length + ys.length ≤ lim then some (.tup (xs ++ ys)) else none
  | .lst xs, .lst ys => if xs.length + ys.length ≤ lim then some (.lst (xs ++ ys)) else none
  | _, _ => none
def mulD : D → D → Option D
  | .int i, .int j => if (-(2 ^ 64) < i ∧ i < 2 ^ 64) ∨ (-(2 ^ 64) < j ∧ j < 2 ^ 64) then some (.int (i * j)) else none
  | .lst xs, .int k => if -(2 ^ 63) ≤ k ∧ k < 2 ^ 63 ∧ xs.length * k.toNat ≤ lim then some (.lst (List.replicate k.toNat xs).flatten) else none
  | _, _ => none
def binD : BOp → D → D → Option D
  | .add, d, e => addD d e
  | .mul, d, e => mulD d e
  | .sub, .int i, .int j => some (.int (i - j))
  | .div, .int i, .int j => if 0 < j ∧ j < 1073741824 then some (.int (i / j)) else none
  | .mod, .int i, .int j => if 0 < j then some (.int (i % j)) else none
  | .pow, .int i, .int j => if 0 ≤ j ∧ j ≤ 1000000 ∧ i.natAbs < 2 ^ 64 then some (.int (i ^ j.toNat)) else none
  | .shl, .int i, .int j => if 0 ≤ j ∧ j ≤ 1000000 ∧ i.natAbs < 2 ^ 64 then some (.int (i * 2 ^ j.toNat)) else none
  | .shr, .int i, .int j => if 0 ≤ j then some (.int (i / 2 ^ j.toNat)) else none
  | .and, .int i, .int j => some (.int (Builtin.bitAnd i j))
  | .or, .int i, .int j => some (.int (Builtin.bitOr i j))
  | .xor, .int i, .int j => some (.int (Builtin.bitXor i j))
  | _, _, _ => none
def bOp : BOp → Operator
  | .add => .Add | .sub => .Sub | .mul => .Mult | .div => .FloorDiv | .mod => .Mod | .pow => .Pow | .shl => .LShift | .shr => .RShift | .and => .BitAnd | .or => .BitOr | .xor => .BitXor
def rB (K : PySem.W.Frag) (o : BOp) : R2 := fun x y H Q => ∃ F d e, Same F H ∧ Rep K F d x ∧ Rep K F e y ∧ rMk K (binD o d e) F H Q
section
variable {X : Cx} {K : PySem.W.Frag} {F H : Hp}
theorem rMk.int {i : Int} {Q : VK} (s : Same F H) (h : rMk K (some (.int i)) F H Q) : Q (.int i) H := by
  obtain ⟨d, e, q⟩ := h
  cases e
  exact q _ H F (Ex.refl s) (show Rep K F (.int i) (.int i) from Rep.int_iff.mpr rfl)
theorem rMk.str {i : Str} {Q : VK} (s : Same F H) (h : rMk K (some (.str i)) F H Q) : Q (.str i) H := by
  obtain ⟨d, e, q⟩ := h
  cases e
  exact q _ H F (Ex.refl s) (show Rep K F (.str i) (.str i) from Rep.str_iff.mpr rfl)
theorem rMk.bl {i : Bool} {Q : VK} (s : Same F H) (h : rMk K (some (.bl i)) F H Q) : Q (.bl i) H := by
  obtain ⟨d, e, q⟩ := h
  cases e
  exact q _ H F (Ex.refl s) (show Rep K F (.bl i) (.bl i) from Rep.bl_iff.mpr rfl)
theorem rMk.lst {ds : List D} {vs : List V} {Q : VK} (s : Same F H) (r : RepL K F ds vs) (h : rMk K (some (.lst ds)) F H Q) : ∀ p, H p = none → Q (.ref p) (upd H p (.lst vs)) := fun p hp => by
  obtain ⟨d, e, q⟩ := h
  cases e
  exact q _ _ F (Ex.allocH s hp) ⟨p, vs, rfl, hp, upd_same, s.free hp, r⟩
theorem rMk.tup {ds : List D} {vs : List V} {Q : VK} (s : Same F H) (r : RepL K F ds vs) (h : rMk K (some (.tup ds)) F H Q) : ∀ p, H p = none → Q (.ref p) (upd H p (.tup vs)) := fun p hp => by
  obtain ⟨d, e, q⟩ := h
  cases e
  exact q _ _ (upd F p (.tup vs)) (Ex.alloc s hp) (show Rep K (upd F p (.tup vs)) (.tup ds) (.ref p) from Rep.tup_iff.mpr ⟨p, vs, rfl, .inl (.inl upd_same), r.mono (same_upd (s.free hp))⟩)
theorem rMk.same {d : D} {v : V} {Q : VK} (s : Same F H) (hd : ∀ ds, d ≠ .lst ds) (hd2 : ∀ ks ds, d ≠ .dic ks ds) (r : Rep K F d v) (h : rMk K (some d) F H Q) : Q v H := by
  obtain ⟨d', e, q⟩ := h
  cases e
  refine q _ H F (Ex.refl s) ?_
  cases d <;> first | exact r | exact absurd rfl (hd _) | exact absurd rfl (hd2 _ _)
theorem RepL.flat {ds : List D} {vs : List V} (r : RepL K F ds vs) : ∀ n, RepL K F (List.replicate n ds).flatten (List.replicate n vs).flatten
  | 0 => RepL.nil
  | n + 1 => by
    rw [List.replicate_succ, List.replicate_succ, List.flatten_cons, List.flatten_cons]
    exact RepL.append r (RepL.flat r n)
theorem op_B : ∀ o : BOp, OpR X (binaryOp (bOp o)) (rB X.K o)
  | .add => by
    intro pins s σ H x y v u Q I rx ry h
    obtain ⟨F, d, e, sF, rd, re, m⟩ := h
    cases d <;> cases e <;> simp only [binD, addD] at m <;> try (obtain ⟨_, z, _⟩ := m; cases z; done)
    · exact op_add pins s σ H x y v u Q I rx ry ⟨_, _, Rep.int_iff.mp rd, Rep.int_iff.mp re, m.int sF⟩
    · split at m
      · rename_i hl
        exact op_add_str pins s σ H x y v u Q I rx ry ⟨_, _, Rep.str_iff.mp rd, Rep.str_iff.mp re, hl, m.str sF⟩
      · obtain ⟨_, z, _⟩ := m; cases z
    · rename_i ds es
      split at m
      · rename_i hl
        obtain ⟨a, vs, rfl, h1, h2⟩ := Rep.tup_iff.mp rd
        obtain ⟨a', us, rfl, h1', h2'⟩ := Rep.tup_iff.mp re
        have l1 := h2.length
        have l2 := h2'.length
        refine op_catA pins s σ H _ _ v u Q I rx ry ⟨a, a', vs, us, rfl, rfl, Same.seqT sF h1, Same.seqT sF h1', by rw [← l1, ← l2]; exact hl, fun z => ?_, fun _ z => ?_, fun _ _ => m.tup sF (h2.append h2')⟩
        · subst z
          have e0 : ds = [] := List.length_eq_zero_iff.mp l1
          subst e0
          exact m.same sF (by intro _ q; cases q) (by intro _ _ q; cases q) re
        · subst z
          have e0 : es = [] := List.length_eq_zero_iff.mp l2
          subst e0
          rw [List.append_nil] at m
          exact m.same sF (by intro _ q; cases q) (by intro _ _ q; cases q) rd
      · obtain ⟨_, z, _⟩ := m; cases z
    · split at m
      · rename_i hl
        obtain ⟨a, vs, rfl, h1, h2⟩ := Rep.lst_iff.mp rd
        obtain ⟨a', us, rfl, h1', h2'⟩ := Rep.lst_iff.mp re
        exact op_cat pins s σ H _ _ v u Q I rx ry ⟨a, a', vs, us, rfl, rfl, sF _ _ h1, sF _ _ h1', by rw [← h2.length, ← h2'.length]; exact hl, m.lst sF (h2.append h2')⟩
      · obtain ⟨_, z, _⟩ := m; cases z
  | .mul => by
    intro pins s σ H x y v u Q I rx ry h
    obtain ⟨F, d, e, sF, rd, re, m⟩ := h
    cases d <;> cases e <;> simp only [binD, mulD] at m <;> try (obtain ⟨_, z, _⟩ := m; cases z; done)
    · split at m
      · rename_i hl
        exact op_mul pins s σ H x y v u Q I rx ry ⟨_, _, Rep.int_iff.mp rd, Rep.int_iff.mp re, hl, m.int sF⟩
      · obtain ⟨_, z, _⟩ := m; cases z
    · split at m
      · rename_i hl
        obtain ⟨a, vs, rfl, h1, h2⟩ := Rep.lst_iff.mp rd
        exact op_rep pins s σ H _ _ v u Q I rx ry ⟨a, _, vs, rfl, Rep.int_iff.mp re, sF _ _ h1, hl.1, hl.2.1, by rw [← h2.length]; exact hl.2.2, m.lst sF (h2.flat _)⟩
      · obtain ⟨_, z, _⟩ := m; cases z
  | .sub => by
    intro pins s σ H x y v u Q I rx ry h
    obtain ⟨F, d, e, sF, rd, re, m⟩ := h
    cases d <;> cases e <;> simp only [binD] at m <;> try (obtain ⟨_, z, _⟩ := m; cases z; done)
    exact op_sub pins s σ H x y v u Q I rx ry ⟨_, _, Rep.int_iff.mp rd, Rep.int_iff.mp re, m.int sF⟩
  | .div => by
    intro pins s σ H x y v u Q I rx ry h
    obtain ⟨F, d, e, sF, rd, re, m⟩ := h
    cases d <;> cases e <;> simp only [binD] at m <;> try (obtain ⟨_, z, _⟩ := m; cases z; done)
    split at m
    · rename_i hl
      exact op_fdiv pins s σ H x y v u Q I rx ry ⟨_, _, Rep.int_iff.mp rd, Rep.int_iff.mp re, hl, m.int sF⟩
    · obtain ⟨_, z, _⟩ := m; cases z
  | .mod => by
    intro pins s σ H x y v u Q I rx ry h
    obtain ⟨F, d, e, sF, rd, re, m⟩ := h
    cases d <;> cases e <;> simp only [binD] at m <;> try (obtain ⟨_, z, _⟩ := m; cases z; done)
    split at m
    · rename_i hl
      exact op_mod pins s σ H x y v u Q I rx ry ⟨_, _, Rep.int_iff.mp rd, Rep.int_iff.mp re, hl, m.int sF⟩
    · obtain ⟨_, z, _⟩ := m; cases z
  | .pow => by
    intro pins s σ H x y v u Q I rx ry h
    obtain ⟨F, d, e, sF, rd, re, m⟩ := h
    cases d <;> cases e <;> simp only [binD] at m <;> try (obtain ⟨_, z, _⟩ := m; cases z; done)
    split at m
    · rename_i hl
      exact op_pow pins s σ H x y v u Q I rx ry ⟨_, _, Rep.int_iff.mp rd, Rep.int_iff.mp re, hl, m.int sF⟩
    · obtain ⟨_, z, _⟩ := m; cases z
  | .shl => by
    intro pins s σ H x y v u Q I rx ry h
    obtain ⟨F, d, e, sF, rd, re, m⟩ := h
    cases d <;> cases e <;> simp only [binD] at m <;> try (obtain ⟨_, z, _⟩ := m; cases z; done)
    split at m
    · rename_i hl
      exact op_shl pins s σ H x y v u Q I rx ry ⟨_, _, Rep.int_iff.mp rd, Rep.int_iff.mp re, hl, m.int sF⟩
    · obtain ⟨_, z, _⟩ := m; cases z
  | .shr => by
    intro pins s σ H x y v u Q I rx ry h
    obtain ⟨F, d, e, sF, rd, re, m⟩ := h
    cases d <;> cases e <;> simp only [binD] at m <;> try (obtain ⟨_, z, _⟩ := m; cases z; done)
    split at m
    · rename_i hl
      exact op_shr pins s σ H x y v u Q I rx ry ⟨_, _, Rep.int_iff.mp rd, Rep.int_iff.mp re, hl, m.int sF⟩
    · obtain ⟨_, z, _⟩ := m; cases z
  | .and => by
    intro pins s σ H x y v u Q I rx ry h
    obtain ⟨F, d, e, sF, rd, re, m⟩ := h
    cases d <;> cases e <;> simp only [binD] at m <;> try (obtain ⟨_, z, _⟩ := m; cases z; done)
    exact op_and pins s σ H x y v u Q I rx ry ⟨_, _, Rep.int_iff.mp rd, Rep.int_iff.mp re, m.int sF⟩
  | .or => by
    intro pins s σ H x y v u Q I rx ry h
    obtain ⟨F, d, e, sF, rd, re, m⟩ := h
    cases d <;> cases e <;> simp only [binD] at m <;> try (obtain ⟨_, z, _⟩ := m; cases z; done)
    exact op_or pins s σ H x y v u Q I rx ry ⟨_, _, Rep.int_iff.mp rd, Rep.int_iff.mp re, m.int sF⟩
  | .xor => by
    intro pins s σ H x y v u Q I rx ry h
    obtain ⟨F, d, e, sF, rd, re, m⟩ := h
    cases d <;> cases e <;> simp only [binD] at m <;> try (obtain ⟨_, z, _⟩ := m; cases z; done)
    exact op_xor pins s σ H x y v u Q I rx ry ⟨_, _, Rep.int_iff.mp rd, Rep.int_iff.mp re, m.int sF⟩
/-! ### truth -/
def truD : D → Option Bool
  | .non => some false
  | .bl b => some b
  | .int i => some (i != 0)
  | .str x => if x.length ≤ lim then some ((x.length : Int) != 0) else none
  | .tup xs => some (!xs.isEmpty)
  | .lst xs => some (!xs.isEmpty)
  | _ => none
theorem tru_D {d : D} {v : V} {b : Bool} (s : Same F H) (r : Rep K F d v) (h : truD d = some b) : TruV K v H b := by
  cases d <;> simp only [truD, Option.some.injEq, reduceCtorEq] at h
  · rw [Rep.non_iff.mp r]; exact h.symm
  · rw [Rep.bl_iff.mp r]; exact h.symm
  · rw [Rep.int_iff.mp r]; exact h.symm
  · split at h
    · rename_i hl
      cases h
      rw [Rep.str_iff.mp r]; exact ⟨hl, rfl⟩
    · cases h
  · obtain ⟨a, vs, rfl, h1, h2⟩ := Rep.tup_iff.mp r
    have l := h2.length
    refine .inr (.inl ⟨vs, Same.seqT s h1, ?_⟩)
    rw [← h]
    cases vs <;> cases ‹List D› <;> simp at l <;> rfl
  · obtain ⟨a, vs, rfl, h1, h2⟩ := Rep.lst_iff.mp r
    have l := h2.length
    refine .inl ⟨vs, .inl (.inl (s _ _ h1)), ?_⟩
    rw [← h]
    cases vs <;> cases ‹List D› <;> simp at l <;> rfl
end
end Z
/-! The language between: its terms, what they yield, how the given syntax becomes such a term. -/
namespace Z
open PySem PySem.Spec PyProof.Rows L2

inductive Blt where
  | len | abs | min | max | sum | any | all | int
/-- built-ins that make a list, a tuple -/
inductive Mkb where
  | tuple | list
inductive Ty where
  | int | bool | str | tuple | list | dict
mutual
inductive Tg where
  | nm (i : Nat)
  | tp (ts : Tgs)
inductive Tgs where
  | nil
  | cons (t : Tg) (r : Tgs)
end
mutual
inductive E where
  | cst (d : D)
  | glb (x : Str) (d : D)
  | var (i : Nat)
  | bin (o : BOp) (a b : E)
  | neg (a : E)
  | cmp (o : COp) (a b : Bo)
  | chn (o p : COp) (a b c : E)
  | and_ (a b : E)
  | or_ (a b : E)
  | not_ (a : E)
  | ite (c a b : E)
  | tup (es : Es)
  | lst (es : Es)
  | call (f : Nat) (es : Es)
  | blt (b : Blt) (es : Bs)
  | mkb (b : Mkb) (es : Es)
  | isi (a : E) (t : Ty)
  | ix (a : Bo) (i : E)
  | sl (a : E) (lo hi : Bd)
  | rev (a : E)
  | comp (x : E) (own : List Nat) (t : Tg) (it : It) (c : E)
/-- what is read where it stands alone: a name's list may be its own there -/
inductive Bo where
  | own (i : Nat)
  | ev (e : E)
inductive Bd where
  | no
  | to (e : E)
inductive Bs where
  | nil
  | cons (e : Bo) (r : Bs)
inductive Es where
  | nil
  | cons (e : E) (r : Es)
inductive It where
  | seq (e : E)
  | rng1 (a : E)
  | rng2 (a b : E)
  | enm (e : E)
  | zip (a b : E)
end

/-! ### results -/
inductive R (α : Type) where
  | ok (a : α)
  | exc (c : Str)
  | bad
def R.bind {α β : Type} (r : R α) (f : α → R β) : R β := match r with
  | .ok a => f a
  | .exc c => .exc c
  | .bad => .bad
def R.of {α : Type} : Option α → R α
  | some a => .ok a
  | none => .bad
/-- no error may come out of it -/
def R.calm {α : Type} : R α → R α
  | .ok a => .ok a
  | _ => .bad
theorem R.ok_bind {α β : Type} (a : α) (f : α → R β) : (R.ok a).bind f = f a := rfl
theorem R.of_some {α : Type} (a : α) : R.of (some a) = .ok a := rfl

/-! ### builtins -/
def blsOf : List D → Option (List Bool)
  | [] => some []
  | .bl b :: r => (blsOf r).map fun t => b :: t
  | _ :: _ => none
def greatest : List Int → Option Int
  | [] => none
  | [x] => some x
  | x :: r => (greatest r).map fun m => if m > x then m else x
def least : List Int → Option Int
  | [] => none
  | [x] => some x
  | x :: r => (least r).map fun m => if m < x then m else x
def bltD : Blt → List D → Option D
  | .len, [.tup xs] => some (.int xs.length)
  | .len, [.lst xs] => some (.int xs.length)
  | .len, [.scr xs] => some (.int xs.length)
  | .len, [.str x] => if x.length ≤ lim then some (.int x.length) else none
  | .abs, [.int i] => some (.int (if i < 0 then -i else i))
  | .min, [.int i, .int j] => some (.int (if j < i then j else i))
  | .max, [.int i, .int j] => some (.int (if j > i then j else i))
  | .min, [.lst xs] => (intsOf xs).bind fun ns => (least ns).map .int
  | .max, [.lst xs] => (intsOf xs).bind fun ns => (greatest ns).map .int
  | .min, [.tup xs] => (intsOf xs).bind fun ns => (least ns).map .int
  | .max, [.tup xs] => (intsOf xs).bind fun ns => (greatest ns).map .int
  | .sum, [.lst xs] => (intsOf xs).map fun ns => .int ns.sum
  | .any, [.lst xs] => (blsOf xs).map fun bs => .bl (bs.any id)
  | .all, [.lst xs] => (blsOf xs).map fun bs => .bl (bs.all id)
  | .int, [.int i] => some (.int i)
  | .int, [.bl b] => some (.int (if b then 1 else 0))
  | _, _ => none
def mkbD : Mkb → List D → Option D
  | .tuple, [.tup xs] => some (.tup xs)
  | .tuple, [.lst xs] => some (.tup xs)
  | .list, [.tup xs] => some (.lst xs)
  | .list, [.lst xs] => some (.lst xs)
  | _, _ => none
def tyD : D → Ty → Option Bool
  | .non, t => some false
  | .bl _, .int => some true
  | .bl _, .bool => some true
  | .bl _, _ => some false
  | .int _, .int => some true
  | .int _, _ => some false
  | .str _, .str => some true
  | .str _, _ => some false
  | .tup _, .tuple => some true
  | .tup _, _ => some false
  | .lst _, .list => some true
  | .lst _, _ => some false
  | .dic _ _, .dict => some true
  | .dic _ _, _ => some false
  | _, _ => none
def cutD (xs : List D) (lo hi : Option Int) : List D := (xs.drop (HT.sIx xs.length 0 lo)).take (HT.sIx xs.length xs.length hi - HT.sIx xs.length 0 lo)
def ixD : D → D → Option D
  | .tup xs, .int i => atI xs i
  | .lst xs, .int i => atI xs i
  | .str x, .int i => if x.length ≤ lim then (atI x.cps.toList i).map fun c => .str ⟨#[c]⟩ else none
  | _, _ => none
def slD : D → Option Int → Option Int → Option D
  | .tup xs, lo, hi => some (.tup (cutD xs lo hi))
  | .lst xs, lo, hi => some (.lst (cutD xs lo hi))
  | .scr ns, lo, hi => some (.lst (cutD (ns.map .int) lo hi))
  | .str x, lo, hi => if x.length ≤ lim then some (.str (cutS x lo hi)) else none
  | _, _, _ => none
/-- back to front -/
def revD : D → Option D
  | .lst xs => some (.lst xs.reverse)
  | _ => none
def itemsD : D → Option (List D)
  | .tup xs => some xs
  | .lst xs => some xs
  | _ => none
def enumL : Nat → List D → List D
  | _, [] => []
  | n, x :: r => .tup [.int (n : Nat), x] :: enumL (n + 1) r
def zipL : List D → List D → List D
  | x :: xs, y :: ys => .tup [x, y] :: zipL xs ys
  | _, _ => []
def rngL (lo : Int) : Nat → List D
  | n => (List.range n).map fun i => D.int (lo + (i : Nat))
def inRng (i : Int) : Bool := decide (-(2 ^ 62) ≤ i) && decide (i < 2 ^ 62)

/-! ### what terms yield -/
def look (ρ : Env') (i : Nat) : R D := match ρ[i]? with
  | some (.im d) => .ok d
  | _ => .bad
def lookB (ρ : Env') (i : Nat) : R D := match ρ[i]? with
  | some (.im d) => .ok d
  | some (.ow d) => .ok d
  | _ => .bad
mutual
def dTg : Tg → D → Env' → Option Env'
  | .nm i, d, ρ => some (ρ.set i (.im d))
  | .tp ts, .tup ds, ρ => dTgs ts ds ρ
  | .tp ts, .lst ds, ρ => dTgs ts ds ρ
  | .tp _, _, _ => none
def dTgs : Tgs → List D → Env' → Option Env'
  | .nil, [], ρ => some ρ
  | .cons t r, d :: ds, ρ => (dTg t d ρ).bind fun ρ' => dTgs r ds ρ'
  | _, _, _ => none
end
def wipeE (ρ : Env') : List Nat → Env'
  | [] => ρ
  | v :: vs => (wipeE ρ vs).set v .un
/-- the items that come, one after another -/
def compL (tg : D → Option Env') (c : Env' → R Bool) (x : Env' → R D) : List D → R (List D)
  | [] => .ok []
  | d :: ds => (R.of (tg d)).bind fun ρ => (c ρ).bind fun b =>
    if b = true then (x ρ).bind fun y => (compL tg c x ds).bind fun ys => .ok (y :: ys) else compL tg c x ds
section
variable (T : Nat → List D → R D)
/-- a value, and whether it is true -/
def tr (v : R D) : R D × R Bool := (v, v.bind fun x => R.of (truD x))
mutual
def dP : E → Env' → R D × R Bool
  | .cst d, _ => tr (.ok d)
  | .glb _ d, _ => tr (.ok d)
  | .var i, ρ => tr (look ρ i)
  | .bin o a b, ρ => tr ((dP a ρ).1.bind fun x => (dP b ρ).1.bind fun y => R.of (binD o x y))
  | .neg a, ρ => tr ((dP a ρ).1.bind fun x => match x with
    | .int i => .ok (.int (-i))
    | _ => .bad)
  | .cmp o a b, ρ => tr (((dO a ρ).bind fun x => (dO b ρ).bind fun y => R.of (cmpD o x y)).bind fun r => .ok (.bl r))
  | .chn o p a b c, ρ => tr (((dP a ρ).1.bind fun x => (dP b ρ).1.bind fun y => (R.of (cmpD o x y)).bind fun r =>
    if r = true then (dP c ρ).1.bind fun z => R.of (cmpD p y z) else .ok false).bind fun r => .ok (.bl r))
  | .and_ a b, ρ => ((dP a ρ).1.bind fun x => match x with
    | .bl c => if c = true then (dP b ρ).1 else .ok (.bl false)
    | _ => .bad, (dP a ρ).2.bind fun x => if x = true then (dP b ρ).2 else .ok false)
  | .or_ a b, ρ => ((dP a ρ).1.bind fun x => match x with
    | .bl c => if c = true then .ok (.bl true) else (dP b ρ).1
    | _ => .bad, (dP a ρ).2.bind fun x => if x = true then .ok true else (dP b ρ).2)
  | .not_ a, ρ => ((dP a ρ).1.bind fun x => match x with
    | .bl c => .ok (.bl (!c))
    | _ => .bad, (dP a ρ).2.bind fun x => .ok (!x))
  | .ite c a b, ρ => tr ((dP c ρ).2.bind fun t => if t = true then (dP a ρ).1 else (dP b ρ).1)
  | .tup es, ρ => tr ((dEs es ρ).bind fun ds => if ds.length ≤ lim then .ok (.tup ds) else .bad)
  | .lst es, ρ => tr ((dEs es ρ).bind fun ds => if ds.length ≤ lim then .ok (.lst ds) else .bad)
  | .call f es, ρ => tr ((dEs es ρ).bind fun ds => T f ds)
  | .blt b es, ρ => tr ((dBs es ρ).bind fun ds => R.of (bltD b ds))
  | .mkb b es, ρ => tr ((dEs es ρ).bind fun ds => R.of (mkbD b ds))
  | .isi a t, ρ => tr ((dP a ρ).1.bind fun x => (R.of (tyD x t)).bind fun r => .ok (.bl r))
  | .ix a i, ρ => tr ((dO a ρ).bind fun x => (dP i ρ).1.bind fun y => R.of (ixD x y))
  | .sl a lo hi, ρ => tr ((dP a ρ).1.bind fun x => (dBd lo ρ).bind fun l => (dBd hi ρ).bind fun h => R.of (slD x l h))
  | .rev a, ρ => tr ((dP a ρ).1.bind fun x => R.of (revD x))
  | .comp x own t it c, ρ => tr ((dIt it ρ).bind fun ds => if ds.length < lim then ((compL (fun d => dTg t d (wipeE ρ own)) (fun ρ => (dP c ρ).2) (fun ρ => (dP x ρ).1) ds).calm).bind fun ys => .ok (.lst ys) else .bad)
def dO : Bo → Env' → R D
  | .own i, ρ => lookB ρ i
  | .ev e, ρ => (dP e ρ).1
def dBd : Bd → Env' → R (Option Int)
  | .no, _ => .ok none
  | .to e, ρ => (dP e ρ).1.bind fun x => match x with
    | .int i => .ok (some i)
    | _ => .bad
def dBs : Bs → Env' → R (List D)
  | .nil, _ => .ok []
  | .cons e r, ρ => (dO e ρ).bind fun x => (dBs r ρ).bind fun xs => .ok (x :: xs)
def dEs : Es → Env' → R (List D)
  | .nil, _ => .ok []
  | .cons e r, ρ => (dP e ρ).1.bind fun x => (dEs r ρ).bind fun xs => .ok (x :: xs)
def dIt : It → Env' → R (List D)
  | .seq e, ρ => (dP e ρ).1.bind fun x => R.of (itemsD x)
  | .rng1 a, ρ => (dP a ρ).1.bind fun x => match x with
    | .int j => if inRng j = true then .ok (rngL 0 j.toNat) else .bad
    | _ => .bad
  | .rng2 a b, ρ => (dP a ρ).1.bind fun x => (dP b ρ).1.bind fun y => match x, y with
    | .int i, .int j => if (inRng i && inRng j) = true then .ok (rngL i (j - i).toNat) else .bad
    | _, _ => .bad
  | .enm e, ρ => (dP e ρ).1.bind fun x => (R.of (itemsD x)).bind fun ds => .ok (enumL 0 ds)
  | .zip a b, ρ => (dP a ρ).1.bind fun x => (dP b ρ).1.bind fun y => match x, y with
    | .lst xs, .lst ys => .ok (zipL xs ys)
    | .tup xs, .tup ys => .ok (zipL xs ys)
    | _, _ => .bad
end
def dE (e : E) (ρ : Env') : R D := (dP T e ρ).1
def dT (e : E) (ρ : Env') : R Bool := (dP T e ρ).2
end
end Z
/-! Readings of terms; how they follow one another; targets; the context. -/
namespace Z
open PySem PySem.Spec PyProof.Rows L2

/-! ### readings -/
section
variable (K : PySem.W.Frag) (W : WX) (mg : Str → Option Value)
def PostX {α : Type} (σ : L2.St) (H F : Hp) (G : α → Prop) : R α → Prop
  | .ok a => G a
  | .exc c => ∀ H' F' C, Ex H F H' F' → mg c = some (.ref C) → W (.ref C) none σ H'
  | .bad => False
/-- fr: what comes is new, if it is a list or a dict -/
def GE (fr : Bool) (H F : Hp) (Q : VK) (d : D) : Prop := ∀ v H' F', Ex H F H' F' → (if fr = true then RepF K F' H H' d v else Rep K F' d v) → Q v H'
def GT (H F : Hp) (Q : Bool → Hp → Prop) (b : Bool) : Prop := ∀ H' F', Ex H F H' F' → Q b H'
def GL (H F : Hp) (Q : List V → Hp → Prop) (ds : List D) : Prop := ∀ vs H' F', Ex H F H' F' → RepL K F' ds vs → Q vs H'
def tE (fr : Bool) (r : Env' → R D) : TE := fun σ H Q => ∃ H0 F0 ρ F A, Rl K H0 F0 ρ σ H F A ∧ PostX W mg σ H F (GE K fr H F Q) (r ρ)
def tT (r : Env' → R Bool) : TT := fun σ H Q => ∃ H0 F0 ρ F A, Rl K H0 F0 ρ σ H F A ∧ PostX W mg σ H F (GT H F Q) (r ρ)
def tL (r : Env' → R (List D)) : TA := fun σ H Q => ∃ H0 F0 ρ F A, Rl K H0 F0 ρ σ H F A ∧ PostX W mg σ H F (GL K H F Q) (r ρ)
/-- what stays, with the lists and dicts that one name knows -/
noncomputable def Fpl (ρ : Env') (A : Nat → Addr) (F H : Hp) : Hp := fun b => @ite (Option HO) (∃ i d, ρ[i]? = some (.ow d) ∧ A i = b) (Classical.propDecidable _) (H b) (F b)
/-- v stands for d over Fp; what it holds, over F -/
def RepS (F Fp : Hp) : D → V → Prop
  | .lst ds, v => ∃ a vs, v = .ref a ∧ Fp a = some (.lst vs) ∧ RepL K F ds vs
  | .dic ks ds, v => ∃ a kvs, v = .ref a ∧ Rd Fp a (.dK kvs) ∧ ks = kvs.map (fun p => keyD p.1) ∧ (kvs.map (·.1)).Nodup ∧ RepL K F ds (kvs.map (·.2))
  | d, v => Rep K F d v
def GB (ρ : Env') (A : Nat → Addr) (H F : Hp) (Q : VK) (d : D) : Prop := ∀ v H' F', Ex H F H' F' → RepS K F' (Fpl ρ A F' H') d v → Q v H'
def GBL (ρ : Env') (A : Nat → Addr) (H F : Hp) (Q : List V → Hp → Prop) (ds : List D) : Prop := ∀ vs H' F', Ex H F H' F' → RepL K (Fpl ρ A F' H') ds vs → Q vs H'
def tB (r : Env' → R D) : TE := fun σ H Q => ∃ H0 F0 ρ F A, Rl K H0 F0 ρ σ H F A ∧ PostX W mg σ H F (GB K ρ A H F Q) (r ρ)
def tBL (r : Env' → R (List D)) : TA := fun σ H Q => ∃ H0 F0 ρ F A, Rl K H0 F0 ρ σ H F A ∧ PostX W mg σ H F (GBL K ρ A H F Q) (r ρ)
end
section
variable {K : PySem.W.Frag} {W : WX} {mg : Str → Option Value} {σ : L2.St} {H0 F0 H F H1 F1 : Hp} {ρ : Env'} {A : Nat → Addr}
theorem PostX.imp {α β : Type} {G : α → Prop} {G' : β → Prop} {r : R α} {k : α → R β} (p : PostX W mg σ H F G' (r.bind k)) (h : ∀ a, PostX W mg σ H F G' (k a) → G a) : PostX W mg σ H F G r := by
  cases r with
  | ok a => exact h a p
  | exc c => exact p
  | bad => exact p
theorem PostX.go {α : Type} {G G' : α → Prop} {r : R α} (p : PostX W mg σ H F G r) (e : Ex H F H1 F1) (h : ∀ a, G a → G' a) : PostX W mg σ H1 F1 G' r := by
  cases r with
  | ok a => exact h a p
  | exc c => exact fun H' F' C e' m => p H' F' C (e.trans e') m
  | bad => exact p
theorem GE.go {fr : Bool} {Q : VK} {d : D} (g : GE K fr H F Q d) (e : Ex H F H1 F1) : GE K fr H1 F1 Q d := fun v H' F' e' r => by
  refine g v H' F' (e.trans e') ?_
  cases fr with
  | false => exact r
  | true =>
    simp only [if_true] at r ⊢
    cases d <;> simp only [RepF] at r ⊢ <;> try exact r
    · obtain ⟨p, vs, h1, h2, h3⟩ := r; exact ⟨p, vs, h1, e.sH.free h2, h3⟩
    · obtain ⟨p, vs, h1, h2, h3⟩ := r; exact ⟨p, vs, h1, e.sH.free h2, h3⟩
theorem PostX.goE {fr : Bool} {Q : VK} {r : R D} (p : PostX W mg σ H F (GE K fr H F Q) r) (e : Ex H F H1 F1) : PostX W mg σ H1 F1 (GE K fr H1 F1 Q) r := p.go e fun _ g => g.go e
theorem PostX.goT {Q : Bool → Hp → Prop} {r : R Bool} (p : PostX W mg σ H F (GT H F Q) r) (e : Ex H F H1 F1) : PostX W mg σ H1 F1 (GT H1 F1 Q) r := p.go e fun _ g => fun H' F' e' => g H' F' (e.trans e')
theorem PostX.goL {Q : List V → Hp → Prop} {r : R (List D)} (p : PostX W mg σ H F (GL K H F Q) r) (e : Ex H F H1 F1) : PostX W mg σ H1 F1 (GL K H1 F1 Q) r := p.go e fun _ g => fun vs H' F' e' q => g vs H' F' (e.trans e') q
theorem PostX.goB {Q : VK} {r : R D} (p : PostX W mg σ H F (GB K ρ A H F Q) r) (e : Ex H F H1 F1) : PostX W mg σ H1 F1 (GB K ρ A H1 F1 Q) r := p.go e fun _ g => fun v H' F' e' q => g v H' F' (e.trans e') q
theorem PostX.goBL {Q : List V → Hp → Prop} {r : R (List D)} (p : PostX W mg σ H F (GBL K ρ A H F Q) r) (e : Ex H F H1 F1) : PostX W mg σ H1 F1 (GBL K ρ A H1 F1 Q) r := p.go e fun _ g => fun v H' F' e' q => g v H' F' (e.trans e') q
theorem PostX.val {fr : Bool} {Q : VK} {r : Option D} {s : Same F H} (p : PostX W mg σ H F (GE K fr H F Q) (R.of r)) (hf : fr = true) : rMk K r F H Q := by
  subst hf
  cases r with
  | none => exact p.elim
  | some d => exact ⟨d, rfl, fun v H' F' e q => p v H' F' e (by simp only [if_true]; exact q)⟩
theorem PostX.of {α β : Type} {G : β → Prop} {o : Option α} {k : α → R β} (p : PostX W mg σ H F G ((R.of o).bind k)) : ∃ a, o = some a ∧ PostX W mg σ H F G (k a) := by
  cases o with
  | none => exact p.elim
  | some a => exact ⟨a, rfl, p⟩
/-- a first value, then the rest -/
theorem tE.seq {r : Env' → R D} {β : Type} {k : D → R β} {G : β → Prop} {Q1 : VK} (rl : Rl K H0 F0 ρ σ H F A) (p : PostX W mg σ H F G ((r ρ).bind k))
    (h : ∀ d v H1 F1, Ex H F H1 F1 → Rep K F1 d v → PostX W mg σ H F G (k d) → Q1 v H1) : tE K W mg false r σ H Q1 :=
  ⟨H0, F0, ρ, F, A, rl, p.imp fun d q v H' F' e rr => h d v H' F' e (by simpa using rr) q⟩
theorem tT.seq {r : Env' → R Bool} {β : Type} {k : Bool → R β} {G : β → Prop} {Q1 : Bool → Hp → Prop} (rl : Rl K H0 F0 ρ σ H F A) (p : PostX W mg σ H F G ((r ρ).bind k))
    (h : ∀ b H1 F1, Ex H F H1 F1 → PostX W mg σ H F G (k b) → Q1 b H1) : tT K W mg r σ H Q1 :=
  ⟨H0, F0, ρ, F, A, rl, p.imp fun d q H' F' e => h d H' F' e q⟩
theorem tL.seq {r : Env' → R (List D)} {β : Type} {k : List D → R β} {G : β → Prop} {Q1 : List V → Hp → Prop} (rl : Rl K H0 F0 ρ σ H F A) (p : PostX W mg σ H F G ((r ρ).bind k))
    (h : ∀ ds vs H1 F1, Ex H F H1 F1 → RepL K F1 ds vs → PostX W mg σ H F G (k ds) → Q1 vs H1) : tL K W mg r σ H Q1 :=
  ⟨H0, F0, ρ, F, A, rl, p.imp fun d q v H' F' e rr => h d v H' F' e rr q⟩
theorem tB.seq {r : Env' → R D} {β : Type} {k : D → R β} {G : β → Prop} {Q1 : VK} (rl : Rl K H0 F0 ρ σ H F A) (p : PostX W mg σ H F G ((r ρ).bind k))
    (h : ∀ d v H1 F1, Ex H F H1 F1 → RepS K F1 (Fpl ρ A F1 H1) d v → PostX W mg σ H F G (k d) → Q1 v H1) : tB K W mg r σ H Q1 :=
  ⟨H0, F0, ρ, F, A, rl, p.imp fun d q v H' F' e rr => h d v H' F' e rr q⟩
theorem tBL.seq {r : Env' → R (List D)} {β : Type} {k : List D → R β} {G : β → Prop} {Q1 : List V → Hp → Prop} (rl : Rl K H0 F0 ρ σ H F A) (p : PostX W mg σ H F G ((r ρ).bind k))
    (h : ∀ ds vs H1 F1, Ex H F H1 F1 → RepL K (Fpl ρ A F1 H1) ds vs → PostX W mg σ H F G (k ds) → Q1 vs H1) : tBL K W mg r σ H Q1 :=
  ⟨H0, F0, ρ, F, A, rl, p.imp fun d q v H' F' e rr => h d v H' F' e rr q⟩
theorem PE.imp {X : Cx} {e : Expr} {t t' : TE} (h : PE X e t) (i : ∀ σ H Q, t' σ H Q → t σ H Q) : PE X e t' := ⟨fun pins s σ H Q I q => h.run pins s σ H Q I (i σ H Q q)⟩
theorem PT.imp {X : Cx} {e : Expr} {t t' : TT} (h : PT X e t) (i : ∀ σ H Q, t' σ H Q → t σ H Q) : PT X e t' := ⟨fun pins s σ H Q I q => h.run pins s σ H Q I (i σ H Q q)⟩
theorem PW.imp {X : Cx} {e : Expr} {t t' : TT} (h : PW X e t) (i : ∀ σ H Q, t' σ H Q → t σ H Q) : PW X e t' := ⟨fun wh pins s σ H Q I q => h.run wh pins s σ H Q I (i σ H Q q)⟩
theorem PA.imp {X : Cx} {e : List Expr} {t t' : TA} (h : PA X e t) (i : ∀ σ H Q, t' σ H Q → t σ H Q) : PA X e t' := ⟨fun pos pins s σ H Q I q => h.run pos pins s σ H Q I (i σ H Q q)⟩
theorem PG.imp {X : Cx} {e : Expr} {t t' : TG} (h : PG X e t) (i : ∀ v σ H Q, t' v σ H Q → t v σ H Q) : PG X e t' := ⟨fun pins s σ H v u Q I r q => h.run pins s σ H v u Q I r (i v σ H Q q)⟩
theorem PGs.imp {X : Cx} {e : List Expr} {t t' : TGs} (h : PGs X e t) (i : ∀ v σ H Q, t' v σ H Q → t v σ H Q) : PGs X e t' := ⟨fun pins s σ H v u Q I r q => h.run pins s σ H v u Q I r (i v σ H Q q)⟩
theorem PI.imp {X : Cx} {tg e : Expr} {t t' : TI} (h : PI X tg e t) (i : ∀ σ H Q, t' σ H Q → t σ H Q) : PI X tg e t' := ⟨fun pins s σ H Q I q => h.run pins s σ H Q I (i σ H Q q)⟩
theorem PTs.imp {X : Cx} {e : List Expr} {t t' : TT} (h : PTs X e t) (i : ∀ σ H Q, t' σ H Q → t σ H Q) : PTs X e t' := ⟨fun pins s σ H Q I q => h.run pins s σ H Q I (i σ H Q q)⟩
/-- what is new may be taken for what stays -/
theorem tE.weak {X : Cx} {e : Expr} {r : Env' → R D} (h : PE X e (tE K W mg true r)) : PE X e (tE K W mg false r) := PE.imp h fun σ H Q q => by
  obtain ⟨H0, F0, ρ, F, A, rl, p⟩ := q
  refine ⟨H0, F0, ρ, F, A, rl, p.go (Ex.refl rl.sFH) fun d g v H' F' e rr => ?_⟩
  simp only [if_true] at rr
  obtain ⟨F2, e2, r2⟩ := RepF.rep e rr
  exact g v H' F2 e2 (by simpa using r2)

/-! ### the borrowed part -/
theorem Fpl.sub (rl : Rl K H0 F0 ρ σ H F A) : Same F (Fpl ρ A F H) := fun b o h => by
  unfold Fpl
  split
  · rename_i hc
    obtain ⟨i, d, hi, rfl⟩ := hc
    rw [(rl.slot i _ hi).2.1] at h; cases h
  · exact h
theorem Fpl.sup (rl : Rl K H0 F0 ρ σ H F A) : Same (Fpl ρ A F H) H := fun b o h => by
  unfold Fpl at h
  split at h
  · exact h
  · exact rl.sFH _ _ h
theorem Fpl.go (e : Ex H F H1 F1) : Same (Fpl ρ A F H) (Fpl ρ A F1 H1) := fun b o h => by
  unfold Fpl at h ⊢
  split at h
  · rename_i hc; rw [if_pos hc]; exact e.sH _ _ h
  · rename_i hc; rw [if_neg hc]; exact e.sF _ _ h
theorem RepS.rep {F Fp : Hp} {d : D} {v : V} (s : Same F Fp) (r : RepS K F Fp d v) : Rep K Fp d v := by
  cases d <;> simp only [RepS] at r <;> try exact r.mono s
  · obtain ⟨a, vs, h1, h2, h3⟩ := r
    exact Rep.lst_iff.mpr ⟨a, vs, h1, h2, h3.mono s⟩
  · obtain ⟨a, vs, h1, h2, h4, h5, h3⟩ := r
    exact Rep.dic_iff.mpr ⟨a, vs, h1, h2, h4, h5, h3.mono s⟩
theorem Rep.toS {F Fp : Hp} {d : D} {v : V} (s : Same F Fp) (r : Rep K F d v) : RepS K F Fp d v := by
  cases d <;> simp only [RepS] <;> try exact r
  · obtain ⟨a, vs, h1, h2, h3⟩ := Rep.lst_iff.mp r
    exact ⟨a, vs, h1, s _ _ h2, h3⟩
  · obtain ⟨a, vs, h1, h2, h4, h5, h3⟩ := Rep.dic_iff.mp r
    exact ⟨a, vs, h1, Same.rd s h2, h4, h5, h3⟩
theorem RepS.go {F Fp F' Fp' : Hp} {d : D} {v : V} (sF : Same F F') (s : Same Fp Fp') (r : RepS K F Fp d v) : RepS K F' Fp' d v := by
  cases d <;> simp only [RepS] at r ⊢ <;> try exact r.mono sF
  · obtain ⟨a, vs, h1, h2, h3⟩ := r
    exact ⟨a, vs, h1, s _ _ h2, h3.mono sF⟩
  · obtain ⟨a, vs, h1, h2, h4, h5, h3⟩ := r
    exact ⟨a, vs, h1, Same.rd s h2, h4, h5, h3.mono sF⟩
theorem Own.repS {d : D} {i : Nat} (rl : Rl K H0 F0 ρ σ H F A) (h : ρ[i]? = some (.ow d)) : RepS K F (Fpl ρ A F H) d (.ref (A i)) := by
  obtain ⟨h1, h2, h3⟩ := rl.slot i _ h
  have there : ∀ o, H (A i) = some o → Fpl ρ A F H (A i) = some o := fun o q => by
    unfold Fpl; rw [if_pos ⟨i, d, h, rfl⟩]; exact q
  cases d <;> simp only [Own] at h3
  · obtain ⟨vs, q1, q2⟩ := h3
    exact ⟨_, vs, rfl, there _ q1, q2⟩
  · obtain ⟨kvs, q1, q2, q4, q3⟩ := h3
    exact ⟨_, kvs, rfl, .inl (there _ q1), q2, q4, q3⟩
theorem tB.of {X : Cx} {e : Expr} {r : Env' → R D} (h : PE X e (tE K W mg false r)) : PE X e (tB K W mg r) := PE.imp h fun σ H Q q => by
  obtain ⟨H0, F0, ρ, F, A, rl, p⟩ := q
  refine ⟨H0, F0, ρ, F, A, rl, p.go (Ex.refl rl.sFH) fun d g v H' F' e rr => ?_⟩
  exact g v H' F' e (Rep.toS (Fpl.sub (rl.go e)) (by simpa using rr))

/-! ### slots that change -/
theorem Rl.set (rl : Rl K H0 F0 ρ σ H F A) {i : Nat} {d : D} {v : V} (r : Rep K F d v) : Rl K H0 F0 (ρ.set i (.im d)) (σ.set i (some v)) H F A := by
  refine ⟨rl.ex, by rw [List.length_set, List.length_set]; exact rl.len, fun j s hs => ?_, fun j e he => ?_, fun j k d e hj hk hn => ?_⟩
  · by_cases hij : i = j
    · subst hij
      have hi : i < ρ.length := by
        rcases Nat.lt_or_ge i ρ.length with q | q
        · exact q
        · rw [List.getElem?_eq_none (by rw [List.length_set]; exact q)] at hs; cases hs
      rw [List.getElem?_set_self hi] at hs
      cases hs
      exact ⟨v, by rw [List.getElem?_set_self (by rw [← rl.len]; exact hi)], r⟩
    · rw [List.getElem?_set_ne hij] at hs
      have q := rl.slot j s hs
      cases s with
      | un => trivial
      | im d => obtain ⟨u, h1, h2⟩ := q; exact ⟨u, by rw [List.getElem?_set_ne hij]; exact h1, h2⟩
      | ow d => obtain ⟨h1, h2, h3⟩ := q; exact ⟨by rw [List.getElem?_set_ne hij]; exact h1, h2, h3⟩
  · by_cases hij : i = j
    · subst hij
      rcases Nat.lt_or_ge i ρ.length with q | q
      · rw [List.getElem?_set_self q] at he; cases he
      · rw [List.getElem?_eq_none (by rw [List.length_set]; exact q)] at he; cases he
    · rw [List.getElem?_set_ne hij] at he; exact rl.old j e he
  · have ne : ∀ {j : Nat} {e : D}, (ρ.set i (.im ‹D›))[j]? = some (.ow e) → i ≠ j := fun {j e} q z => by
      subst z
      rcases Nat.lt_or_ge i ρ.length with q' | q'
      · rw [List.getElem?_set_self q'] at q; cases q
      · rw [List.getElem?_eq_none (by rw [List.length_set]; exact q')] at q; cases q
    have n1 : i ≠ j := fun z => by
      subst z
      rcases Nat.lt_or_ge i ρ.length with q' | q'
      · rw [List.getElem?_set_self q'] at hj; cases hj
      · rw [List.getElem?_eq_none (by rw [List.length_set]; exact q')] at hj; cases hj
    have n2 : i ≠ k := fun z => by
      subst z
      rcases Nat.lt_or_ge i ρ.length with q' | q'
      · rw [List.getElem?_set_self q'] at hk; cases hk
      · rw [List.getElem?_eq_none (by rw [List.length_set]; exact q')] at hk; cases hk
    rw [List.getElem?_set_ne n1] at hj
    rw [List.getElem?_set_ne n2] at hk
    exact rl.apart j k _ _ hj hk hn
theorem Rl.un (rl : Rl K H0 F0 ρ σ H F A) (i : Nat) (x : Option V) : Rl K H0 F0 (ρ.set i .un) (σ.set i x) H F A := by
  have ne : ∀ {j : Nat} {e : D}, (ρ.set i .un)[j]? = some (.ow e) → i ≠ j := fun {j e} q z => by
    subst z
    rcases Nat.lt_or_ge i ρ.length with q' | q'
    · rw [List.getElem?_set_self q'] at q; cases q
    · rw [List.getElem?_eq_none (by rw [List.length_set]; exact q')] at q; cases q
  refine ⟨rl.ex, by rw [List.length_set, List.length_set]; exact rl.len, fun j s hs => ?_, fun j e he => ?_, fun j k d e hj hk hn => ?_⟩
  · by_cases hij : i = j
    · subst hij
      have hi : i < ρ.length := by
        rcases Nat.lt_or_ge i ρ.length with q | q
        · exact q
        · rw [List.getElem?_eq_none (by rw [List.length_set]; exact q)] at hs; cases hs
      rw [List.getElem?_set_self hi] at hs
      cases hs
      trivial
    · rw [List.getElem?_set_ne hij] at hs
      have q := rl.slot j s hs
      cases s with
      | un => trivial
      | im d => obtain ⟨u, h1, h2⟩ := q; exact ⟨u, by rw [List.getElem?_set_ne hij]; exact h1, h2⟩
      | ow d => obtain ⟨h1, h2, h3⟩ := q; exact ⟨by rw [List.getElem?_set_ne hij]; exact h1, h2, h3⟩
  · have n := ne he
    rw [List.getElem?_set_ne n] at he; exact rl.old j e he
  · have n1 := ne hj
    have n2 := ne hk
    rw [List.getElem?_set_ne n1] at hj
    rw [List.getElem?_set_ne n2] at hk
    exact rl.apart j k _ _ hj hk hn
theorem Rl.wipe (rl : Rl K H0 F0 ρ σ H F A) : ∀ vs : List Nat, Rl K H0 F0 (wipeE ρ vs) (L2.wipe σ vs) H F A
  | [] => rl
  | v :: vs => (Rl.wipe rl vs).un v none
end

/-! ### the context of compiling -/
structure SC where
  N : List Str
  sc : Scope
  own : List (Str × NameKind)
  fns : List (Str × Nat)
  cst : List (Str × D)
  muts : List Nat := []
  exc : List Str := []
  sub : List ((Str × Str) × Bool) := []
def idxOf (x : Str) : List Str → Option Nat
  | [] => none
  | y :: r => if x = y then some 0 else (idxOf x r).map (· + 1)
theorem idxOf_get {x : Str} : ∀ {l : List Str} {i : Nat}, idxOf x l = some i → l[i]? = some x
  | [], _, h => by simp [idxOf] at h
  | y :: r, i, h => by
    simp only [idxOf] at h
    split at h
    · rename_i e; cases h; rw [e]; rfl
    · simp only [Option.map_eq_some_iff] at h
      obtain ⟨j, hj, rfl⟩ := h
      rw [List.getElem?_cons_succ]; exact idxOf_get hj
def isVis (S : SC) (x : Str) : Bool := match S.sc.names.lookup x with
  | some .local => true
  | some .cell => true
  | some .free => true
  | _ => false
def isOwn (S : SC) (x : Str) : Bool := match S.own.lookup x with
  | some .local => true
  | some .cell => true
  | _ => false
def isGl (S : SC) (x : Str) : Bool := match S.sc.names.lookup x with
  | some .globalImplicit => true
  | _ => false
/-- the promise of a def that computes a tree of trees -/
def spD (K : PySem.W.Frag) (mg : Str → Option Value) (den : List D → R D) (n : Nat) : Sp := fun vs H Q E => ∃ F ds, Same F H ∧ RepL K F ds vs ∧ vs.length = n ∧
  match den ds with
  | .ok d => ∀ v H' F', Ex H F H' F' → Rep K F' d v → Q v H'
  | .exc c => ∀ H' F' C, Ex H F H' F' → mg c = some (.ref C) → E (.ref C) none H'
  | .bad => False
/-- the built-in names that no def of the module takes -/
def bltNames : List Str := ["len", "abs", "min", "max", "sum", "any", "all", "int", "tuple", "list", "sorted", "range", "enumerate", "zip", "isinstance", "bool", "str", "dict", "set"]
structure FnT (X : Cx) (T : Nat → List D → R D) (lv : Nat) (i : Nat) (x : Str) (n : Nat) : Prop where
  ex : ∃ f fd ps, FnOk X.prog X.w X.K X.mg X.base (L2.CX X.prog X.w) lv f fd ps (spD X.K X.mg (T i) n) ∧ X.mg x = some (.ref f) ∧ PySem.W.keepIn X.K (.ref f) = true ∧ Binds X.K fd ps [] ∧ ps.length = n
structure Okc (S : SC) (T : Nat → List D → R D) (lv : Nat) (W : WX) (X : Cx) : Prop where
  N : X.N = S.N
  sc : X.env.scope = S.sc
  nd : X.N.Nodup
  nm : ∀ x ∈ S.N, (x == ("__debug__" : Str)) = false ∧ (x == ("__classdict__" : Str)) = false
  own : ∀ x, isOwn S x = true → Loc X.env.scope x ∧ (X.fn x = true ∨ X.env.scope.names.lookup x = some .local)
  calm : X.calm = true
  room : Room lv X.A
  tk : Takes X W
  fns : ∀ i x n, S.fns[i]? = some (x, n) → FnT X T lv i x n ∧ (x == ("__debug__" : Str)) = false
  cst : ∀ x d, S.cst.lookup x = some d → (x == ("__debug__" : Str)) = false ∧ ∃ v u, X.mg x = some u ∧ RelV v u ∧ ∀ F, Rep X.K F d v
  blt : ∀ x ∈ bltNames, X.mg x = none
end Z
/-! From the given syntax to terms. -/
namespace Z
open PySem PySem.Spec PyProof.Rows L2

def binOf : Operator → Option BOp
  | .Add => some .add | .Sub => some .sub | .Mult => some .mul | .FloorDiv => some .div | .Mod => some .mod | .Pow => some .pow | .LShift => some .shl | .RShift => some .shr
  | .BitAnd => some .and | .BitOr => some .or | .BitXor => some .xor | _ => none
def cmpOf : CmpOp → COp
  | .Eq => .eq | .NotEq => .ne | .Lt => .lt | .LtE => .le | .Gt => .gt | .GtE => .ge | .Is => .is | .IsNot => .isn | .In => .in_ | .NotIn => .nin
theorem binOf_eq {o : Operator} {b : BOp} (h : binOf o = some b) : o = bOp b := by cases o <;> simp only [binOf, reduceCtorEq, Option.some.injEq] at h <;> subst h <;> rfl
theorem cmpOf_eq (o : CmpOp) : o = cOp (cmpOf o) := by cases o <;> rfl
def bltOf (x : Str) : Option Blt :=
  if x = "len" then some .len else if x = "int" then some .int else if x = "all" then some .all else if x = "any" then some .any
  else if x = "max" then some .max else if x = "min" then some .min else if x = "sum" then some .sum else if x = "abs" then some .abs else none
def mkbOf (x : Str) : Option Mkb := if x = "tuple" then some .tuple else if x = "list" then some .list else none
def tyOf (x : Str) : Option Ty :=
  if x = "int" then some .int else if x = "bool" then some .bool else if x = "tuple" then some .tuple else if x = "str" then some .str else if x = "list" then some .list else if x = "dict" then some .dict else none
def bltStr : Blt → Str
  | .len => "len" | .abs => "abs" | .min => "min" | .max => "max" | .sum => "sum" | .any => "any" | .all => "all" | .int => "int"
def mkbStr : Mkb → Str
  | .tuple => "tuple" | .list => "list"
def tyStr : Ty → String
  | .int => "int" | .bool => "bool" | .str => "str" | .tuple => "tuple" | .list => "list" | .dict => "dict"
def tyVal (t : Ty) : Str := Str.ofString (tyStr t)
theorem bltOf_eq {x : Str} {b : Blt} (h : bltOf x = some b) : x = bltStr b := by
  unfold bltOf at h
  repeat' split at h
  all_goals first | (cases h; assumption) | cases h
theorem mkbOf_eq {x : Str} {b : Mkb} (h : mkbOf x = some b) : x = mkbStr b := by
  unfold mkbOf at h
  repeat' split at h
  all_goals first | (cases h; assumption) | cases h
theorem tyOf_eq {x : Str} {b : Ty} (h : tyOf x = some b) : x = tyVal b := by
  unfold tyOf at h
  repeat' split at h
  all_goals first | (cases h; assumption) | cases h
def isStar : Expr → Bool
  | .Starred _ _ => true
  | _ => false
/-- the slice [::-1] -/
def isRev : Option Expr → Option Expr → Expr → Bool
  | none, none, .UnaryOp .USub (.Constant (.int i) _ _) _ => decide (i = 1)
  | _, _, _ => false
theorem isRev_eq {lo hi : Option Expr} {st : Expr} (h : isRev lo hi st = true) : lo = none ∧ hi = none ∧ ∃ k p1 p2, st = .UnaryOp .USub (.Constant (.int 1) k p1) p2 := by
  unfold isRev at h
  split at h
  · rw [of_decide_eq_true h]; exact ⟨rfl, rfl, _, _, _, rfl⟩
  · cases h
def isTup : Expr → Bool
  | .Tuple .. => true
  | _ => false
def isSet : Expr → Bool
  | .Set .. => true
  | _ => false
/-- what may stand within square brackets -/
def isPlainIx : Expr → Bool
  | .Slice .. => false
  | .Starred .. => false
  | _ => true
def fnIx (x : Str) : Nat → List (Str × Nat) → Option (Nat × Nat)
  | _, [] => none
  | k, (y, n) :: r => if x = y then some (k, n) else fnIx x (k + 1) r
theorem fnIx_get {x : Str} : ∀ {l : List (Str × Nat)} {k i n : Nat}, fnIx x k l = some (i, n) → ∃ j, i = k + j ∧ l[j]? = some (x, n)
  | [], _, _, _, h => by simp [fnIx] at h
  | (y, m) :: r, k, i, n, h => by
    simp only [fnIx] at h
    split at h
    · rename_i e; cases h; subst e; exact ⟨0, rfl, rfl⟩
    · obtain ⟨j, h1, h2⟩ := fnIx_get h
      exact ⟨j + 1, by omega, by rw [List.getElem?_cons_succ]; exact h2⟩
def cName (S : SC) (x : Str) : Option E := if isVis S x = true then (idxOf x S.N).map .var else if isGl S x = true then (S.cst.lookup x).map fun d => .glb x d else none
def ownOf (N : List Str) : List (Str × NameKind) → List (Str × Nat)
  | [] => []
  | (x, .local) :: r => (match idxOf x N with | some i => (x, i) :: ownOf N r | none => ownOf N r)
  | (x, .cell) :: r => (match idxOf x N with | some i => (x, i) :: ownOf N r | none => ownOf N r)
  | _ :: r => ownOf N r
def inner (S : SC) (scope : Scope) : SC := { S with sc := relS scope S.sc, own := scope.names }
mutual
def tgSlots : Tg → List Nat
  | .nm i => [i]
  | .tp ts => tgsSlots ts
def tgsSlots : Tgs → List Nat
  | .nil => []
  | .cons t r => tgSlots t ++ tgsSlots r
end
section
variable (cE cT : SC → Expr → Option E)
def cEs (S : SC) : List Expr → Option Es
  | [] => some .nil
  | e :: r => if isStar e = true then none else (cE S e).bind fun a => (cEs S r).map fun b => .cons a b
def cBo (S : SC) (e : Expr) : Option Bo := match e with
  | .Name x _ => if isVis S x = true then (idxOf x S.N).map .own else (cE S e).map .ev
  | _ => (cE S e).map .ev
def cBs (S : SC) : List Expr → Option Bs
  | [] => some .nil
  | e :: r => if isStar e = true then none else (cBo cE S e).bind fun a => (cBs S r).map fun b => .cons a b
def cAnd (S : SC) : List Expr → Option E
  | [] => none
  | [e] => cE S e
  | e :: r => (cE S e).bind fun a => (cAnd S r).map fun b => .and_ a b
def cOr (S : SC) : List Expr → Option E
  | [] => none
  | [e] => cE S e
  | e :: r => (cE S e).bind fun a => (cOr S r).map fun b => .or_ a b
def cBound (S : SC) : Option Expr → Option Bd
  | none => some .no
  | some e => (cE S e).map .to
end
def cTgF : Nat → SC → Expr → Option Tg
  | 0, _, _ => none
  | n + 1, S, .Name x _ => if isOwn S x = true then (idxOf x S.N).map .nm else none
  | n + 1, S, .Tuple es _ _ => ((es.mapM (cTgF n S)).map fun l => .tp (l.foldr Tgs.cons .nil))
  | _, _, _ => none
mutual
def cE : Nat → SC → Expr → Option E
  | 0, _, _ => none
  | n + 1, S, e => match e with
    | .Constant (.int i) _ _ => some (.cst (.int i))
    | .Constant (.bool b) _ _ => some (.cst (.bl b))
    | .Constant .none _ _ => some (.cst .non)
    | .Constant (.str x) _ _ => some (.cst (.str x))
    | .Name x _ => cName S x
    | .BinOp a op b _ => (binOf op).bind fun o => (cE n S a).bind fun x => (cE n S b).map fun y => .bin o x y
    | .UnaryOp .USub a _ => (cE n S a).map .neg
    | .UnaryOp .Not a _ => (cE n S a).map .not_
    | .BoolOp .And vs _ => cAnd (cE n) S vs
    | .BoolOp .Or vs _ => cOr (cE n) S vs
    | .IfExp c a b _ => (cT n S c).bind fun z => (cE n S a).bind fun x => (cE n S b).map fun y => .ite z x y
    | .Compare a [op] [b] _ => if isSet b = true then none else (cBo (cE n) S a).bind fun x => (cBo (cE n) S b).map fun y => .cmp (cmpOf op) x y
    | .Compare a [op, op'] [b, c] _ => if isSet c = true then none else (cE n S a).bind fun x => (cE n S b).bind fun y => (cE n S c).map fun z => .chn (cmpOf op) (cmpOf op') x y z
    | .Tuple es _ _ => (cEs (cE n) S es).map .tup
    | .List es _ => (cEs (cE n) S es).map .lst
    | .Call (.Name f _) args [] _ => if isGl S f = true then (match fnIx f 0 S.fns with
      | some (i, k) => if args.length = k ∧ args ≠ [] then (cEs (cE n) S args).map fun l => .call i l else none
      | none => if f = "isinstance" then (match args with
          | [a, .Name t _] => if isStar a = true then none else if isGl S t = true then (tyOf t).bind fun t => (cE n S a).map fun x => .isi x t else none
          | _ => none)
        else (match bltOf f with
          | some b => if args ≠ [] then (cBs (cE n) S args).map fun l => .blt b l else none
          | none => (mkbOf f).bind fun b => if args ≠ [] then (cEs (cE n) S args).map fun l => .mkb b l else none)) else none
    | .Subscript a (.Slice lo hi none _) _ => (cE n S a).bind fun x => (cBound (cE n) S lo).bind fun l => (cBound (cE n) S hi).map fun h => .sl x l h
    | .Subscript a (.Slice lo hi (some st) _) _ => if isRev lo hi st = true then (cE n S a).map .rev else none
    | .Subscript a i _ => if isPlainIx i = true then (cBo (cE n) S a).bind fun x => (cE n S i).map fun y => .ix x y else none
    | .ListComp x [⟨tg, iter, ifs, k⟩] scope _ =>
      if k = 0 ∧ blkC S.N S.sc scope (ownOf S.N scope.names) = true then
        (cTgF n (inner S scope) tg).bind fun t => (cIt n S tg iter).bind fun it => (cE n (inner S scope) x).bind fun y =>
          if ((tgSlots t).all fun i => ((ownOf S.N scope.names).map (·.2)).contains i) = true then
            (match ifs with
              | [] => some (.comp y ((ownOf S.N scope.names).map (·.2)) t it (.cst (.bl true)))
              | [c] => (cT n (inner S scope) c).map fun z => .comp y ((ownOf S.N scope.names).map (·.2)) t it z
              | _ => none)
          else none
      else none
    | _ => none
def cT : Nat → SC → Expr → Option E
  | 0, _, _ => none
  | n + 1, S, e => match e with
    | .BoolOp .And vs _ => cAnd (cT n) S vs
    | .BoolOp .Or vs _ => cOr (cT n) S vs
    | .UnaryOp .Not a _ => (cT n S a).map .not_
    | .Compare .. => cE n S e
    | .Name .. => cE n S e
    | .Call .. => cE n S e
    | .Subscript .. => cE n S e
    | .BinOp .. => cE n S e
    | .ListComp .. => cE n S e
    | _ => none
def cIt : Nat → SC → Expr → Expr → Option It
  | 0, _, _, _ => none
  | n + 1, S, tg, e => match e with
    | .Call (.Name f _) args [] _ => if isGl S f = true then
      (match fnIx f 0 S.fns with
      | some _ => (cE n S e).map .seq
      | none =>
        if f = "range" then (match args with
          | [a] => if isStar a = true then none else (cE n S a).map .rng1
          | [a, b] => if isStar a = true then none else if isStar b = true then none else (cE n S a).bind fun x => (cE n S b).map fun y => .rng2 x y
          | _ => none)
        else if f = "enumerate" then (match args with
          | [a] => if isTup tg = true then (if isStar a = true then none else (cE n S a).map .enm) else none
          | _ => none)
        else if f = "zip" then (match args with
          | [a, b] => if isTup tg = true then (if isStar a = true then none else if isStar b = true then none else (cE n S a).bind fun x => (cE n S b).map fun y => .zip x y) else none
          | _ => none)
        else (cE n S e).map .seq) else none
    | .Set .. => none
    | _ => (cE n S e).map .seq
end
end Z
/-! min, max of a tuple of ints. -/
namespace Z
open PySem PySem.Spec PyProof.Rows L2
section
variable {prog : Program} {w : World} {A : Around} {E : Value → Shared → Prop} {s : Shared} {l : Addr} {its : List Value} {ns : List Int} {Q : Value → Shared → Prop}
theorem old_keptT {h' : Heap} {o' : Obj} (hk : ∀ b o, b ∉ [s.heap.objs.size] → (s.heap.push o').get? b = some o → h'.get? b = some o) :
    ∀ b o, s.heap.get? b = some o → h'.get? b = some o := fun b o e => by
  refine hk b o (fun hm => ?_) (Heap.get?_push_of_some _ e)
  rcases List.mem_cons.mp hm with e1 | hm
  · exact absurd (e1 ▸ Heap.lt_size e) (Nat.lt_irrefl _)
  · cases hm
theorem in_push {o' : Obj} (hlt : l < s.heap.objs.size) : ∀ b ∈ [s.heap.objs.size, l], b < (s.heap.push o').objs.size := fun b hb => by
  rw [Heap.size_push]
  rcases List.mem_cons.mp hb with rfl | hb
  · exact Nat.lt_succ_self _
  · rcases List.mem_cons.mp hb with rfl | hb
    · exact Nat.lt_succ_of_lt hlt
    · cases hb
theorem maxT_raw (hh : A.handled = none) (hl : s.heap.IsTuple l its.toArray) (hi : IntsAre its ns) (hne : 0 < ns.length)
    (h : ∀ h' tk M t', (∀ b o, s.heap.get? b = some o → h'.get? b = some o) → M ∈ ns → (∀ a, a ∈ ns → a ≤ M) → Q (.int M t') { s with heap := h', toks := tk }) : wpAny (model prog w) A (call (.builtin "max") [.ref l]) Q E s := by
  obtain ⟨xs, e⟩ := hi.allInts.items
  have hn : numsOf (intItems xs).toList = ns := by rw [← e]; exact hi.numsOf
  rw [nums_intItems] at hn
  subst hn
  rw [e] at hl
  have hsz : 0 < xs.size := by simpa using hne
  have hlt : l < s.heap.objs.size := by obtain ⟨_, e, _⟩ := hl; exact Heap.lt_size e
  refine call_max_walk (wpAny_pyIter_tuple hl ?_)
  refine ⟨_, [_, l], [_], _, _, _, _, rfl, Walks.tuple (A := A.in1) hh _ l (Nat.ne_of_lt hlt) (intItems xs), ⟨⟨_, Heap.get?_push_size _ rfl, rfl, rfl⟩, hl.push _⟩, in_push hlt, by simpa [intItems] using hsz, CmpOf.ints_gt (numAt xs) (fun _ _ => intItems_at), fun v h' tk hP hk => ?_⟩
  have hv : (intItems xs)[argBest (fun i j => decide (numAt xs i > numAt xs j)) (xs.size - 1)]? = some v := by simpa [intItems] using hP
  obtain ⟨t, rfl⟩ := intItems_at hv
  obtain ⟨h1, h2⟩ := argBest_gt (numAt xs) (xs.size - 1)
  refine h h' tk _ t (old_keptT hk) ?_ fun a ha => ?_
  · rw [numAt_eq]; exact PySem.getD_mem (by rw [List.length_map, Array.length_toList]; omega)
  · obtain ⟨j, hj, rfl⟩ := mem_getD ha
    rw [List.length_map, Array.length_toList] at hj
    rw [← numAt_eq]; exact h2 j (by omega)
theorem minT_raw (hh : A.handled = none) (hl : s.heap.IsTuple l its.toArray) (hi : IntsAre its ns) (hne : 0 < ns.length)
    (h : ∀ h' tk M t', (∀ b o, s.heap.get? b = some o → h'.get? b = some o) → M ∈ ns → (∀ a, a ∈ ns → M ≤ a) → Q (.int M t') { s with heap := h', toks := tk }) : wpAny (model prog w) A (call (.builtin "min") [.ref l]) Q E s := by
  obtain ⟨xs, e⟩ := hi.allInts.items
  have hn : numsOf (intItems xs).toList = ns := by rw [← e]; exact hi.numsOf
  rw [nums_intItems] at hn
  subst hn
  rw [e] at hl
  have hsz : 0 < xs.size := by simpa using hne
  have hlt : l < s.heap.objs.size := by obtain ⟨_, e, _⟩ := hl; exact Heap.lt_size e
  refine call_min_walk (wpAny_pyIter_tuple hl ?_)
  refine ⟨_, [_, l], [_], _, _, _, _, rfl, Walks.tuple (A := A.in1) hh _ l (Nat.ne_of_lt hlt) (intItems xs), ⟨⟨_, Heap.get?_push_size _ rfl, rfl, rfl⟩, hl.push _⟩, in_push hlt, by simpa [intItems] using hsz, CmpOf.ints_lt (numAt xs) (fun _ _ => intItems_at), fun v h' tk hP hk => ?_⟩
  have hv : (intItems xs)[argBest (fun i j => decide (numAt xs i < numAt xs j)) (xs.size - 1)]? = some v := by simpa [intItems] using hP
  obtain ⟨t, rfl⟩ := intItems_at hv
  obtain ⟨h1, h2⟩ := argBest_lt (numAt xs) (xs.size - 1)
  refine h h' tk _ t (old_keptT hk) ?_ fun a ha => ?_
  · rw [numAt_eq]; exact PySem.getD_mem (by rw [List.length_map, Array.length_toList]; omega)
  · obtain ⟨j, hj, rfl⟩ := mem_getD ha
    rw [List.length_map, Array.length_toList] at hj
    rw [← numAt_eq]; exact h2 j (by omega)
end
section
variable {X : Cx}
def rMaxT (K : PySem.W.Frag) : List V → Hp → VK → Prop := fun vs H Q => ∃ (a : Addr) (ns : List Int), vs = [V.ref a] ∧ SqT K H a (ns.map V.int) ∧ 0 < ns.length ∧ ∀ m, m ∈ ns → (∀ y, y ∈ ns → y ≤ m) → Q (.int m) H
def rMinT (K : PySem.W.Frag) : List V → Hp → VK → Prop := fun vs H Q => ∃ (a : Addr) (ns : List Int), vs = [V.ref a] ∧ SqT K H a (ns.map V.int) ∧ 0 < ns.length ∧ ∀ m, m ∈ ns → (∀ y, y ∈ ns → m ≤ y) → Q (.int m) H
theorem cr_maxT (hc : X.calm = true) : CallR X (.builtin "max") (rMaxT X.K) := by
  intro pins s σ H vs us Q I r h
  obtain ⟨a, ns, rfl, hs, hne, q⟩ := h
  obtain ⟨its, rv, hl, _⟩ := I.tuple hs
  rw [Vals.ref1 r]
  exact maxT_raw (I.ok.hd hc) hl rv.ints hne fun h' tk m t' hk h1 h2 => ⟨.int _, H, I.kept hk, ⟨_, rfl⟩, q m h1 h2⟩
theorem cr_minT (hc : X.calm = true) : CallR X (.builtin "min") (rMinT X.K) := by
  intro pins s σ H vs us Q I r h
  obtain ⟨a, ns, rfl, hs, hne, q⟩ := h
  obtain ⟨its, rv, hl, _⟩ := I.tuple hs
  rw [Vals.ref1 r]
  exact minT_raw (I.ok.hd hc) hl rv.ints hne fun h' tk m t' hk h1 h2 => ⟨.int _, H, I.kept hk, ⟨_, rfl⟩, q m h1 h2⟩
end
end Z
/-! Built-in functions, isinstance, subscripts, slices on trees. -/
namespace Z
open PySem PySem.Spec PyProof.Rows L2

def isTyB : Blt → Bool
  | .int => true | _ => false
def bltId : Blt → String
  | .len => "len" | .abs => "abs" | .min => "min" | .max => "max" | .sum => "sum" | .any => "any" | .all => "all" | .int => "int"
def mkbId : Mkb → String
  | .tuple => "tuple" | .list => "list"
def rMb (K : PySem.W.Frag) (b : Mkb) : List V → Hp → VK → Prop := fun vs H Q => ∃ F ds, Same F H ∧ RepL K F ds vs ∧ rMk K (mkbD b ds) F H Q
def bltV (b : Blt) : Value := if isTyB b = true then .type (bltId b) else .builtin (bltId b)
def rBl (K : PySem.W.Frag) (b : Blt) : List V → Hp → VK → Prop := fun vs H Q => ∃ F ds, Same F H ∧ RepL K F ds vs ∧ rMk K (bltD b ds) F H Q
theorem blsOf_map : ∀ {ds : List D} {ns : List Bool}, blsOf ds = some ns → ds = ns.map D.bl
  | [], ns, h => by simp only [blsOf, Option.some.injEq] at h; subst h; rfl
  | .bl i :: r, ns, h => by
    simp only [blsOf, Option.map_eq_some_iff] at h
    obtain ⟨t, h1, rfl⟩ := h
    rw [blsOf_map h1]; rfl
  | .non :: _, _, h => by simp [blsOf] at h
  | .int _ :: _, _, h => by simp [blsOf] at h
  | .str _ :: _, _, h => by simp [blsOf] at h
  | .tup _ :: _, _, h => by simp [blsOf] at h
  | .lst _ :: _, _, h => by simp [blsOf] at h
  | .dic _ _ :: _, _, h => by simp [blsOf] at h
  | .scr _ :: _, _, h => by simp [blsOf] at h
  | .obj _ _ _ :: _, _, h => by simp [blsOf] at h
theorem greatest_is : ∀ {ns : List Int} {m : Int}, greatest ns = some m → m ∈ ns ∧ ∀ y ∈ ns, y ≤ m
  | [], _, h => by simp [greatest] at h
  | [x], m, h => by simp only [greatest, Option.some.injEq] at h; subst h; simp
  | x :: y :: r, m, h => by
    simp only [greatest, Option.map_eq_some_iff] at h
    obtain ⟨k, hk, rfl⟩ := h
    obtain ⟨h1, h2⟩ := greatest_is (ns := y :: r) hk
    split
    · rename_i hc
      exact ⟨List.mem_cons_of_mem _ h1, fun z hz => by
        rcases List.mem_cons.mp hz with e | e
        · omega
        · exact h2 z e⟩
    · rename_i hc
      exact ⟨List.mem_cons_self, fun z hz => by
        rcases List.mem_cons.mp hz with e | e
        · omega
        · have := h2 z e; omega⟩
theorem least_is : ∀ {ns : List Int} {m : Int}, least ns = some m → m ∈ ns ∧ ∀ y ∈ ns, m ≤ y
  | [], _, h => by simp [least] at h
  | [x], m, h => by simp only [least, Option.some.injEq] at h; subst h; simp
  | x :: y :: r, m, h => by
    simp only [least, Option.map_eq_some_iff] at h
    obtain ⟨k, hk, rfl⟩ := h
    obtain ⟨h1, h2⟩ := least_is (ns := y :: r) hk
    split
    · rename_i hc
      exact ⟨List.mem_cons_of_mem _ h1, fun z hz => by
        rcases List.mem_cons.mp hz with e | e
        · omega
        · exact h2 z e⟩
    · rename_i hc
      exact ⟨List.mem_cons_self, fun z hz => by
        rcases List.mem_cons.mp hz with e | e
        · omega
        · have := h2 z e; omega⟩
section
variable {X : Cx} {K : PySem.W.Frag} {F H : Hp}
theorem rMk.no {Q : VK} (h : rMk K none F H Q) : False := by obtain ⟨_, z, _⟩ := h; cases z
theorem RepL.list_of {ds : List D} {vs : List V} {Q : VK} (s : Same F H) {v : V} (r : Rep K F (.lst ds) v) : ∃ a vs, v = .ref a ∧ H a = some (.lst vs) ∧ RepL K F ds vs := by
  obtain ⟨a, vs, h1, h2, h3⟩ := Rep.lst_iff.mp r
  exact ⟨a, vs, h1, s _ _ h2, h3⟩
theorem op_Blt (hc : X.calm = true) : ∀ b : Blt, CallR X (bltV b) (rBl X.K b)
  | .len => by
    intro pins s σ H vs us Q I r h
    obtain ⟨F, ds, sF, rd, m⟩ := h
    match ds with
    | [] => exact m.no.elim
    | d :: e :: es => exact (show False by cases d <;> exact m.no).elim
    | [d] =>
      obtain ⟨v, rfl, rv⟩ := rd.one
      cases d with
      | tup xs =>
        obtain ⟨a, us', rfl, h1, h2⟩ := Rep.tup_iff.mp rv
        have m' := m.int (i := xs.length) sF
        rw [h2.length] at m'
        exact call_len_seq pins s σ H _ us Q I r ⟨a, us', rfl, .inr (Same.seqT sF h1), m'⟩
      | lst xs =>
        obtain ⟨a, us', rfl, h1, h2⟩ := Rep.lst_iff.mp rv
        have m' := m.int (i := xs.length) sF
        rw [h2.length] at m'
        exact call_len_seq pins s σ H _ us Q I r ⟨a, us', rfl, .inl (.inl (.inl (sF _ _ h1))), m'⟩
      | scr ns =>
        obtain ⟨a, rfl, h1⟩ := Rep.scr_iff.mp rv
        have m' := m.int (i := ns.length) sF
        rw [← List.length_map (f := V.int)] at m'
        exact call_len_seq pins s σ H _ us Q I r ⟨a, _, rfl, .inl (Same.seq sF h1), m'⟩
      | str x =>
        rw [Rep.str_iff.mp rv] at r
        simp only [bltD] at m
        split at m
        · rename_i hl
          exact call_len_str pins s σ H _ us Q I r ⟨x, rfl, hl, m.int sF⟩
        · exact m.no.elim
      | _ => exact m.no.elim
  | .abs => by
    intro pins s σ H vs us Q I r h
    obtain ⟨F, ds, sF, rd, m⟩ := h
    match ds with
    | [] => exact m.no.elim
    | d :: e :: es => exact (show False by cases d <;> exact m.no).elim
    | [d] =>
      obtain ⟨v, rfl, rv⟩ := rd.one
      cases d with
      | int i =>
        rw [Rep.int_iff.mp rv] at r
        exact call_abs pins s σ H _ us Q I r ⟨i, rfl, m.int sF⟩
      | _ => exact m.no.elim
  | .min => by
    intro pins s σ H vs us Q I r h
    obtain ⟨F, ds, sF, rd, m⟩ := h
    match ds with
    | [] => exact m.no.elim
    | d :: e :: f :: es => exact (show False by cases d <;> cases e <;> exact m.no).elim
    | [d, e] =>
      obtain ⟨v, u, rfl, rv, ru⟩ := rd.two
      cases d with
      | int i =>
        cases e with
        | int j =>
          rw [Rep.int_iff.mp rv, Rep.int_iff.mp ru] at r
          exact call_min2 hc pins s σ H _ us Q I r ⟨i, j, rfl, m.int sF⟩
        | _ => exact m.no.elim
      | _ => exact m.no.elim
    | [d] =>
      obtain ⟨v, rfl, rv⟩ := rd.one
      cases d with
      | lst xs =>
        obtain ⟨a, us', rfl, h1, h2⟩ := Rep.lst_iff.mp rv
        simp only [bltD] at m
        cases e1 : intsOf xs with
        | none => rw [e1] at m; exact m.no.elim
        | some ns =>
          rw [e1] at m
          rw [intsOf_map e1] at h2
          rw [h2.ints] at h1
          have m : rMk X.K ((least ns).map .int) F H Q := m
          cases e2 : least ns with
          | none => rw [e2] at m; exact m.no.elim
          | some k =>
            rw [e2] at m
            obtain ⟨q1, q2⟩ := least_is e2
            refine cr_min hc pins s σ H _ us Q I r ⟨a, ns, rfl, .inl (.inl (sF _ _ h1)), List.length_pos_of_mem q1, fun k' g1 g2 => ?_⟩
            have e3 : k' = k := by have := g2 k q1; have := q2 k' g1; omega
            rw [e3]; exact m.int sF
      | tup xs =>
        obtain ⟨a, us', rfl, h1, h2⟩ := Rep.tup_iff.mp rv
        simp only [bltD] at m
        cases e1 : intsOf xs with
        | none => rw [e1] at m; exact m.no.elim
        | some ns =>
          rw [e1] at m
          rw [intsOf_map e1] at h2
          rw [h2.ints] at h1
          have m : rMk X.K ((least ns).map .int) F H Q := m
          cases e2 : least ns with
          | none => rw [e2] at m; exact m.no.elim
          | some k =>
            rw [e2] at m
            obtain ⟨q1, q2⟩ := least_is e2
            refine cr_minT hc pins s σ H _ us Q I r ⟨a, ns, rfl, Same.seqT sF h1, List.length_pos_of_mem q1, fun k' g1 g2 => ?_⟩
            have e3 : k' = k := by have := g2 k q1; have := q2 k' g1; omega
            rw [e3]; exact m.int sF
      | _ => exact m.no.elim
  | .max => by
    intro pins s σ H vs us Q I r h
    obtain ⟨F, ds, sF, rd, m⟩ := h
    match ds with
    | [] => exact m.no.elim
    | d :: e :: f :: es => exact (show False by cases d <;> cases e <;> exact m.no).elim
    | [d, e] =>
      obtain ⟨v, u, rfl, rv, ru⟩ := rd.two
      cases d with
      | int i =>
        cases e with
        | int j =>
          rw [Rep.int_iff.mp rv, Rep.int_iff.mp ru] at r
          exact call_max2 hc pins s σ H _ us Q I r ⟨i, j, rfl, m.int sF⟩
        | _ => exact m.no.elim
      | _ => exact m.no.elim
    | [d] =>
      obtain ⟨v, rfl, rv⟩ := rd.one
      cases d with
      | lst xs =>
        obtain ⟨a, us', rfl, h1, h2⟩ := Rep.lst_iff.mp rv
        simp only [bltD] at m
        cases e1 : intsOf xs with
        | none => rw [e1] at m; exact m.no.elim
        | some ns =>
          rw [e1] at m
          rw [intsOf_map e1] at h2
          rw [h2.ints] at h1
          have m : rMk X.K ((greatest ns).map .int) F H Q := m
          cases e2 : greatest ns with
          | none => rw [e2] at m; exact m.no.elim
          | some k =>
            rw [e2] at m
            obtain ⟨q1, q2⟩ := greatest_is e2
            refine cr_max hc pins s σ H _ us Q I r ⟨a, ns, rfl, .inl (.inl (sF _ _ h1)), List.length_pos_of_mem q1, fun k' g1 g2 => ?_⟩
            have e3 : k' = k := by have := g2 k q1; have := q2 k' g1; omega
            rw [e3]; exact m.int sF
      | tup xs =>
        obtain ⟨a, us', rfl, h1, h2⟩ := Rep.tup_iff.mp rv
        simp only [bltD] at m
        cases e1 : intsOf xs with
        | none => rw [e1] at m; exact m.no.elim
        | some ns =>
          rw [e1] at m
          rw [intsOf_map e1] at h2
          rw [h2.ints] at h1
          have m : rMk X.K ((greatest ns).map .int) F H Q := m
          cases e2 : greatest ns with
          | none => rw [e2] at m; exact m.no.elim
          | some k =>
            rw [e2] at m
            obtain ⟨q1, q2⟩ := greatest_is e2
            refine cr_maxT hc pins s σ H _ us Q I r ⟨a, ns, rfl, Same.seqT sF h1, List.length_pos_of_mem q1, fun k' g1 g2 => ?_⟩
            have e3 : k' = k := by have := g2 k q1; have := q2 k' g1; omega
            rw [e3]; exact m.int sF
      | _ => exact m.no.elim
  | .sum => by
    intro pins s σ H vs us Q I r h
    obtain ⟨F, ds, sF, rd, m⟩ := h
    match ds with
    | [] => exact m.no.elim
    | d :: e :: es => exact (show False by cases d <;> exact m.no).elim
    | [d] =>
      obtain ⟨v, rfl, rv⟩ := rd.one
      cases d with
      | lst xs =>
        obtain ⟨a, us', rfl, h1, h2⟩ := Rep.lst_iff.mp rv
        simp only [bltD] at m
        cases e1 : intsOf xs with
        | none => rw [e1] at m; exact m.no.elim
        | some ns =>
          rw [e1] at m
          rw [intsOf_map e1] at h2
          rw [h2.ints] at h1
          exact cr_sum hc pins s σ H _ us Q I r ⟨a, ns, rfl, .inl (.inl (sF _ _ h1)), rMk.int sF m⟩
      | _ => exact m.no.elim
  | .any => by
    intro pins s σ H vs us Q I r h
    obtain ⟨F, ds, sF, rd, m⟩ := h
    match ds with
    | [] => exact m.no.elim
    | d :: e :: es => exact (show False by cases d <;> exact m.no).elim
    | [d] =>
      obtain ⟨v, rfl, rv⟩ := rd.one
      cases d with
      | lst xs =>
        obtain ⟨a, us', rfl, h1, h2⟩ := Rep.lst_iff.mp rv
        simp only [bltD] at m
        cases e1 : blsOf xs with
        | none => rw [e1] at m; exact m.no.elim
        | some ns =>
          rw [e1] at m
          rw [blsOf_map e1] at h2
          rw [h2.bls] at h1
          exact cr_any hc pins s σ H _ us Q I r ⟨a, ns, rfl, .inl (.inl (sF _ _ h1)), rMk.bl sF m⟩
      | _ => exact m.no.elim
  | .all => by
    intro pins s σ H vs us Q I r h
    obtain ⟨F, ds, sF, rd, m⟩ := h
    match ds with
    | [] => exact m.no.elim
    | d :: e :: es => exact (show False by cases d <;> exact m.no).elim
    | [d] =>
      obtain ⟨v, rfl, rv⟩ := rd.one
      cases d with
      | lst xs =>
        obtain ⟨a, us', rfl, h1, h2⟩ := Rep.lst_iff.mp rv
        simp only [bltD] at m
        cases e1 : blsOf xs with
        | none => rw [e1] at m; exact m.no.elim
        | some ns =>
          rw [e1] at m
          rw [blsOf_map e1] at h2
          rw [h2.bls] at h1
          exact cr_all hc pins s σ H _ us Q I r ⟨a, ns, rfl, .inl (.inl (sF _ _ h1)), rMk.bl sF m⟩
      | _ => exact m.no.elim
  | .int => by
    intro pins s σ H vs us Q I r h
    obtain ⟨F, ds, sF, rd, m⟩ := h
    match ds with
    | [] => exact m.no.elim
    | d :: e :: es => exact (show False by cases d <;> exact m.no).elim
    | [d] =>
      obtain ⟨v, rfl, rv⟩ := rd.one
      cases d with
      | int i =>
        rw [Rep.int_iff.mp rv] at r
        exact call_int1 pins s σ H _ us Q I r (.inl ⟨i, rfl, m.int sF⟩)
      | bl b =>
        rw [Rep.bl_iff.mp rv] at r
        exact call_int1 pins s σ H _ us Q I r (.inr ⟨b, rfl, m.int sF⟩)
      | _ => exact m.no.elim
theorem op_Mkb : ∀ b : Mkb, CallR X (.type (mkbId b)) (rMb X.K b)
  | .tuple => by
    intro pins s σ H vs us Q I r h
    obtain ⟨F, ds, sF, rd, m⟩ := h
    match ds with
    | [] => exact m.no.elim
    | d :: e :: es => exact (show False by cases d <;> exact m.no).elim
    | [d] =>
      obtain ⟨v, rfl, rv⟩ := rd.one
      cases d with
      | lst xs =>
        obtain ⟨a, us', rfl, h1, h2⟩ := Rep.lst_iff.mp rv
        exact call_tuple_of pins s σ H _ us Q I r ⟨a, us', rfl, .inl ⟨.inl (.inl (sF _ _ h1)), rMk.tup sF h2 m⟩⟩
      | tup xs =>
        obtain ⟨a, us', rfl, h1, h2⟩ := Rep.tup_iff.mp rv
        exact call_tuple_of pins s σ H _ us Q I r ⟨a, us', rfl, .inr ⟨Same.seqT sF h1, m.same sF (by intro _ q; cases q) (by intro _ _ q; cases q) rv⟩⟩
      | _ => exact m.no.elim
  | .list => by
    intro pins s σ H vs us Q I r h
    obtain ⟨F, ds, sF, rd, m⟩ := h
    match ds with
    | [] => exact m.no.elim
    | d :: e :: es => exact (show False by cases d <;> exact m.no).elim
    | [d] =>
      obtain ⟨v, rfl, rv⟩ := rd.one
      cases d with
      | lst xs =>
        obtain ⟨a, us', rfl, h1, h2⟩ := Rep.lst_iff.mp rv
        exact call_list_of pins s σ H _ us Q I r ⟨a, us', rfl, .inl (.inl (.inl (sF _ _ h1))), rMk.lst sF h2 m⟩
      | tup xs =>
        obtain ⟨a, us', rfl, h1, h2⟩ := Rep.tup_iff.mp rv
        exact call_list_of pins s σ H _ us Q I r ⟨a, us', rfl, .inr (Same.seqT sF h1), rMk.lst sF h2 m⟩
      | _ => exact m.no.elim
/-! ### isinstance -/
def kindD : D → String
  | .non => "NoneType" | .bl _ => "bool" | .int _ => "int" | .str _ => "str" | .tup _ => "tuple" | .lst _ => "list" | .dic _ _ => "dict" | .scr _ => "list" | .obj _ _ _ => ""
theorem ty_D {d : D} {v : V} (s : Same F H) (r : Rep K F d v) (hs : ∀ ns, d ≠ .scr ns) : TyX K H v (.type (kindD d)) := by
  cases d with
  | non => rw [Rep.non_iff.mp r]; exact .base .non
  | bl b => rw [Rep.bl_iff.mp r]; exact .base (.bl b)
  | int i => rw [Rep.int_iff.mp r]; exact .base (.int i)
  | str x => rw [Rep.str_iff.mp r]; exact .base (.str x)
  | tup xs =>
    obtain ⟨a, vs, rfl, h1, h2⟩ := Rep.tup_iff.mp r
    rcases Same.seqT s h1 with (h | ⟨o, h⟩) | ⟨o, its, n, h, c, _⟩
    · exact .base (.tup h)
    · exact .fTuple h
    · exact .kTuple h c
  | lst xs =>
    obtain ⟨a, vs, rfl, h1, h2⟩ := Rep.lst_iff.mp r
    exact .base (.lst (s _ _ h1))
  | dic ks xs =>
    obtain ⟨a, vs, rfl, h1, h2⟩ := Rep.dic_iff.mp r
    rcases Same.rd s h1 with h | ⟨o, h⟩
    · exact .base (.dK h)
    · exact .fDict h
  | scr ns => exact absurd rfl (hs ns)
  | obj c ns vs => exact (Rep.obj_iff.mp r).elim
theorem tyD_kit {d : D} {t : Ty} {b : Bool} (h : tyD d t = some b) : PySem.W.kitOne K (.type (kindD d)) (.type (tyStr t)) = some b := by
  cases d <;> cases t <;> simp only [tyD, Option.some.injEq, reduceCtorEq] at h <;> subst h <;> exact kit_ty (by simp only [kindD, tyStr]; decide +kernel)
def rIs (K : PySem.W.Frag) (t : Ty) : List V → Hp → VK → Prop := fun vs H Q => ∃ F d v b, vs = [v, .ty (tyStr t)] ∧ Same F H ∧ Rep K F d v ∧ tyD d t = some b ∧ Q (.bl b) H
theorem op_Is (t : Ty) : CallR X (.builtin "isinstance") (rIs X.K t) := by
  intro pins s σ H vs us Q I r h
  obtain ⟨F, d, v, b, rfl, sF, rd, hb, q⟩ := h
  refine call_isi pins s σ H _ us Q I r ⟨v, .ty (tyStr t), _, _, b, rfl, .ty _, ty_D sF rd ?_, tyD_kit hb, q⟩
  intro ns e; subst e; cases t <;> cases hb

/-! ### subscripts, slices -/
theorem ixN_lt {n : Nat} {i : Int} {j : Nat} (h : ixN n i = some j) : j < n := (ixN_seq h).2.1
theorem RepL.atI {ds : List D} {vs : List V} {i : Int} {d : D} (r : RepL K F ds vs) (h : L2.atI ds i = some d) : ∃ v, L2.atI vs i = some v ∧ Rep K F d v := by
  unfold L2.atI at h ⊢
  rw [Option.bind_eq_some_iff] at h
  obtain ⟨j, h1, h2⟩ := h
  obtain ⟨v, h3, h4⟩ := r.get h2
  rw [r.length] at h1
  exact ⟨v, by rw [h1]; exact h3, h4⟩
def rIxD (K : PySem.W.Frag) : R2 := fun x y H Q => ∃ F d e r, Same F H ∧ Rep K F d x ∧ Rep K F e y ∧ ixD d e = some r ∧ ∀ v, (∀ F', Rep K F' d x → Rep K F' r v) ∨ Rep K F r v → Q v H
theorem RepL.cut {ds : List D} {vs : List V} (r : RepL K F ds vs) (lo hi : Option Int) : RepL K F (cutD ds lo hi) (cutV vs lo hi) := by
  unfold cutD cutV
  rw [r.length]
  exact (r.drop _).take _
def rSlD (K : PySem.W.Frag) : V → Option Int → Option Int → Hp → VK → Prop := fun x lo hi H Q => ∃ F d, Same F H ∧ Rep K F d x ∧ rMk K (slD d lo hi) F H Q
theorem SlR.imp {r r' : V → Option Int → Option Int → Hp → VK → Prop} (o : SlR X r) (h : ∀ x lo hi H Q, r' x lo hi H Q → r x lo hi H Q) : SlR X r' :=
  fun pins s σ H x v vl vu lo hi sl Q I rx hs pl pu q => o pins s σ H x v vl vu lo hi sl Q I rx hs pl pu (h _ _ _ _ _ q)
theorem cut_all {α : Type} (xs : List α) (lo hi : Option Int) (h1 : HT.sIx xs.length 0 lo = 0) (h2 : HT.sIx xs.length xs.length hi = xs.length) : (xs.drop (HT.sIx xs.length 0 lo)).take (HT.sIx xs.length xs.length hi - HT.sIx xs.length 0 lo) = xs := by
  rw [h1, h2, List.drop_zero, Nat.sub_zero, List.take_length]
theorem op_Sl : SlR X (rSlD X.K) := by
  refine SlR.imp (SlR.or sl_list (SlR.or sl_tupA sl_str)) fun x lo hi H Q h => ?_
  obtain ⟨F, d, sF, rd, m⟩ := h
  cases d with
  | lst xs =>
    obtain ⟨a, vs, rfl, h1, h2⟩ := Rep.lst_iff.mp rd
    exact .inl ⟨a, vs, rfl, .inl (.inl (sF _ _ h1)), rMk.lst sF (h2.cut lo hi) m⟩
  | scr ns =>
    obtain ⟨a, rfl, h1⟩ := Rep.scr_iff.mp rd
    exact .inl ⟨a, _, rfl, Same.seq sF h1, rMk.lst sF ((RepL.of_ints ns).cut lo hi) m⟩
  | tup xs =>
    obtain ⟨a, vs, rfl, h1, h2⟩ := Rep.tup_iff.mp rd
    refine .inr (.inl ⟨a, vs, rfl, Same.seqT sF h1, fun hw => ?_, fun _ => rMk.tup sF (h2.cut lo hi) m⟩)
    have e : cutD xs lo hi = xs := cut_all xs lo hi (by rw [h2.length]; exact hw.1) (by rw [h2.length]; exact hw.2)
    have m : rMk X.K (some (.tup (cutD xs lo hi))) F H Q := m
    rw [e] at m
    exact m.same sF (by intro _ q; cases q) (by intro _ _ q; cases q) rd
  | str z =>
    simp only [slD] at m
    split at m
    · rename_i hl
      exact .inr (.inr ⟨z, Rep.str_iff.mp rd, hl, m.str sF⟩)
    · exact m.no.elim
  | _ => exact m.no.elim
end
end Z
/-! Terms say what the syntax does: expressions. -/
namespace Z
open PySem PySem.Spec PyProof.Rows L2

def isFr : E → Bool
  | .bin _ _ _ => true
  | .lst _ => true
  | .sl _ _ _ => true
  | .rev _ => true
  | .comp _ _ _ _ _ => true
  | .mkb _ _ => true
  | _ => false
section
variable {X : Cx} {T : Nat → List D → R D} {W : WX} {S : SC} {lv : Nat}
abbrev SE (X : Cx) (T : Nat → List D → R D) (W : WX) (e : Expr) (ir : E) : Prop := PE X e (tE X.K W X.mg (isFr ir) (dE T ir))
abbrev ST (X : Cx) (T : Nat → List D → R D) (W : WX) (e : Expr) (ir : E) : Prop := PT X e (tT X.K W X.mg (dT T ir))
abbrev SB (X : Cx) (T : Nat → List D → R D) (W : WX) (e : Expr) (b : Bo) : Prop := PE X e (tB X.K W X.mg (dO T b))
theorem SE.weak {e : Expr} {ir : E} (h : SE X T W e ir) : PE X e (tE X.K W X.mg false (dE T ir)) := by
  unfold SE at h
  cases hf : isFr ir with
  | false => rw [hf] at h; exact h
  | true => rw [hf] at h; exact tE.weak h
/-- a value that is known, and no heap that changes -/
theorem tE.pure {e : Expr} {r : Env' → R D} {t : TE} (h : PE X e t) (i : ∀ {H0 F0 ρ σ H F A} {Q : VK}, Rl X.K H0 F0 ρ σ H F A → PostX W X.mg σ H F (GE X.K false H F Q) (r ρ) → t σ H Q) : PE X e (tE X.K W X.mg false r) :=
  PE.imp h fun σ H Q q => by
    obtain ⟨H0, F0, ρ, F, A, rl, p⟩ := q
    exact i rl p
theorem GE.here {K : PySem.W.Frag} {H F : Hp} {Q : VK} {d : D} {v : V} (g : GE K false H F Q d) (s : Same F H) (r : Rep K F d v) : Q v H := g v H F (Ex.refl s) (by simpa using r)
theorem se_cst {e : Expr} {d : D} {v : V} (h : PE X e (tC v)) (r : ∀ F, Rep X.K F d v) : PE X e (tE X.K W X.mg false (fun _ => .ok d)) :=
  tE.pure h fun rl p => GE.here p rl.sFH (r _)
theorem se_var {x : Str} {pos : Pos} {i : Nat} (c : Okc S T lv W X) (hv : isVis S x = true) (hi : idxOf x S.N = some i) : SE X T W (.Name x pos) (.var i) := by
  have hN : X.N[i]? = some x := by rw [c.N]; exact idxOf_get hi
  have hx : Vis X.env.scope x := by
    rw [c.sc]
    unfold isVis at hv
    cases q : S.sc.names.lookup x with
    | none => rw [q] at hv; cases hv
    | some k => rw [q] at hv; cases k <;> first | exact .inl q | exact .inr (.inl q) | exact .inr (.inr q) | cases hv
  have nm := c.nm x (by rw [← c.N]; exact List.mem_of_getElem? hN)
  refine tE.pure (pe_var hN hx nm.1 nm.2) fun {H0 F0 ρ σ H F A Q} rl p => ?_
  have p : PostX W X.mg σ H F (GE X.K false H F Q) (look ρ i) := p
  unfold look at p
  split at p
  · rename_i d hd
    obtain ⟨v, h1, h2⟩ := rl.im hd
    exact ⟨v, h1, GE.here p rl.sFH h2⟩
  · exact p.elim
theorem sb_own {x : Str} {pos : Pos} {i : Nat} (c : Okc S T lv W X) (hv : isVis S x = true) (hi : idxOf x S.N = some i) : SB X T W (.Name x pos) (.own i) := by
  have hN : X.N[i]? = some x := by rw [c.N]; exact idxOf_get hi
  have hx : Vis X.env.scope x := by
    rw [c.sc]
    unfold isVis at hv
    cases q : S.sc.names.lookup x with
    | none => rw [q] at hv; cases hv
    | some k => rw [q] at hv; cases k <;> first | exact .inl q | exact .inr (.inl q) | exact .inr (.inr q) | cases hv
  have nm := c.nm x (by rw [← c.N]; exact List.mem_of_getElem? hN)
  refine PE.imp (pe_var hN hx nm.1 nm.2) fun σ H Q q => ?_
  obtain ⟨H0, F0, ρ, F, A, rl, p⟩ := q
  have p : PostX W X.mg σ H F (GB X.K ρ A H F Q) (lookB ρ i) := p
  unfold lookB at p
  split at p
  · rename_i d hd
    obtain ⟨v, h1, h2⟩ := rl.im hd
    exact ⟨v, h1, p v H F (Ex.refl rl.sFH) (Rep.toS (Fpl.sub rl) h2)⟩
  · rename_i d hd
    exact ⟨_, (rl.slot i _ hd).1, p _ H F (Ex.refl rl.sFH) (Own.repS rl hd)⟩
  · exact p.elim
theorem gl_of {x : Str} (c : Okc S T lv W X) (h : isGl S x = true) : Gl X x := by
  show X.env.scope.names.lookup x = _
  rw [c.sc]
  unfold isGl at h
  cases q : S.sc.names.lookup x with
  | none => rw [q] at h; cases h
  | some k => rw [q] at h; cases k <;> first | rfl | cases h
theorem se_glb {x : Str} {pos : Pos} {d : D} (c : Okc S T lv W X) (hg : isGl S x = true) (hd : S.cst.lookup x = some d) : SE X T W (.Name x pos) (.glb x d) := by
  obtain ⟨hdb, v, u, hm, r, rep⟩ := c.cst x d hd
  exact se_cst (pe_glob (gl_of c hg) hm r hdb) rep
theorem se_bin {a b : Expr} {x y : E} {o : BOp} {pos : Pos} (ha : SE X T W a x) (hb : SE X T W b y) : SE X T W (.BinOp a (bOp o) b pos) (.bin o x y) := by
  refine PE.imp (pe_op (op_B o) ha.weak hb.weak) fun σ H Q q => ?_
  obtain ⟨H0, F0, ρ, F, A, rl, p⟩ := q
  refine tE.seq rl p fun d v H1 F1 e1 r1 p1 => ?_
  refine tE.seq (rl.go e1) (p1.goE e1) fun d2 v2 H2 F2 e2 r2 p2 => ?_
  exact ⟨F2, d, d2, e2.sFH, r1.mono e2.sF, r2, PostX.val (s := e2.sFH) (p2.goE e2) rfl⟩
theorem se_neg {a : Expr} {x : E} {pos : Pos} (ha : SE X T W a x) : SE X T W (.UnaryOp .USub a pos) (.neg x) := by
  refine PE.imp (pe_un un_neg ha.weak) fun σ H Q q => ?_
  obtain ⟨H0, F0, ρ, F, A, rl, p⟩ := q
  refine tE.seq rl p fun d v H1 F1 e1 r1 p1 => ?_
  cases d with
  | int i => exact ⟨i, Rep.int_iff.mp r1, GE.here (p1.goE e1) e1.sFH (Rep.int_iff.mpr rfl)⟩
  | _ => exact p1.elim
theorem se_not {a : Expr} {x : E} {pos : Pos} (ha : SE X T W a x) : SE X T W (.UnaryOp .Not a pos) (.not_ x) := by
  refine PE.imp (pe_not ha.weak) fun σ H Q q => ?_
  obtain ⟨H0, F0, ρ, F, A, rl, p⟩ := q
  refine tE.seq rl p fun d v H1 F1 e1 r1 p1 => ?_
  cases d with
  | bl i => exact ⟨i, Rep.bl_iff.mp r1, GE.here (p1.goE e1) e1.sFH (Rep.bl_iff.mpr rfl)⟩
  | _ => exact p1.elim
theorem se_and {a b : Expr} {rest : List Expr} {x y : E} {pos : Pos} (ha : SE X T W a x) (hb : SE X T W (.BoolOp .And (b :: rest) pos) y) : SE X T W (.BoolOp .And (a :: b :: rest) pos) (.and_ x y) := by
  refine PE.imp (pe_and ha.weak hb.weak) fun σ H Q q => ?_
  obtain ⟨H0, F0, ρ, F, A, rl, p⟩ := q
  refine tE.seq rl p fun d v H1 F1 e1 r1 p1 => ?_
  cases d with
  | bl c =>
    refine ⟨c, Rep.bl_iff.mp r1, ?_⟩
    cases c with
    | true => exact ⟨H0, F0, ρ, F1, A, rl.go e1, p1.goE e1⟩
    | false => exact GE.here (p1.goE e1) e1.sFH (Rep.bl_iff.mpr rfl)
  | _ => exact p1.elim
theorem se_or {a b : Expr} {rest : List Expr} {x y : E} {pos : Pos} (ha : SE X T W a x) (hb : SE X T W (.BoolOp .Or (b :: rest) pos) y) : SE X T W (.BoolOp .Or (a :: b :: rest) pos) (.or_ x y) := by
  refine PE.imp (pe_or ha.weak hb.weak) fun σ H Q q => ?_
  obtain ⟨H0, F0, ρ, F, A, rl, p⟩ := q
  refine tE.seq rl p fun d v H1 F1 e1 r1 p1 => ?_
  cases d with
  | bl c =>
    refine ⟨c, Rep.bl_iff.mp r1, ?_⟩
    cases c with
    | false => exact ⟨H0, F0, ρ, F1, A, rl.go e1, p1.goE e1⟩
    | true => exact GE.here (p1.goE e1) e1.sFH (Rep.bl_iff.mpr rfl)
  | _ => exact p1.elim
theorem se_ite {c a b : Expr} {z x y : E} {pos : Pos} (hc : ST X T W c z) (ha : SE X T W a x) (hb : SE X T W b y) : SE X T W (.IfExp c a b pos) (.ite z x y) := by
  refine PE.imp (pe_ifExp hc ha.weak hb.weak) fun σ H Q q => ?_
  obtain ⟨H0, F0, ρ, F, A, rl, p⟩ := q
  refine tT.seq rl p fun t H1 F1 e1 p1 => ?_
  cases t with
  | true => exact ⟨H0, F0, ρ, F1, A, rl.go e1, p1.goE e1⟩
  | false => exact ⟨H0, F0, ρ, F1, A, rl.go e1, p1.goE e1⟩
/-- a bool, from values that may be borrowed -/
theorem fin_bl {K : PySem.W.Frag} {mg : Str → Option Value} {σ : L2.St} {H F : Hp} {Q : VK} {b : Bool} (s : Same F H) (p : PostX W mg σ H F (GE K false H F Q) (.ok (.bl b))) : Q (.bl b) H := GE.here p s (Rep.bl_iff.mpr rfl)
theorem bind_bl (r : R Bool) : ((r.bind fun b => R.ok (D.bl b)).bind fun x => R.of (truD x)) = r := by cases r <;> rfl
/-- a comparison's outcome, as a value -/
theorem val_of {σ : L2.St} {H F : Hp} {Q : VK} {r : R Bool} (s : Same F H) (p : PostX W X.mg σ H F (GE X.K false H F Q) (r.bind fun b => .ok (.bl b))) : PostX W X.mg σ H F (GT H F fun b H' => Q (.bl b) H') r := by
  cases r with
  | ok b => exact fun H' F' e => p _ H' F' e (show Rep X.K F' (.bl b) (.bl b) from Rep.bl_iff.mpr rfl)
  | exc c => exact p
  | bad => exact p
theorem cmp_core {a b : Expr} {x y : Bo} {o : COp} {σ : L2.St} {H : Hp} {Q : Bool → Hp → Prop} (q : tT X.K W X.mg (fun ρ => (dO T x ρ).bind fun d1 => (dO T y ρ).bind fun d2 => R.of (cmpD o d1 d2)) σ H Q) :
    tOp (rC X.K o) (tB X.K W X.mg (dO T x)) (tB X.K W X.mg (dO T y)) σ H (fun v H' => ∃ k, v = .bl k ∧ Q k H') := by
  obtain ⟨H0, F0, ρ, F, A, rl, p⟩ := q
  refine tB.seq rl p fun d v H1 F1 e1 r1 p1 => ?_
  refine tB.seq (rl.go e1) (p1.goT e1) fun d2 v2 H2 F2 e2 r2 p2 => ?_
  cases hb : cmpD o d d2 with
  | none => rw [hb] at p2; exact p2.elim
  | some bb =>
    rw [hb] at p2
    exact ⟨Fpl ρ A F2 H2, d, d2, bb, Fpl.sup ((rl.go e1).go e2), (r1.rep (Fpl.sub (rl.go e1))).mono (Fpl.go e2), r2.rep (Fpl.sub ((rl.go e1).go e2)), hb, bb, rfl, p2 _ _ e2⟩
theorem tOp.mono {r : R2} {ta tb : TE} {σ : L2.St} {H : Hp} {Q Q' : VK} (ma : ∀ σ H Q Q', (∀ v H, Q v H → Q' v H) → ta σ H Q → ta σ H Q') (mb : ∀ σ H Q Q', (∀ v H, Q v H → Q' v H) → tb σ H Q → tb σ H Q') (mr : ∀ x y H Q Q', (∀ v H, Q v H → Q' v H) → r x y H Q → r x y H Q')
    (h : ∀ v H, Q v H → Q' v H) (q : tOp r ta tb σ H Q) : tOp r ta tb σ H Q' := ma _ _ _ _ (fun _ _ q1 => mb _ _ _ _ (fun _ _ q2 => mr _ _ _ _ _ h q2) q1) q
theorem tB.mono {r : Env' → R D} (σ : L2.St) (H : Hp) (Q Q' : VK) (h : ∀ v H, Q v H → Q' v H) (q : tB X.K W X.mg r σ H Q) : tB X.K W X.mg r σ H Q' := by
  obtain ⟨H0, F0, ρ, F, A, rl, p⟩ := q
  exact ⟨H0, F0, ρ, F, A, rl, p.go (Ex.refl rl.sFH) fun d g v H' F' e r => h _ _ (g v H' F' e r)⟩
theorem tE.mono {r : Env' → R D} (σ : L2.St) (H : Hp) (Q Q' : VK) (h : ∀ v H, Q v H → Q' v H) (q : tE X.K W X.mg false r σ H Q) : tE X.K W X.mg false r σ H Q' := by
  obtain ⟨H0, F0, ρ, F, A, rl, p⟩ := q
  exact ⟨H0, F0, ρ, F, A, rl, p.go (Ex.refl rl.sFH) fun d g v H' F' e r => h _ _ (g v H' F' e r)⟩
theorem rC.mono {K : PySem.W.Frag} {o : COp} (x y : V) (H : Hp) (Q Q' : VK) (h : ∀ v H, Q v H → Q' v H) (q : rC K o x y H Q) : rC K o x y H Q' := by
  obtain ⟨F, d, e, b, h1, h2, h3, h4, h5⟩ := q
  exact ⟨F, d, e, b, h1, h2, h3, h4, h _ _ h5⟩
theorem se_cmp {a b : Expr} {x y : Bo} {o : COp} {pos : Pos} (hu : X.A.units + 64 < cLine) (hm : behindInMarks (cOp o) b = false) (ha : SB X T W a x) (hb : SB X T W b y) : SE X T W (.Compare a [cOp o] [b] pos) (.cmp o x y) := by
  refine PE.imp (pe_cmpR (op_C hu o) ha hb hm) fun σ H Q q => ?_
  obtain ⟨H0, F0, ρ, F, A, rl, p⟩ := q
  refine tOp.mono tB.mono tB.mono rC.mono (fun v H' h => ?_) (cmp_core (a := a) (b := b) ⟨H0, F0, ρ, F, A, rl, val_of rl.sFH p⟩)
  obtain ⟨k, rfl, h⟩ := h
  exact h
theorem st_cmp {a b : Expr} {x y : Bo} {o : COp} {pos : Pos} (hu : X.A.units + 64 < cLine) (hm : behindInMarks (cOp o) b = false) (ha : SB X T W a x) (hb : SB X T W b y) : ST X T W (.Compare a [cOp o] [b] pos) (.cmp o x y) := by
  refine PT.imp (pt_cmpR (op_C hu o) ha hb hm) fun σ H Q q => ?_
  obtain ⟨H0, F0, ρ, F, A, rl, p⟩ := q
  refine cmp_core (a := a) (b := b) ⟨H0, F0, ρ, F, A, rl, ?_⟩
  have e : dT T (.cmp o x y) ρ = _ := bind_bl _
  rw [e] at p
  exact p
theorem chn_core {a b c : Expr} {x y z : E} {o p : COp} {σ : L2.St} {H : Hp} {Q : Bool → Hp → Prop} (q : tT X.K W X.mg (fun ρ => (dE T x ρ).bind fun d1 => (dE T y ρ).bind fun d2 => (R.of (cmpD o d1 d2)).bind fun r =>
    if r = true then (dE T z ρ).bind fun d3 => R.of (cmpD p d2 d3) else .ok false) σ H Q) :
    tChain (rC X.K o) (rC X.K p) (tE X.K W X.mg false (dE T x)) (tE X.K W X.mg false (dE T y)) (tE X.K W X.mg false (dE T z)) σ H (fun v H' => ∃ k, v = .bl k ∧ Q k H') := by
  obtain ⟨H0, F0, ρ, F, A, rl, p⟩ := q
  refine tE.seq rl p fun d v H1 F1 e1 r1 p1 => ?_
  refine tE.seq (rl.go e1) (p1.goT e1) fun d2 v2 H2 F2 e2 r2 p2 => ?_
  obtain ⟨bb, hb, p3⟩ := PostX.of p2
  have rl2 := (rl.go e1).go e2
  refine ⟨F2, d, d2, bb, e2.sFH, r1.mono e2.sF, r2, hb, bb, rfl, ?_⟩
  cases bb with
  | false => exact ⟨false, rfl, p3 _ _ e2⟩
  | true =>
    refine tE.seq rl2 (p3.goT e2) fun d3 v3 H3 F3 e3 r3 p4 => ?_
    cases hb2 : cmpD ‹_› d2 d3 with
    | none => rw [hb2] at p4; exact p4.elim
    | some b2 =>
      rw [hb2] at p4
      exact ⟨F3, d2, d3, b2, e3.sFH, r2.mono e3.sF, r3, hb2, b2, rfl, p4 _ _ e3⟩
theorem tChain.mono {r r' : R2} {ta tb tc : TE} {σ : L2.St} {H : Hp} {Q Q' : VK} (ma : ∀ σ H Q Q', (∀ v H, Q v H → Q' v H) → ta σ H Q → ta σ H Q') (mb : ∀ σ H Q Q', (∀ v H, Q v H → Q' v H) → tb σ H Q → tb σ H Q') (mc : ∀ σ H Q Q', (∀ v H, Q v H → Q' v H) → tc σ H Q → tc σ H Q')
    (mr : ∀ x y H Q Q', (∀ v H, Q v H → Q' v H) → r x y H Q → r x y H Q') (mr' : ∀ x y H Q Q', (∀ v H, Q v H → Q' v H) → r' x y H Q → r' x y H Q')
    (h : ∀ v H, Q v H → Q' v H) (q : tChain r r' ta tb tc σ H Q) : tChain r r' ta tb tc σ H Q' := by
  refine ma _ _ _ _ (fun _ _ q1 => mb _ _ _ _ (fun _ _ q2 => mr _ _ _ _ _ (fun v H' q3 => ?_) q2) q1) q
  obtain ⟨k, e, q3⟩ := q3
  refine ⟨k, e, ?_⟩
  cases k with
  | true => exact mc _ _ _ _ (fun _ _ q4 => mr' _ _ _ _ _ h q4) q3
  | false => exact h _ _ q3
theorem last2 {o p : CmpOp} {b c : Expr} (h : isSet c = false) : lastMarks [o, p] [b, c] = false := by
  show behindInMarks p c = false
  cases c <;> first | rfl | cases h
theorem notSet {o : CmpOp} {b : Expr} (h : isSet b = false) : behindInMarks o b = false := by cases b <;> first | rfl | cases h
theorem se_chn {a b c : Expr} {x y z : E} {o p : COp} {pos : Pos} (hu : X.A.units + 64 < cLine) (hs : isSet c = false) (ha : SE X T W a x) (hb : SE X T W b y) (hc : SE X T W c z) : SE X T W (.Compare a [cOp o, cOp p] [b, c] pos) (.chn o p x y z) := by
  refine PE.imp (pe_chain (op_C hu o) (op_C hu p) ha.weak hb.weak hc.weak (last2 hs)) fun σ H Q q => ?_
  obtain ⟨H0, F0, ρ, F, A, rl, p⟩ := q
  refine tChain.mono tE.mono tE.mono tE.mono rC.mono rC.mono (fun v H' h => ?_) (chn_core (a := a) (b := b) (c := c) ⟨H0, F0, ρ, F, A, rl, val_of rl.sFH p⟩)
  obtain ⟨k, rfl, h⟩ := h
  exact h
theorem st_chn {a b c : Expr} {x y z : E} {o p : COp} {pos : Pos} (hu : X.A.units + 64 < cLine) (hs : isSet c = false) (ha : SE X T W a x) (hb : SE X T W b y) (hc : SE X T W c z) : ST X T W (.Compare a [cOp o, cOp p] [b, c] pos) (.chn o p x y z) := by
  refine PT.imp (pt_chain (op_C hu o) (op_C hu p) ha.weak hb.weak hc.weak (last2 hs)) fun σ H Q q => ?_
  obtain ⟨H0, F0, ρ, F, A, rl, q⟩ := q
  refine chn_core (a := a) (b := b) (c := c) ⟨H0, F0, ρ, F, A, rl, ?_⟩
  have e : dT T (.chn o p x y z) ρ = _ := bind_bl _
  rw [e] at q
  exact q
/-! ### argument lists, displays, calls -/
theorem starEach_cons {e : Expr} {es : List Expr} {env : Env} (h : isStar e = false) : starEach (e :: es) env = (false, eval e env) :: starEach es env := by
  cases e <;> first | rfl | cases h
abbrev SEs (X : Cx) (T : Nat → List D → R D) (W : WX) (es : List Expr) (irs : Es) : Prop := PA X es (tL X.K W X.mg (dEs T irs))
abbrev SBs (X : Cx) (T : Nat → List D → R D) (W : WX) (es : List Expr) (irs : Bs) : Prop := PA X es (tBL X.K W X.mg (dBs T irs))
theorem ses_nil : SEs X T W [] .nil := PA.imp pa_nil fun σ H Q q => by
  obtain ⟨H0, F0, ρ, F, A, rl, p⟩ := q
  exact p [] H F (Ex.refl rl.sFH) RepL.nil
theorem ses_cons {e : Expr} {es : List Expr} {x : E} {xs : Es} (hs : isStar e = false) (h : SE X T W e x) (t : SEs X T W es xs) : SEs X T W (e :: es) (.cons x xs) := by
  refine PA.imp (pa_cons h.weak t (starEach_cons hs)) fun σ H Q q => ?_
  obtain ⟨H0, F0, ρ, F, A, rl, p⟩ := q
  refine tE.seq rl p fun d v H1 F1 e1 r1 p1 => ?_
  refine tL.seq (rl.go e1) (p1.goL e1) fun ds vs H2 F2 e2 r2 p2 => ?_
  exact (p2.goL e2) _ _ _ (Ex.refl e2.sFH) (RepL.cons (r1.mono e2.sF) r2)
theorem sbs_nil : SBs X T W [] .nil := PA.imp pa_nil fun σ H Q q => by
  obtain ⟨H0, F0, ρ, F, A, rl, p⟩ := q
  exact p [] H F (Ex.refl rl.sFH) RepL.nil
theorem sbs_cons {e : Expr} {es : List Expr} {x : Bo} {xs : Bs} (hs : isStar e = false) (h : SB X T W e x) (t : SBs X T W es xs) : SBs X T W (e :: es) (.cons x xs) := by
  refine PA.imp (pa_cons h t (starEach_cons hs)) fun σ H Q q => ?_
  obtain ⟨H0, F0, ρ, F, A, rl, p⟩ := q
  refine tB.seq rl p fun d v H1 F1 e1 r1 p1 => ?_
  refine tBL.seq (rl.go e1) (p1.goBL e1) fun ds vs H2 F2 e2 r2 p2 => ?_
  exact (p2.goBL e2) _ _ _ (Ex.refl e2.sFH) (RepL.cons ((r1.rep (Fpl.sub (rl.go e1))).mono (Fpl.go e2)) r2)
theorem se_tup {es : List Expr} {xs : Es} {k : Nat} {pos : Pos} (h : SEs X T W es xs) : SE X T W (.Tuple es k pos) (.tup xs) := by
  refine PE.imp (pe_tup h) fun σ H Q q => ?_
  obtain ⟨H0, F0, ρ, F, A, rl, p⟩ := q
  refine tL.seq rl p fun ds vs H1 F1 e1 r1 p1 => ?_
  split at p1
  · rename_i hl
    refine ⟨by rw [← r1.length]; exact hl, fun a ha => ?_⟩
    exact p1 _ _ (upd F1 a (.tup vs)) (e1.trans (Ex.alloc e1.sFH ha)) (by
      show Rep X.K (upd F1 a (.tup vs)) (.tup ds) (.ref a)
      exact Rep.tup_iff.mpr ⟨a, vs, rfl, .inl (.inl upd_same), r1.mono (same_upd (e1.sFH.free ha))⟩)
  · exact p1.elim
theorem se_lst {es : List Expr} {xs : Es} {pos : Pos} (h : SEs X T W es xs) : SE X T W (.List es pos) (.lst xs) := by
  refine PE.imp (pe_lst h) fun σ H Q q => ?_
  obtain ⟨H0, F0, ρ, F, A, rl, p⟩ := q
  refine tL.seq rl p fun ds vs H1 F1 e1 r1 p1 => ?_
  split at p1
  · rename_i hl
    refine ⟨by rw [← r1.length]; exact hl, fun a ha => ?_⟩
    exact p1 _ _ F1 (e1.trans (Ex.allocH e1.sFH ha)) (by
      show RepF X.K F1 H (upd H1 a (.lst vs)) (.lst ds) (.ref a)
      exact ⟨a, vs, rfl, e1.sH.free ha, upd_same, e1.sFH.free ha, r1⟩)
  · exact p1.elim
theorem backTo_any {es : List Expr} {env : Env} {pos : Pos} (h : ∀ e ∈ es, isStar e = false) : (backTo pos (starEach es env)).any (·.1) = false := by
  have q : (starEach es env).map (·.1) = es.map fun _ => false := by
    induction es with
    | nil => rfl
    | cons e es ih =>
      rw [starEach_cons (h e List.mem_cons_self), List.map_cons, List.map_cons, ih fun x hx => h x (List.mem_cons_of_mem _ hx)]
  have b : (backTo pos (starEach es env)).map (·.1) = (starEach es env).map (·.1) := by
    unfold backTo
    simp [List.map_map]
  have c : ∀ {l : List (Bool × Sem Value)}, l.map (·.1) = es.map (fun _ => false) → l.any (·.1) = false := fun {l} hl => by
    rw [List.any_eq_false]
    intro x hx
    have : x.1 ∈ l.map (·.1) := List.mem_map_of_mem hx
    rw [hl] at this
    obtain ⟨_, _, e⟩ := List.mem_map.mp this
    rw [← e]; simp
  exact c (b.trans q)
theorem tL.seqE {H0 F0 H F : Hp} {ρ : Env'} {A : Nat → Addr} {σ : L2.St} {r : Env' → R (List D)} {β : Type} {k : List D → R β} {G : β → Prop} {Q1 : List V → Hp → Prop} (rl : Rl X.K H0 F0 ρ σ H F A) (p : PostX W X.mg σ H F G ((r ρ).bind k))
    (h : ∀ ds vs H1 F1, r ρ = .ok ds → Ex H F H1 F1 → RepL X.K F1 ds vs → PostX W X.mg σ H F G (k ds) → Q1 vs H1) : tL X.K W X.mg r σ H Q1 := by
  refine ⟨H0, F0, ρ, F, A, rl, ?_⟩
  cases hr : r ρ with
  | ok ds => rw [hr] at p; exact fun vs H' F' e rr => h ds vs H' F' hr e rr p
  | exc c => rw [hr] at p; exact p
  | bad => rw [hr] at p; exact p
def esLen : Es → Nat
  | .nil => 0
  | .cons _ r => esLen r + 1
theorem dEs_len {ρ : Env'} : ∀ {xs : Es} {ds : List D}, dEs T xs ρ = .ok ds → ds.length = esLen xs
  | .nil, ds, h => by
    have h : R.ok [] = R.ok ds := h
    cases h; rfl
  | .cons e r, ds, h => by
    have h : ((dP T e ρ).1.bind fun x => (dEs T r ρ).bind fun xs => .ok (x :: xs)) = .ok ds := h
    cases h1 : (dP T e ρ).1 with
    | ok d =>
      rw [h1] at h
      cases h2 : dEs T r ρ with
      | ok xs =>
        rw [h2] at h
        have h : R.ok (d :: xs) = R.ok ds := h
        cases h
        rw [List.length_cons, dEs_len h2]; rfl
      | exc c => rw [h2] at h; cases h
      | bad => rw [h2] at h; cases h
    | exc c => rw [h1] at h; cases h
    | bad => rw [h1] at h; cases h
theorem se_call {x : Str} {i n : Nat} {p pos : Pos} {e : Expr} {es : List Expr} {xs : Es} (c : Okc S T lv W X) (hg : isGl S x = true) (hf : S.fns[i]? = some (x, n)) (hst : ∀ e' ∈ e :: es, isStar e' = false) (hl : esLen xs = n) (h : SEs X T W (e :: es) xs) :
    SE X T W (.Call (.Name x p) (e :: es) [] pos) (.call i xs) := by
  obtain ⟨⟨f, fd, ps, F, hm, kp, hb, hn⟩, hdb⟩ := c.fns i x n hf
  refine PE.imp (pe_callS F c.room (gl_of c hg) hm kp hb (fun σ => passAt c.tk σ) h hdb (starEach_cons (hst e List.mem_cons_self)) (backTo_any fun e' he => hst e' (List.mem_cons_of_mem _ he))) fun σ H Q q => ?_
  obtain ⟨H0, F0, ρ, FF, A, rl, p⟩ := q
  refine tL.seqE rl p fun ds vs H1 F1 hd e1 r1 p1 => ?_
  refine ⟨F1, ds, e1.sFH, r1, by rw [← r1.length, dEs_len hd, hl], ?_⟩
  cases hr : T i ds with
  | ok d =>
    rw [hr] at p1
    exact fun v H' F' e2 r => p1 v H' F' (e1.trans e2) r
  | exc cc =>
    rw [hr] at p1
    exact fun H' F' C e2 m => p1 H' F' C (e1.trans e2) m
  | bad => rw [hr] at p1; exact p1.elim
theorem blt_free {b : Blt} (c : Okc S T lv W X) : X.mg (bltStr b) = none := c.blt _ (by cases b <;> decide)
theorem bltD_sc {b : Blt} {ds : List D} {d : D} (h : bltD b ds = some d) : (∃ i, d = .int i) ∨ ∃ k, d = .bl k := by
  unfold bltD at h
  split at h <;> first
    | (simp only [Option.some.injEq] at h; subst h; exact .inl ⟨_, rfl⟩)
    | (split at h <;> simp only [Option.some.injEq, reduceCtorEq] at h; subst h; exact .inl ⟨_, rfl⟩)
    | (simp only [Option.bind_eq_some_iff, Option.map_eq_some_iff] at h; obtain ⟨_, _, _, _, rfl⟩ := h; exact .inl ⟨_, rfl⟩)
    | (simp only [Option.map_eq_some_iff] at h; obtain ⟨_, _, rfl⟩ := h; exact .inl ⟨_, rfl⟩)
    | (simp only [Option.map_eq_some_iff] at h; obtain ⟨_, _, rfl⟩ := h; exact .inr ⟨_, rfl⟩)
    | cases h
theorem blt_boot (b : Blt) : bootBuiltins (bltStr b) = some (bltV b) := by cases b <;> decide +kernel
theorem se_blt {b : Blt} {p pos : Pos} {e : Expr} {es : List Expr} {xs : Bs} (c : Okc S T lv W X) (hg : isGl S (bltStr b) = true) (hst : ∀ e' ∈ e :: es, isStar e' = false) (h : SBs X T W (e :: es) xs) :
    SE X T W (.Call (.Name (bltStr b) p) (e :: es) [] pos) (.blt b xs) := by
  have i : ∀ σ H Q, tE X.K W X.mg false (dE T (.blt b xs)) σ H Q → tCB (rBl X.K b) (tBL X.K W X.mg (dBs T xs)) σ H Q := fun σ H Q q => by
    obtain ⟨H0, F0, ρ, FF, A, rl, p⟩ := q
    refine tBL.seq rl p fun ds vs H1 F1 e1 r1 p1 => ?_
    refine ⟨Fpl ρ A F1 H1, ds, Fpl.sup (rl.go e1), r1, ?_⟩
    cases hd : bltD b ds with
    | none => rw [hd] at p1; exact p1.elim
    | some d =>
      rw [hd] at p1
      refine ⟨d, rfl, fun v H' F' e2 r2 => ?_⟩
      have e3 : Ex H1 F1 H' F1 := ⟨e2.sH, Same.refl _, fun b o q => e2.sH _ _ (e1.sFH _ _ q), fun _ _ q _ => q⟩
      refine p1 v H' F1 (e1.trans e3) ?_
      show Rep X.K F1 d v
      rcases bltD_sc hd with ⟨k, rfl⟩ | ⟨k, rfl⟩
      · exact Rep.int_iff.mpr (Rep.int_iff.mp (show Rep X.K F' (.int k) v from r2))
      · exact Rep.bl_iff.mpr (Rep.bl_iff.mp (show Rep X.K F' (.bl k) v from r2))
  have hs := starEach_cons (env := X.env) (es := es) (hst e List.mem_cons_self)
  have ha := fun (ps : Pos) => backTo_any (env := X.env) (pos := ps) fun e' he => hst e' (List.mem_cons_of_mem _ he)
  have op := op_Blt c.calm b
  have bo := blt_boot b
  unfold bltV at op bo
  cases hb : isTyB b with
  | true =>
    rw [hb] at op bo
    exact PE.imp (pe_callTy op (gl_of c hg) (blt_free c) bo h (by cases b <;> decide) (by cases b <;> decide) hs (ha _)) i
  | false =>
    rw [hb] at op bo
    exact PE.imp (pe_callB op (gl_of c hg) (blt_free c) bo h (by cases b <;> decide) (by cases b <;> decide) hs (ha _)) i
theorem se_mkb {b : Mkb} {p pos : Pos} {e : Expr} {es : List Expr} {xs : Es} (c : Okc S T lv W X) (hg : isGl S (mkbStr b) = true) (hst : ∀ e' ∈ e :: es, isStar e' = false) (h : SEs X T W (e :: es) xs) :
    SE X T W (.Call (.Name (mkbStr b) p) (e :: es) [] pos) (.mkb b xs) := by
  have hs := starEach_cons (env := X.env) (es := es) (hst e List.mem_cons_self)
  have ha := fun (ps : Pos) => backTo_any (env := X.env) (pos := ps) fun e' he => hst e' (List.mem_cons_of_mem _ he)
  refine PE.imp (pe_callTy (op_Mkb b) (gl_of c hg) (c.blt _ (by cases b <;> decide)) (by cases b <;> decide +kernel) h (by cases b <;> decide) (by cases b <;> decide) hs (ha _)) fun σ H Q q => ?_
  obtain ⟨H0, F0, ρ, FF, A, rl, p⟩ := q
  refine tL.seq rl p fun ds vs H1 F1 e1 r1 p1 => ?_
  exact ⟨F1, ds, e1.sFH, r1, PostX.val (s := e1.sFH) (p1.goE e1) rfl⟩
theorem se_isi {t : Ty} {p pt pos : Pos} {a : Expr} {x : E} (c : Okc S T lv W X) (hg : isGl S "isinstance" = true) (ht : isGl S (tyVal t) = true) (hst : isStar a = false) (h : SE X T W a x) :
    SE X T W (.Call (.Name "isinstance" p) [a, .Name (tyVal t) pt] [] pos) (.isi x t) := by
  have hty : PE X (.Name (tyVal t) pt) (tC (.ty (tyStr t))) := pe_bltn (u := .type (tyStr t)) (gl_of c ht) (c.blt _ (by cases t <;> decide)) (by cases t <;> decide +kernel) rfl (by cases t <;> decide) (by cases t <;> decide)
  refine PE.imp (pe_callB (op_Is t) (gl_of c hg) (c.blt _ (by decide)) (by decide +kernel) (pa_cons h.weak (pa_cons hty pa_nil) (starEach_cons hst)) (by decide) (by decide) (starEach_cons hst) rfl) fun σ H Q q => ?_
  obtain ⟨H0, F0, ρ, FF, A, rl, p⟩ := q
  refine tE.seq rl p fun d v H1 F1 e1 r1 p1 => ?_
  obtain ⟨bb, hb, p2⟩ := PostX.of p1
  exact ⟨F1, d, v, bb, rfl, e1.sFH, r1, hb, fin_bl e1.sFH (p2.goE e1)⟩
/-! ### subscripts -/
theorem plainIx {b : Expr} (h : isPlainIx b = true) : PlainIx b := by cases b <;> first | exact fun _ _ => rfl | cases h
theorem ixR_in : IxR X (rIx X.K) := ix_list.or (ix_tup.or ix_str)
theorem se_ix {a i : Expr} {x : Bo} {y : E} {pos : Pos} (hp : isPlainIx i = true) (ha : SB X T W a x) (hi : SE X T W i y) : SE X T W (.Subscript a i pos) (.ix x y) := by
  refine PE.imp (pe_ix ixR_in ha hi.weak (plainIx hp)) fun σ H Q q => ?_
  obtain ⟨H0, F0, ρ, F, A, rl, p⟩ := q
  refine tB.seq rl p fun d v H1 F1 e1 r1 p1 => ?_
  refine tE.seq (rl.go e1) (p1.goE e1) fun d2 v2 H2 F2 e2 r2 p2 => ?_
  have rl2 := (rl.go e1).go e2
  have r1 := r1.go e2.sF (Fpl.go e2)
  have p3 := p2.goE e2
  cases hr : ixD d d2 with
  | none => rw [hr] at p3; exact p3.elim
  | some r =>
    rw [hr] at p3
    cases d with
    | tup ds =>
      cases d2 with
      | int i =>
        obtain ⟨a, vs, rfl, h1, h2⟩ := Rep.tup_iff.mp (show Rep X.K F2 (.tup ds) v from r1)
        obtain ⟨u, h3, h4⟩ := h2.atI (show atI ds i = some r from hr)
        exact .inr (.inl ⟨a, vs, i, u, rfl, Rep.int_iff.mp r2, Same.seqT e2.sFH h1, h3, GE.here p3 e2.sFH h4⟩)
      | _ => cases hr
    | lst ds =>
      cases d2 with
      | int i =>
        obtain ⟨a, vs, rfl, h1, h2⟩ := r1
        obtain ⟨u, h3, h4⟩ := h2.atI (show atI ds i = some r from hr)
        exact .inl ⟨a, vs, i, u, rfl, Rep.int_iff.mp r2, .inl (.inl (Fpl.sup rl2 _ _ h1)), h3, GE.here p3 e2.sFH h4⟩
      | _ => cases hr
    | str z =>
      cases d2 with
      | int i =>
        simp only [ixD] at hr
        split at hr
        · rename_i hl
          rw [Option.map_eq_some_iff] at hr
          obtain ⟨cc, h3, rfl⟩ := hr
          exact .inr (.inr ⟨z, i, cc, Rep.str_iff.mp (show Rep X.K F2 (.str z) v from r1), Rep.int_iff.mp r2, hl, h3, GE.here p3 e2.sFH (Rep.str_iff.mpr rfl)⟩)
        · cases hr
      | _ => cases hr
    | _ => cases d2 <;> cases hr
end
end Z
/-! Terms say what the syntax does: slices, tests, targets, what a loop goes over. -/
namespace Z
open PySem PySem.Spec PyProof.Rows L2
section
variable {X : Cx} {T : Nat → List D → R D} {W : WX} {S : SC} {lv : Nat}
/-- the reading of a bound -/
def tO (K : PySem.W.Frag) (W : WX) (mg : Str → Option Value) (r : Env' → R (Option Int)) : TO := fun σ H Q => ∃ H0 F0 ρ F A, Rl K H0 F0 ρ σ H F A ∧ PostX W mg σ H F (fun o => ∀ H' F', Ex H F H' F' → Q o H') (r ρ)
abbrev SO (X : Cx) (T : Nat → List D → R D) (W : WX) (e : Option Expr) (b : Bd) : Prop := PO X e (tO X.K W X.mg (dBd T b))
theorem so_none : SO X T W none .no := ⟨fun pins s σ H Q I q => po_none.run pins s σ H Q I (by
  obtain ⟨H0, F0, ρ, F, A, rl, p⟩ := q
  exact p H F (Ex.refl rl.sFH))⟩
theorem so_some {e : Expr} {x : E} (h : SE X T W e x) : SO X T W (some e) (.to x) := ⟨fun pins s σ H Q I q => (po_some h.weak).run pins s σ H Q I (by
  obtain ⟨H0, F0, ρ, F, A, rl, p⟩ := q
  refine tE.seq rl p fun d v H1 F1 e1 r1 p1 => ?_
  cases d with
  | int i => exact ⟨i, Rep.int_iff.mp r1, p1 _ _ e1⟩
  | _ => exact p1.elim)⟩
theorem tO.seq {r : Env' → R (Option Int)} {H0 F0 H F : Hp} {ρ : Env'} {A : Nat → Addr} {σ : L2.St} {β : Type} {k : Option Int → R β} {G : β → Prop} {Q1 : Option Int → Hp → Prop} (rl : Rl X.K H0 F0 ρ σ H F A) (p : PostX W X.mg σ H F G ((r ρ).bind k))
    (h : ∀ o H1 F1, Ex H F H1 F1 → PostX W X.mg σ H F G (k o) → Q1 o H1) : tO X.K W X.mg r σ H Q1 :=
  ⟨H0, F0, ρ, F, A, rl, p.imp fun d q H' F' e => h d H' F' e q⟩
theorem se_sl {a : Expr} {lo hi : Option Expr} {x : E} {l h : Bd} {p2 pos : Pos} (ha : SE X T W a x) (hl : SO X T W lo l) (hh : SO X T W hi h) :
    SE X T W (.Subscript a (.Slice lo hi none p2) pos) (.sl x l h) := by
  refine PE.imp (pe_slice op_Sl ha.weak hl hh) fun σ H Q q => ?_
  obtain ⟨H0, F0, ρ, F, A, rl, p⟩ := q
  refine tE.seq rl p fun d v H1 F1 e1 r1 p1 => ?_
  refine tO.seq (rl.go e1) (p1.goE e1) fun o H2 F2 e2 p2 => ?_
  refine tO.seq ((rl.go e1).go e2) (p2.goE e2) fun o' H3 F3 e3 p3 => ?_
  exact ⟨F3, d, e3.sFH, r1.mono (e2.sF.trans e3.sF), PostX.val (s := e3.sFH) (p3.goE e3) rfl⟩
theorem se_rev {a : Expr} {x : E} {k : Nat} {p1 p2 p3 pos : Pos} (ha : SE X T W a x) : SE X T W (.Subscript a (.Slice none none (some (.UnaryOp .USub (.Constant (.int 1) k p1) p2)) p3) pos) (.rev x) := by
  refine PE.imp (pe_revL ha.weak) fun σ H Q q => ?_
  obtain ⟨H0, F0, ρ, F, A, rl, p⟩ := q
  refine tE.seq rl p fun d v H1 F1 e1 r1 p1 => ?_
  cases d with
  | lst ds =>
    obtain ⟨a, vs, rfl, h1, h2⟩ := Rep.lst_iff.mp r1
    have q : rMk X.K (some (.lst ds.reverse)) F1 H1 Q := PostX.val (s := e1.sFH) (p1.goE e1) rfl
    exact ⟨a, vs, rfl, .inl (.inl (e1.sFH _ _ h1)), q.lst e1.sFH h2.reverse⟩
  | _ => exact p1.elim
/-! ### tests -/
theorem st_tru {e : Expr} {x : E} (he : ∀ whole, PySem.isTrue e X.env whole = (do let v ← whole; standAt e.pos; holding [v] (truthy v))) (ht : ∀ ρ, dT T x ρ = (dE T x ρ).bind fun d => R.of (truD d)) (h : SE X T W e x) : ST X T W e x := by
  refine PT.imp (pt_truth h.weak he) fun σ H Q q => ?_
  obtain ⟨H0, F0, ρ, F, A, rl, p⟩ := q
  rw [ht] at p
  refine tE.seq rl p fun d v H1 F1 e1 r1 p1 => ?_
  cases hb : truD d with
  | none => rw [hb] at p1; exact p1.elim
  | some b =>
    rw [hb] at p1
    exact ⟨b, tru_D e1.sFH r1 hb, p1 _ _ e1⟩
theorem st_not {a : Expr} {x : E} {pos : Pos} (h : ST X T W a x) : ST X T W (.UnaryOp .Not a pos) (.not_ x) := by
  refine PT.imp (pt_not h) fun σ H Q q => ?_
  obtain ⟨H0, F0, ρ, F, A, rl, p⟩ := q
  exact tT.seq rl p fun b H1 F1 e1 p1 => p1 _ _ e1
abbrev SW (X : Cx) (T : Nat → List D → R D) (W : WX) (e : Expr) (ir : E) : Prop := PW X e (tT X.K W X.mg (dT T ir))
theorem sw_and1 {a : Expr} {x : E} {pos : Pos} (h : ST X T W a x) : SW X T W (.BoolOp .And [a] pos) x := pw_and1 h
theorem sw_or1 {a : Expr} {x : E} {pos : Pos} (h : ST X T W a x) : SW X T W (.BoolOp .Or [a] pos) x := pw_or1 h
theorem sw_and {a b : Expr} {rest : List Expr} {x y : E} {pos : Pos} (h : ST X T W a x) (t : SW X T W (.BoolOp .And (b :: rest) pos) y) : SW X T W (.BoolOp .And (a :: b :: rest) pos) (.and_ x y) := by
  refine PW.imp (pw_and h t) fun σ H Q q => ?_
  obtain ⟨H0, F0, ρ, F, A, rl, p⟩ := q
  refine tT.seq rl p fun b H1 F1 e1 p1 => ?_
  cases b with
  | true => exact ⟨H0, F0, ρ, F1, A, rl.go e1, p1.goT e1⟩
  | false => exact p1 _ _ e1
theorem sw_or {a b : Expr} {rest : List Expr} {x y : E} {pos : Pos} (h : ST X T W a x) (t : SW X T W (.BoolOp .Or (b :: rest) pos) y) : SW X T W (.BoolOp .Or (a :: b :: rest) pos) (.or_ x y) := by
  refine PW.imp (pw_or h t) fun σ H Q q => ?_
  obtain ⟨H0, F0, ρ, F, A, rl, p⟩ := q
  refine tT.seq rl p fun b H1 F1 e1 p1 => ?_
  cases b with
  | false => exact ⟨H0, F0, ρ, F1, A, rl.go e1, p1.goT e1⟩
  | true => exact p1 _ _ e1
/-! ### targets -/
/-- storing a value that stands for d: the slots go on so, and no other slot than those of the target changes -/
def tG (K : PySem.W.Frag) (t : Tg) : TG := fun v σ H Q => ∃ H0 F0 ρ F A d ρ', Rl K H0 F0 ρ σ H F A ∧ Rep K F d v ∧ dTg t d ρ = some ρ' ∧ ∀ σ', Rl K H0 F0 ρ' σ' H F A → (∀ j, j ∉ tgSlots t → σ'[j]? = σ[j]?) → σ'.length = σ.length → Q σ' H
def tGs (K : PySem.W.Frag) (t : Tgs) : TGs := fun vs σ H Q => ∃ H0 F0 ρ F A ds ρ', Rl K H0 F0 ρ σ H F A ∧ RepL K F ds vs ∧ dTgs t ds ρ = some ρ' ∧ ∀ σ', Rl K H0 F0 ρ' σ' H F A → (∀ j, j ∉ tgsSlots t → σ'[j]? = σ[j]?) → σ'.length = σ.length → Q σ' H
theorem pg_nm {x : Str} {pos : Pos} {i : Nat} (c : Okc S T lv W X) (ho : isOwn S x = true) (hi : idxOf x S.N = some i) : PG X (.Name x pos) (tG X.K (.nm i)) := by
  have hN : X.N[i]? = some x := by rw [c.N]; exact idxOf_get hi
  obtain ⟨h1, h2⟩ := c.own x ho
  refine PG.imp (pg_name c.nd hN h1 h2) fun v σ H Q q => ?_
  obtain ⟨H0, F0, ρ, F, A, d, ρ', rl, rd, hd, k⟩ := q
  have hd : some (ρ.set i (.im d)) = some ρ' := hd
  cases hd
  exact k _ (rl.set rd) (fun j hj => List.getElem?_set_ne (fun e => hj (by rw [e]; exact List.mem_singleton.mpr rfl))) (List.length_set ..)
theorem assignEach_cons {e : Expr} {es : List Expr} {env : Env} (h : isStar e = false) : assignEach (e :: es) env = (false, assign e env) :: assignEach es env := by
  cases e <;> first | rfl | cases h
theorem assignEach_len : ∀ {es : List Expr} {env : Env}, (∀ e ∈ es, isStar e = false) → (assignEach es env).length = es.length ∧ (assignEach es env).findIdx? (·.1) = none
  | [], _, _ => ⟨rfl, rfl⟩
  | e :: es, env, h => by
    rw [assignEach_cons (h e List.mem_cons_self)]
    have ih := assignEach_len (env := env) fun x hx => h x (List.mem_cons_of_mem _ hx)
    exact ⟨by rw [List.length_cons, List.length_cons, ih.1], by rw [List.findIdx?_cons]; simp [ih.2]⟩
theorem pgs_no : PGs X [] (tGs X.K .nil) := PGs.imp pgs_nil fun vs σ H Q q => by
  obtain ⟨H0, F0, ρ, F, A, ds, ρ', rl, rd, hd, k⟩ := q
  cases ds with
  | nil =>
    have hd : some ρ = some ρ' := hd
    cases hd
    exact ⟨rd.nil_inv, k σ rl (fun _ _ => rfl) rfl⟩
  | cons d ds => cases hd
theorem pgs_and {e : Expr} {es : List Expr} {t : Tg} {r : Tgs} (hs : isStar e = false) (h1 : PG X e (tG X.K t)) (h2 : PGs X es (tGs X.K r)) : PGs X (e :: es) (tGs X.K (.cons t r)) := by
  refine PGs.imp (pgs_cons h1 h2 (by rw [assignEach_cons hs]; rfl)) fun vs σ H Q q => ?_
  obtain ⟨H0, F0, ρ, F, A, ds, ρ', rl, rd, hd, k⟩ := q
  cases ds with
  | nil => cases hd
  | cons d ds =>
    have hd : ((dTg t d ρ).bind fun ρ' => dTgs r ds ρ') = some ρ' := hd
    rw [Option.bind_eq_some_iff] at hd
    obtain ⟨ρ1, hd1, hd2⟩ := hd
    obtain ⟨v, vr, rfl, r1, r2⟩ := rd.cons_inv
    refine ⟨v, vr, rfl, H0, F0, ρ, F, A, d, ρ1, rl, r1, hd1, fun σ1 rl1 k1 l1 => ?_⟩
    refine ⟨H0, F0, ρ1, F, A, ds, ρ', rl1, r2, hd2, fun σ2 rl2 k2 l2 => ?_⟩
    refine k σ2 rl2 (fun j hj => ?_) (l2.trans l1)
    have hj : j ∉ tgSlots t ++ tgsSlots r := hj
    rw [List.mem_append, not_or] at hj
    exact (k2 j hj.2).trans (k1 j hj.1)
def tgsLen : Tgs → Nat
  | .nil => 0
  | .cons _ r => tgsLen r + 1
theorem dTgs_len : ∀ {ts : Tgs} {ds : List D} {ρ ρ' : Env'}, dTgs ts ds ρ = some ρ' → ds.length = tgsLen ts
  | .nil, [], _, _, _ => rfl
  | .nil, _ :: _, _, _, h => by cases h
  | .cons _ _, [], _, _, h => by cases h
  | .cons t r, d :: ds, ρ, ρ', h => by
    have h : ((dTg t d ρ).bind fun ρ' => dTgs r ds ρ') = some ρ' := h
    rw [Option.bind_eq_some_iff] at h
    obtain ⟨ρ1, _, h2⟩ := h
    show ds.length + 1 = tgsLen r + 1
    rw [dTgs_len h2]
theorem PG.or {e : Expr} {t t' : TG} (h : PG X e t) (h' : PG X e t') : PG X e (fun v σ H Q => t v σ H Q ∨ t' v σ H Q) := ⟨fun pins s σ H v u Q I r q => q.elim (h.run pins s σ H v u Q I r) (h'.run pins s σ H v u Q I r)⟩
theorem pg_tp {es : List Expr} {k : Nat} {pos : Pos} {ts : Tgs} (c : Okc S T lv W X) (hst : ∀ e ∈ es, isStar e = false) (hl : tgsLen ts = es.length) (h : PGs X es (tGs X.K ts)) : PG X (.Tuple es k pos) (tG X.K (.tp ts)) := by
  obtain ⟨l1, l2⟩ := assignEach_len (env := X.env) hst
  refine PG.imp (PG.or (pg_tup c.calm h l1 l2) (pg_unl c.calm h l1 l2)) fun v σ H Q q => ?_
  obtain ⟨H0, F0, ρ, F, A, d, ρ', rl, rd, hd, k⟩ := q
  cases d with
  | tup ds =>
    have hd : dTgs ts ds ρ = some ρ' := hd
    obtain ⟨a, vs, rfl, h1, h2⟩ := Rep.tup_iff.mp rd
    exact .inl ⟨a, vs, rfl, Same.seqT rl.sFH h1, by rw [← h2.length, dTgs_len hd, hl], H0, F0, ρ, F, A, ds, ρ', rl, h2, hd, k⟩
  | lst ds =>
    have hd : dTgs ts ds ρ = some ρ' := hd
    obtain ⟨a, vs, rfl, h1, h2⟩ := Rep.lst_iff.mp rd
    exact .inr ⟨a, vs, rfl, .inl (.inl (rl.sFH _ _ h1)), by rw [← h2.length, dTgs_len hd, hl], H0, F0, ρ, F, A, ds, ρ', rl, h2, hd, k⟩
  | _ => cases hd
def tgsOf (l : List Tg) : Tgs := l.foldr Tgs.cons .nil
theorem cTgF_ok (c : Okc S T lv W X) : ∀ (n : Nat) (e : Expr) (t : Tg), cTgF n S e = some t → PG X e (tG X.K t)
  | 0, _, _, h => by cases h
  | n + 1, e, t, h => by
    cases e with
    | Name x p =>
      simp only [cTgF] at h
      split at h
      · rename_i ho
        rw [Option.map_eq_some_iff] at h
        obtain ⟨i, hi, rfl⟩ := h
        exact pg_nm c ho hi
      · cases h
    | Tuple es k p =>
      simp only [cTgF] at h
      rw [Option.map_eq_some_iff] at h
      obtain ⟨l, hl, rfl⟩ := h
      have all : ∀ (es : List Expr) (l : List Tg), es.mapM (cTgF n S) = some l → PGs X es (tGs X.K (tgsOf l)) ∧ tgsLen (tgsOf l) = es.length ∧ ∀ e ∈ es, isStar e = false := fun es => by
        induction es with
        | nil =>
          intro l hl
          have hl : some [] = some l := hl
          cases hl
          exact ⟨pgs_no, rfl, fun e he => by cases he⟩
        | cons e es ih =>
          intro l hl
          rw [List.mapM_cons] at hl
          have hl : ((cTgF n S e).bind fun a => (es.mapM (cTgF n S)).bind fun b => some (a :: b)) = some l := hl
          rw [Option.bind_eq_some_iff] at hl
          obtain ⟨t, ht, hl⟩ := hl
          rw [Option.bind_eq_some_iff] at hl
          obtain ⟨r, hr, hl⟩ := hl
          cases hl
          obtain ⟨h1, h2, h3⟩ := ih r hr
          have hs : isStar e = false := by
            cases e <;> first | rfl | (cases n <;> cases ht)
          exact ⟨pgs_and hs (cTgF_ok c n e t ht) h1, by show tgsLen (tgsOf r) + 1 = _; rw [h2]; rfl, fun e' he => by
            rcases List.mem_cons.mp he with q | q
            · rw [q]; exact hs
            · exact h3 e' q⟩
      obtain ⟨h1, h2, h3⟩ := all es l hl
      exact pg_tp c h3 h2 h1
    | _ => cases h
/-! ### what a loop goes over -/
/-- an iterator gives the items one after another -/
def Walk (K : PySem.W.Frag) (J : L2.It) (ds : List D) (F : Hp) : Prop := ∀ i H' F', Same F F' → Same F' H' →
  (∀ d, ds[i]? = some d → J.go i H' ∧ ∀ x H2, J.yld i H' x H2 → ∃ F2, Ex H' F' H2 F2 ∧ Rep K F2 d x) ∧ (i = ds.length → J.stop i H')
def tI (K : PySem.W.Frag) (W : WX) (mg : Str → Option Value) (r : Env' → R (List D)) : TI := fun σ H Q => ∃ H0 F0 ρ F A, Rl K H0 F0 ρ σ H F A ∧ PostX W mg σ H F (fun ds => ∀ J H' F', Ex H F H' F' → Walk K J ds F' → Q J H') (r ρ)
abbrev SI (X : Cx) (T : Nat → List D → R D) (W : WX) (tg e : Expr) (it : Z.It) : Prop := PI X tg e (tI X.K W X.mg (dIt T it))
theorem PI.or {tg e : Expr} {t t' : TI} (h : PI X tg e t) (h' : PI X tg e t') : PI X tg e (fun σ H Q => t σ H Q ∨ t' σ H Q) := ⟨fun pins s σ H Q I q => q.elim (h.run pins s σ H Q I) (h'.run pins s σ H Q I)⟩
theorem walk_lst {K : PySem.W.Frag} {F : Hp} {a : Addr} {vs : List V} {ds : List D} (h : F a = some (.lst vs)) (r : RepL K F ds vs) : Walk K (Itl K a) ds F := fun i H' F' s1 s2 => by
  have hq : SqL K H' a vs := .inl (.inl (s2 _ _ (s1 _ _ h)))
  refine ⟨fun d hd => ?_, fun hl => ⟨vs, hq, by rw [← r.length]; omega⟩⟩
  obtain ⟨v, h1, h2⟩ := r.get hd
  refine ⟨⟨vs, v, hq, h1⟩, fun x H2 y => ?_⟩
  obtain ⟨rfl, y⟩ := y
  have := (y vs hq).symm.trans h1
  cases this
  exact ⟨F', Ex.refl s2, h2.mono s1⟩
theorem walk_tup {K : PySem.W.Frag} {F : Hp} {a : Addr} {vs : List V} {ds : List D} (h : SqT K F a vs) (r : RepL K F ds vs) : Walk K (Itt K a) ds F := fun i H' F' s1 s2 => by
  have hq : SqT K H' a vs := Same.seqT s2 (Same.seqT s1 h)
  refine ⟨fun d hd => ?_, fun hl => ⟨vs, hq, by rw [← r.length]; omega⟩⟩
  obtain ⟨v, h1, h2⟩ := r.get hd
  refine ⟨⟨vs, v, hq, h1⟩, fun x H2 y => ?_⟩
  obtain ⟨rfl, y⟩ := y
  have := (y vs hq).symm.trans h1
  cases this
  exact ⟨F', Ex.refl s2, h2.mono s1⟩
theorem si_seq {tg e : Expr} {x : E} (h : SE X T W e x) : SI X T W tg e (.seq x) := by
  refine PI.imp (PI.or (pi_list h.weak) (pi_tup h.weak)) fun σ H Q q => ?_
  obtain ⟨H0, F0, ρ, F, A, rl, p⟩ := q
  have p : PostX W X.mg σ H F (fun ds => ∀ J H' F', Ex H F H' F' → Walk X.K J ds F' → Q J H') ((dE T x ρ).bind fun x => R.of (itemsD x)) := p
  cases hd : dE T x ρ with
  | exc c =>
    rw [hd] at p
    exact .inl ⟨H0, F0, ρ, F, A, rl, by rw [hd]; exact p⟩
  | bad => rw [hd] at p; exact p.elim
  | ok d =>
    rw [hd] at p
    cases d with
    | lst ds =>
      refine .inl ⟨H0, F0, ρ, F, A, rl, by
        rw [hd]
        intro v H' F' e r
        obtain ⟨a, vs, rfl, h1, h2⟩ := Rep.lst_iff.mp (show Rep X.K F' (.lst ds) v from r)
        exact ⟨a, rfl, ⟨vs, .inl (.inl (e.sFH _ _ h1))⟩, p _ H' F' e (walk_lst h1 h2)⟩⟩
    | tup ds =>
      refine .inr ⟨H0, F0, ρ, F, A, rl, by
        rw [hd]
        intro v H' F' e r
        obtain ⟨a, vs, rfl, h1, h2⟩ := Rep.tup_iff.mp (show Rep X.K F' (.tup ds) v from r)
        exact ⟨a, rfl, ⟨vs, Same.seqT e.sFH h1⟩, p _ H' F' e (walk_tup h1 h2)⟩⟩
    | _ => exact p.elim
theorem walk_rng {K : PySem.W.Frag} {F : Hp} {lo : Int} {n : Nat} : Walk K (Itr lo n) (rngL lo n) F := fun i H' F' s1 s2 => by
  have hl : (rngL lo n).length = n := by unfold rngL; rw [List.length_map, List.length_range]
  refine ⟨fun d hd => ?_, fun h => by rw [hl] at h; exact Nat.le_of_eq h.symm⟩
  have hi : i < n := by
    rcases Nat.lt_or_ge i n with q | q
    · exact q
    · rw [List.getElem?_eq_none (by rw [hl]; exact q)] at hd; cases hd
  unfold rngL at hd
  rw [List.getElem?_map, List.getElem?_range hi] at hd
  cases hd
  refine ⟨hi, fun x H2 y => ?_⟩
  obtain ⟨rfl, rfl⟩ := y
  exact ⟨F', Ex.refl s2, Rep.int_iff.mpr rfl⟩
theorem inRng_ok {i : Int} (h : inRng i = true) : -(2 ^ 62) ≤ i ∧ i < 2 ^ 62 := by
  unfold inRng at h
  rw [Bool.and_eq_true] at h
  exact ⟨of_decide_eq_true h.1, of_decide_eq_true h.2⟩
theorem si_rng1 {tg a : Expr} {x : E} {p pos : Pos} (c : Okc S T lv W X) (hg : isGl S "range" = true) (hst : isStar a = false) (h : SE X T W a x) : SI X T W tg (.Call (.Name "range" p) [a] [] pos) (.rng1 x) := by
  refine PI.imp (pi_range1 (gl_of c hg) (c.blt _ (by decide)) (ses_cons hst h ses_nil) (starEach_cons hst)) fun σ H Q q => ?_
  obtain ⟨H0, F0, ρ, F, A, rl, p⟩ := q
  have p : PostX W X.mg σ H F (fun ds => ∀ J H' F', Ex H F H' F' → Walk X.K J ds F' → Q J H') ((dE T x ρ).bind fun x => match x with
    | .int j => if inRng j = true then .ok (rngL 0 j.toNat) else .bad
    | _ => .bad) := p
  have p : PostX W X.mg σ H F (fun ds => ∀ J H' F', Ex H F H' F' → Walk X.K J ds F' → Q J H') ((dEs T (.cons x .nil) ρ).bind fun l => match l with
    | [.int j] => if inRng j = true then .ok (rngL 0 j.toNat) else .bad
    | _ => .bad) := by
    have e : dEs T (.cons x .nil) ρ = (dE T x ρ).bind fun d => .ok [d] := rfl
    rw [e]
    cases hd : dE T x ρ with
    | ok d => rw [hd] at p; cases d <;> exact p
    | exc c => rw [hd] at p; exact p
    | bad => rw [hd] at p; exact p
  refine tL.seq rl p fun ds vs H1 F1 e1 r1 p1 => ?_
  match ds with
  | [.int j] =>
    obtain ⟨v, rfl, rv⟩ := r1.one
    by_cases hj : inRng j = true
    · simp only [hj, if_true] at p1
      exact ⟨j, by rw [Rep.int_iff.mp rv], (inRng_ok hj).1, (inRng_ok hj).2, p1 _ _ _ e1 walk_rng⟩
    · simp only [hj] at p1; exact p1.elim
  | [] => exact p1.elim
  | [.non] => exact p1.elim
  | [.bl _] => exact p1.elim
  | [.str _] => exact p1.elim
  | [.tup _] => exact p1.elim
  | [.lst _] => exact p1.elim
  | [.dic _ _] => exact p1.elim
  | [.scr _] => exact p1.elim
  | [.obj _ _ _] => exact p1.elim
  | d :: _ :: _ => exact (show False by cases d <;> exact p1).elim
end
end Z
/-! enumerate of a tuple. -/
namespace Z
open PySem PySem.Spec PyProof.Rows L2
open PySem.Sem (wp)
/-- the record of a new enumerate object over the iterator at i -/
abbrev enumO (i : Addr) : Obj := { cls := .type "enumerate", data := .fields #[.none, .bool false, .ref i, rawInt 0, .none, .none] }
theorem meets_enum1 {v : Value} {o : Obj} {G : Heap → Prop} (B : Begins v o G) :
    Meets (Builtin.«enumerate.__new__» ⟨[.type "enumerate", v], []⟩) (fun _ R s => G s.heap ∧ R (.ok (.ret (.ref (s.heap.push o).objs.size))) { s with heap := (s.heap.push o).push (enumO s.heap.objs.size) }) :=
  .of_wp fun prog w A R s h => by
    obtain ⟨hp, g, d, tk, os⟩ := s
    obtain ⟨h1, h⟩ := h
    have sub := sub_enumerate
    have start : ∀ {A' : Around} {E : Value → Shared → Prop} {Q : Value → Shared → Prop}, Q (.ref hp.objs.size) ⟨hp.push o, g, d, tk, os⟩ → wpAny (model prog w) A' (pyIter v) Q E ⟨hp, g, d, tk, os⟩ := fun q => B.iter prog w _ _ _ _ h1 q
    wp_walk using start
    refine wpAny_stack_any fun st => wpAny_pure ?_
    split
    · rename_i c _ _ _ _ _
      cases (c == Value.type "enumerate") <;> (wp_walk using start; exact ⟨_, rfl, h⟩)
    · wp_walk using start
      exact ⟨_, rfl, h⟩
theorem call_enum1 {prog : Program} {w : World} {A : Around} {E : Value → Shared → Prop} {s : Shared} {v : Value} {o : Obj} {G : Heap → Prop} {Q : Value → Shared → Prop} (B : Begins v o G) (h1 : G s.heap)
    (h : ∀ h', IsEnum h' (s.heap.objs.size + 1) s.heap.objs.size 0 .none → h'.get? s.heap.objs.size = some o → (∀ b u, s.heap.get? b = some u → h'.get? b = some u) → Q (.ref (s.heap.objs.size + 1)) { s with heap := h' }) :
    wpAny (model prog w) A (call (.type "enumerate") [v]) Q E s := by
  refine callType_new F.called_enumerate (by decide) (F.typeCall_enumerate_1 _) (F.newCall_enumerate_1 _) (fun obj => F.args_object_init_2 obj _) F.entry_enumerate_new (meets_enum1 B) ⟨h1, ?_⟩
  have z : (s.heap.push o).objs.size = s.heap.objs.size + 1 := Heap.size_push ..
  have e : IsEnum ((s.heap.push o).push (enumO s.heap.objs.size)) (s.heap.objs.size + 1) s.heap.objs.size 0 .none := by
    have q := Heap.get?_push_size (s.heap.push o) (o := enumO s.heap.objs.size) rfl
    rw [z] at q
    exact q
  show _ ∧ _
  rw [z]
  exact ⟨⟨_, e, rfl⟩, h _ e (Heap.get?_push_of_some _ (Heap.get?_push_size _ B.free)) fun b u x => Heap.get?_push_of_some _ (Heap.get?_push_of_some _ x)⟩
/-- the tuple at a, its items in new pairs, n of them -/
def IteT (K : PySem.W.Frag) (a : Addr) (xs : List V) : L2.It :=
  ⟨fun i H => SqT K H a xs ∧ i < xs.length, fun i H v H' => ∃ p x, v = .ref p ∧ H p = none ∧ xs[i]? = some x ∧ H' = upd H p (.tup [.int (i : Nat), x]), fun i H => SqT K H a xs ∧ i = xs.length⟩
theorem enum_draws {P : Program} {w : World} {A : Around} (hh : A.handled = none) {a e it : Addr} (its : Array Value) (n1 : e ≠ it) (n2 : a ≠ it) (n3 : e ≠ a) :
    WalksT P w A e (e :: [it, a]) [e, it] its.size (fun i vals => ∃ t x, its[i]? = some x ∧ vals = #[.int i t, x]) (fun i h => (∃ old, IsEnum h e it i old) ∧ h.IsTupleIter it a i ∧ h.IsTuple a its)
      (fun i T h => (∃ x, IsEnumOut h e it ((i : Int) + 1) x T) ∧ (h.IsTupleIter it a (i + 1) ∧ h.IsTuple a its) ∧ T ≠ e ∧ T ≠ it) :=
  WalksT.enumerateD (A := A) (Draws.tuple (A := A.in1) hh it a n2 its) e n1 (by simp only [List.mem_cons, List.not_mem_nil, or_false, not_or]; exact ⟨n1, n3⟩) (by simp)
theorem turn_enumT {P : Program} {w : World} {K : PySem.W.Frag} {elts : List Expr} {kk : Nat} {tpos : Pos} {a e it : Addr} {xs : List V} (n1 : e ≠ it) (n2 : a ≠ it) (n3 : e ≠ a) :
    Turn P w K (.Tuple elts kk tpos) (IteT K a xs) [e, it] e (fun i h => (∃ old, IsEnum h e it ((i : Nat) : Int) old) ∧ h.IsTupleIter it a i) where
  mem := by simp
  obj := fun i h st b hb => by
    obtain ⟨⟨old, he⟩, o, ho, _, hd⟩ := st
    rcases List.mem_cons.mp hb with z | z
    · rw [z]; exact ⟨_, he, fun v q => nomatch q⟩
    · rw [List.mem_singleton.mp z]
      exact ⟨o, ho, fun v q => by rw [hd] at q; cases q⟩
  keep := fun i h h' st k => ⟨let ⟨old, he⟩ := st.1; ⟨old, k e (by simp) _ he⟩, st.2.at fun o q => k it (by simp) o q⟩
  item := by
    intro X hP hw hK hc i pins s σ H E I hf st hg
    subst hP hw hK
    obtain ⟨hq, hi⟩ := hg
    obtain ⟨its, rv, p, hz⟩ := I.tuple hq
    have hl := rv.length
    have W := enum_draws (P := X.prog) (w := X.w) (A := X.A) (I.ok.hd hc) its.toArray n1 n2 n3
    refine W.item i s _ E (by rw [List.size_toArray]; omega) ⟨st.1, st.2, p⟩ fun t vals h' tk hp ht hT mid hk => ⟨_, rfl, ?_⟩
    have tw := W.apart _ _ _ mid
    refine W.go elts kk tpos i t { s with heap := h', toks := tk } _ E mid fun h'' st'' hk2 => ?_
    obtain ⟨tk0, u, hu, rfl⟩ := hp
    have hu' : its[i]? = some u := by simpa using hu
    have hx : xs[i]? = some xs[i] := List.getElem?_eq_getElem hi
    obtain ⟨u2, g1, ru⟩ := rv.get hx
    have eu : u2 = u := Option.some.inj (g1.symm.trans hu')
    rw [eu] at ru
    obtain ⟨o, ho, hcl, n, hd⟩ := hT
    have new : ObjOk X.prog X.w (upd H t (.tup [.int (i : Nat), xs[i]])) h'' t (.tup [.int (i : Nat), xs[i]]) := ⟨by show 2 ≤ sizeLine; decide, [.int i tk0, u], .cons ⟨_, rfl⟩ (.cons ru .nil), ⟨o, hk2 _ _ tw ho, hcl, n, hd⟩⟩
    have I1 : Inv X pins σ (upd H t (.tup [.int (i : Nat), xs[i]])) { s with heap := h'', toks := tk } := I.turnedNew (ch := [e, it]) (fun b ob hb q => hk2 _ _ hb (hk _ _ hb q)) hf ht new
    refine ⟨.ref t, _, I1, rfl, ⟨t, xs[i], rfl, I.hok.fresh ht, hx, rfl⟩, ⟨st''.1, st''.2.1⟩, fun b hb => ?_⟩
    have nb : b ≠ t := fun q => tw (q ▸ hb)
    rw [upd_ne nb]
    exact (hf b hb).1
  done := by
    intro X hP hw hK hc i pins s σ H E I hf st hg
    subst hP hw hK
    obtain ⟨hq, rfl⟩ := hg
    obtain ⟨its, rv, p, hz⟩ := I.tuple hq
    have hl := rv.length
    have W := enum_draws (P := X.prog) (w := X.w) (A := X.A) (I.ok.hd hc) its.toArray n1 n2 n3
    have e1 : its.toArray.size = xs.length := by rw [List.size_toArray]; omega
    refine W.done s _ E (by rw [e1]; exact ⟨st.1, st.2, p⟩) fun h' tk hk => ⟨rfl, I.turnedL (ch := [e, it]) (fun b o hb q => hk b o hb q) hf⟩
  self := fun A i s Q E st h => let ⟨⟨_, he⟩, _⟩ := st; wpAny_pyIter_enum he h
def iEnumT (K : PySem.W.Frag) (ta : TA) : TI := fun σ H R => ta σ H fun vs H1 => ∃ a xs, vs = [.ref a] ∧ SqT K H1 a xs ∧ R (IteT K a xs) H1
theorem pi_enumT {X : Cx} {e : Expr} {ta : TA} {p pos tpos : Pos} {elts : List Expr} {kk : Nat} (hg : Gl X "enumerate") (hm : X.mg "enumerate" = none) (ha : PA X [e] ta) (hs : starEach [e] X.env = [(false, eval e X.env)]) :
    PI X (.Tuple elts kk tpos) (.Call (.Name "enumerate" p) [e] [] pos) (iEnumT X.K ta) := by
  refine ⟨fun pins s σ H R I h => ?_⟩
  refine Call_ (ld_blt I hg hm boot_enumerate (PyProof.Rows.callWith_type1 (thn (ha.run pos pins s σ H _ I h) fun us s1 ⟨vs, H1, I1, r1, a, xs, ex, hq, q⟩ => ?_) hs rfl))
  rw [ex] at r1
  rw [Vals.ref1 r1]
  obtain ⟨its, rv, p', hz⟩ := I1.tuple hq
  have la : a < s1.heap.objs.size := by obtain ⟨o, ho, _⟩ := id p'; exact Heap.lt_size ho
  refine call_enum1 (begins_tuple a its.toArray) p' fun h' he hit hk => wpAny_pyIter_enum he ?_
  have fresh : ∀ b ∈ [s1.heap.objs.size + 1, s1.heap.objs.size], FpOk X pins H1 b := fun b hb => by
    have hle : s1.heap.objs.size ≤ b := by
      rcases List.mem_cons.mp hb with z | z
      · rw [z]; exact Nat.le_succ _
      · rw [List.mem_singleton.mp z]; exact Nat.le_refl _
    exact I1.fpOk hle (I1.hok.fresh hle)
  exact ⟨s1.heap.objs.size + 1, [s1.heap.objs.size + 1, s1.heap.objs.size], _, _, H1, rfl, I1.kept (t' := s1.toks) hk, turn_enumT (xs := xs) (Nat.succ_ne_self _) (Nat.ne_of_lt la) (Ne.symm (Nat.ne_of_lt (Nat.lt_succ_of_lt la))), ⟨⟨.none, he⟩, ⟨_, hit, rfl, rfl⟩⟩, fresh, q⟩
end Z
/-! Terms say what the syntax does: enumerate, zip, range of two ends, comprehensions. -/
namespace Z
open PySem PySem.Spec PyProof.Rows L2
section
variable {X : Cx} {T : Nat → List D → R D} {W : WX} {S : SC} {lv : Nat}
/-- one value as an argument list's -/
theorem one_arg {α : Type} {x : E} {ρ : Env'} {k : D → R α} {z : List D → R α} (h : ∀ d, z [d] = k d) : ((dE T x ρ).bind k) = (dEs T (.cons x .nil) ρ).bind z := by
  have e : dEs T (.cons x .nil) ρ = (dE T x ρ).bind fun d => .ok [d] := rfl
  rw [e]
  cases dE T x ρ with
  | ok d => exact (h d).symm
  | exc c => rfl
  | bad => rfl
theorem two_arg {α : Type} {x y : E} {ρ : Env'} {k : D → D → R α} {z : List D → R α} (h : ∀ d e, z [d, e] = k d e) : ((dE T x ρ).bind fun d => (dE T y ρ).bind fun e => k d e) = (dEs T (.cons x (.cons y .nil)) ρ).bind z := by
  have e : dEs T (.cons x (.cons y .nil)) ρ = (dE T x ρ).bind fun d => ((dE T y ρ).bind fun e => .ok [e]).bind fun l => .ok (d :: l) := rfl
  rw [e]
  cases dE T x ρ with
  | ok d =>
    cases dE T y ρ with
    | ok e => exact (h d e).symm
    | exc c => rfl
    | bad => rfl
  | exc c => rfl
  | bad => rfl
theorem si_rng2 {tg a b : Expr} {x y : E} {p pos : Pos} (c : Okc S T lv W X) (hg : isGl S "range" = true) (hst : isStar a = false) (hst2 : isStar b = false) (h : SE X T W a x) (h2 : SE X T W b y) : SI X T W tg (.Call (.Name "range" p) [a, b] [] pos) (.rng2 x y) := by
  refine PI.imp (pi_range2 (gl_of c hg) (c.blt _ (by decide)) (ses_cons hst h (ses_cons hst2 h2 ses_nil)) (by rw [starEach_cons hst, starEach_cons hst2]; rfl) (starEach_cons hst2)) fun σ H Q q => ?_
  obtain ⟨H0, F0, ρ, F, A, rl, p⟩ := q
  have e : dIt T (.rng2 x y) ρ = (dEs T (.cons x (.cons y .nil)) ρ).bind fun l => match l with
    | [.int i, .int j] => if (inRng i && inRng j) = true then .ok (rngL i (j - i).toNat) else .bad
    | _ => .bad := two_arg (k := fun x y => match x, y with
    | .int i, .int j => if (inRng i && inRng j) = true then .ok (rngL i (j - i).toNat) else .bad
    | _, _ => .bad) fun d e => by cases d <;> cases e <;> rfl
  rw [e] at p
  refine tL.seq rl p fun ds vs H1 F1 e1 r1 p1 => ?_
  split at p1
  · rename_i i j
    obtain ⟨v, u, rfl, rv, ru⟩ := r1.two
    split at p1
    · rename_i hj
      rw [Bool.and_eq_true] at hj
      exact ⟨i, j, by rw [Rep.int_iff.mp rv, Rep.int_iff.mp ru], ⟨(inRng_ok hj.1).1, (inRng_ok hj.1).2, (inRng_ok hj.2).1, (inRng_ok hj.2).2⟩, p1 _ _ _ e1 walk_rng⟩
    · exact p1.elim
  · exact p1.elim
theorem enumL_get : ∀ {ds : List D} {n i : Nat}, (enumL n ds)[i]? = (ds[i]?).map fun d => D.tup [.int ((n + i : Nat) : Int), d]
  | [], n, i => by simp [enumL]
  | d :: ds, n, 0 => rfl
  | d :: ds, n, i + 1 => by
    show (enumL (n + 1) ds)[i]? = _
    rw [enumL_get (ds := ds), List.getElem?_cons_succ]
    congr 1
    funext d
    have e : n + 1 + i = n + (i + 1) := by omega
    rw [e]
theorem enumL_len : ∀ {ds : List D} {n : Nat}, (enumL n ds).length = ds.length
  | [], _ => rfl
  | d :: ds, n => by show (enumL (n + 1) ds).length + 1 = _; rw [enumL_len (ds := ds)]; rfl
theorem rep_pair {K : PySem.W.Frag} {F H : Hp} {p : Addr} {d e : D} {v u : V} (s : Same F H) (hp : H p = none) (r1 : Rep K F d v) (r2 : Rep K F e u) : Ex H F (upd H p (.tup [v, u])) (upd F p (.tup [v, u])) ∧ Rep K (upd F p (.tup [v, u])) (.tup [d, e]) (.ref p) := by
  have m := same_upd (o := .tup [v, u]) (s.free hp)
  exact ⟨Ex.alloc s hp, Rep.tup_iff.mpr ⟨p, _, rfl, .inl (.inl upd_same), RepL.cons (r1.mono m) (RepL.cons (r2.mono m) RepL.nil)⟩⟩
theorem walk_enm {K : PySem.W.Frag} {F : Hp} {a : Addr} {vs : List V} {ds : List D} (h : F a = some (.lst vs)) (r : RepL K F ds vs) : Walk K (Ite K a) (enumL 0 ds) F := fun i H' F' s1 s2 => by
  have hq : SqL K H' a vs := .inl (.inl (s2 _ _ (s1 _ _ h)))
  refine ⟨fun d hd => ?_, fun hl => ⟨vs, hq, by rw [← r.length]; rw [enumL_len] at hl; omega⟩⟩
  rw [enumL_get, Option.map_eq_some_iff] at hd
  obtain ⟨d', hd', rfl⟩ := hd
  obtain ⟨v, h1, h2⟩ := r.get hd'
  refine ⟨⟨vs, v, hq, h1⟩, fun x H2 y => ?_⟩
  obtain ⟨p, u, rfl, hp, rfl, y⟩ := y
  have := (y vs hq).symm.trans h1
  cases this
  rw [Nat.zero_add]
  obtain ⟨e, q⟩ := rep_pair (d := .int (i : Nat)) (v := .int (i : Nat)) s2 hp (Rep.int_iff.mpr rfl) (h2.mono s1)
  exact ⟨_, e, q⟩
theorem walk_enmT {K : PySem.W.Frag} {F : Hp} {a : Addr} {vs : List V} {ds : List D} (h : SqT K F a vs) (r : RepL K F ds vs) : Walk K (IteT K a vs) (enumL 0 ds) F := fun i H' F' s1 s2 => by
  have hq : SqT K H' a vs := Same.seqT s2 (Same.seqT s1 h)
  refine ⟨fun d hd => ?_, fun hl => ⟨hq, by rw [enumL_len] at hl; rw [hl, r.length]⟩⟩
  rw [enumL_get, Option.map_eq_some_iff] at hd
  obtain ⟨d', hd', rfl⟩ := hd
  obtain ⟨v, h1, h2⟩ := r.get hd'
  have hi : i < vs.length := by
    rcases Nat.lt_or_ge i vs.length with q | q
    · exact q
    · rw [List.getElem?_eq_none q] at h1; cases h1
  refine ⟨⟨hq, hi⟩, fun x H2 y => ?_⟩
  obtain ⟨p, u, rfl, hp, y, rfl⟩ := y
  have := y.symm.trans h1
  cases this
  rw [Nat.zero_add]
  obtain ⟨e, q⟩ := rep_pair (d := .int (i : Nat)) (v := .int (i : Nat)) s2 hp (Rep.int_iff.mpr rfl) (h2.mono s1)
  exact ⟨_, e, q⟩
theorem si_enm {a : Expr} {x : E} {p pos tpos : Pos} {elts : List Expr} {kk : Nat} (c : Okc S T lv W X) (hg : isGl S "enumerate" = true) (hst : isStar a = false) (h : SE X T W a x) :
    SI X T W (.Tuple elts kk tpos) (.Call (.Name "enumerate" p) [a] [] pos) (.enm x) := by
  have hs : starEach [a] X.env = [(false, eval a X.env)] := starEach_cons hst
  refine PI.imp (PI.or (pi_enum (gl_of c hg) (c.blt _ (by decide)) (ses_cons hst h ses_nil) hs) (pi_enumT (gl_of c hg) (c.blt _ (by decide)) (ses_cons hst h ses_nil) hs)) fun σ H Q q => ?_
  obtain ⟨H0, F0, ρ, F, A, rl, p⟩ := q
  have p : PostX W X.mg σ H F (fun ds => ∀ J H' F', Ex H F H' F' → Walk X.K J ds F' → Q J H') ((dE T x ρ).bind fun x => (R.of (itemsD x)).bind fun ds => .ok (enumL 0 ds)) := p
  have es : dEs T (.cons x .nil) ρ = (dE T x ρ).bind fun d => .ok [d] := rfl
  cases hd : dE T x ρ with
  | exc c =>
    rw [hd] at p
    exact .inl ⟨H0, F0, ρ, F, A, rl, by rw [es, hd]; exact p⟩
  | bad => rw [hd] at p; exact p.elim
  | ok d =>
    rw [hd] at p
    cases d with
    | lst ds =>
      refine .inl ⟨H0, F0, ρ, F, A, rl, by
        rw [es, hd]
        intro vs H' F' e r
        obtain ⟨v, rfl, rv⟩ := RepL.one r
        obtain ⟨a, vs, rfl, h1, h2⟩ := Rep.lst_iff.mp rv
        exact ⟨a, vs, rfl, .inl (.inl (e.sFH _ _ h1)), p _ H' F' e (walk_enm h1 h2)⟩⟩
    | tup ds =>
      refine .inr ⟨H0, F0, ρ, F, A, rl, by
        rw [es, hd]
        intro vs H' F' e r
        obtain ⟨v, rfl, rv⟩ := RepL.one r
        obtain ⟨a, vs, rfl, h1, h2⟩ := Rep.tup_iff.mp rv
        exact ⟨a, vs, rfl, Same.seqT e.sFH h1, p _ H' F' e (walk_enmT h1 h2)⟩⟩
    | _ => exact p.elim
theorem zipL_get : ∀ {xs ys : List D} {i : Nat} {d : D}, (zipL xs ys)[i]? = some d → ∃ x y, xs[i]? = some x ∧ ys[i]? = some y ∧ d = .tup [x, y]
  | [], _, _, _, h => by simp [zipL] at h
  | _ :: _, [], _, _, h => by simp [zipL] at h
  | x :: xs, y :: ys, 0, d, h => by
    have h : some (D.tup [x, y]) = some d := h
    cases h
    exact ⟨x, y, rfl, rfl, rfl⟩
  | x :: xs, y :: ys, i + 1, d, h => zipL_get (xs := xs) (ys := ys) (i := i) h
theorem zipL_len : ∀ {xs ys : List D}, xs.length ≤ (zipL xs ys).length ∨ ys.length ≤ (zipL xs ys).length
  | [], _ => .inl (Nat.zero_le _)
  | _ :: _, [] => .inr (Nat.zero_le _)
  | x :: xs, y :: ys => by
    rcases zipL_len (xs := xs) (ys := ys) with h | h
    · exact .inl (Nat.succ_le_succ h)
    · exact .inr (Nat.succ_le_succ h)
theorem walk_zip {K : PySem.W.Frag} {F : Hp} {a b : Addr} {vs us : List V} {ds es : List D} (h : F a = some (.lst vs)) (r : RepL K F ds vs) (h' : F b = some (.lst us)) (r' : RepL K F es us) : Walk K (Itz K a b) (zipL ds es) F := fun i H' F' s1 s2 => by
  have hq : SqL K H' a vs := .inl (.inl (s2 _ _ (s1 _ _ h)))
  have hq' : SqL K H' b us := .inl (.inl (s2 _ _ (s1 _ _ h')))
  refine ⟨fun d hd => ?_, fun hl => ⟨vs, us, hq, hq', by rw [← r.length, ← r'.length, hl]; exact zipL_len⟩⟩
  obtain ⟨d1, d2, g1, g2, rfl⟩ := zipL_get hd
  obtain ⟨v, h1, h2⟩ := r.get g1
  obtain ⟨u, h3, h4⟩ := r'.get g2
  refine ⟨⟨vs, us, v, u, hq, hq', h1, h3⟩, fun x H2 y => ?_⟩
  obtain ⟨p, x1, x2, rfl, hp, rfl, y1, y2⟩ := y
  have q1 := (y1 vs hq).symm.trans h1
  have q2 := (y2 us hq').symm.trans h3
  cases q1
  cases q2
  obtain ⟨e, q⟩ := rep_pair s2 hp (h2.mono s1) (h4.mono s1)
  exact ⟨_, e, q⟩
theorem walk_zipT {K : PySem.W.Frag} {F : Hp} {a b : Addr} {vs us : List V} {ds es : List D} (h : SqT K F a vs) (r : RepL K F ds vs) (h' : SqT K F b us) (r' : RepL K F es us) : Walk K (RZ.ItzT K a b) (zipL ds es) F := fun i H' F' s1 s2 => by
  have hq : SqT K H' a vs := Same.seqT s2 (Same.seqT s1 h)
  have hq' : SqT K H' b us := Same.seqT s2 (Same.seqT s1 h')
  refine ⟨fun d hd => ?_, fun hl => ⟨vs, us, hq, hq', by rw [← r.length, ← r'.length, hl]; exact zipL_len⟩⟩
  obtain ⟨d1, d2, g1, g2, rfl⟩ := zipL_get hd
  obtain ⟨v, h1, h2⟩ := r.get g1
  obtain ⟨u, h3, h4⟩ := r'.get g2
  refine ⟨⟨vs, us, v, u, hq, hq', h1, h3⟩, fun x H2 y => ?_⟩
  obtain ⟨p, x1, x2, rfl, hp, rfl, y1, y2⟩ := y
  have q1 := (y1 vs hq).symm.trans h1
  have q2 := (y2 us hq').symm.trans h3
  cases q1
  cases q2
  obtain ⟨e, q⟩ := rep_pair s2 hp (h2.mono s1) (h4.mono s1)
  exact ⟨_, e, q⟩
theorem si_zip {a b : Expr} {x y : E} {p pos tpos : Pos} {elts : List Expr} {kk : Nat} (c : Okc S T lv W X) (hg : isGl S "zip" = true) (hst : isStar a = false) (hst2 : isStar b = false) (h : SE X T W a x) (h2 : SE X T W b y) :
    SI X T W (.Tuple elts kk tpos) (.Call (.Name "zip" p) [a, b] [] pos) (.zip x y) := by
  refine PI.imp (RZ.pi_zipA (gl_of c hg) (c.blt _ (by decide)) (ses_cons hst h (ses_cons hst2 h2 ses_nil)) (starEach_cons hst) (backTo_any fun e he => by rw [List.mem_singleton.mp he]; exact hst2)) fun σ H Q q => ?_
  obtain ⟨H0, F0, ρ, F, A, rl, p⟩ := q
  have e : dIt T (.zip x y) ρ = (dEs T (.cons x (.cons y .nil)) ρ).bind fun l => match l with
    | [.lst xs, .lst ys] => .ok (zipL xs ys)
    | [.tup xs, .tup ys] => .ok (zipL xs ys)
    | _ => .bad := two_arg (k := fun x y => match x, y with
    | .lst xs, .lst ys => .ok (zipL xs ys)
    | .tup xs, .tup ys => .ok (zipL xs ys)
    | _, _ => .bad) fun d e => by cases d <;> cases e <;> rfl
  rw [e] at p
  refine tL.seq rl p fun ds vs H1 F1 e1 r1 p1 => ?_
  split at p1
  · obtain ⟨v, u, rfl, rv, ru⟩ := r1.two
    obtain ⟨a, vs, rfl, g1, g2⟩ := Rep.lst_iff.mp rv
    obtain ⟨b, us, rfl, g3, g4⟩ := Rep.lst_iff.mp ru
    exact ⟨a, b, vs, us, rfl, .inl ⟨.inl (.inl (e1.sFH _ _ g1)), .inl (.inl (e1.sFH _ _ g3)), p1 _ _ _ e1 (walk_zip g1 g2 g3 g4)⟩⟩
  · obtain ⟨v, u, rfl, rv, ru⟩ := r1.two
    obtain ⟨a, vs, rfl, g1, g2⟩ := Rep.tup_iff.mp rv
    obtain ⟨b, us, rfl, g3, g4⟩ := Rep.tup_iff.mp ru
    exact ⟨a, b, vs, us, rfl, .inr ⟨Same.seqT e1.sFH g1, Same.seqT e1.sFH g3, p1 _ _ _ e1 (walk_zipT g1 g2 g3 g4)⟩⟩
  · exact p1.elim
/-! ### comprehensions -/
theorem wipe_at {σ : L2.St} {j : Nat} : ∀ {vs : List Nat}, j ∈ vs → (L2.wipe σ vs)[j]? = if j < σ.length then some none else none
  | [], h => by cases h
  | v :: vs, h => by
    show ((L2.wipe σ vs).set v none)[j]? = _
    by_cases hv : v = j
    · subst hv
      by_cases hl : v < σ.length
      · rw [List.getElem?_set_self (by rw [wipe_length]; exact hl), if_pos hl]
      · rw [List.getElem?_eq_none (by rw [List.length_set, wipe_length]; omega), if_neg hl]
    · rw [List.getElem?_set_ne hv]
      rcases List.mem_cons.mp h with q | q
      · exact absurd q.symm hv
      · exact wipe_at q
theorem wipe_ext {σ σ2 : L2.St} {vs : List Nat} (hl : σ2.length = (L2.wipe σ vs).length) (h : ∀ j, j ∉ vs → σ2[j]? = (L2.wipe σ vs)[j]?) : L2.wipe σ2 vs = L2.wipe σ vs := by
  rw [wipe_length] at hl
  refine List.ext_getElem? fun j => ?_
  by_cases hj : j ∈ vs
  · rw [wipe_at hj, wipe_at hj, hl]
  · rw [wipe_out hj, h j hj]
theorem inner_ok {scope : Scope} (c : Okc S T lv W X) (s : Shared) (H : Hp) (C : Addr) (cl : List (Str × Addr)) (fp : List Addr) : Okc (inner S scope) T lv (fun _ _ _ _ => False) (X.blk s H scope (compEnvC scope cl C X.env) fp) where
  N := c.N
  sc := by
    show relabel scope X.env = relS scope S.sc
    rw [← c.sc]
    rfl
  nd := c.nd
  nm := c.nm
  own := fun x hx => by
    unfold isOwn at hx
    have hx : (match scope.names.lookup x with
      | some .local => true
      | some .cell => true
      | _ => false) = true := hx
    have e : (compEnvC scope cl C X.env).scope = relS scope X.env.scope := rfl
    cases q : scope.names.lookup x with
    | none => rw [q] at hx; cases hx
    | some k =>
      rw [q] at hx
      cases k <;> first | cases hx | skip
      · have z : (relS scope X.env.scope).names.lookup x = some .local := lookup_relS_keep (by decide) q
        exact ⟨.inl (by show (compEnvC scope cl C X.env).scope.names.lookup x = _; rw [e]; exact z), .inr (by show (compEnvC scope cl C X.env).scope.names.lookup x = _; rw [e]; exact z)⟩
      · have z : (relS scope X.env.scope).names.lookup x = some .cell := lookup_relS_keep (by decide) q
        exact ⟨.inr (by show (compEnvC scope cl C X.env).scope.names.lookup x = _; rw [e]; exact z), .inl (by show (scope.names.lookup x == some .cell) = true; rw [q]; rfl)⟩
  calm := c.calm
  room := c.room
  tk := takes0
  fns := fun i x n h => ⟨⟨(c.fns i x n h).1.ex⟩, (c.fns i x n h).2⟩
  cst := c.cst
  blt := c.blt
theorem compL_cons {tg : D → Option Env'} {cc : Env' → R Bool} {xx : Env' → R D} {d : D} {ds ys : List D} (h : compL tg cc xx (d :: ds) = .ok ys) :
    ∃ ρ b, tg d = some ρ ∧ cc ρ = .ok b ∧ ((b = true ∧ ∃ y r, xx ρ = .ok y ∧ compL tg cc xx ds = .ok r ∧ ys = y :: r) ∨ (b = false ∧ compL tg cc xx ds = .ok ys)) := by
  have h : ((R.of (tg d)).bind fun ρ => (cc ρ).bind fun b => if b = true then (xx ρ).bind fun y => (compL tg cc xx ds).bind fun ys => .ok (y :: ys) else compL tg cc xx ds) = .ok ys := h
  cases h1 : tg d with
  | none => rw [h1] at h; cases h
  | some ρ =>
    rw [h1] at h
    have h : ((cc ρ).bind fun b => if b = true then (xx ρ).bind fun y => (compL tg cc xx ds).bind fun ys => .ok (y :: ys) else compL tg cc xx ds) = .ok ys := h
    cases h2 : cc ρ with
    | exc c => rw [h2] at h; cases h
    | bad => rw [h2] at h; cases h
    | ok b =>
      rw [h2] at h
      have h : (if b = true then (xx ρ).bind fun y => (compL tg cc xx ds).bind fun ys => .ok (y :: ys) else compL tg cc xx ds) = .ok ys := h
      refine ⟨ρ, b, rfl, h2, ?_⟩
      cases b with
      | false => exact .inr ⟨rfl, h⟩
      | true =>
        have h : ((xx ρ).bind fun y => (compL tg cc xx ds).bind fun ys => .ok (y :: ys)) = .ok ys := h
        cases h3 : xx ρ with
        | exc c => rw [h3] at h; cases h
        | bad => rw [h3] at h; cases h
        | ok y =>
          rw [h3] at h
          cases h4 : compL tg cc xx ds with
          | exc c => rw [h4] at h; cases h
          | bad => rw [h4] at h; cases h
          | ok r =>
            rw [h4] at h
            cases h
            exact .inl ⟨rfl, y, r, rfl, rfl, rfl⟩
/-- the reading of a comprehension, whatever comes behind it -/
theorem comp_core {K : PySem.W.Frag} {W : WX} {mg : Str → Option Value} {T : Nat → List D → R D} {x : E} {t : Tg} {it : Z.It} {cd : E} {own : List Nat} (hin : ∀ i ∈ tgSlots t, i ∈ own) {σ : L2.St} {H : Hp} {Q : VK} (q : tE K W mg true (dE T (.comp x own t it cd)) σ H Q) :
    tLc (tI K W mg (dIt T it)) (tG K t) (tT K (fun _ _ _ _ => False) mg (dT T cd)) (tE K (fun _ _ _ _ => False) mg false (dE T x)) own σ H Q := by
  obtain ⟨H0, F0, ρ, F, A, rl, p⟩ := q
  refine ⟨H0, F0, ρ, F, A, rl, PostX.imp (k := fun ds => if ds.length < lim then ((compL (fun d => dTg t d (wipeE ρ own)) (dT T cd) (dE T x) ds).calm).bind fun ys => R.ok (D.lst ys) else R.bad) p fun ds q J H1 F1 e1 wk => ?_⟩
  by_cases hlim : ds.length < lim
  · rw [if_pos hlim] at q
    obtain ⟨ys, hys, q⟩ : ∃ ys, compL (fun d => dTg t d (wipeE ρ own)) (dT T cd) (dE T x) ds = .ok ys ∧ GE K true H F Q (.lst ys) := by
      cases h : compL (fun d => dTg t d (wipeE ρ own)) (dT T cd) (dE T x) ds with
      | ok ys => rw [h] at q; exact ⟨ys, rfl, q⟩
      | exc c => rw [h] at q; exact q.elim
      | bad => rw [h] at q; exact q.elim
    intro L hL
    let Pv : Nat → Hp → Prop := fun i Hc => ∃ Fc aD aV, Ex H1 F1 Hc Fc ∧ Hc L = some (.lst aV) ∧ Fc L = none ∧ RepL K Fc aD aV ∧ aD.length ≤ i ∧ ∃ r, compL (fun d => dTg t d (wipeE ρ own)) (dT T cd) (dE T x) (ds.drop i) = .ok r ∧ aD ++ r = ys
    refine ⟨fun i m Hc => m = ds.length - i ∧ i ≤ ds.length ∧ Pv i Hc, ⟨ds.length, rfl, Nat.zero_le _, F1, [], [], Ex.allocH e1.sFH hL, upd_same, e1.sFH.free hL, RepL.nil, Nat.le_refl _, ys, hys, rfl⟩, ?_⟩
    rintro i m Hc ⟨rfl, hi, Fc, aD, aV, ex, hcL, hfL, ra, hla, r, hr, hsum⟩
    have w := wk i Hc Fc ex.sF ex.sFH
    by_cases hlt : i < ds.length
    · obtain ⟨go, yl⟩ := w.1 ds[i] (List.getElem?_eq_getElem hlt)
      refine .inr ⟨go, fun Hn => Pv (i + 1) Hn, fun H' hn => ⟨ds.length - (i + 1), by omega, rfl, hlt, hn⟩, fun z H2 hz => ?_⟩
      obtain ⟨F2, e2, rz⟩ := yl z H2 hz
      rw [List.drop_eq_getElem_cons hlt] at hr
      obtain ⟨ρ1, b, g1, g2, g3⟩ := compL_cons hr
      refine ⟨H0, F0, wipeE ρ own, F2, A, ds[i], ρ1, ((rl.go e1).go (ex.trans e2)).wipe own, rz, g1, fun σ2 rl2 k2 l2 => ⟨wipe_ext l2 fun j hj => k2 j fun hm => hj (hin j hm), ?_⟩⟩
      refine ⟨H0, F0, ρ1, F2, A, rl2, ?_⟩
      rw [g2]
      intro H3 F3 e3
      have e23 := e2.trans e3
      have hL3 : H3 L = some (.lst aV) := e23.sH _ _ hcL
      have hF3 : F3 L = none := e23.new _ _ hfL hcL
      rcases g3 with ⟨rfl, y, r', gy, gr, rfl⟩ | ⟨rfl, gr⟩
      · rw [if_pos rfl]
        refine ⟨H0, F0, ρ1, F3, A, rl2.go e3, ?_⟩
        rw [gy]
        intro v H4 F4 e4 rv
        have e24 := e23.trans e4
        have hL4 : H4 L = some (.lst aV) := e4.sH _ _ hL3
        have hF4 : F4 L = none := e4.new _ _ hF3 hL3
        refine ⟨aV, hL4, by rw [← ra.length]; exact Nat.lt_of_le_of_lt hla (Nat.lt_trans hlt hlim), F4, aD ++ [y], aV ++ [v], ?_, upd_same, hF4, RepL.append (ra.mono e24.sF) (RepL.cons rv RepL.nil), by rw [List.length_append]; exact Nat.succ_le_succ hla, r', gr, by rw [List.append_assoc]; exact hsum⟩
        have full := ex.trans e24
        refine ⟨fun b o hb => ?_, full.sF, fun b o hb => ?_, full.new⟩
        · rw [upd_ne (ne_of_none hb hL)]; exact full.sH _ _ hb
        · have nb : b ≠ L := fun z => by rw [z, hF4] at hb; cases hb
          rw [upd_ne nb]; exact full.sFH _ _ hb
      · rw [if_neg (by decide)]
        exact ⟨F3, aD, aV, ex.trans e23, hL3, hF3, ra.mono e23.sF, Nat.le_succ_of_le hla, r, gr, hsum⟩
    · have e0 : i = ds.length := by omega
      refine .inl ⟨w.2 e0, ?_⟩
      rw [List.drop_of_length_le (by omega)] at hr
      cases hr
      rw [List.append_nil] at hsum
      subst hsum
      exact q (.ref L) Hc Fc (e1.trans ex) (by simp only [if_true]; exact ⟨L, aV, rfl, e1.sH.free hL, hcL, hfL, ra⟩)
  · rw [if_neg hlim] at q; exact q.elim
end
end Z
/-! The theorem about expressions. -/
namespace Z
open PySem PySem.Spec PyProof.Rows L2
section
variable {T : Nat → List D → R D} {lv : Nat}
/-- what is known at a depth -/
def Snd (T : Nat → List D → R D) (lv : Nat) (n : Nat) : Prop := ∀ (S : SC) (W : WX) (X : Cx), Okc S T lv W X →
  (∀ e ir, cE n S e = some ir → SE X T W e ir) ∧ (∀ e ir, cT n S e = some ir → ST X T W e ir) ∧ ∀ tg e it, cIt n S tg e = some it → SI X T W tg e it
variable {S : SC} {W : WX} {X : Cx} {n : Nat}
theorem ses_ok (sn : Snd T lv n) (c : Okc S T lv W X) : ∀ {es : List Expr} {xs : Es}, cEs (cE n) S es = some xs → SEs X T W es xs ∧ esLen xs = es.length ∧ ∀ e ∈ es, isStar e = false
  | [], xs, h => by
    have h : some Es.nil = some xs := h
    cases h
    exact ⟨ses_nil, rfl, fun e he => by cases he⟩
  | e :: es, xs, h => by
    simp only [cEs] at h
    split at h
    · cases h
    · rename_i hs
      have hs : isStar e = false := by simpa using hs
      rw [Option.bind_eq_some_iff] at h
      obtain ⟨a, ha, h⟩ := h
      rw [Option.map_eq_some_iff] at h
      obtain ⟨b, hb, rfl⟩ := h
      obtain ⟨h1, h2, h3⟩ := ses_ok sn c hb
      exact ⟨ses_cons hs ((sn S W X c).1 e a ha) h1, by show esLen b + 1 = _; rw [h2]; rfl, fun e' he => by
        rcases List.mem_cons.mp he with q | q
        · rw [q]; exact hs
        · exact h3 e' q⟩
theorem sb_ok (sn : Snd T lv n) (c : Okc S T lv W X) {e : Expr} {b : Bo} (h : cBo (cE n) S e = some b) : SB X T W e b := by
  have ev : ∀ {e : Expr} {b : Bo}, (cE n S e).map Bo.ev = some b → SB X T W e b := fun {e b} h => by
    rw [Option.map_eq_some_iff] at h
    obtain ⟨x, hx, rfl⟩ := h
    exact tB.of ((sn S W X c).1 e x hx).weak
  cases e with
  | Name x p =>
    simp only [cBo] at h
    split at h
    · rename_i hv
      rw [Option.map_eq_some_iff] at h
      obtain ⟨i, hi, rfl⟩ := h
      exact sb_own c hv hi
    · exact ev h
  | _ => exact ev h
theorem sbs_ok (sn : Snd T lv n) (c : Okc S T lv W X) : ∀ {es : List Expr} {xs : Bs}, cBs (cE n) S es = some xs → SBs X T W es xs ∧ ∀ e ∈ es, isStar e = false
  | [], xs, h => by
    have h : some Bs.nil = some xs := h
    cases h
    exact ⟨sbs_nil, fun e he => by cases he⟩
  | e :: es, xs, h => by
    simp only [cBs] at h
    split at h
    · cases h
    · rename_i hs
      have hs : isStar e = false := by simpa using hs
      rw [Option.bind_eq_some_iff] at h
      obtain ⟨a, ha, h⟩ := h
      rw [Option.map_eq_some_iff] at h
      obtain ⟨b, hb, rfl⟩ := h
      obtain ⟨h1, h3⟩ := sbs_ok sn c hb
      exact ⟨sbs_cons hs (sb_ok sn c ha) h1, fun e' he => by
        rcases List.mem_cons.mp he with q | q
        · rw [q]; exact hs
        · exact h3 e' q⟩
theorem so_ok (sn : Snd T lv n) (c : Okc S T lv W X) {e : Option Expr} {b : Bd} (h : cBound (cE n) S e = some b) : SO X T W e b := by
  cases e with
  | none =>
    have h : some Bd.no = some b := h
    cases h
    exact so_none
  | some e =>
    have h : (cE n S e).map Bd.to = some b := h
    rw [Option.map_eq_some_iff] at h
    obtain ⟨x, hx, rfl⟩ := h
    exact so_some ((sn S W X c).1 e x hx)
theorem and_ok (sn : Snd T lv n) (c : Okc S T lv W X) {pos : Pos} : ∀ {es : List Expr} {x : E}, cAnd (cE n) S es = some x → SE X T W (.BoolOp .And es pos) x
  | [], x, h => by cases h
  | [e], x, h => pe_one ((sn S W X c).1 e x h)
  | e :: e' :: es, x, h => by
    have h : (cE n S e).bind (fun a => (cAnd (cE n) S (e' :: es)).map fun b => .and_ a b) = some x := h
    rw [Option.bind_eq_some_iff] at h
    obtain ⟨a, ha, h⟩ := h
    rw [Option.map_eq_some_iff] at h
    obtain ⟨b, hb, rfl⟩ := h
    exact se_and ((sn S W X c).1 e a ha) (and_ok sn c hb)
theorem or_ok (sn : Snd T lv n) (c : Okc S T lv W X) {pos : Pos} : ∀ {es : List Expr} {x : E}, cOr (cE n) S es = some x → SE X T W (.BoolOp .Or es pos) x
  | [], x, h => by cases h
  | [e], x, h => pe_one ((sn S W X c).1 e x h)
  | e :: e' :: es, x, h => by
    have h : (cE n S e).bind (fun a => (cOr (cE n) S (e' :: es)).map fun b => .or_ a b) = some x := h
    rw [Option.bind_eq_some_iff] at h
    obtain ⟨a, ha, h⟩ := h
    rw [Option.map_eq_some_iff] at h
    obtain ⟨b, hb, rfl⟩ := h
    exact se_or ((sn S W X c).1 e a ha) (or_ok sn c hb)
theorem andT_ok (sn : Snd T lv n) (c : Okc S T lv W X) {pos : Pos} : ∀ {es : List Expr} {x : E}, cAnd (cT n) S es = some x → SW X T W (.BoolOp .And es pos) x
  | [], x, h => by cases h
  | [e], x, h => sw_and1 ((sn S W X c).2.1 e x h)
  | e :: e' :: es, x, h => by
    have h : (cT n S e).bind (fun a => (cAnd (cT n) S (e' :: es)).map fun b => .and_ a b) = some x := h
    rw [Option.bind_eq_some_iff] at h
    obtain ⟨a, ha, h⟩ := h
    rw [Option.map_eq_some_iff] at h
    obtain ⟨b, hb, rfl⟩ := h
    exact sw_and ((sn S W X c).2.1 e a ha) (andT_ok sn c hb)
theorem orT_ok (sn : Snd T lv n) (c : Okc S T lv W X) {pos : Pos} : ∀ {es : List Expr} {x : E}, cOr (cT n) S es = some x → SW X T W (.BoolOp .Or es pos) x
  | [], x, h => by cases h
  | [e], x, h => sw_or1 ((sn S W X c).2.1 e x h)
  | e :: e' :: es, x, h => by
    have h : (cT n S e).bind (fun a => (cOr (cT n) S (e' :: es)).map fun b => .or_ a b) = some x := h
    rw [Option.bind_eq_some_iff] at h
    obtain ⟨a, ha, h⟩ := h
    rw [Option.map_eq_some_iff] at h
    obtain ⟨b, hb, rfl⟩ := h
    exact sw_or ((sn S W X c).2.1 e a ha) (orT_ok sn c hb)
theorem name_ok (c : Okc S T lv W X) {x : Str} {pos : Pos} {ir : E} (h : cName S x = some ir) : SE X T W (.Name x pos) ir := by
  unfold cName at h
  split at h
  · rename_i hv
    rw [Option.map_eq_some_iff] at h
    obtain ⟨i, hi, rfl⟩ := h
    exact se_var c hv hi
  · split at h
    · rename_i hg
      rw [Option.map_eq_some_iff] at h
      obtain ⟨d, hd, rfl⟩ := h
      exact se_glb c hg hd
    · cases h
/-- what a comprehension's parts ask -/
structure CompOk (S : SC) (n : Nat) (x : Expr) (tg iter : Expr) (ifs : List Expr) (scope : Scope) (y : E) (own : List Nat) (t : Tg) (it : Z.It) (z : E) : Prop where
  blk : blkC S.N S.sc scope (ownOf S.N scope.names) = true
  eo : own = (ownOf S.N scope.names).map (·.2)
  htg : cTgF n (inner S scope) tg = some t
  hit : cIt n S tg iter = some it
  hx : cE n (inner S scope) x = some y
  sub : ∀ i ∈ tgSlots t, i ∈ own
  hifs : (ifs = [] ∧ z = .cst (.bl true)) ∨ ∃ c, ifs = [c] ∧ cT n (inner S scope) c = some z
theorem compOk_of {x tg iter : Expr} {ifs : List Expr} {k : Int} {scope : Scope} {pos : Pos} {ir : E} (h : cE (n + 1) S (.ListComp x [⟨tg, iter, ifs, k⟩] scope pos) = some ir) : k = 0 ∧ ∃ y own t it z, ir = .comp y own t it z ∧ CompOk S n x tg iter ifs scope y own t it z := by
  simp only [cE] at h
  split at h
  · rename_i hb
    obtain ⟨hk, hb⟩ := hb
    refine ⟨hk, ?_⟩
    rw [Option.bind_eq_some_iff] at h
    obtain ⟨t, ht, h⟩ := h
    rw [Option.bind_eq_some_iff] at h
    obtain ⟨it, hit, h⟩ := h
    rw [Option.bind_eq_some_iff] at h
    obtain ⟨y, hy, h⟩ := h
    split at h
    · rename_i hs
      have hs : ∀ i ∈ tgSlots t, i ∈ (ownOf S.N scope.names).map (·.2) := fun i hi => by
        have := List.all_eq_true.mp hs i hi
        exact List.contains_iff_mem.mp this
      split at h
      · cases h
        exact ⟨y, _, t, it, _, rfl, hb, rfl, ht, hit, hy, hs, .inl ⟨rfl, rfl⟩⟩
      · rw [Option.map_eq_some_iff] at h
        obtain ⟨z, hz, rfl⟩ := h
        exact ⟨y, _, t, it, z, rfl, hb, rfl, ht, hit, hy, hs, .inr ⟨_, rfl, hz⟩⟩
      · cases h
    · cases h
  · cases h
theorem pts_ok (sn : Snd T lv n) {S' : SC} {W' : WX} {X' : Cx} (c : Okc S' T lv W' X') {ifs : List Expr} {z : E} (h : (ifs = [] ∧ z = .cst (.bl true)) ∨ ∃ c, ifs = [c] ∧ cT n S' c = some z) : PTs X' ifs (tT X'.K W' X'.mg (dT T z)) := by
  rcases h with ⟨rfl, rfl⟩ | ⟨e, rfl, he⟩
  · refine PTs.imp pts_nil fun σ H Q q => ?_
    obtain ⟨H0, F0, ρ, F, A, rl, p⟩ := q
    exact p H F (Ex.refl rl.sFH)
  · exact pts_one ((sn S' W' X' c).2.1 e z he)
theorem notSetIter {e : Expr} {env : Env} (h : isSet e = false) : ∀ x, foldedSetIterable e env x = pure x := by cases e <;> first | (intro _; rfl) | cases h
theorem cIt_notSet {tg e : Expr} {it : Z.It} (h : cIt n S tg e = some it) : isSet e = false := by
  cases e <;> first | rfl | (cases n <;> cases h)
theorem se_comp (sn : Snd T lv n) (c : Okc S T lv W X) {x tg iter : Expr} {ifs : List Expr} {scope : Scope} {pos : Pos} {y : E} {own : List Nat} {t : Tg} {it : Z.It} {z : E} (k : CompOk S n x tg iter ifs scope y own t it z) :
    SE X T W (.ListComp x [⟨tg, iter, ifs, 0⟩] scope pos) (.comp y own t it z) := by
  have i := fun s H C cl fp => inner_ok (scope := scope) c s H C cl fp
  have eo := k.eo
  subst eo
  refine PE.imp (pe_lc (own := ownOf S.N scope.names) c.calm c.nd ((sn S W X c).2.2 tg iter it k.hit) (by rw [c.N, c.sc]; exact blkOk_by k.blk)
    (fun s H C cl fp => cTgF_ok (i s H C cl fp) n tg t k.htg) (fun s H C cl fp => pts_ok sn (i s H C cl fp) k.hifs)
    (fun s H C cl fp => ((sn _ _ _ (i s H C cl fp)).1 x y k.hx).weak) (notSetIter (cIt_notSet k.hit))) fun σ H Q q => comp_core k.sub q
theorem isTrue_plain' {e : Expr} {env : Env} (h : match e with | .Name .. => True | .Call .. => True | .Subscript .. => True | .BinOp .. => True | .ListComp .. => True | _ => False) :
    ∀ whole, PySem.isTrue e env whole = (do let v ← whole; standAt e.pos; holding [v] (truthy v)) := by
  cases e <;> first | exact h.elim | (intro _; rfl)
/-- of these forms a test is the truth of the value -/
def plainE : E → Bool
  | .and_ _ _ => false
  | .or_ _ _ => false
  | .not_ _ => false
  | _ => true
theorem plain_tru {x : E} (h : plainE x = true) (ρ : Env') : dT T x ρ = (dE T x ρ).bind fun d => R.of (truD d) := by
  cases x <;> first | rfl | cases h
theorem tru_of {e : Expr} {ir : E} (he : match e with | .Name .. => True | .Call .. => True | .Subscript .. => True | .BinOp .. => True | .ListComp .. => True | _ => False) (h : cE n S e = some ir) (ρ : Env') : dT T ir ρ = (dE T ir ρ).bind fun d => R.of (truD d) := by
  refine plain_tru ?_ ρ
  cases n with
  | zero => cases h
  | succ n =>
    cases e with
    | Name x p =>
      have h : cName S x = some ir := h
      unfold cName at h
      split at h
      · rw [Option.map_eq_some_iff] at h
        obtain ⟨i, hi, rfl⟩ := h
        rfl
      · split at h
        · rw [Option.map_eq_some_iff] at h
          obtain ⟨i, hi, rfl⟩ := h
          rfl
        · cases h
    | BinOp a op b p =>
      simp only [cE] at h
      rw [Option.bind_eq_some_iff] at h
      obtain ⟨o, ho, h⟩ := h
      rw [Option.bind_eq_some_iff] at h
      obtain ⟨x, hx, h⟩ := h
      rw [Option.map_eq_some_iff] at h
      obtain ⟨y, hy, rfl⟩ := h
      rfl
    | Subscript a i p =>
      simp only [cE] at h
      split at h <;> first
        | cases ‹Expr.Subscript _ _ _ = _›
        | skip
      all_goals first
        | (simp only [Option.bind_eq_some_iff, Option.map_eq_some_iff] at h; obtain ⟨_, _, _, _, _, _, rfl⟩ := h; rfl)
        | (split at h
           · simp only [Option.bind_eq_some_iff, Option.map_eq_some_iff] at h; obtain ⟨_, _, _, _, rfl⟩ := h; rfl
           · cases h)
        | cases h
    | Call f args kws p =>
      simp only [cE] at h
      split at h <;> first
        | cases ‹Expr.Call _ _ _ _ = _›
        | skip
      all_goals first
        | cases h
        | skip
      all_goals (repeat' split at h) <;> first
        | cases h
        | (simp only [Option.bind_eq_some_iff, Option.map_eq_some_iff] at h; obtain ⟨_, _, rfl⟩ := h; rfl)
        | (simp only [Option.bind_eq_some_iff, Option.map_eq_some_iff] at h; obtain ⟨_, _, _, _, rfl⟩ := h; rfl)
        | (simp only [Option.bind_eq_some_iff] at h; obtain ⟨_, _, h⟩ := h; first | (cases h; done) | (rw [Option.map_eq_some_iff] at h; obtain ⟨_, _, rfl⟩ := h; rfl) | (split at h <;> first | (cases h; done) | (rw [Option.map_eq_some_iff] at h; obtain ⟨_, _, rfl⟩ := h; rfl)))
    | ListComp x gens scope p =>
      match gens, h with
      | [⟨tg, iter, ifs, k⟩], h =>
        obtain ⟨_, y, own, t, it, z, rfl, ok⟩ := compOk_of h
        rfl
      | [], h => simp [cE] at h
      | _ :: _ :: _, h => simp [cE] at h
    | _ => exact he.elim
theorem snd : ∀ n, Snd T lv n
  | 0 => fun S W X c => ⟨fun _ _ h => (by cases h), fun _ _ h => (by cases h), fun _ _ _ h => (by cases h)⟩
  | n + 1 => fun S W X c => by
    have sn := snd n
    have ih := sn S W X c
    have hu : X.A.units + 64 < cLine := c.room.units
    -- expressions
    have hE : ∀ e ir, cE (n + 1) S e = some ir → SE X T W e ir := fun e ir h => by
      cases e with
      | Constant v k p =>
        cases v with
        | int i => cases h; exact se_cst pe_int fun _ => Rep.int_iff.mpr rfl
        | bool i => cases h; exact se_cst pe_bl fun _ => Rep.bl_iff.mpr rfl
        | none => cases h; exact se_cst pe_non fun _ => Rep.non_iff.mpr rfl
        | str i => cases h; exact se_cst pe_str fun _ => Rep.str_iff.mpr rfl
        | _ => cases h
      | Name x p => exact name_ok c h
      | BinOp a op b p =>
        simp only [cE] at h
        rw [Option.bind_eq_some_iff] at h
        obtain ⟨o, ho, h⟩ := h
        rw [Option.bind_eq_some_iff] at h
        obtain ⟨x, hx, h⟩ := h
        rw [Option.map_eq_some_iff] at h
        obtain ⟨y, hy, rfl⟩ := h
        rw [binOf_eq ho]
        exact se_bin (ih.1 a x hx) (ih.1 b y hy)
      | UnaryOp op a p =>
        cases op with
        | USub =>
          simp only [cE] at h
          rw [Option.map_eq_some_iff] at h
          obtain ⟨x, hx, rfl⟩ := h
          exact se_neg (ih.1 a x hx)
        | Not =>
          simp only [cE] at h
          rw [Option.map_eq_some_iff] at h
          obtain ⟨x, hx, rfl⟩ := h
          exact se_not (ih.1 a x hx)
        | _ => cases h
      | BoolOp op vs p =>
        cases op with
        | And => exact and_ok sn c (show cAnd (cE n) S vs = some ir from h)
        | Or => exact or_ok sn c (show cOr (cE n) S vs = some ir from h)
      | IfExp q a b p =>
        simp only [cE] at h
        rw [Option.bind_eq_some_iff] at h
        obtain ⟨z, hz, h⟩ := h
        rw [Option.bind_eq_some_iff] at h
        obtain ⟨x, hx, h⟩ := h
        rw [Option.map_eq_some_iff] at h
        obtain ⟨y, hy, rfl⟩ := h
        exact se_ite (ih.2.1 q z hz) (ih.1 a x hx) (ih.1 b y hy)
      | Compare a ops bs p =>
        match ops, bs, h with
        | [op], [b], h =>
          simp only [cE] at h
          split at h
          · cases h
          · rename_i hs
            have hs : isSet b = false := by simpa using hs
            rw [Option.bind_eq_some_iff] at h
            obtain ⟨x, hx, h⟩ := h
            rw [Option.map_eq_some_iff] at h
            obtain ⟨y, hy, rfl⟩ := h
            rw [cmpOf_eq op]
            have r := se_cmp (o := cmpOf op) (pos := p) hu (notSet hs) (sb_ok sn c hx) (sb_ok sn c hy)
            rw [← cmpOf_eq op] at r ⊢
            exact r
        | [op, op'], [b, q], h =>
          simp only [cE] at h
          split at h
          · cases h
          · rename_i hs
            have hs : isSet q = false := by simpa using hs
            rw [Option.bind_eq_some_iff] at h
            obtain ⟨x, hx, h⟩ := h
            rw [Option.bind_eq_some_iff] at h
            obtain ⟨y, hy, h⟩ := h
            rw [Option.map_eq_some_iff] at h
            obtain ⟨z, hz, rfl⟩ := h
            have r := se_chn (o := cmpOf op) (p := cmpOf op') (pos := p) hu hs (ih.1 a x hx) (ih.1 b y hy) (ih.1 q z hz)
            rw [← cmpOf_eq op, ← cmpOf_eq op'] at r
            exact r
      | Tuple es k p =>
        simp only [cE] at h
        rw [Option.map_eq_some_iff] at h
        obtain ⟨x, hx, rfl⟩ := h
        exact se_tup (ses_ok sn c hx).1
      | List es p =>
        simp only [cE] at h
        rw [Option.map_eq_some_iff] at h
        obtain ⟨x, hx, rfl⟩ := h
        exact se_lst (ses_ok sn c hx).1
      | Call f args kws p =>
        cases f with
        | Name f fp =>
          cases kws with
          | nil =>
            simp only [cE] at h
            split at h
            · rename_i hg
              split at h
              · rename_i i k hf
                split at h
                · rename_i hl
                  rw [Option.map_eq_some_iff] at h
                  obtain ⟨x, hx, rfl⟩ := h
                  obtain ⟨h1, h2, h3⟩ := ses_ok sn c hx
                  obtain ⟨j, rfl, hj⟩ := fnIx_get hf
                  rw [Nat.zero_add]
                  cases args with
                  | nil => exact absurd rfl hl.2
                  | cons e es => exact se_call c hg hj h3 (h2.trans hl.1) h1
                · cases h
              · split at h
                · rename_i hi
                  subst hi
                  split at h
                  · split at h
                    · cases h
                    · rename_i hs
                      split at h
                      · rename_i ht
                        rw [Option.bind_eq_some_iff] at h
                        obtain ⟨t, htt, h⟩ := h
                        rw [Option.map_eq_some_iff] at h
                        obtain ⟨x, hx, rfl⟩ := h
                        have e := tyOf_eq htt
                        subst e
                        exact se_isi c hg ht (by simpa using hs) (ih.1 _ x hx)
                      · cases h
                  · cases h
                · split at h
                  · rename_i b hb
                    split at h
                    · rename_i hne
                      rw [Option.map_eq_some_iff] at h
                      obtain ⟨x, hx, rfl⟩ := h
                      have e := bltOf_eq hb
                      subst e
                      obtain ⟨h1, h3⟩ := sbs_ok sn c hx
                      cases args with
                      | nil => exact absurd rfl hne
                      | cons e es => exact se_blt c hg h3 h1
                    · cases h
                  · rw [Option.bind_eq_some_iff] at h
                    obtain ⟨b, hb, h⟩ := h
                    split at h
                    · rename_i hne
                      rw [Option.map_eq_some_iff] at h
                      obtain ⟨x, hx, rfl⟩ := h
                      have e := mkbOf_eq hb
                      subst e
                      obtain ⟨h1, h2, h3⟩ := ses_ok sn c hx
                      cases args with
                      | nil => exact absurd rfl hne
                      | cons e es => exact se_mkb c hg h3 h1
                    · cases h
            · cases h
          | cons _ _ => cases h
        | _ => cases h
      | Subscript a i p =>
        have plain : ∀ {i : Expr}, (if isPlainIx i = true then (cBo (cE n) S a).bind fun x => (cE n S i).map fun y => E.ix x y else none) = some ir → SE X T W (.Subscript a i p) ir := fun {i} h => by
          split at h
          · rename_i hp
            rw [Option.bind_eq_some_iff] at h
            obtain ⟨x, hx, h⟩ := h
            rw [Option.map_eq_some_iff] at h
            obtain ⟨y, hy, rfl⟩ := h
            exact se_ix hp (sb_ok sn c hx) (ih.1 i y hy)
          · cases h
        cases i with
        | Slice lo hi st p2 =>
          cases st with
          | none =>
            simp only [cE] at h
            rw [Option.bind_eq_some_iff] at h
            obtain ⟨x, hx, h⟩ := h
            rw [Option.bind_eq_some_iff] at h
            obtain ⟨l, hl, h⟩ := h
            rw [Option.map_eq_some_iff] at h
            obtain ⟨u, hu', rfl⟩ := h
            exact se_sl (ih.1 a x hx) (so_ok sn c hl) (so_ok sn c hu')
          | some st =>
            simp only [cE] at h
            split at h
            · rename_i hr
              rw [Option.map_eq_some_iff] at h
              obtain ⟨x, hx, rfl⟩ := h
              obtain ⟨rfl, rfl, k, p1, p3, rfl⟩ := isRev_eq hr
              exact se_rev (ih.1 a x hx)
            · cases h
        | _ => exact plain h
      | ListComp x gens scope p =>
        match gens, h with
        | [⟨tg, iter, ifs, k⟩], h =>
          obtain ⟨rfl, y, own, t, it, z, rfl, ok⟩ := compOk_of h
          exact se_comp sn c ok
        | [], h => simp [cE] at h
        | _ :: _ :: _, h => simp [cE] at h
      | _ => cases h
    refine ⟨hE, fun e ir h => ?_, fun tg e it h => ?_⟩
    · -- tests
      cases e with
      | BoolOp op vs p =>
        cases op with
        | And => exact (andT_ok sn c (show cAnd (cT n) S vs = some ir from h)).pt
        | Or => exact (orT_ok sn c (show cOr (cT n) S vs = some ir from h)).pt
      | UnaryOp op a p =>
        cases op with
        | Not =>
          simp only [cT] at h
          rw [Option.map_eq_some_iff] at h
          obtain ⟨x, hx, rfl⟩ := h
          exact st_not (ih.2.1 a x hx)
        | _ => cases h
      | Compare a ops bs p =>
        have h : cE n S (.Compare a ops bs p) = some ir := h
        cases n with
        | zero => cases h
        | succ m =>
        have sm : Snd T lv m := snd m
        have im := sm S W X c
        match ops, bs, h with
        | [op], [b], h =>
          simp only [cE] at h
          split at h
          · cases h
          · rename_i hs
            have hs : isSet b = false := by simpa using hs
            rw [Option.bind_eq_some_iff] at h
            obtain ⟨x, hx, h⟩ := h
            rw [Option.map_eq_some_iff] at h
            obtain ⟨y, hy, rfl⟩ := h
            have r := st_cmp (o := cmpOf op) (pos := p) hu (notSet hs) (sb_ok sm c hx) (sb_ok sm c hy)
            rw [← cmpOf_eq op] at r
            exact r
        | [op, op'], [b, q], h =>
          simp only [cE] at h
          split at h
          · cases h
          · rename_i hs
            have hs : isSet q = false := by simpa using hs
            rw [Option.bind_eq_some_iff] at h
            obtain ⟨x, hx, h⟩ := h
            rw [Option.bind_eq_some_iff] at h
            obtain ⟨y, hy, h⟩ := h
            rw [Option.map_eq_some_iff] at h
            obtain ⟨z, hz, rfl⟩ := h
            have r := st_chn (o := cmpOf op) (p := cmpOf op') (pos := p) hu hs (im.1 a x hx) (im.1 b y hy) (im.1 q z hz)
            rw [← cmpOf_eq op, ← cmpOf_eq op'] at r
            exact r
      | Name x p => exact st_tru (fun _ => rfl) (tru_of (n := n) (S := S) (e := .Name x p) trivial h) (ih.1 _ ir h)
      | Call a b d p => exact st_tru (fun _ => rfl) (tru_of (n := n) (S := S) (e := .Call a b d p) trivial h) (ih.1 _ ir h)
      | Subscript a b p => exact st_tru (fun _ => rfl) (tru_of (n := n) (S := S) (e := .Subscript a b p) trivial h) (ih.1 _ ir h)
      | BinOp a b d p => exact st_tru (fun _ => rfl) (tru_of (n := n) (S := S) (e := .BinOp a b d p) trivial h) (ih.1 _ ir h)
      | ListComp a b d p => exact st_tru (fun _ => rfl) (tru_of (n := n) (S := S) (e := .ListComp a b d p) trivial h) (ih.1 _ ir h)
      | _ => cases h
    · -- what a loop goes over
      have sq : ∀ {e : Expr} {it : Z.It}, (cE n S e).map Z.It.seq = some it → SI X T W tg e it := fun {e it} h => by
        rw [Option.map_eq_some_iff] at h
        obtain ⟨x, hx, rfl⟩ := h
        exact si_seq (ih.1 e x hx)
      cases e with
      | Set a b d => cases h
      | Call f args kws p =>
        cases f with
        | Name f fp =>
          cases kws with
          | nil =>
            simp only [cIt] at h
            split at h
            · rename_i hg
              split at h
              · exact sq h
              · split at h
                · rename_i hf
                  subst hf
                  split at h
                  · split at h
                    · cases h
                    · rename_i hs
                      rw [Option.map_eq_some_iff] at h
                      obtain ⟨x, hx, rfl⟩ := h
                      exact si_rng1 c hg (by simpa using hs) (ih.1 _ x hx)
                  · split at h
                    · cases h
                    · rename_i hs
                      split at h
                      · cases h
                      · rename_i hs2
                        rw [Option.bind_eq_some_iff] at h
                        obtain ⟨x, hx, h⟩ := h
                        rw [Option.map_eq_some_iff] at h
                        obtain ⟨y, hy, rfl⟩ := h
                        exact si_rng2 c hg (by simpa using hs) (by simpa using hs2) (ih.1 _ x hx) (ih.1 _ y hy)
                  · cases h
                · split at h
                  · rename_i hf
                    subst hf
                    split at h
                    · split at h
                      · rename_i ht
                        split at h
                        · cases h
                        · rename_i hs
                          rw [Option.map_eq_some_iff] at h
                          obtain ⟨x, hx, rfl⟩ := h
                          cases tg <;> first | (cases ht; done) | exact si_enm c hg (by simpa using hs) (ih.1 _ x hx)
                      · cases h
                    · cases h
                  · split at h
                    · rename_i hf
                      subst hf
                      split at h
                      · split at h
                        · rename_i ht
                          split at h
                          · cases h
                          · rename_i hs
                            split at h
                            · cases h
                            · rename_i hs2
                              rw [Option.bind_eq_some_iff] at h
                              obtain ⟨x, hx, h⟩ := h
                              rw [Option.map_eq_some_iff] at h
                              obtain ⟨y, hy, rfl⟩ := h
                              cases tg <;> first | (cases ht; done) | exact si_zip c hg (by simpa using hs) (by simpa using hs2) (ih.1 _ x hx) (ih.1 _ y hy)
                        · cases h
                      · cases h
                    · exact sq h
            · cases h
          | cons _ _ => exact sq h
        | _ => exact sq h
      | _ => exact sq h
end
end Z
/-! Statements: their terms, what these do, their readings. -/
namespace Z
open PySem PySem.Spec PyProof.Rows L2

mutual
inductive Sm where
  | set (fz : List Nat) (i : Nat) (own : Bool) (e : E)
  | unp (fz : List Nat) (t : Tg) (e : E)
  | par (fz : List Nat) (i j : Nat) (es : Es)
  | par3 (fz : List Nat) (i j k : Nat) (es : Es)
  | aug (fz : List Nat) (i : Nat) (o : BOp) (e : E)
  | app (fz : List Nat) (i : Nat) (e : E)
  | ext (fz : List Nat) (i : Nat) (e : E)
  | ret (fz : List Nat) (e : E)
  | retN
  | ite (fz : List Nat) (c : E) (a b : Sms)
  | fo (fz : List Nat) (t : Tg) (it : It) (b : Sms)
  | wh (fz : List Nat) (c : E) (b : Sms)
  | pass
  | brk
  | cnt
  | exp (fz : List Nat) (e : E)
  | rai (c : Str)
  | tr (b : Sms) (h : Hs)
inductive Sms where
  | nil
  | cons (s : Sm) (r : Sms)
/-- the clauses of a try: a class, and what is handed back (or nothing is done) -/
inductive Hs where
  | nil
  | ret (c : Str) (d : D) (r : Hs)
  | pass (c : Str) (r : Hs)
end
/-- how a statement ends -/
inductive Fl where
  | nx (ρ : Env')
  | rt (d : D)
  | bk (ρ : Env')
  | ct (ρ : Env')
  | exc (c : Str) (ρ : Env')
  | bad
/-- a name's own list or dict is shared from here on -/
def frz1 (ρ : Env') (i : Nat) : Env' := match ρ[i]? with
  | some (.ow d) => ρ.set i (.im d)
  | _ => ρ
def frzL (ρ : Env') : List Nat → Env'
  | [] => ρ
  | i :: r => frzL (frz1 ρ i) r
def R.fl {α : Type} (r : R α) (ρ : Env') (k : α → Fl) : Fl := match r with
  | .ok a => k a
  | .exc c => .exc c ρ
  | .bad => .bad
def Fl.of (o : Option Env') : Fl := match o with
  | some ρ => .nx ρ
  | none => .bad
def forL (tg : D → Env' → Option Env') (b : Env' → Fl) : List D → Env' → Fl
  | [], ρ => .nx ρ
  | d :: ds, ρ => match tg d ρ with
    | none => .bad
    | some ρ1 => match b ρ1 with
      | .nx ρ2 => forL tg b ds ρ2
      | .ct ρ2 => forL tg b ds ρ2
      | .bk ρ2 => .nx ρ2
      | f => f
def whL (c : Env' → R Bool) (fz : List Nat) (b : Env' → Fl) : Nat → Env' → Fl
  | 0, _ => .bad
  | n + 1, ρ => (c (frzL ρ fz)).fl (frzL ρ fz) fun t => if t = true then (match b (frzL ρ fz) with
      | .nx ρ2 => whL c fz b n ρ2
      | .ct ρ2 => whL c fz b n ρ2
      | .bk ρ2 => .nx ρ2
      | f => f) else .nx (frzL ρ fz)
def fuel : Nat := 1000000
def augD : BOp → D → D → Option D
  | .add, .int i, .int j => some (.int (i + j))
  | .sub, .int i, .int j => some (.int (i - j))
  | .mul, .int i, .int j => if (-(2 ^ 64) < i ∧ i < 2 ^ 64) ∨ (-(2 ^ 64) < j ∧ j < 2 ^ 64) then some (.int (i * j)) else none
  | .div, .int i, .int j => if 0 < j ∧ j < 1073741824 then some (.int (i / j)) else none
  | .mod, .int i, .int j => if 0 < j then some (.int (i % j)) else none
  | _, _, _ => none
def ownList (d : D) (own : Bool) : Slot := match d, own with
  | .lst xs, true => .ow (.lst xs)
  | .dic ks vs, true => .ow (.dic ks vs)
  | d, _ => .im d
section
variable (T : Nat → List D → R D) (sub : Str → Str → Option Bool)
/-- the clause that takes an error -/
def dHs (c : Str) (ρ : Env') : Hs → Fl
  | .nil => .exc c ρ
  | .ret y d r => match sub c y with
    | some true => .rt d
    | some false => dHs c ρ r
    | none => .bad
  | .pass y r => match sub c y with
    | some true => .nx ρ
    | some false => dHs c ρ r
    | none => .bad
mutual
def dS : Sm → Env' → Fl
  | .set fz i own e, ρ => (dE T e (frzL ρ fz)).fl (frzL ρ fz) fun d => .nx ((frzL ρ fz).set i (ownList d (own && isFr e)))
  | .unp fz t e, ρ => (dE T e (frzL ρ fz)).fl (frzL ρ fz) fun d => Fl.of (dTg t d (frzL ρ fz))
  | .par fz i j es, ρ => (dEs T es (frzL ρ fz)).fl (frzL ρ fz) fun ds => match ds with
    | [d, e] => .nx (((frzL ρ fz).set i (.im d)).set j (.im e))
    | _ => .bad
  | .par3 fz i j k es, ρ => (dEs T es (frzL ρ fz)).fl (frzL ρ fz) fun ds => match ds with
    | [d, e, f] => .nx ((((frzL ρ fz).set i (.im d)).set j (.im e)).set k (.im f))
    | _ => .bad
  | .aug fz i o e, ρ => (look (frzL ρ fz) i).fl (frzL ρ fz) fun x => (dE T e (frzL ρ fz)).fl (frzL ρ fz) fun y => match augD o x y with
    | some z => .nx ((frzL ρ fz).set i (.im z))
    | none => .bad
  | .app fz i e, ρ => match (frzL ρ fz)[i]? with
    | some (.ow (.lst ds)) => (dE T e (frzL ρ fz)).fl (frzL ρ fz) fun d => if ds.length < lim then .nx ((frzL ρ fz).set i (.ow (.lst (ds ++ [d])))) else .bad
    | _ => .bad
  | .ext fz i e, ρ => match (frzL ρ fz)[i]? with
    | some (.ow (.lst ds)) => (dE T e (frzL ρ fz)).fl (frzL ρ fz) fun d => match d with
      | .lst es => if ds.length + es.length ≤ lim then .nx ((frzL ρ fz).set i (.ow (.lst (ds ++ es)))) else .bad
      | _ => .bad
    | _ => .bad
  | .ret fz e, ρ => (dE T e (frzL ρ fz)).fl (frzL ρ fz) fun d => .rt d
  | .retN, _ => .rt .non
  | .ite fz c a b, ρ => (dT T c (frzL ρ fz)).fl (frzL ρ fz) fun t => if t = true then dSs a (frzL ρ fz) else dSs b (frzL ρ fz)
  | .fo fz t it b, ρ => (dIt T it (frzL ρ fz)).fl (frzL ρ fz) fun ds => forL (dTg t) (dSs b) ds (frzL ρ fz)
  | .wh fz c b, ρ => whL (dT T c) fz (dSs b) fuel ρ
  | .pass, ρ => .nx ρ
  | .brk, ρ => .bk ρ
  | .cnt, ρ => .ct ρ
  | .exp fz e, ρ => (dE T e (frzL ρ fz)).fl (frzL ρ fz) fun _ => .nx (frzL ρ fz)
  | .rai c, ρ => .exc c ρ
  | .tr b h, ρ => match dSs b ρ with
    | .exc c ρ' => dHs sub c ρ' h
    | f => f
def dSs : Sms → Env' → Fl
  | .nil, ρ => .nx ρ
  | .cons s r, ρ => match dS s ρ with
    | .nx ρ' => dSs r ρ'
    | f => f
end
end

/-! ### readings -/
section
variable (K : PySem.W.Frag) (W : WX) (mg : Str → Option Value) (H0 F0 : Hp)
def PostS (De : Ends) (F : Hp) : Fl → Prop
  | .nx ρ => ∀ σ H F' A, Rl K H0 F0 ρ σ H F' A → Same F F' → De.nx σ H
  | .rt d => ∀ v H F', Ex H0 F0 H F' → Rep K F' d v → De.rt v H
  | .bk ρ => ∀ σ H F' A, Rl K H0 F0 ρ σ H F' A → Same F F' → De.bk σ H
  | .ct ρ => ∀ σ H F' A, Rl K H0 F0 ρ σ H F' A → Same F F' → De.ct σ H
  | .exc c ρ => ∀ σ H F' A C, Rl K H0 F0 ρ σ H F' A → Same F F' → mg c = some (.ref C) → W (.ref C) none σ H
  | .bad => False
def tS (r : Env' → Fl) : TS := fun De σ H => ∃ ρ F A, Rl K H0 F0 ρ σ H F A ∧ PostS K W mg H0 F0 De F (r ρ)
end
section
variable {K : PySem.W.Frag} {W : WX} {mg : Str → Option Value} {H0 F0 H F H1 F1 : Hp} {σ : L2.St} {ρ : Env'} {A : Nat → Addr} {De : Ends}
theorem PostS.sub {f : Fl} (p : PostS K W mg H0 F0 De F f) (s : Same F F1) : PostS K W mg H0 F0 De F1 f := by
  cases f with
  | nx ρ => exact fun σ H F' A r q => p σ H F' A r (s.trans q)
  | rt d => exact p
  | bk ρ => exact fun σ H F' A r q => p σ H F' A r (s.trans q)
  | ct ρ => exact fun σ H F' A r q => p σ H F' A r (s.trans q)
  | exc c ρ => exact fun σ H F' A C r q => p σ H F' A C r (s.trans q)
  | bad => exact p
/-- a name's own list becomes part of what stays -/
theorem Rl.frz1 (rl : Rl K H0 F0 ρ σ H F A) (i : Nat) : ∃ F', Rl K H0 F0 (frz1 ρ i) σ H F' A ∧ Same F F' := by
  unfold Z.frz1
  cases hi : ρ[i]? with
  | none => exact ⟨F, rl, Same.refl _⟩
  | some s =>
    cases s with
    | un => exact ⟨F, rl, Same.refl _⟩
    | im d => exact ⟨F, rl, Same.refl _⟩
    | ow d =>
      obtain ⟨h1, h2, h3⟩ := rl.slot i _ hi
      have h0 := rl.old i d hi
      obtain ⟨o, ho⟩ := h3.there
      have sF : Same F (upd F (A i) o) := same_upd h2
      have rep : Rep K (upd F (A i) o) d (.ref (A i)) := by
        cases d <;> simp only [Own] at h3
        · obtain ⟨vs, q1, q2⟩ := h3
          rw [q1] at ho
          cases ho
          exact Rep.lst_iff.mpr ⟨_, vs, rfl, upd_same, q2.mono sF⟩
        · obtain ⟨kvs, q1, q2, q4, q3⟩ := h3
          rw [q1] at ho
          cases ho
          exact Rep.dic_iff.mpr ⟨_, kvs, rfl, .inl upd_same, q2, q4, q3.mono sF⟩
      have hlt : i < ρ.length := by
        rcases Nat.lt_or_ge i ρ.length with q | q
        · exact q
        · rw [List.getElem?_eq_none q] at hi; cases hi
      have ow : ∀ {j : Nat} {e : D}, (ρ.set i (.im d))[j]? = some (.ow e) → i ≠ j ∧ ρ[j]? = some (.ow e) := fun {j e} q => by
        by_cases hij : i = j
        · subst hij; rw [List.getElem?_set_self hlt] at q; cases q
        · rw [List.getElem?_set_ne hij] at q; exact ⟨hij, q⟩
      refine ⟨upd F (A i) o, ⟨⟨rl.ex.sH, rl.ex.sF.trans sF, fun b u q => ?_, fun b u q1 q2 => ?_⟩, by rw [List.length_set]; exact rl.len, fun j s hs => ?_, fun j e he => rl.old j e (ow he).2, fun j k e f hj hk hn => rl.apart j k e f (ow hj).2 (ow hk).2 hn⟩, sF⟩
      · by_cases hb : b = A i
        · subst hb; rw [upd_same] at q; rw [← q]; exact ho
        · rw [upd_ne hb] at q; exact rl.ex.sFH _ _ q
      · rw [upd_ne (fun z => by rw [z, h0] at q2; cases q2)]; exact rl.ex.new _ _ q1 q2
      · by_cases hij : i = j
        · subst hij
          rw [List.getElem?_set_self hlt] at hs
          cases hs
          exact ⟨_, h1, rep⟩
        · rw [List.getElem?_set_ne hij] at hs
          have q := rl.slot j s hs
          cases s with
          | un => trivial
          | im e => obtain ⟨v, g1, g2⟩ := q; exact ⟨v, g1, g2.mono sF⟩
          | ow e =>
            obtain ⟨g1, g2, g3⟩ := q
            refine ⟨g1, ?_, g3.mono sF (Same.refl _)⟩
            rw [upd_ne (rl.apart j i e d hs hi (Ne.symm hij))]
            exact g2
theorem Rl.frzL : ∀ (fz : List Nat) {ρ : Env'} {F : Hp}, Rl K H0 F0 ρ σ H F A → ∃ F', Rl K H0 F0 (frzL ρ fz) σ H F' A ∧ Same F F'
  | [], ρ, F, rl => ⟨F, rl, Same.refl _⟩
  | i :: r, ρ, F, rl => by
    obtain ⟨F1, r1, s1⟩ := rl.frz1 i
    obtain ⟨F2, r2, s2⟩ := Rl.frzL r r1
    exact ⟨F2, r2, s1.trans s2⟩
/-- a new list, a new dict becomes a name's own -/
theorem Rl.own (rl : Rl K H0 F0 ρ σ H F A) {i : Nat} {p : Addr} {d : D} (e : Ex H F H1 F1) (hp : H p = none) (hF : F1 p = none) (ho : Own K F1 H1 p d) : Rl K H0 F0 (ρ.set i (.ow d)) (σ.set i (some (.ref p))) H1 F1 (fun j => if j = i then p else A j) := by
  have rl1 := rl.go e
  have h0 : H0 p = none := rl.ex.sH.free hp
  have cs : ∀ {j : Nat} {s : Slot}, (ρ.set i (.ow d))[j]? = some s → (j = i ∧ s = .ow d ∧ i < ρ.length) ∨ (j ≠ i ∧ ρ[j]? = some s) := fun {j s} q => by
    by_cases hij : i = j
    · subst hij
      rcases Nat.lt_or_ge i ρ.length with z | z
      · rw [List.getElem?_set_self z] at q; cases q; exact .inl ⟨rfl, rfl, z⟩
      · rw [List.getElem?_eq_none (by rw [List.length_set]; exact z)] at q; cases q
    · rw [List.getElem?_set_ne hij] at q; exact .inr ⟨Ne.symm hij, q⟩
  have ne : ∀ {j : Nat} {f : D}, ρ[j]? = some (.ow f) → A j ≠ p := fun {j f} q z => by
    obtain ⟨_, _, h3⟩ := rl.slot j _ q
    obtain ⟨o, ho⟩ := h3.there
    rw [z, hp] at ho; cases ho
  refine ⟨rl1.ex, by rw [List.length_set, List.length_set]; exact rl.len, fun j s hs => ?_, fun j f hf => ?_, fun j k f g hj hk hn => ?_⟩
  · rcases cs hs with ⟨rfl, rfl, hl⟩ | ⟨hj, q⟩
    · refine ⟨by rw [List.getElem?_set_self (by rw [← rl.len]; exact hl)]; simp, by simp only [if_true]; exact hF, by simp only [if_true]; exact ho⟩
    · have g := rl1.slot j s q
      cases s with
      | un => trivial
      | im f => obtain ⟨v, g1, g2⟩ := g; exact ⟨v, by rw [List.getElem?_set_ne (Ne.symm hj)]; exact g1, g2⟩
      | ow f =>
        obtain ⟨g1, g2, g3⟩ := g
        exact ⟨by rw [List.getElem?_set_ne (Ne.symm hj)]; simp only [if_neg hj]; exact g1, by simp only [if_neg hj]; exact g2, by simp only [if_neg hj]; exact g3⟩
  · rcases cs hf with ⟨rfl, _, _⟩ | ⟨hj, q⟩
    · simp only [if_true]; exact h0
    · simp only [if_neg hj]; exact rl.old j f q
  · rcases cs hj with ⟨rfl, _, _⟩ | ⟨nj, qj⟩ <;> rcases cs hk with ⟨rfl, _, _⟩ | ⟨nk, qk⟩
    · exact absurd rfl hn
    · simp only [if_true, if_neg nk]; exact Ne.symm (ne qk)
    · simp only [if_true, if_neg nj]; exact ne qj
    · simp only [if_neg nj, if_neg nk]; exact rl.apart j k f g qj qk hn
/-- a name's own list, own dict is changed -/
theorem Rl.chg (rl : Rl K H0 F0 ρ σ H F A) {i : Nat} {d d' : D} {o : HO} (hi : ρ[i]? = some (.ow d)) (ho : Own K F (upd H (A i) o) (A i) d') : Rl K H0 F0 (ρ.set i (.ow d')) σ (upd H (A i) o) F A := by
  obtain ⟨h1, h2, h3⟩ := rl.slot i _ hi
  have h0 := rl.old i d hi
  have hlt : i < ρ.length := by
    rcases Nat.lt_or_ge i ρ.length with q | q
    · exact q
    · rw [List.getElem?_eq_none q] at hi; cases hi
  have cs : ∀ {j : Nat} {s : Slot}, (ρ.set i (.ow d'))[j]? = some s → (j = i ∧ s = .ow d') ∨ (j ≠ i ∧ ρ[j]? = some s) := fun {j s} q => by
    by_cases hij : i = j
    · subst hij
      rw [List.getElem?_set_self hlt] at q; cases q; exact .inl ⟨rfl, rfl⟩
    · rw [List.getElem?_set_ne hij] at q; exact .inr ⟨Ne.symm hij, q⟩
  have was : ∀ {j : Nat} {f : D}, (ρ.set i (.ow d'))[j]? = some (.ow f) → ∃ g, ρ[j]? = some (.ow g) := fun {j f} q => by
    rcases cs q with ⟨rfl, _⟩ | ⟨_, z⟩
    · exact ⟨d, hi⟩
    · exact ⟨f, z⟩
  refine ⟨⟨fun b u q => ?_, rl.ex.sF, fun b u q => ?_, rl.ex.new⟩, by rw [List.length_set]; exact rl.len, fun j s hs => ?_, fun j f hf => ?_, fun j k f g hj hk hn => ?_⟩
  · rw [upd_ne (fun z => by rw [z, h0] at q; cases q)]; exact rl.ex.sH _ _ q
  · rw [upd_ne (fun z => by rw [z, h2] at q; cases q)]; exact rl.ex.sFH _ _ q
  · rcases cs hs with ⟨rfl, rfl⟩ | ⟨nj, q⟩
    · exact ⟨h1, h2, ho⟩
    · have g := rl.slot j s q
      cases s with
      | un => trivial
      | im f => exact g
      | ow f =>
        obtain ⟨g1, g2, g3⟩ := g
        refine ⟨g1, g2, ?_⟩
        have na := rl.apart j i f d q hi nj
        cases f <;> simp only [Own] at g3 ⊢
        · obtain ⟨vs, q1, q2⟩ := g3; exact ⟨vs, by rw [upd_ne na]; exact q1, q2⟩
        · obtain ⟨vs, q1, q2⟩ := g3; exact ⟨vs, by rw [upd_ne na]; exact q1, q2⟩
  · obtain ⟨g, hg⟩ := was hf
    exact rl.old j g hg
  · obtain ⟨f', hf⟩ := was hj
    obtain ⟨g', hg⟩ := was hk
    exact rl.apart j k f' g' hf hg hn
theorem PS.imp {X : Cx} {e : Stmt} {t t' : TS} (h : PS X e t) (i : ∀ D σ H, t' D σ H → t D σ H) : PS X e t' := ⟨fun pins s σ H D I q => h.run pins s σ H D I (i D σ H q)⟩
theorem PSs.imp {X : Cx} {e : List Stmt} {t t' : TS} (h : PSs X e t) (i : ∀ D σ H, t' D σ H → t D σ H) : PSs X e t' := ⟨fun pins s σ H D I q => h.run pins s σ H D I (i D σ H q)⟩
/-- an expression within a statement: the rest, by its outcome -/
theorem fl_E {fr : Bool} {r : R D} {k : D → Fl} {Q : VK} (rl : Rl K H0 F0 ρ σ H F A) (p : PostS K W mg H0 F0 De F (r.fl ρ k))
    (h : ∀ d v H' F', Ex H F H' F' → (if fr = true then RepF K F' H H' d v else Rep K F' d v) → PostS K W mg H0 F0 De F (k d) → Q v H') : PostX W mg σ H F (GE K fr H F Q) r := by
  cases r with
  | ok d => exact fun v H' F' e q => h d v H' F' e q p
  | exc c => exact fun H' F' C e m => p σ H' F' A C (rl.go e) e.sF m
  | bad => exact p
theorem fl_T {r : R Bool} {k : Bool → Fl} {Q : Bool → Hp → Prop} (rl : Rl K H0 F0 ρ σ H F A) (p : PostS K W mg H0 F0 De F (r.fl ρ k))
    (h : ∀ b H' F', Ex H F H' F' → PostS K W mg H0 F0 De F (k b) → Q b H') : PostX W mg σ H F (GT H F Q) r := by
  cases r with
  | ok d => exact fun H' F' e => h d H' F' e p
  | exc c => exact fun H' F' C e m => p σ H' F' A C (rl.go e) e.sF m
  | bad => exact p
theorem fl_L {r : R (List D)} {k : List D → Fl} {Q : List V → Hp → Prop} (rl : Rl K H0 F0 ρ σ H F A) (p : PostS K W mg H0 F0 De F (r.fl ρ k))
    (h : ∀ ds vs H' F', Ex H F H' F' → RepL K F' ds vs → PostS K W mg H0 F0 De F (k ds) → Q vs H') : PostX W mg σ H F (GL K H F Q) r := by
  cases r with
  | ok d => exact fun v H' F' e q => h d v H' F' e q p
  | exc c => exact fun H' F' C e m => p σ H' F' A C (rl.go e) e.sF m
  | bad => exact p
theorem fl_I {r : R (List D)} {k : List D → Fl} {Q : L2.It → Hp → Prop} (rl : Rl K H0 F0 ρ σ H F A) (p : PostS K W mg H0 F0 De F (r.fl ρ k))
    (h : ∀ ds J H' F', Ex H F H' F' → Walk K J ds F' → PostS K W mg H0 F0 De F (k ds) → Q J H') : PostX W mg σ H F (fun ds => ∀ J H' F', Ex H F H' F' → Walk K J ds F' → Q J H') r := by
  cases r with
  | ok d => exact fun v H' F' e q => h d v H' F' e q p
  | exc c => exact fun H' F' C e m => p σ H' F' A C (rl.go e) e.sF m
  | bad => exact p
end
end Z
/-! From the given syntax to terms: statements; and that they say what it does. -/
namespace Z
open PySem PySem.Spec PyProof.Rows L2

/-! ### the names that a term reads and may share -/
mutual
def fvE : E → List Nat
  | .cst _ => []
  | .glb _ _ => []
  | .var i => [i]
  | .bin _ a b => fvE a ++ fvE b
  | .neg a => fvE a
  | .cmp _ a b => fvO a ++ fvO b
  | .chn _ _ a b c => fvE a ++ (fvE b ++ fvE c)
  | .and_ a b => fvE a ++ fvE b
  | .or_ a b => fvE a ++ fvE b
  | .not_ a => fvE a
  | .ite c a b => fvE c ++ (fvE a ++ fvE b)
  | .tup es => fvEs es
  | .lst es => fvEs es
  | .call _ es => fvEs es
  | .blt _ es => fvBs es
  | .mkb _ es => fvEs es
  | .isi a _ => fvE a
  | .ix a i => fvO a ++ fvE i
  | .sl a lo hi => fvE a ++ (fvBd lo ++ fvBd hi)
  | .rev a => fvE a
  | .comp x _ _ it c => fvI it ++ (fvE x ++ fvE c)
def fvO : Bo → List Nat
  | .own _ => []
  | .ev e => fvE e
def fvBd : Bd → List Nat
  | .no => []
  | .to e => fvE e
def fvBs : Bs → List Nat
  | .nil => []
  | .cons e r => fvO e ++ fvBs r
def fvEs : Es → List Nat
  | .nil => []
  | .cons e r => fvE e ++ fvEs r
def fvI : It → List Nat
  | .seq e => fvE e
  | .rng1 a => fvE a
  | .rng2 a b => fvE a ++ fvE b
  | .enm e => fvE e
  | .zip a b => fvE a ++ fvE b
end
def fzOf (S : SC) (l : List Nat) : List Nat := (l.filter fun i => S.muts.contains i).eraseDups

/-! ### compiling -/
def isComp : Expr → Bool
  | .ListComp .. => true
  | .SetComp .. => true
  | .DictComp .. => true
  | _ => false
def isLoc (S : SC) (x : Str) : Bool := match S.sc.names.lookup x with
  | some .local => true
  | _ => false
/-- a target that is a local name on a line -/
def locAt (S : SC) (line : Nat) : Expr → Bool
  | .Name x p => isLoc S x && p.line == line
  | _ => false
def lineOf : List Expr → Nat
  | [] => 0
  | e :: _ => e.pos.line
def augOf : Operator → Option BOp
  | .Add => some .add | .Sub => some .sub | .Mult => some .mul | .FloorDiv => some .div | .Mod => some .mod | _ => none
def cstOf : Expr → Option D
  | .Constant (.int i) _ _ => some (.int i)
  | .Constant (.bool b) _ _ => some (.bl b)
  | .Constant .none _ _ => some .non
  | .Constant (.str x) _ _ => some (.str x)
  | _ => none
def subOf (S : SC) (c y : Str) : Option Bool := S.sub.lookup (c, y)
def cHs (S : SC) : List ExceptHandler → Option Hs
  | [] => some .nil
  | .ExceptHandler (some (.Name y _)) none [.Return (some v) _] _ :: r => if isGl S y = true ∧ y ∈ S.exc then (cstOf v).bind fun d => (cHs S r).map fun h => .ret y d h else none
  | .ExceptHandler (some (.Name y _)) none [.Pass _] _ :: r => if isGl S y = true ∧ y ∈ S.exc then (cHs S r).map fun h => .pass y h else none
  | _ => none
/-- the slot of a name to which is stored -/
def cOwn (S : SC) (x : Str) : Option Nat := if isOwn S x = true then idxOf x S.N else none
def cAssign (n : Nat) (S : SC) (tg v : Expr) (line : Nat) : Option Sm := match tg with
  | .Name x _ => (cOwn S x).bind fun i => (cE n S v).map fun e => .set (fzOf S (fvE e)) i (S.muts.contains i) e
  | .Tuple ts _ _ => match v with
    | .Tuple vs _ _ =>
      (match ts, vs with
      | [.Name x px, .Name y py], [a, b] => if isLoc S x = true ∧ isLoc S y = true ∧ x ≠ y ∧ py.line = px.line ∧ isStar a = false ∧ isStar b = false ∧ [a, b].all (foldedForSure 8) = false ∧ [a, b].all (constantsAlone 8) = false then
          (cOwn S x).bind fun i => (cOwn S y).bind fun j => (cEs (cE n) S [a, b]).map fun es => .par (fzOf S (fvEs es)) i j es
        else if vs.all (foldedForSure 8) = true ∨ ts.all (locAt S (lineOf ts)) = false then (cTgF n S tg).bind fun t => (cE n S v).map fun e => .unp (fzOf S (fvE e)) t e else none
      | _, _ => if vs.all (foldedForSure 8) = true ∨ ts.all (locAt S (lineOf ts)) = false then (cTgF n S tg).bind fun t => (cE n S v).map fun e => .unp (fzOf S (fvE e)) t e else none)
    | _ => if isComp v = true then none else (cTgF n S tg).bind fun t => (cE n S v).map fun e => .unp (fzOf S (fvE e)) t e
  | _ => none
mutual
def cS : Nat → SC → Stmt → Option Sm
  | 0, _, _ => none
  | n + 1, S, s => match s with
    | .Assign [tg] v pos => cAssign n S tg v pos.line
    | .AugAssign (.Name x _) op v _ => (augOf op).bind fun o => (cOwn S x).bind fun i => (cE n S v).map fun e => .aug (fzOf S (fvE e)) i o e
    | .Expr (.Constant (.str _) _ _) _ => some .pass
    | .Expr (.Call (.Attribute (.Name x _) m ap) [a] [] cp) _ =>
      if isVis S x = true ∧ ap.endLine = cp.line ∧ isStar a = false then
        (if m = "append" then (idxOf x S.N).bind fun i => (cE n S a).map fun e => .app (fzOf S (fvE e)) i e
        else if m = "extend" then (idxOf x S.N).bind fun i => (cE n S a).map fun e => .ext (fzOf S (fvE e)) i e else none) else none
    | .Expr v _ => if isComp v = true then none else (cE n S v).map fun e => .exp (fzOf S (fvE e)) e
    | .Return (some v) _ => (cE n S v).map fun e => .ret (fzOf S (fvE e)) e
    | .Return none _ => some .retN
    | .If c a b _ => (cT n S c).bind fun z => (cSs n S a).bind fun x => (cSs n S b).map fun y => .ite (fzOf S (fvE z)) z x y
    | .For tg iter body [] _ => (cTgF n S tg).bind fun t => (cIt n S tg iter).bind fun it => (cSs n S body).map fun b => .fo (fzOf S (fvI it)) t it b
    | .While c body [] _ => (cT n S c).bind fun z => (cSs n S body).map fun b => .wh (fzOf S (fvE z)) z b
    | .Pass _ => some .pass
    | .Break _ => some .brk
    | .Continue _ => some .cnt
    | .Raise (some (.Call (.Name x _) [.Constant (.str _) _ _] [] _)) none _ => if isGl S x = true ∧ x ∈ S.exc then some (.rai x) else none
    | .Try body (h :: hs) [] [] _ => (cSs n S body).bind fun b => (cHs S (h :: hs)).map fun h => .tr b h
    | _ => none
def cSs : Nat → SC → List Stmt → Option Sms
  | 0, _, _ => none
  | _ + 1, _, [] => some .nil
  | n + 1, S, s :: r => (cS n S s).bind fun a => (cSs n S r).map fun b => .cons a b
end
end Z
/-! The theorem about statements. -/
namespace Z
open PySem PySem.Spec PyProof.Rows L2

structure Oks (S : SC) (T : Nat → List D → R D) (lv : Nat) (W : WX) (X : Cx) : Prop extends Okc S T lv W X where
  stk : X.stack = X.env :: X.outer
  frm : X.env.frame = some X.env.locals
  kind : X.env.scope.kind = .function
  pass : PassesOwn (model X.prog X.w) X.A X.env X.xe
  exc : ∀ x ∈ S.exc, (x == ("__debug__" : Str)) = false ∧ ∃ C, X.mg x = some (.ref C) ∧ PySem.W.excIn X.K C [.type "ValueError", .type "Exception", .type "BaseException", .type "object"] "ValueError.__new__" = true ∧ PySem.W.keepIn X.K (.ref C) = true ∧
    PySem.W.subIn X.K (.ref C) (.type "BaseException") = some true ∧ PySem.W.typeIn X.K (.ref C) = some (.type "type")
  sub : ∀ c y b, subOf S c y = some b → ∀ C Y, X.mg c = some (.ref C) → X.mg y = some (.ref Y) → PySem.W.exmOne X.K (.ref C) (.ref Y) = some b
section
variable {T : Nat → List D → R D} {lv : Nat} {S : SC} {W : WX} {X : Cx} {H0 F0 : Hp}
abbrev SS (X : Cx) (T : Nat → List D → R D) (S : SC) (W : WX) (H0 F0 : Hp) (s : Stmt) (ir : Sm) : Prop := PS X s (tS X.K W X.mg H0 F0 (dS T (subOf S) ir))
abbrev SSs (X : Cx) (T : Nat → List D → R D) (S : SC) (W : WX) (H0 F0 : Hp) (s : List Stmt) (ir : Sms) : Prop := PSs X s (tS X.K W X.mg H0 F0 (dSs T (subOf S) ir))
theorem ssw {v : Expr} {tg : Expr} {line : Nat} {env : Env} (h : isComp v = false) : swapsWithSole [tg] v line env = pure false := by cases v <;> first | rfl | cases h
theorem ssn {v : Expr} {line : Nat} {env : Env} (h : isComp v = false) : swapsWith v none line env = pure false := by cases v <;> first | rfl | cases h
theorem ae_one {tg : Expr} {env : Env} (h : isStar tg = false) : (assignEach [tg] env).map (·.2) = [assign tg env] := by rw [assignEach_cons h]; rfl
theorem pv_own {x : Str} {pos : Pos} {i : Nat} (c : Okc S T lv W X) (hv : isVis S x = true) (hi : idxOf x S.N = some i) : PE X (.Name x pos) (tVar i) := by
  have hN : X.N[i]? = some x := by rw [c.N]; exact idxOf_get hi
  have hx : Vis X.env.scope x := by
    rw [c.sc]
    unfold isVis at hv
    cases q : S.sc.names.lookup x with
    | none => rw [q] at hv; cases hv
    | some k => rw [q] at hv; cases k <;> first | exact .inl q | exact .inr (.inl q) | exact .inr (.inr q) | cases hv
  have nm := c.nm x (by rw [← c.N]; exact List.mem_of_getElem? hN)
  exact pe_var hN hx nm.1 nm.2
theorem own_of {x : Str} {i : Nat} (c : Okc S T lv W X) (h : cOwn S x = some i) : X.N[i]? = some x ∧ Loc X.env.scope x ∧ (X.fn x = true ∨ X.env.scope.names.lookup x = some .local) := by
  unfold cOwn at h
  split at h
  · rename_i ho
    obtain ⟨h1, h2⟩ := c.own x ho
    exact ⟨by rw [c.N]; exact idxOf_get h, h1, h2⟩
  · cases h
/-- a stored value: shared, or the name's own -/
theorem store_nx {H F H1 F1 : Hp} {ρ : Env'} {σ : L2.St} {A : Nat → Addr} {De : Ends} {i : Nat} {own fr : Bool} {d : D} {v : V} (rl : Rl X.K H0 F0 ρ σ H F A) (e : Ex H F H1 F1) (r : if fr = true then RepF X.K F1 H H1 d v else Rep X.K F1 d v)
    (p : PostS X.K W X.mg H0 F0 De F (.nx (ρ.set i (ownList d (own && fr))))) : De.nx (σ.set i (some v)) H1 := by
  cases fr with
  | false =>
    have e0 : ownList d (own && false) = .im d := by cases own <;> cases d <;> rfl
    rw [e0] at p
    exact p _ _ F1 A ((rl.go e).set (by simpa using r)) e.sF
  | true =>
    simp only [if_true] at r
    have im : ∀ {d : D}, RepF X.K F1 H H1 d v → PostS X.K W X.mg H0 F0 De F (.nx (ρ.set i (.im d))) → De.nx (σ.set i (some v)) H1 := fun {d} r p => by
      obtain ⟨F2, e2, r2⟩ := RepF.rep e r
      exact p _ _ F2 A ((rl.go e2).set r2) e2.sF
    cases own with
    | false => exact im r (by cases d <;> exact p)
    | true =>
      cases d with
      | lst ds =>
        obtain ⟨q, vs, rfl, h1, h2, h3, h4⟩ := r
        exact p _ _ F1 _ (rl.own e h1 h3 ⟨vs, h2, h4⟩) e.sF
      | dic ks ds =>
        obtain ⟨q, vs, rfl, h1, h2, h3, h5, h6, h4⟩ := r
        exact p _ _ F1 _ (rl.own e h1 h3 ⟨vs, h2, h5, h6, h4⟩) e.sF
      | _ => exact im r p
theorem ss_set {x : Str} {px pos : Pos} {v : Expr} {e : E} {i : Nat} {own : Bool} {fz : List Nat} (c : Oks S T lv W X) (ho : cOwn S x = some i) (hc : isComp v = false) (h : SE X T W v e) : SS X T S W H0 F0 (.Assign [.Name x px] v pos) (.set fz i own e) := by
  obtain ⟨h1, h2, h3⟩ := own_of c.toOkc ho
  refine PS.imp (ps_asg h (pg_name c.nd h1 h2 h3) (ssw hc) (by cases v <;> rfl) (ae_one rfl)) fun De σ H q => ?_
  obtain ⟨ρ, F, A, rl, p⟩ := q
  obtain ⟨F1, rl1, s1⟩ := rl.frzL fz
  refine ⟨H0, F0, _, F1, A, rl1, fl_E rl1 (p.sub s1) fun d v H' F' e r p => ?_⟩
  exact store_nx rl1 e r p
theorem ss_unp {tg v : Expr} {pos : Pos} {t : Tg} {e : E} {fz : List Nat} {n : Nat} (c : Oks S T lv W X) (ht : cTgF n S tg = some t) (hc : isComp v = false) (hs : swappedStores [tg] v X.env = pure none) (h : SE X T W v e) : SS X T S W H0 F0 (.Assign [tg] v pos) (.unp fz t e) := by
  have st : isStar tg = false := by cases tg <;> first | rfl | (cases n <;> cases ht)
  refine PS.imp (ps_asg h.weak (cTgF_ok c.toOkc n tg t ht) (ssw hc) hs (ae_one st)) fun De σ H q => ?_
  obtain ⟨ρ, F, A, rl, p⟩ := q
  obtain ⟨F1, rl1, s1⟩ := rl.frzL fz
  refine ⟨H0, F0, _, F1, A, rl1, fl_E rl1 (p.sub s1) fun d v H' F' e r p => ?_⟩
  cases hd : dTg t d (frzL ρ fz) with
  | none => rw [hd] at p; exact p.elim
  | some ρ' =>
    rw [hd] at p
    exact ⟨H0, F0, _, F', A, d, ρ', rl1.go e, by simpa using r, hd, fun σ' rl' _ _ => p σ' _ F' A rl' e.sF⟩
theorem ss_par {x y : Str} {px py pt pos p2 : Pos} {k k2 : Nat} {a b : Expr} {es : Es} {i j : Nat} {fz : List Nat} (c : Oks S T lv W X) (hx : cOwn S x = some i) (hy : cOwn S y = some j) (lx : isLoc S x = true) (ly : isLoc S y = true) (hn : x ≠ y)
    (hsw : swappedStores [.Tuple [.Name x px, .Name y py] k pt] (.Tuple [a, b] k2 p2) X.env = pure (some [x, y])) (h : SEs X T W [a, b] es) : SS X T S W H0 F0 (.Assign [.Tuple [.Name x px, .Name y py] k pt] (.Tuple [a, b] k2 p2) pos) (.par fz i j es) := by
  obtain ⟨h1, _, _⟩ := own_of c.toOkc hx
  obtain ⟨g1, _, _⟩ := own_of c.toOkc hy
  have loc : ∀ {x : Str}, isLoc S x = true → X.env.scope.names.lookup x = some .local := fun {x} h => by
    rw [c.sc]
    unfold isLoc at h
    cases q : S.sc.names.lookup x with
    | none => rw [q] at h; cases h
    | some k => rw [q] at h; cases k <;> first | rfl | cases h
  have hij : i ≠ j := fun z => by
    subst z
    rw [h1] at g1
    exact hn (Option.some.inj g1)
  refine PS.imp (ps_par c.calm c.nd h1 g1 hij (loc lx) (loc ly) h hsw) fun De σ H q => ?_
  obtain ⟨ρ, F, A, rl, p⟩ := q
  obtain ⟨F1, rl1, s1⟩ := rl.frzL fz
  refine ⟨H0, F0, _, F1, A, rl1, fl_L rl1 (p.sub s1) fun ds vs H' F' e r p => ?_⟩
  match ds with
  | [d, d2] =>
    obtain ⟨v, u, rfl, rv, ru⟩ := r.two
    exact ⟨v, u, rfl, p _ _ F' A (((rl1.go e).set rv).set ru) e.sF⟩
  | [] => exact p.elim
  | [_] => exact p.elim
  | _ :: _ :: _ :: _ => exact p.elim
theorem pip_D : ∀ o : BOp, PIp X (bOp o) (fun x y H Q => ∃ i j k, x = .int i ∧ y = .int j ∧ augD o (.int i) (.int j) = some (.int k) ∧ Q (.int k) H) := fun o pins s σ H x y v u Q I rx ry h => by
  obtain ⟨i, j, k, rfl, rfl, hk, q⟩ := h
  obtain ⟨t, rfl⟩ := rx
  obtain ⟨t', rfl⟩ := ry
  cases o <;> simp only [augD, Option.some.injEq, reduceCtorEq, D.int.injEq] at hk
  · subst hk; exact iadd_int ⟨.int _, H, I.tok _, ⟨_, rfl⟩, q⟩
  · subst hk; exact isub_int ⟨.int _, H, I.tok _, ⟨_, rfl⟩, q⟩
  · split at hk
    · rename_i hc
      simp only [Option.some.injEq, D.int.injEq] at hk
      subst hk
      exact imul_int ⟨.int _, H, I.tok _, ⟨_, rfl⟩, q⟩ (CMul.ok hc)
    · cases hk
  · split at hk
    · rename_i hc
      simp only [Option.some.injEq, D.int.injEq] at hk
      subst hk
      exact ifloordiv_int (by omega) ⟨.int _, H, I.tok _, ⟨_, rfl⟩, by rw [Int.fdiv_eq_ediv_of_nonneg _ (by omega)]; exact q⟩ (.inl (PyProof.noPylong_small (by omega)))
    · cases hk
  · split at hk
    · rename_i hc
      simp only [Option.some.injEq, D.int.injEq] at hk
      subst hk
      exact imod_int (by omega) ⟨.int _, H, I.tok _, ⟨_, rfl⟩, by rw [Int.fmod_eq_emod_of_nonneg _ (by omega)]; exact q⟩
    · cases hk
theorem augOf_eq {o : Operator} {b : BOp} (h : augOf o = some b) : o = bOp b := by cases o <;> simp only [augOf, reduceCtorEq, Option.some.injEq] at h <;> subst h <;> rfl
theorem ss_aug {x : Str} {px pos : Pos} {v : Expr} {e : E} {i : Nat} {o : BOp} {fz : List Nat} (c : Oks S T lv W X) (ho : cOwn S x = some i) (h : SE X T W v e) : SS X T S W H0 F0 (.AugAssign (.Name x px) (bOp o) v pos) (.aug fz i o e) := by
  obtain ⟨h1, h2, h3⟩ := own_of c.toOkc ho
  refine PS.imp (ps_aug c.nd h1 h2 h.weak (pip_D o) h3) fun De σ H q => ?_
  obtain ⟨ρ, F, A, rl, p⟩ := q
  obtain ⟨F1, rl1, s1⟩ := rl.frzL fz
  have p := p.sub s1
  have p : PostS X.K W X.mg H0 F0 De F1 ((look (frzL ρ fz) i).fl (frzL ρ fz) fun x => (dE T e (frzL ρ fz)).fl (frzL ρ fz) fun y => match augD o x y with
    | some z => .nx ((frzL ρ fz).set i (.im z))
    | none => .bad) := p
  unfold look at p
  split at p
  · rename_i d hd
    obtain ⟨u, g1, g2⟩ := rl1.im hd
    refine ⟨u, g1, H0, F0, _, F1, A, rl1, fl_E rl1 p fun d2 v H' F' e r p => ?_⟩
    cases hk : augD o d d2 with
    | none => rw [hk] at p; exact p.elim
    | some z =>
      rw [hk] at p
      have g2 := g2.mono e.sF
      have abk : ∃ a b k, d = .int a ∧ d2 = .int b ∧ z = .int k := by
        unfold augD at hk
        split at hk <;> first
          | cases hk; exact ⟨_, _, _, rfl, rfl, rfl⟩
          | (split at hk <;> cases hk; exact ⟨_, _, _, rfl, rfl, rfl⟩)
          | cases hk
      obtain ⟨a, b, k, rfl, rfl, rfl⟩ := abk
      exact ⟨a, b, k, Rep.int_iff.mp g2, Rep.int_iff.mp (show Rep X.K F' (.int b) v by simpa using r), hk, p _ _ F' A ((rl1.go e).set (Rep.int_iff.mpr rfl)) e.sF⟩
  · exact p.elim
theorem fl_1 {K : PySem.W.Frag} {W : WX} {mg : Str → Option Value} {H F : Hp} {σ : L2.St} {ρ : Env'} {A : Nat → Addr} {De : Ends} {e : E} {k : D → Fl} {Q : List V → Hp → Prop} (rl : Rl K H0 F0 ρ σ H F A) (p : PostS K W mg H0 F0 De F ((dE T e ρ).fl ρ k))
    (h : ∀ d v H' F', Ex H F H' F' → Rep K F' d v → PostS K W mg H0 F0 De F (k d) → Q [v] H') : PostX W mg σ H F (GL K H F Q) (dEs T (.cons e .nil) ρ) := by
  have es : dEs T (.cons e .nil) ρ = (dE T e ρ).bind fun d => .ok [d] := rfl
  rw [es]
  cases hd : dE T e ρ with
  | ok d =>
    rw [hd] at p
    intro vs H' F' ex r
    obtain ⟨v, rfl, rv⟩ := RepL.one r
    exact h d v H' F' ex rv p
  | exc c =>
    rw [hd] at p
    exact fun H' F' C e m => p σ H' F' A C (rl.go e) e.sF m
  | bad => rw [hd] at p; exact p
theorem few1 {a : Expr} {env : Env} {cp : Pos} (h : isStar a = false) : ((backTo cp (starEach [a] env)).all (fun x => !x.1) && (backToKw cp (keywordEach [] env)).all (fun x => x.1.isSome)
      && decide ([a].length + ([] : List Keyword).length + (if ([] : List Keyword).isEmpty then 0 else 1) < 30)) = true := by
  have q : starEach [a] env = [(false, eval a env)] := starEach_cons h
  rw [q]; rfl
theorem ss_app {x : Str} {px ap cp pos : Pos} {a : Expr} {e : E} {i : Nat} {fz : List Nat} (c : Oks S T lv W X) (hv : isVis S x = true) (hi : idxOf x S.N = some i) (hl : ap.endLine = cp.line) (hst : isStar a = false) (h : SE X T W a e) :
    SS X T S W H0 F0 (.Expr (.Call (.Attribute (.Name x px) "append" ap) [a] [] cp) pos) (.app fz i e) := by
  refine PS.imp (ps_expr (pe_bm PySem.F.plainAttrs_list PySem.F.slot_list_append PySem.F.type_list_append mt_append (pv_own c.toOkc hv hi) (ses_cons hst h ses_nil) rfl (few1 hst) (by rw [hl]; exact beq_self_eq_true _) (starEach_cons hst) (by rfl))) fun De σ H q => ?_
  obtain ⟨ρ, F, A, rl, p⟩ := q
  obtain ⟨F1, rl1, s1⟩ := rl.frzL fz
  have p := p.sub s1
  have p : PostS X.K W X.mg H0 F0 De F1 (match (frzL ρ fz)[i]? with
    | some (.ow (.lst ds)) => (dE T e (frzL ρ fz)).fl (frzL ρ fz) fun d => if ds.length < lim then .nx ((frzL ρ fz).set i (.ow (.lst (ds ++ [d])))) else .bad
    | _ => .bad) := p
  split at p
  · rename_i ds hd
    obtain ⟨g1, g2, vs, g3, g4⟩ := rl1.slot i _ hd
    refine ⟨_, g1, .inl ⟨rfl, vs, .inl (.inl g3)⟩, H0, F0, _, F1, A, rl1, fl_1 rl1 p fun d v H' F' e r p => ?_⟩
    split at p
    · rename_i hlim
      have g5 := e.sH _ _ g3
      have g6 := g4.mono e.sF
      refine ⟨_, vs, v, rfl, rfl, g5, by rw [← g4.length]; exact hlim, ?_⟩
      exact p _ _ F' A ((rl1.go e).chg hd ⟨_, upd_same, RepL.append g6 (RepL.cons r RepL.nil)⟩) e.sF
    · exact p.elim
  · exact p.elim
theorem ss_ext {x : Str} {px ap cp pos : Pos} {a : Expr} {e : E} {i : Nat} {fz : List Nat} (c : Oks S T lv W X) (hv : isVis S x = true) (hi : idxOf x S.N = some i) (hl : ap.endLine = cp.line) (hst : isStar a = false) (h : SE X T W a e) :
    SS X T S W H0 F0 (.Expr (.Call (.Attribute (.Name x px) "extend" ap) [a] [] cp) pos) (.ext fz i e) := by
  refine PS.imp (ps_expr (pe_bm PySem.F.plainAttrs_list PySem.F.slot_list_extend PySem.F.type_list_extend mt_extend (pv_own c.toOkc hv hi) (ses_cons hst h ses_nil) rfl (few1 hst) (by rw [hl]; exact beq_self_eq_true _) (starEach_cons hst) (by rfl))) fun De σ H q => ?_
  obtain ⟨ρ, F, A, rl, p⟩ := q
  obtain ⟨F1, rl1, s1⟩ := rl.frzL fz
  have p := p.sub s1
  have p : PostS X.K W X.mg H0 F0 De F1 (match (frzL ρ fz)[i]? with
    | some (.ow (.lst ds)) => (dE T e (frzL ρ fz)).fl (frzL ρ fz) fun d => match d with
      | .lst es => if ds.length + es.length ≤ lim then .nx ((frzL ρ fz).set i (.ow (.lst (ds ++ es)))) else .bad
      | _ => .bad
    | _ => .bad) := p
  split at p
  · rename_i ds hd
    obtain ⟨g1, g2, vs, g3, g4⟩ := rl1.slot i _ hd
    refine ⟨_, g1, .inl ⟨rfl, vs, .inl (.inl g3)⟩, H0, F0, _, F1, A, rl1, fl_1 rl1 p fun d v H' F' e r p => ?_⟩
    cases d with
    | lst es =>
      have p : PostS X.K W X.mg H0 F0 De F1 (if ds.length + es.length ≤ lim then .nx ((frzL ρ fz).set i (.ow (.lst (ds ++ es)))) else .bad) := p
      split at p
      · rename_i hlim
        have g5 := e.sH _ _ g3
        have g6 := g4.mono e.sF
        obtain ⟨b, us, rfl, k1, k2⟩ := Rep.lst_iff.mp r
        refine ⟨_, b, vs, us, rfl, rfl, g5, e.sFH _ _ k1, by rw [← g4.length, ← k2.length]; exact hlim, ?_⟩
        exact p _ _ F' A ((rl1.go e).chg hd ⟨_, upd_same, RepL.append g6 k2⟩) e.sF
      · exact p.elim
    | _ => exact p.elim
  · exact p.elim
theorem ss_ret {v : Expr} {pos : Pos} {e : E} {fz : List Nat} (h : SE X T W v e) : SS X T S W H0 F0 (.Return (some v) pos) (.ret fz e) := by
  refine PS.imp (ps_ret h.weak) fun De σ H q => ?_
  obtain ⟨ρ, F, A, rl, p⟩ := q
  obtain ⟨F1, rl1, s1⟩ := rl.frzL fz
  exact ⟨H0, F0, _, F1, A, rl1, fl_E rl1 (p.sub s1) fun d v H' F' e r p => p v H' F' (rl1.ex.trans e) (by simpa using r)⟩
theorem ss_retN {pos : Pos} : SS X T S W H0 F0 (.Return none pos) .retN := PS.imp ps_retN fun De σ H q => by
  obtain ⟨ρ, F, A, rl, p⟩ := q
  exact p .non H F rl.ex (Rep.non_iff.mpr rfl)
theorem ss_exp {v : Expr} {pos : Pos} {e : E} {fz : List Nat} (hc : isComp v = false) (h : SE X T W v e) : SS X T S W H0 F0 (.Expr v pos) (.exp fz e) := by
  refine PS.imp (ps_expr h.weak (ssn hc)) fun De σ H q => ?_
  obtain ⟨ρ, F, A, rl, p⟩ := q
  obtain ⟨F1, rl1, s1⟩ := rl.frzL fz
  exact ⟨H0, F0, _, F1, A, rl1, fl_E rl1 (p.sub s1) fun d v H' F' e r p => p σ H' F' A (rl1.go e) e.sF⟩
theorem ss_ite {v : Expr} {pos : Pos} {z : E} {a b : List Stmt} {x y : Sms} {fz : List Nat} (h : ST X T W v z) (ha : SSs X T S W H0 F0 a x) (hb : SSs X T S W H0 F0 b y) : SS X T S W H0 F0 (.If v a b pos) (.ite fz z x y) := by
  refine PS.imp (ps_if h ha hb) fun De σ H q => ?_
  obtain ⟨ρ, F, A, rl, p⟩ := q
  obtain ⟨F1, rl1, s1⟩ := rl.frzL fz
  refine ⟨H0, F0, _, F1, A, rl1, fl_T rl1 (p.sub s1) fun b H' F' e p => ?_⟩
  cases b with
  | true => exact ⟨_, F', A, rl1.go e, p.sub e.sF⟩
  | false => exact ⟨_, F', A, rl1.go e, p.sub e.sF⟩
theorem ss_fo {tg iter : Expr} {body : List Stmt} {pos : Pos} {t : Tg} {it : Z.It} {b : Sms} {fz : List Nat} {n : Nat} (c : Oks S T lv W X) (ht : cTgF n S tg = some t) (hit : isSet iter = false) (h : SI X T W tg iter it) (hb : SSs X T S W H0 F0 body b) :
    SS X T S W H0 F0 (.For tg iter body [] pos) (.fo fz t it b) := by
  refine PS.imp (ps_for c.pass c.calm h (cTgF_ok c.toOkc n tg t ht) hb (notSetIter hit)) fun De σ H q => ?_
  obtain ⟨ρ, F, A, rl, p⟩ := q
  obtain ⟨F1, rl1, s1⟩ := rl.frzL fz
  refine ⟨H0, F0, _, F1, A, rl1, fl_I rl1 (p.sub s1) fun ds J H' F' e wk p => ?_⟩
  have rl2 := rl1.go e
  refine ⟨fun i m σ' H2 => m = ds.length - i ∧ i ≤ ds.length ∧ ∃ ρ2 F2 A2, Rl X.K H0 F0 ρ2 σ' H2 F2 A2 ∧ Same F' F2 ∧ PostS X.K W X.mg H0 F0 De F2 (forL (dTg t) (dSs T (subOf S) b) (ds.drop i) ρ2),
    ⟨ds.length, rfl, Nat.zero_le _, _, F', A, rl2, Same.refl _, p.sub e.sF⟩, ?_⟩
  rintro i m σ2 H2 ⟨rfl, hi, ρ2, F2, A2, r2, sF, p2⟩
  have w := wk i H2 F2 sF r2.sFH
  by_cases hlt : i < ds.length
  · obtain ⟨go, yl⟩ := w.1 ds[i] (List.getElem?_eq_getElem hlt)
    rw [List.drop_eq_getElem_cons hlt] at p2
    have p2 : PostS X.K W X.mg H0 F0 De F2 (match dTg t ds[i] ρ2 with
      | none => .bad
      | some ρ1 => match dSs T (subOf S) b ρ1 with
        | .nx ρ2 => forL (dTg t) (dSs T (subOf S) b) (ds.drop (i + 1)) ρ2
        | .ct ρ2 => forL (dTg t) (dSs T (subOf S) b) (ds.drop (i + 1)) ρ2
        | .bk ρ2 => .nx ρ2
        | f => f) := p2
    refine .inr ⟨go, fun σ' H' => ∃ ρ2 F2 A2, Rl X.K H0 F0 ρ2 σ' H' F2 A2 ∧ Same F' F2 ∧ PostS X.K W X.mg H0 F0 De F2 (forL (dTg t) (dSs T (subOf S) b) (ds.drop (i + 1)) ρ2), fun σ' H' hn => ⟨ds.length - (i + 1), by omega, rfl, hlt, hn⟩, fun x H3 hx => ?_⟩
    obtain ⟨F3, e3, rx⟩ := yl x H3 hx
    cases hd : dTg t ds[i] ρ2 with
    | none => rw [hd] at p2; exact p2.elim
    | some ρ3 =>
      rw [hd] at p2
      refine ⟨H0, F0, ρ2, F3, A2, ds[i], ρ3, r2.go e3, rx, hd, fun σ3 rl3 _ _ => ⟨ρ3, F3, A2, rl3, ?_⟩⟩
      have p2 : PostS X.K W X.mg H0 F0 De F2 (match dSs T (subOf S) b ρ3 with
        | .nx ρ2 => forL (dTg t) (dSs T (subOf S) b) (ds.drop (i + 1)) ρ2
        | .ct ρ2 => forL (dTg t) (dSs T (subOf S) b) (ds.drop (i + 1)) ρ2
        | .bk ρ2 => .nx ρ2
        | f => f) := p2
      cases hb : dSs T (subOf S) b ρ3 with
      | nx ρ4 => rw [hb] at p2; exact fun σ4 H4 F4 A4 r4 s4 => ⟨ρ4, F4, A4, r4, (sF.trans e3.sF).trans s4, p2.sub (e3.sF.trans s4)⟩
      | ct ρ4 => rw [hb] at p2; exact fun σ4 H4 F4 A4 r4 s4 => ⟨ρ4, F4, A4, r4, (sF.trans e3.sF).trans s4, p2.sub (e3.sF.trans s4)⟩
      | bk ρ4 => rw [hb] at p2; exact fun σ4 H4 F4 A4 r4 s4 => p2 σ4 H4 F4 A4 r4 (e3.sF.trans s4)
      | rt d => rw [hb] at p2; exact p2
      | exc cc ρ4 => rw [hb] at p2; exact fun σ4 H4 F4 A4 C r4 s4 => p2 σ4 H4 F4 A4 C r4 (e3.sF.trans s4)
      | bad => rw [hb] at p2; exact p2
  · have e0 : i = ds.length := by omega
    refine .inl ⟨w.2 e0, ?_⟩
    rw [List.drop_of_length_le (by omega)] at p2
    exact p2 σ2 H2 F2 A2 r2 (Same.refl _)
theorem ss_wh {v : Expr} {body : List Stmt} {pos : Pos} {z : E} {b : Sms} {fz : List Nat} (c : Oks S T lv W X) (h : ST X T W v z) (hb : SSs X T S W H0 F0 body b) : SS X T S W H0 F0 (.While v body [] pos) (.wh fz z b) := by
  refine PS.imp (ps_while c.pass h hb) fun De σ H q => ?_
  obtain ⟨ρ, F, A, rl, p⟩ := q
  refine ⟨fun m σ' H2 => ∃ ρ2 F2 A2, Rl X.K H0 F0 ρ2 σ' H2 F2 A2 ∧ PostS X.K W X.mg H0 F0 De F2 (whL (dT T z) fz (dSs T (subOf S) b) m ρ2), ⟨fuel, ρ, F, A, rl, p⟩, ?_⟩
  rintro m σ2 H2 ⟨ρ2, F2, A2, r2, p2⟩
  cases m with
  | zero => exact p2.elim
  | succ m =>
    obtain ⟨F3, r3, s3⟩ := r2.frzL fz
    have p3 := p2.sub s3
    refine ⟨H0, F0, _, F3, A2, r3, fl_T r3 p3 fun t H4 F4 e4 p4 => ?_⟩
    cases t with
    | false => exact p4 σ2 H4 F4 A2 (r3.go e4) e4.sF
    | true =>
      refine ⟨fun σ' H' => ∃ ρ2 F2 A2, Rl X.K H0 F0 ρ2 σ' H' F2 A2 ∧ PostS X.K W X.mg H0 F0 De F2 (whL (dT T z) fz (dSs T (subOf S) b) m ρ2), fun σ' H' hn => ⟨m, Nat.lt_succ_self m, hn⟩, frzL ρ2 fz, F4, A2, r3.go e4, ?_⟩
      have p4 : PostS X.K W X.mg H0 F0 De F3 (match dSs T (subOf S) b (frzL ρ2 fz) with
        | .nx ρ2 => whL (dT T z) fz (dSs T (subOf S) b) m ρ2
        | .ct ρ2 => whL (dT T z) fz (dSs T (subOf S) b) m ρ2
        | .bk ρ2 => .nx ρ2
        | f => f) := p4
      cases hb : dSs T (subOf S) b (frzL ρ2 fz) with
      | nx ρ5 => rw [hb] at p4; exact fun σ5 H5 F5 A5 r5 s5 => ⟨ρ5, F5, A5, r5, p4.sub (e4.sF.trans s5)⟩
      | ct ρ5 => rw [hb] at p4; exact fun σ5 H5 F5 A5 r5 s5 => ⟨ρ5, F5, A5, r5, p4.sub (e4.sF.trans s5)⟩
      | bk ρ5 => rw [hb] at p4; exact fun σ5 H5 F5 A5 r5 s5 => p4 σ5 H5 F5 A5 r5 (e4.sF.trans s5)
      | rt d => rw [hb] at p4; exact p4
      | exc cc ρ5 => rw [hb] at p4; exact fun σ5 H5 F5 A5 C r5 s5 => p4 σ5 H5 F5 A5 C r5 (e4.sF.trans s5)
      | bad => rw [hb] at p4; exact p4
theorem ss_rai {x m : Str} {p p2 p3 pos : Pos} {j : Nat} (c : Oks S T lv W X) (hg : isGl S x = true) (hx : x ∈ S.exc) : SS X T S W H0 F0 (.Raise (some (.Call (.Name x p) [.Constant (.str m) j p2] [] p3)) none pos) (.rai x) := by
  obtain ⟨hdb, C, gC, q, kC, q1, q2⟩ := c.exc x hx
  refine PS.imp (ps_raise c.calm c.tk (pmk_own PySem.F.excBase_ValueError q gC kC (raises_own q1 q2) (gl_of c.toOkc hg) hdb)) fun De σ H h => ?_
  obtain ⟨ρ, F, A, rl, p⟩ := h
  exact p σ H F A C rl (Same.refl _) gC
theorem sss_nil : SSs X T S W H0 F0 [] .nil := PSs.imp pss_nil fun De σ H q => by
  obtain ⟨ρ, F, A, rl, p⟩ := q
  exact p σ H F A rl (Same.refl _)
theorem sss_cons {s : Stmt} {r : List Stmt} {a : Sm} {b : Sms} (h : SS X T S W H0 F0 s a) (t : SSs X T S W H0 F0 r b) : SSs X T S W H0 F0 (s :: r) (.cons a b) := by
  refine PSs.imp (pss_cons h t) fun De σ H q => ?_
  obtain ⟨ρ, F, A, rl, p⟩ := q
  refine ⟨ρ, F, A, rl, ?_⟩
  have p : PostS X.K W X.mg H0 F0 De F (match dS T (subOf S) a ρ with
    | .nx ρ' => dSs T (subOf S) b ρ'
    | f => f) := p
  cases hd : dS T (subOf S) a ρ with
  | nx ρ' => rw [hd] at p; exact fun σ' H' F' A' r s => ⟨ρ', F', A', r, p.sub s⟩
  | rt d => rw [hd] at p; exact p
  | bk d => rw [hd] at p; exact p
  | ct d => rw [hd] at p; exact p
  | exc cc d => rw [hd] at p; exact p
  | bad => rw [hd] at p; exact p
theorem ss_skip {s : Stmt} {ir : Sm} (h : PS X s tNext) (e : ∀ ρ, dS T (subOf S) ir ρ = .nx ρ) : SS X T S W H0 F0 s ir := PS.imp h fun De σ H q => by
  obtain ⟨ρ, F, A, rl, p⟩ := q
  rw [e] at p
  exact p σ H F A rl (Same.refl _)
end
end Z
/-! The theorem about statements, all of them; defs; a whole text. -/
namespace Z
open PySem PySem.Spec PyProof.Rows L2
section
variable {T : Nat → List D → R D} {lv : Nat} {S : SC} {W : WX} {X : Cx} {H0 F0 : Hp}
/-! ### stores to several names -/
theorem sw_none {tg v : Expr} {env : Env} (h : match tg, v with | .Tuple .., .Tuple .. => False | .List .., .Tuple .. => False | _, _ => True) : swappedStores [tg] v env = pure none := by
  cases tg <;> cases v <;> first | rfl | exact h.elim
theorem sw_fold {ts vs : List Expr} {k k2 : Nat} {p p2 : Pos} {env : Env} (h : vs.all (foldedForSure 8) = true) : swappedStores [.Tuple ts k p] (.Tuple vs k2 p2) env = pure none := by
  unfold swappedStores
  simp only [h, if_true]
  repeat' split
  all_goals rfl
theorem fm_short {α β : Type} {f : α → Option β} : ∀ {l : List α}, (∃ a ∈ l, f a = none) → (l.filterMap f).length < l.length
  | [], h => by obtain ⟨_, h, _⟩ := h; cases h
  | a :: r, h => by
    obtain ⟨x, hx, hn⟩ := h
    have le := List.length_filterMap_le f r
    rcases List.mem_cons.mp hx with e | e
    · rw [← e, List.filterMap_cons_none hn, List.length_cons]; omega
    · have ih := fm_short (f := f) ⟨x, e, hn⟩
      cases q : f a with
      | none => rw [List.filterMap_cons_none q, List.length_cons]; omega
      | some b => rw [List.filterMap_cons_some q, List.length_cons, List.length_cons]; omega
theorem sw_far {ts vs : List Expr} {k k2 : Nat} {p p2 : Pos} {env : Env} {S : SC} (he : env.scope = S.sc) (h : ts.all (locAt S (lineOf ts)) = false) : swappedStores [.Tuple ts k p] (.Tuple vs k2 p2) env = pure none := by
  have far : ∃ t ∈ ts, locAt S (lineOf ts) t = false := by
    rw [List.all_eq_false] at h
    obtain ⟨t, ht, hn⟩ := h
    exact ⟨t, ht, by simpa using hn⟩
  unfold swappedStores
  have short : ∀ {l : List Str}, l = ts.filterMap (fun
      | .Name id pos => if env.kindOf id == some .local && pos.line == (ts.head?.map (·.pos.line)).getD 0 then some id else none
      | _ => none) → (l.length != ts.length) = true := fun {l} hl => by
    have q : l.length < ts.length := by
      rw [hl]
      refine fm_short ?_
      obtain ⟨t, ht, hn⟩ := far
      refine ⟨t, ht, ?_⟩
      cases t with
      | Name x px =>
        have e : (env.kindOf x == some .local && px.line == (ts.head?.map (·.pos.line)).getD 0) = false := by
          have l0 : (ts.head?.map (·.pos.line)).getD 0 = lineOf ts := by cases ts <;> rfl
          rw [l0]
          have hn : (isLoc S x && px.line == lineOf ts) = false := hn
          have k : (env.kindOf x == some .local) = isLoc S x := by
            unfold Env.kindOf isLoc
            rw [he]
            cases S.sc.names.lookup x with
            | none => rfl
            | some k => cases k <;> rfl
          rw [k]; exact hn
        simp only [e]; rfl
      | _ => rfl
    simp only [bne_iff_ne, ne_eq]; omega
  show (if _ then _ else _) = _
  split
  · rfl
  · show (if _ then _ else _) = _
    split
    · rfl
    · exact if_pos (Bool.or_eq_true_iff.mpr (.inl (short rfl)))
theorem sw_two {x y : Str} {px py p p2 : Pos} {k k2 : Nat} {a b : Expr} {env : Env} (kd : env.scope.kind = .function) (hx : env.kindOf x = some .local) (hy : env.kindOf y = some .local) (hn : x ≠ y) (hl : py.line = px.line)
    (h1 : isStar a = false) (h2 : isStar b = false) (h3 : [a, b].all (foldedForSure 8) = false) (h4 : [a, b].all (constantsAlone 8) = false) : swappedStores [.Tuple [.Name x px, .Name y py] k p] (.Tuple [a, b] k2 p2) env = pure (some [x, y]) := by
  have bk : env.blockKind = .function := by unfold Env.blockKind; rw [kd]; rfl
  have st : ([a, b].any fun | .Starred .. => true | _ => false) = false := by
    cases a <;> first | (cases h1; done) | skip
    all_goals (cases b <;> first | (cases h2; done) | rfl)
  unfold swappedStores
  simp only [bk, st, h3, h4, List.length_cons, List.length_nil, List.filterMap_cons, List.filterMap_nil, List.head?_cons, Option.map_some, Option.getD_some, hx, hy, hl, Expr.pos, beq_self_eq_true, Bool.and_self, if_true]
  have ed : ([x, y] : List Str).eraseDups.length = 2 := by
    have e : (y == x) = false := by simpa using Ne.symm hn
    simp [List.eraseDups_cons, List.filter_cons, e]
  simp [ed]
  intro q
  exfalso
  rcases q with q | q
  · cases a <;> first | (cases h1; done) | (cases q; done)
  · cases b <;> first | (cases h2; done) | (cases q; done)
/-! ### try -/
theorem cst_tC {e : Expr} {d : D} (h : cstOf e = some d) {X : Cx} : ∃ v, PE X e (tC v) ∧ ∀ F, Rep X.K F d v := by
  unfold cstOf at h
  split at h <;> cases h
  · exact ⟨_, pe_int, fun _ => Rep.int_iff.mpr rfl⟩
  · exact ⟨_, pe_bl, fun _ => Rep.bl_iff.mpr rfl⟩
  · exact ⟨_, pe_non, fun _ => Rep.non_iff.mpr rfl⟩
  · exact ⟨_, pe_str, fun _ => Rep.str_iff.mpr rfl⟩
theorem hs_ok (c : Oks S T lv W X) : ∀ (hs : List ExceptHandler) (h : Hs), cHs S hs = some h → ∃ l, HdsOk X hs l ∧ ∀ {De : Ends} {F : Hp} {cc : Str} {ρ : Env'}, PostS X.K W X.mg H0 F0 De F (dHs (subOf S) cc ρ h) →
    ∀ σ H F' A C, Rl X.K H0 F0 ρ σ H F' A → Same F F' → X.mg cc = some (.ref C) → wMany X.K W De l (.ref C) none σ H
  | [], h, e => by
    have e : some Hs.nil = some h := e
    cases e
    exact ⟨[], .nil, fun p σ H F' A C r s m => p σ H F' A C r s m⟩
  | hd :: r, h, e => by
    unfold cHs at e
    split at e
    · rename_i heq
      cases heq
    · rename_i y p v p3 p4 r' heq
      cases heq
      split at e
      · rename_i hy
        rw [Option.bind_eq_some_iff] at e
        obtain ⟨d, hd, e⟩ := e
        rw [Option.map_eq_some_iff] at e
        obtain ⟨h', hh, rfl⟩ := e
        obtain ⟨l, h1, h2⟩ := hs_ok c r h' hh
        obtain ⟨hdb, Y, gY, _⟩ := c.exc y hy.2
        obtain ⟨u, _, hr⟩ := cst_tC hd (X := X)
        refine ⟨(.ref Y, fun _ _ _ => tRet (tC u)) :: l, .cons ⟨gl_of c.toOkc hy.1, hdb, .inl gY⟩ (fun a oe cls dd pn _ _ => ?_) h1, fun {De F cc ρ} p σ H F' A C r s m => ?_⟩
        · have hu : PE (X.suite a ((a, oe) :: pn)) v (tC u) := by
            obtain ⟨u', k1, k2⟩ := cst_tC hd (X := X.suite a ((a, oe) :: pn))
            have e0 : u' = u := by
              have g1 := k2 (fun _ => none)
              have g2 := hr (fun _ => none)
              unfold cstOf at hd
              split at hd <;> cases hd
              · rw [Rep.int_iff.mp g1, Rep.int_iff.mp g2]
              · rw [Rep.bl_iff.mp g1, Rep.bl_iff.mp g2]
              · rw [Rep.non_iff.mp g1, Rep.non_iff.mp g2]
              · rw [Rep.str_iff.mp g1, Rep.str_iff.mp g2]
            rw [← e0]; exact k1
          exact pss_one (ps_ret hu)
        · have p : PostS X.K W X.mg H0 F0 De F (match subOf S cc y with
            | some true => .rt d
            | some false => dHs (subOf S) cc ρ h'
            | none => .bad) := p
          cases hb : subOf S cc y with
          | none => rw [hb] at p; exact p.elim
          | some b =>
            rw [hb] at p
            refine ⟨b, c.sub cc y b hb C Y m gY, fun z a _ => ?_, fun z => ?_⟩
            · subst z; exact p u H F' r.ex (hr F')
            · subst z; exact h2 p σ H F' A C r s m
      · cases e
    · rename_i y p p3 p4 r' heq
      cases heq
      split at e
      · rename_i hy
        rw [Option.map_eq_some_iff] at e
        obtain ⟨h', hh, rfl⟩ := e
        obtain ⟨l, h1, h2⟩ := hs_ok c r h' hh
        obtain ⟨hdb, Y, gY, _⟩ := c.exc y hy.2
        refine ⟨(.ref Y, fun _ _ _ => tNext) :: l, .cons ⟨gl_of c.toOkc hy.1, hdb, .inl gY⟩ (fun a oe cls dd pn _ _ => pss_one ps_pass) h1, fun {De F cc ρ} p σ H F' A C r s m => ?_⟩
        have p : PostS X.K W X.mg H0 F0 De F (match subOf S cc y with
          | some true => .nx ρ
          | some false => dHs (subOf S) cc ρ h'
          | none => .bad) := p
        cases hb : subOf S cc y with
        | none => rw [hb] at p; exact p.elim
        | some b =>
          rw [hb] at p
          refine ⟨b, c.sub cc y b hb C Y m gY, fun z a _ => ?_, fun z => ?_⟩
          · subst z; exact p σ H F' A r s
          · subst z; exact h2 p σ H F' A C r s m
      · cases e
    · cases e
theorem Oks.tr (c : Oks S T lv W X) {W' : WX} {pn : List (Addr × Obj)} {xe : Value → Shared → Prop} (tk : Takes (X.tr pn xe) W') (ps : PassesOwn (model X.prog X.w) X.A X.env xe) : Oks S T lv W' (X.tr pn xe) where
  N := c.N
  sc := c.sc
  nd := c.nd
  nm := c.nm
  own := c.own
  calm := c.calm
  room := c.room
  tk := tk
  fns := fun i x n h => ⟨⟨(c.fns i x n h).1.ex⟩, (c.fns i x n h).2⟩
  cst := c.cst
  blt := c.blt
  stk := c.stk
  frm := c.frm
  kind := c.kind
  pass := ps
  exc := c.exc
  sub := c.sub
/-- what is known of statements at a depth -/
def Sns (T : Nat → List D → R D) (lv : Nat) (n : Nat) : Prop := ∀ (S : SC) (W : WX) (X : Cx) (H0 F0 : Hp), Oks S T lv W X → (∀ s ir, cS n S s = some ir → SS X T S W H0 F0 s ir) ∧ ∀ ss ir, cSs n S ss = some ir → SSs X T S W H0 F0 ss ir
theorem ss_tr {n : Nat} (sn : Sns T lv n) (c : Oks S T lv W X) {body : List Stmt} {h₀ : ExceptHandler} {hs : List ExceptHandler} {pos : Pos} {b : Sms} {h : Hs} (hb : cSs n S body = some b) (hh : cHs S (h₀ :: hs) = some h) : SS X T S W H0 F0 (.Try body (h₀ :: hs) [] [] pos) (.tr b h) := by
  obtain ⟨l, h1, h2⟩ := hs_ok (H0 := H0) (F0 := F0) c (h₀ :: hs) h hh
  refine PS.imp (ps_try_many (tb := fun W' => tS X.K W' X.mg H0 F0 (dSs T (subOf S) b)) c.stk c.frm c.tk (fun W' pn xe tk ps => (sn S W' (X.tr pn xe) H0 F0 (c.tr tk ps)).2 body b hb) h1) fun De σ H q => ?_
  obtain ⟨ρ, F, A, rl, p⟩ := q
  refine ⟨ρ, F, A, rl, ?_⟩
  have p : PostS X.K W X.mg H0 F0 De F (match dSs T (subOf S) b ρ with
    | .exc c ρ' => dHs (subOf S) c ρ' h
    | f => f) := p
  cases hd : dSs T (subOf S) b ρ with
  | nx ρ' => rw [hd] at p; exact p
  | rt d => rw [hd] at p; exact p
  | bk d => rw [hd] at p; exact p
  | ct d => rw [hd] at p; exact p
  | exc cc d => rw [hd] at p; exact fun σ' H' F' A' C r s m => h2 p σ' H' F' A' C r s m
  | bad => rw [hd] at p; exact p
/-- name = [..] on a line -/
theorem ss_comp {n : Nat} (c : Oks S T lv W X) {x : Str} {px spos pos : Pos} {elt tg iter : Expr} {ifs : List Expr} {scope : Scope} {i : Nat} {own' : Bool} {fz : List Nat} {y : E} {own : List Nat} {t : Tg} {it : Z.It} {z : E} (ho : cOwn S x = some i) (k : CompOk S n elt tg iter ifs scope y own t it z) :
    SS X T S W H0 F0 (.Assign [.Name x px] (.ListComp elt [⟨tg, iter, ifs, 0⟩] scope pos) spos) (.set fz i own' (.comp y own t it z)) := by
  obtain ⟨h1, h2, h3⟩ := own_of c.toOkc ho
  have sn := snd (T := T) (lv := lv) n
  have ii := fun s H C cl fp => inner_ok (scope := scope) c.toOkc s H C cl fp
  have eo := k.eo
  subst eo
  have body : ∀ {t' : TS}, (PS X (.Assign [.Name x px] (.ListComp elt [⟨tg, iter, ifs, 0⟩] scope pos) spos) t') → (∀ De σ H, tAsg (tE X.K W X.mg true (dE T (.comp y _ t it z))) (gName i) De σ H → t' De σ H) →
      SS X T S W H0 F0 (.Assign [.Name x px] (.ListComp elt [⟨tg, iter, ifs, 0⟩] scope pos) spos) (.set fz i own' (.comp y ((ownOf S.N scope.names).map (·.2)) t it z)) := fun {t'} h im => by
    refine PS.imp h fun De σ H q => im De σ H ?_
    obtain ⟨ρ, F, A, rl, p⟩ := q
    obtain ⟨F1, rl1, s1⟩ := rl.frzL fz
    refine ⟨H0, F0, _, F1, A, rl1, fl_E rl1 (p.sub s1) fun d v H' F' e r p => ?_⟩
    exact store_nx rl1 e r p
  have bk : X.env.blockKind = .function := by unfold Env.blockKind; rw [c.kind]; rfl
  -- whether the store is the comprehension's own
  by_cases hsw : (X.env.blockKind == ScopeKind.function && X.env.kindOf x == some NameKind.local && px.line == pos.line && !scope.names.any fun (m, k) => m == x && (k == NameKind.local || k == NameKind.cell)) = true
  · have h := ps_setLc (own := ownOf S.N scope.names) (py := px) (pos := pos) (spos := spos) (wi := tI X.K W X.mg (dIt T it)) (g := tG X.K t) (tt := tT X.K (fun _ _ _ _ => False) X.mg (dT T z)) (te := tE X.K (fun _ _ _ _ => False) X.mg false (dE T y)) c.calm c.nd h1 (by
      have q := hsw
      simp only [Bool.and_eq_true, beq_iff_eq] at q
      exact q.1.1.2) (by
      have e : swapsWith (.ListComp elt [⟨tg, iter, ifs, 0⟩] scope pos) (some (.Name x px)) spos.line X.env = pure (X.env.blockKind == ScopeKind.function && X.env.kindOf x == some NameKind.local && px.line == pos.line && !scope.names.any fun (m, k) => m == x && (k == NameKind.local || k == NameKind.cell)) := rfl
      rw [e, hsw]) ((sn S W X c.toOkc).2.2 tg iter it k.hit) (by rw [c.N, c.sc]; exact blkOk_by k.blk)
      (fun s H C cl fp => cTgF_ok (ii s H C cl fp) n tg t k.htg) (fun s H C cl fp => pts_ok sn (ii s H C cl fp) k.hifs)
      (fun s H C cl fp => ((sn _ _ _ (ii s H C cl fp)).1 elt y k.hx).weak) (notSetIter (cIt_notSet k.hit))
    exact body h fun De σ H q => comp_core k.sub q
  · have h := ps_asg (tg := .Name x px) (pos := spos) (se_comp (pos := pos) sn c.toOkc k) (pg_name c.nd h1 h2 h3) (by
      have e : swapsWithSole [.Name x px] (.ListComp elt [⟨tg, iter, ifs, 0⟩] scope pos) spos.line X.env = pure (X.env.blockKind == ScopeKind.function && X.env.kindOf x == some NameKind.local && px.line == pos.line && !scope.names.any fun (m, k) => m == x && (k == NameKind.local || k == NameKind.cell)) := rfl
      rw [e, Bool.eq_false_iff.mpr hsw]) rfl (ae_one rfl)
    exact body h fun De σ H q => q
end
end Z
/-! Statements, all of them; defs; a whole text. -/
namespace Z
open PySem PySem.Spec PyProof.Rows L2
section
variable {T : Nat → List D → R D} {lv : Nat}
theorem asg_ok {n : Nat} {S : SC} {W : WX} {X : Cx} {H0 F0 : Hp} (c : Oks S T lv W X) {tg v : Expr} {pos : Pos} {ir : Sm} (h : cAssign n S tg v pos.line = some ir) : SS X T S W H0 F0 (.Assign [tg] v pos) ir := by
  have sn := snd (T := T) (lv := lv) n
  have ih := sn S W X c.toOkc
  have loc : ∀ {x : Str}, isLoc S x = true → X.env.kindOf x = some .local := fun {x} h => by
    show X.env.scope.names.lookup x = _
    rw [c.sc]
    unfold isLoc at h
    cases q : S.sc.names.lookup x with
    | none => rw [q] at h; cases h
    | some k => rw [q] at h; cases k <;> first | rfl | cases h
  cases tg with
  | Name x px =>
    simp only [cAssign] at h
    rw [Option.bind_eq_some_iff] at h
    obtain ⟨i, hi, h⟩ := h
    rw [Option.map_eq_some_iff] at h
    obtain ⟨e, he, rfl⟩ := h
    by_cases hc : isComp v = false
    · exact ss_set c hi hc (ih.1 v e he)
    · cases v with
      | ListComp elt gens scope p =>
        cases n with
        | zero => cases he
        | succ n =>
          match gens, he with
          | [⟨tg, iter, ifs, k⟩], he =>
            obtain ⟨rfl, y, own, t, it, z, rfl, ok⟩ := compOk_of he
            exact ss_comp c hi ok
          | [], he => simp [cE] at he
          | _ :: _ :: _, he => simp [cE] at he
      | SetComp _ _ _ _ => cases n <;> cases he
      | DictComp _ _ _ _ _ => cases n <;> cases he
      | _ => exact absurd rfl hc
  | Tuple ts k p =>
    have unp : ∀ {v : Expr}, isComp v = false → swappedStores [.Tuple ts k p] v X.env = pure none → ((cTgF n S (.Tuple ts k p)).bind fun t => (cE n S v).map fun e => Sm.unp (fzOf S (fvE e)) t e) = some ir → SS X T S W H0 F0 (.Assign [.Tuple ts k p] v pos) ir := fun {v} hc hs h => by
      rw [Option.bind_eq_some_iff] at h
      obtain ⟨t, ht, h⟩ := h
      rw [Option.map_eq_some_iff] at h
      obtain ⟨e, he, rfl⟩ := h
      exact ss_unp c ht hc hs (ih.1 v e he)
    have unpT : ∀ {vs : List Expr} {k2 : Nat} {p2 : Pos}, (if vs.all (foldedForSure 8) = true ∨ ts.all (locAt S (lineOf ts)) = false then (cTgF n S (.Tuple ts k p)).bind fun t => (cE n S (.Tuple vs k2 p2)).map fun e => Sm.unp (fzOf S (fvE e)) t e else none) = some ir →
        SS X T S W H0 F0 (.Assign [.Tuple ts k p] (.Tuple vs k2 p2) pos) ir := fun {vs k2 p2} h => by
      split at h
      · rename_i hq
        refine unp rfl ?_ h
        rcases hq with hq | hq
        · exact sw_fold hq
        · exact sw_far c.sc hq
      · cases h
    cases v with
    | Tuple vs k2 p2 =>
      simp only [cAssign] at h
      split at h
      · rename_i x px y py a b
        split at h
        · rename_i hq
          obtain ⟨q1, q2, q3, q4, q5, q6, q7, q8⟩ := hq
          rw [Option.bind_eq_some_iff] at h
          obtain ⟨i, hi, h⟩ := h
          rw [Option.bind_eq_some_iff] at h
          obtain ⟨j, hj, h⟩ := h
          rw [Option.map_eq_some_iff] at h
          obtain ⟨es, he, rfl⟩ := h
          exact ss_par c hi hj q1 q2 q3 (sw_two c.kind (loc q1) (loc q2) q3 q4 q5 q6 q7 q8) (ses_ok sn c.toOkc he).1
        · exact unpT h
      · exact unpT h
    | ListComp _ _ _ _ => simp [cAssign, isComp] at h
    | SetComp _ _ _ _ => simp [cAssign, isComp] at h
    | DictComp _ _ _ _ _ => simp [cAssign, isComp] at h
    | _ => exact unp rfl rfl (by simpa [cAssign, isComp] using h)
  | _ => cases h
theorem exp_ok {n : Nat} {S : SC} {W : WX} {X : Cx} {H0 F0 : Hp} (c : Oks S T lv W X) {v : Expr} {pos : Pos} {ir : Sm} (h : (if isComp v = true then none else (cE n S v).map fun e => Sm.exp (fzOf S (fvE e)) e) = some ir) : SS X T S W H0 F0 (.Expr v pos) ir := by
  split at h
  · cases h
  · rename_i hc
    rw [Option.map_eq_some_iff] at h
    obtain ⟨e, he, rfl⟩ := h
    exact ss_exp (by simpa using hc) ((snd n S W X c.toOkc).1 v e he)
theorem sns : ∀ n, Sns T lv n
  | 0 => fun S W X H0 F0 c => ⟨fun _ _ h => (by cases h), fun _ _ h => (by cases h)⟩
  | n + 1 => fun S W X H0 F0 c => by
    have sn := snd (T := T) (lv := lv) n
    have ih := sn S W X c.toOkc
    have is := sns n S W X H0 F0 c
    refine ⟨fun s ir h => ?_, fun ss ir h => ?_⟩
    · cases s with
      | Assign tgs v pos =>
        match tgs, h with
        | [tg], h => exact asg_ok c (show cAssign n S tg v pos.line = some ir from h)
        | [], h => simp [cS] at h
        | _ :: _ :: _, h => simp [cS] at h
      | AugAssign tg op v pos =>
        cases tg with
        | Name x px =>
          simp only [cS] at h
          rw [Option.bind_eq_some_iff] at h
          obtain ⟨o, ho, h⟩ := h
          rw [Option.bind_eq_some_iff] at h
          obtain ⟨i, hi, h⟩ := h
          rw [Option.map_eq_some_iff] at h
          obtain ⟨e, he, rfl⟩ := h
          rw [augOf_eq ho]
          exact ss_aug c hi (ih.1 v e he)
        | _ => cases h
      | Return v pos =>
        cases v with
        | none => cases h; exact ss_retN
        | some v =>
          simp only [cS] at h
          rw [Option.map_eq_some_iff] at h
          obtain ⟨e, he, rfl⟩ := h
          exact ss_ret (ih.1 v e he)
      | If v a b pos =>
        simp only [cS] at h
        rw [Option.bind_eq_some_iff] at h
        obtain ⟨z, hz, h⟩ := h
        rw [Option.bind_eq_some_iff] at h
        obtain ⟨x, hx, h⟩ := h
        rw [Option.map_eq_some_iff] at h
        obtain ⟨y, hy, rfl⟩ := h
        exact ss_ite (ih.2.1 v z hz) (is.2 a x hx) (is.2 b y hy)
      | For tg iter body orelse pos =>
        cases orelse with
        | nil =>
          simp only [cS] at h
          rw [Option.bind_eq_some_iff] at h
          obtain ⟨t, ht, h⟩ := h
          rw [Option.bind_eq_some_iff] at h
          obtain ⟨it, hit, h⟩ := h
          rw [Option.map_eq_some_iff] at h
          obtain ⟨b, hb, rfl⟩ := h
          exact ss_fo c ht (cIt_notSet hit) (ih.2.2 tg iter it hit) (is.2 body b hb)
        | cons _ _ => cases h
      | While v body orelse pos =>
        cases orelse with
        | nil =>
          simp only [cS] at h
          rw [Option.bind_eq_some_iff] at h
          obtain ⟨z, hz, h⟩ := h
          rw [Option.map_eq_some_iff] at h
          obtain ⟨b, hb, rfl⟩ := h
          exact ss_wh c (ih.2.1 v z hz) (is.2 body b hb)
        | cons _ _ => cases h
      | Pass pos => cases h; exact ss_skip ps_pass fun _ => rfl
      | Break pos =>
        cases h
        exact PS.imp ps_break fun De σ H q => by
          obtain ⟨ρ, F, A, rl, p⟩ := q
          exact p σ H F A rl (Same.refl _)
      | Continue pos =>
        cases h
        exact PS.imp ps_continue fun De σ H q => by
          obtain ⟨ρ, F, A, rl, p⟩ := q
          exact p σ H F A rl (Same.refl _)
      | Try body hs orelse fin pos =>
        cases hs with
        | nil => simp [cS] at h
        | cons h₀ hs =>
          cases orelse with
          | cons _ _ => simp [cS] at h
          | nil =>
            cases fin with
            | cons _ _ => simp [cS] at h
            | nil =>
              simp only [cS] at h
              rw [Option.bind_eq_some_iff] at h
              obtain ⟨b, hb, h⟩ := h
              rw [Option.map_eq_some_iff] at h
              obtain ⟨hh, he, rfl⟩ := h
              exact ss_tr (sns n) c hb he
      | Raise ex cause pos =>
        simp only [cS] at h
        split at h <;> try (cases h; done)
        all_goals first
          | (rename_i heq; cases heq; done)
          | skip
        rename_i heq
        cases heq
        split at h
        · rename_i hq
          cases h
          exact ss_rai c hq.1 hq.2
        · cases h
      | Expr v pos =>
        cases v with
        | Constant k j p =>
          cases k with
          | str x => cases h; exact ss_skip ps_doc fun _ => rfl
          | _ => exact exp_ok (n := n) c h
        | Call f args kws cp =>
          have plain : (if isComp (.Call f args kws cp) = true then none else (cE n S (.Call f args kws cp)).map fun e => Sm.exp (fzOf S (fvE e)) e) = some ir → SS X T S W H0 F0 (.Expr (.Call f args kws cp) pos) ir := exp_ok (n := n) c
          cases f with
          | Attribute o m ap =>
            cases o with
            | Name x px =>
              match args, kws, h with
              | [a], [], hh =>
                have h := hh
                clear hh
                simp only [cS] at h
                split at h
                · rename_i hq
                  split at h
                  · rename_i hm
                    rw [hm]
                    rw [Option.bind_eq_some_iff] at h
                    obtain ⟨i, hi, h⟩ := h
                    rw [Option.map_eq_some_iff] at h
                    obtain ⟨e, he, rfl⟩ := h
                    exact ss_app c hq.1 hi hq.2.1 hq.2.2 (ih.1 a e he)
                  · split at h
                    · rename_i hm
                      rw [hm]
                      rw [Option.bind_eq_some_iff] at h
                      obtain ⟨i, hi, h⟩ := h
                      rw [Option.map_eq_some_iff] at h
                      obtain ⟨e, he, rfl⟩ := h
                      exact ss_ext c hq.1 hi hq.2.1 hq.2.2 (ih.1 a e he)
                    · cases h
                · cases h
              | [], _, h => exact exp_ok (n := n) c h
              | _ :: _ :: _, _, h => exact exp_ok (n := n) c h
              | [_], _ :: _, h => exact exp_ok (n := n) c h
            | _ => exact plain h
          | _ => exact plain h
        | _ => exact exp_ok (n := n) c h
      | _ => cases h
    · cases ss with
      | nil =>
        have h : some Sms.nil = some ir := h
        cases h
        exact sss_nil
      | cons s r =>
        simp only [cSs] at h
        rw [Option.bind_eq_some_iff] at h
        obtain ⟨a, ha, h⟩ := h
        rw [Option.map_eq_some_iff] at h
        obtain ⟨b, hb, rfl⟩ := h
        exact sss_cons (is.1 s a ha) (is.2 r b hb)
end
/-! ### defs -/
/-- a def of the text: its name, its statement, its names by slots (parameters first), how many parameters, its term -/
structure Def where
  name : Str
  st : Stmt
  N : List Str
  ar : Nat
  muts : List Nat
  body : Sms
/-- a text: its defs, its constants, its error classes and which catches which -/
structure Txt where
  defs : List Def
  cst : List (Str × D)
  exc : List Str
  sub : List ((Str × Str) × Bool)
def Txt.sc (t : Txt) (d : Def) : SC := { N := d.N, sc := defScope d.st, own := (defScope d.st).names, fns := t.defs.map fun d => (d.name, d.ar), cst := t.cst, muts := d.muts, exc := t.exc, sub := t.sub }
def subL (l : List ((Str × Str) × Bool)) (c y : Str) : Option Bool := l.lookup (c, y)
def startE (N : List Str) (ds : List D) : Env' := ds.map .im ++ List.replicate (N.length - ds.length) .un
/-- how a body's end is a def's -/
def Fl.out : Fl → R D
  | .nx _ => .ok .non
  | .rt d => .ok d
  | .exc c _ => .exc c
  | _ => .bad
/-- what a def of a text computes, calls so deep at most -/
def run (t : Txt) : Nat → Nat → List D → R D
  | 0, _, _ => .bad
  | n + 1, i, ds => match t.defs[i]? with
    | none => .bad
    | some d => if ds.length = d.ar then (dSs (run t n) (subL t.sub) d.body (startE d.N ds)).out else .bad
/-- what is checked of a def, once -/
structure DefOk (t : Txt) (d : Def) : Prop where
  comp : cSs 200 (t.sc d) (defBody d.st) = some d.body
  sc : FnScope d.N (d.N.take d.ar) (defScope d.st)
  le : d.ar ≤ d.N.length
  nm : ∀ x ∈ d.N, (x == ("__debug__" : Str)) = false ∧ (x == ("__classdict__" : Str)) = false
structure TxtOk (t : Txt) : Prop where
  defs : ∀ (i : Nat) (d : Def), t.defs[i]? = some d → DefOk t d
  nmf : ∀ (i : Nat) (d : Def), t.defs[i]? = some d → (d.name == ("__debug__" : Str)) = false
/-- what is known behind the top -/
structure Known (t : Txt) (K : PySem.W.Frag) (mg : Str → Option Value) : Prop where
  fn : ∀ (i : Nat) (d : Def), t.defs[i]? = some d → ∃ f fd, FunD K d.name d.name (defArgs d.st) (defBody d.st) (defScope d.st) [] [] f fd ∧ mg d.name = some (.ref f) ∧ Binds K fd (d.N.take d.ar) []
  cst : ∀ x d, t.cst.lookup x = some d → (x == ("__debug__" : Str)) = false ∧ ∃ v u, mg x = some u ∧ RelV v u ∧ ∀ F, Rep K F d v
  blt : ∀ x ∈ bltNames, mg x = none
  exc : ∀ x ∈ t.exc, (x == ("__debug__" : Str)) = false ∧ ∃ C, mg x = some (.ref C) ∧ PySem.W.excIn K C [.type "ValueError", .type "Exception", .type "BaseException", .type "object"] "ValueError.__new__" = true ∧ PySem.W.keepIn K (.ref C) = true ∧
    PySem.W.subIn K (.ref C) (.type "BaseException") = some true ∧ PySem.W.typeIn K (.ref C) = some (.type "type")
  sub : ∀ c y b, t.sub.lookup (c, y) = some b → ∀ C Y, mg c = some (.ref C) → mg y = some (.ref Y) → PySem.W.exmOne K (.ref C) (.ref Y) = some b
theorem rl_start {K : PySem.W.Frag} {N : List Str} {ds : List D} {vs : List V} {H F : Hp} (s : Same F H) (r : RepL K F ds vs) (hl : ds.length ≤ N.length) : Rl K H F (startE N ds) (L2.start N vs) H F (fun _ => 0) := by
  have l := r.length
  have no : ∀ {i : Nat} {d : D}, (startE N ds)[i]? ≠ some (.ow d) := fun {i d} q => by
    unfold startE at q
    by_cases hi : i < (ds.map Slot.im).length
    · rw [List.getElem?_append_left hi, List.getElem?_map] at q
      cases h : ds[i]? with
      | none => rw [h] at q; cases q
      | some e => rw [h] at q; cases q
    · rw [List.getElem?_append_right (by omega), List.getElem?_replicate] at q
      split at q <;> cases q
  refine ⟨Ex.refl s, ?_, fun i sl hs => ?_, fun i d h => absurd h no, fun i j d e h => absurd h no⟩
  · unfold startE L2.start
    rw [List.length_append, List.length_append, List.length_map, List.length_map, List.length_replicate, List.length_replicate, l]
  · unfold startE at hs
    by_cases hi : i < (ds.map Slot.im).length
    · rw [List.getElem?_append_left hi, List.getElem?_map, Option.map_eq_some_iff] at hs
      obtain ⟨d, hd, rfl⟩ := hs
      obtain ⟨v, h1, h2⟩ := r.get hd
      refine ⟨v, ?_, h2⟩
      unfold L2.start
      rw [List.getElem?_append_left (by rw [List.length_map, ← l]; simpa using hi), List.getElem?_map, h1]
      rfl
    · rw [List.getElem?_append_right (by omega), List.getElem?_replicate] at hs
      split at hs
      · cases hs; trivial
      · cases hs
theorem fn_ok {t : Txt} (ok : TxtOk t) {P : Program} {w : World} {K : PySem.W.Frag} {mg : Str → Option Value} {base : Heap} (kn : Known t K mg) : ∀ (n i : Nat) (d : Def), t.defs[i]? = some d →
    ∃ f fd, FnOk P w K mg base (L2.CX P w) n f fd (d.N.take d.ar) (spD K mg (run t n i) d.ar) ∧ mg d.name = some (.ref f) ∧ PySem.W.keepIn K (.ref f) = true ∧ Binds K fd (d.N.take d.ar) [] ∧ FunD K d.name d.name (defArgs d.st) (defBody d.st) (defScope d.st) [] [] f fd
  | 0, i, d, h => by
    obtain ⟨f, fd, F, hm, hb⟩ := kn.fn i d h
    have no : ∀ {vs : List V} {H : Hp} {Q : VK} {E : XK}, ¬ spD K mg (run t 0 i) d.ar vs H Q E := fun {vs H Q E} ⟨_, ds, _, _, _, q⟩ => q
    exact ⟨f, fd, ⟨fun vs H Q E q => (no q).elim, fun _ _ _ _ _ _ _ _ _ _ _ _ _ q => (no q).elim⟩, hm, F.kp, hb, F⟩
  | n + 1, i, d, h => by
    obtain ⟨f, fd, F, hm, hb⟩ := kn.fn i d h
    have dk := ok.defs i d h
    have hl : (d.N.take d.ar).length = d.ar := by rw [List.length_take]; have := dk.le; omega
    refine ⟨f, fd, F.ok dk.sc (fun vs H Q E q => ?_) (fun cdv A outer s H vs Q E hr q => ?_), hm, F.kp, hb, F⟩
    · obtain ⟨_, _, _, _, q, _⟩ := q
      rw [q, hl]
    · obtain ⟨F0, ds, sF, rd, hv, q⟩ := q
      have hds : ds.length = d.ar := by rw [rd.length, hv]
      have ks : Oks (t.sc d) (run t n) n (fun cls dd _ H => E cls dd H) (cxOf (L2.CX P w) P w K mg base d.N d.name (defScope d.st) f cdv A outer s H E) := {
        N := rfl
        sc := rfl
        nd := dk.sc.nd
        nm := dk.nm
        own := fun x hx => by
          refine ⟨?_, .inl rfl⟩
          have hx : (match (defScope d.st).names.lookup x with
            | some .local => true
            | some .cell => true
            | _ => false) = true := hx
          show (defScope d.st).names.lookup x = _ ∨ (defScope d.st).names.lookup x = _
          cases q : (defScope d.st).names.lookup x with
          | none => rw [q] at hx; cases hx
          | some k => rw [q] at hx; cases k <;> first | exact .inl rfl | exact .inr rfl | cases hx
        calm := rfl
        room := hr
        tk := takes_of rfl rfl rfl rfl
        fns := fun j x m hj => by
          have hj : (t.defs.map fun d => (d.name, d.ar))[j]? = some (x, m) := hj
          rw [List.getElem?_map, Option.map_eq_some_iff] at hj
          obtain ⟨e, he, hx⟩ := hj
          cases hx
          obtain ⟨f', fd', F', hm', kp', hb', _⟩ := fn_ok ok kn n j e he
          have ek := ok.defs j e he
          exact ⟨⟨f', fd', _, F', hm', kp', hb', by rw [List.length_take]; have := ek.le; omega⟩, ok.nmf j e he⟩
        cst := kn.cst
        blt := kn.blt
        stk := rfl
        frm := rfl
        kind := dk.sc.kind
        pass := passes_of rfl
        exc := kn.exc
        sub := kn.sub }
      have st := (sns (T := run t n) (lv := n) 200 _ _ _ H F0 ks).2 _ _ dk.comp
      refine ⟨_, st, startE d.N ds, F0, _, rl_start sF rd (by rw [hds]; exact dk.le), ?_⟩
      have er : run t (n + 1) i ds = (dSs (run t n) (subL t.sub) d.body (startE d.N ds)).out := by
        show (match t.defs[i]? with
          | none => R.bad
          | some d => if ds.length = d.ar then (dSs (run t n) (subL t.sub) d.body (startE d.N ds)).out else .bad) = _
        rw [h]
        exact if_pos hds
      rw [er] at q
      have es : dSs (run t n) (subOf (t.sc d)) d.body (startE d.N ds) = dSs (run t n) (subL t.sub) d.body (startE d.N ds) := rfl
      rw [es]
      cases hf : dSs (run t n) (subL t.sub) d.body (startE d.N ds) with
      | nx ρ => rw [hf] at q; exact fun σ' H' F' A' r _ => q .non H' F' r.ex (Rep.non_iff.mpr rfl)
      | rt d => rw [hf] at q; exact fun v H' F' e r => q v H' F' e r
      | bk ρ => rw [hf] at q; exact q.elim
      | ct ρ => rw [hf] at q; exact q.elim
      | exc c ρ => rw [hf] at q; exact fun σ' H' F' A' C r _ m => q H' F' C r.ex m
      | bad => rw [hf] at q; exact q.elim
end Z
/-! From a text whose law computes True to the row: what the head tells, the end. -/
namespace Z
open PySem PySem.Spec PyProof.Rows L2
def Each {α : Type} (p : α → Prop) : List α → Prop
  | [] => True
  | x :: r => p x ∧ Each p r
theorem Each.get {α : Type} {p : α → Prop} : ∀ {l : List α} {i : Nat} {x : α}, Each p l → l[i]? = some x → p x
  | [], _, _, _, h => by simp at h
  | y :: r, 0, x, e, h => by rw [List.getElem?_cons_zero] at h; cases h; exact e.1
  | y :: r, i + 1, x, e, h => by rw [List.getElem?_cons_succ] at h; exact Each.get e.2 h
def mkD (d : Def) : He.DefD := ⟨(d.name, none), d.name, d.name, defArgs d.st, defBody d.st, defScope d.st, [], []⟩
def cstFa : Str × D → List He.Fa
  | (x, .int i) => [.int x i]
  | (x, .str z) => [.str x z]
  | _ => []
def cstOk : Str × D → Bool
  | (_, .int _) => true
  | (_, .str _) => true
  | _ => false
def Txt.fn (t : Txt) : List He.DefD := t.defs.map mkD
def Txt.fa (t : Txt) : List He.Fa := (t.defs.map fun d => .glo d.name) ++ (t.exc.flatMap fun c => [.glo c, .exc c]) ++ (t.sub.map fun p => .exm p.1.1 p.1.2 p.2) ++ (t.cst.flatMap cstFa) ++ bltNames.map .free
/-- each parameter takes an argument -/
def BindOk (d : Def) : Prop := ∀ (kV doc pm : Value) (an : Option Addr) (cdv ct : Value) (us : List Value), us.length = (d.N.take d.ar).length → bindArgs (PySem.W.fnOf d.name d.name (defArgs d.st) (defBody d.st) (defScope d.st) .none kV doc pm an cdv ct) ⟨us, []⟩ = pure ((d.N.take d.ar).zip us)
structure TxtFit (t : Txt) : Prop where
  bind : Each BindOk t.defs
  cst : t.cst.all (fun p => cstOk p && !(p.1 == ("__debug__" : Str))) = true
  exc : t.exc.all (fun c => !(c == ("__debug__" : Str))) = true
  sub : t.sub.all (fun p => t.exc.contains p.1.1 && t.exc.contains p.1.2) = true
section
variable {t : Txt} {K : PySem.W.Frag} {h : Heap} {mg : Str → Option Value}
theorem lookup_mem {α : Type} [BEq α] [LawfulBEq α] {β : Type} : ∀ {l : List (α × β)} {x : α} {b : β}, l.lookup x = some b → (x, b) ∈ l
  | [], _, _, h => by cases h
  | (y, c) :: r, x, b, h => by
    rw [List.lookup_cons] at h
    cases e : x == y with
    | true =>
      rw [e] at h
      cases h
      rw [eq_of_beq e]
      exact List.mem_cons_self
    | false => rw [e] at h; exact List.mem_cons_of_mem _ (lookup_mem h)
theorem fact_of {fa : List He.Fa} {fn : List He.DefD} (c : He.SaysD fa fn K) {f : He.Fa} (h : f ∈ fa) : f.ok K = true := by
  obtain ⟨i, hi⟩ := List.getElem?_of_mem h
  exact c.fact i hi
theorem known (fit : TxtFit t) (X : K.In h) (G : h.Ns mainGlobals mg) (c : He.SaysD t.fa t.fn K) : Known t K mg where
  fn i d hd := by
    obtain ⟨fd, F⟩ := c.def_ i (d := mkD d) (by show (t.defs.map mkD)[i]? = _; rw [List.getElem?_map, hd]; rfl)
    refine ⟨_, fd, F, ?_, FunD.bindsN F (Each.get fit.bind hd)⟩
    refine He.glo_ok X G (fact_of c ?_)
    unfold Txt.fa
    simp only [List.mem_append]
    exact .inl (.inl (.inl (.inl (List.mem_map.mpr ⟨d, List.mem_of_getElem? hd, rfl⟩))))
  cst x d hx := by
    have m := lookup_mem hx
    have q := List.all_eq_true.mp fit.cst _ m
    rw [Bool.and_eq_true] at q
    refine ⟨by simpa using q.2, ?_⟩
    have mem : ∀ f ∈ cstFa (x, d), f.ok K = true := fun f hf => fact_of c (by
      unfold Txt.fa
      simp only [List.mem_append]
      exact .inl (.inr (List.mem_flatMap.mpr ⟨_, m, hf⟩)))
    match d, q, mem with
    | .int i, _, mem =>
      obtain ⟨tg, e⟩ := He.int_ok X G (mem _ (List.mem_singleton.mpr rfl))
      exact ⟨.int _, _, e, ⟨tg, rfl⟩, fun F => Rep.int_iff.mpr rfl⟩
    | .str z, _, mem =>
      obtain ⟨tg, e⟩ := He.str_ok X G (mem _ (List.mem_singleton.mpr rfl))
      exact ⟨.str _, _, e, ⟨tg, rfl⟩, fun F => Rep.str_iff.mpr rfl⟩
    | .non, q, _ => exact absurd q.1 (by simp [cstOk])
    | .bl _, q, _ => exact absurd q.1 (by simp [cstOk])
    | .tup _, q, _ => exact absurd q.1 (by simp [cstOk])
    | .lst _, q, _ => exact absurd q.1 (by simp [cstOk])
    | .dic _ _, q, _ => exact absurd q.1 (by simp [cstOk])
    | .scr _, q, _ => exact absurd q.1 (by simp [cstOk])
    | .obj _ _ _, q, _ => exact absurd q.1 (by simp [cstOk])
  blt x hx := He.free_ok X G (fact_of c (by
    unfold Txt.fa
    simp only [List.mem_append]
    exact .inr (List.mem_map.mpr ⟨x, hx, rfl⟩)))
  exc x hx := by
    refine ⟨by simpa using List.all_eq_true.mp fit.exc x hx, ?_⟩
    have mem : ∀ f ∈ [He.Fa.glo x, He.Fa.exc x], f.ok K = true := fun f hf => fact_of c (by
      unfold Txt.fa
      simp only [List.mem_append]
      exact .inl (.inl (.inl (.inr (List.mem_flatMap.mpr ⟨_, hx, hf⟩)))))
    have g := He.glo_ok X G (mem (.glo x) (by simp))
    obtain ⟨e1, e2, e3, e4⟩ := He.exc_ok (mem (.exc x) (by simp))
    exact ⟨_, g, e1, e2, e3, e4⟩
  sub c' y b hl C Y hC hY := by
    have m := lookup_mem hl
    have q := List.all_eq_true.mp fit.sub _ m
    rw [Bool.and_eq_true] at q
    have glo : ∀ z ∈ t.exc, mg z = some (.ref (He.ga K z)) := fun z hz => He.glo_ok X G (fact_of c (by
      unfold Txt.fa
      simp only [List.mem_append]
      exact .inl (.inl (.inl (.inr (List.mem_flatMap.mpr ⟨_, hz, by simp⟩))))))
    have z := He.exm_ok (K := K) (x := c') (y := y) (b := b) (fact_of c (by
      unfold Txt.fa
      simp only [List.mem_append]
      exact .inl (.inl (.inr (List.mem_map.mpr ⟨_, m, rfl⟩)))))
    have g1 := glo _ (by simpa using q.1)
    have g2 := glo _ (by simpa using q.2)
    rw [hC] at g1
    rw [hY] at g2
    cases g1
    cases g2
    exact z
/-- an error that leaves a def, in whatever world -/
def CXw : CXT := fun outer H s E e s' => ∃ P w, L2.CX P w outer H s E e s'
theorem CXw.no {H : Hp} {s : Shared} {e : Value} {s' : Shared} (h : CXw [] H s (fun _ _ _ => False) e s') : False := by
  obtain ⟨_, _, _, _, _, _, _, _, _, _, _, _, _, _, z⟩ := h
  exact z
theorem law_facts {P : Program} {w : World} (ok : TxtOk t) (fit : TxtFit t) {i : Nat} {d : Def} (hd : t.defs[i]? = some d) (ha : d.ar = 1) (hn : d.N.take 1 = [("script" : Str)]) {LV : Nat} (law : ∀ ns : List Int, ns.length ≤ 63 → run t LV i [.scr ns] = .ok (.bl true))
    (X : K.In h) (G : h.Ns mainGlobals mg) (c : He.SaysD t.fa t.fn K) {f : Addr} (hf : mg d.name = some (.ref f)) :
    ∃ (fd : FuncData) (sp : Sp), (∀ (s : Shared) (v : Value), BindsTo s fd ⟨[v], []⟩ [(("script" : Str), v)]) ∧ (∀ (H : Hp) (a : Addr) (ns : List Int), ns.length ≤ 63 → Only H → SqL K H a (ns.map V.int) → sp [.ref a] H (fun v _ => v = .bl true) fun _ _ _ => False) ∧
      ∀ base : Heap, K.In base → base.Ns mainGlobals mg → FnOk P w K mg base CXw LV f fd [("script" : Str)] sp := by
  have kn := known fit X G c
  obtain ⟨fd0, F⟩ := c.def_ i (d := mkD d) (by show (t.defs.map mkD)[i]? = _; rw [List.getElem?_map, hd]; rfl)
  have F : FunD K d.name d.name (defArgs d.st) (defBody d.st) (defScope d.st) [] [] (He.ga K d.name) fd0 := F
  have b : ∀ (s : Shared) (us : List Value), us.length = (d.N.take d.ar).length → BindsTo s fd0 ⟨us, []⟩ ((d.N.take d.ar).zip us) := fun s us hl => FunD.bindsA F (Each.get fit.bind hd) s us hl
  have hN : d.N.take d.ar = [("script" : Str)] := by rw [ha]; exact hn
  have gl : mg d.name = some (.ref (He.ga K d.name)) := He.glo_ok X G (fact_of c (by
    unfold Txt.fa
    simp only [List.mem_append]
    exact .inl (.inl (.inl (.inl (List.mem_map.mpr ⟨d, List.mem_of_getElem? hd, rfl⟩))))))
  rw [hf] at gl
  cases gl
  refine ⟨fd0, spD K mg (run t LV i) d.ar, fun s v => ?_, fun H a ns hl _ hS => ?_, fun base hB hG => ?_⟩
  · have := b s [v] (by rw [hN]; rfl)
    rw [hN] at this
    exact this
  · refine ⟨H, [.scr ns], fun _ _ z => z, RepL.cons (by simp only [Rep]; exact ⟨a, rfl, hS⟩) RepL.nil, by rw [ha]; rfl, ?_⟩
    rw [law ns hl]
    exact fun v H' F' e r => Rep.bl_iff.mp r
  · obtain ⟨f2, fd2, F2, hm, kp, hb, G2⟩ := fn_ok (P := P) (w := w) (base := base) ok kn LV i d hd
    rw [hf] at hm
    cases hm
    rw [hN] at F2
    have fdeq : fd2 = fd0 := by
      obtain ⟨_, _, _, _, _, _, _, _, _, _, e1, l1, _⟩ := F.ex
      obtain ⟨_, _, _, _, _, _, _, _, _, _, e2, l2, _⟩ := G2.ex
      rw [l1] at l2
      cases l2
      rfl
    subst fdeq
    refine ⟨F2.len, fun A outer s H args us vs Q E hr he hbn hv hs => codeAny_mono (F2.run A outer s H args us vs Q E hr he hbn hv hs) fun r s' z => ?_⟩
    cases r with
    | ok o => cases o <;> exact z
    | error e => exact ⟨P, w, z⟩
end
end Z
/-! How terms are worked out: equations. -/
namespace Z
open PySem PySem.Spec PyProof.Rows L2
/-- not to be taken for a step of reduction -/
theorem nrfl {α : Sort _} {a b : α} (h : a = b) : a = b := h
section
variable {T : Nat → List D → R D} {sub : Str → Str → Option Bool} {ρ : Env'}
theorem dE_cst {d} : dE T (.cst d) ρ = .ok d := nrfl rfl
theorem dE_glb {x d} : dE T (.glb x d) ρ = .ok d := nrfl rfl
theorem dE_var {i} : dE T (.var i) ρ = look ρ i := nrfl rfl
theorem dE_bin {o a b} : dE T (.bin o a b) ρ = (dE T a ρ).bind fun x => (dE T b ρ).bind fun y => R.of (binD o x y) := nrfl rfl
theorem dE_neg {a} : dE T (.neg a) ρ = (dE T a ρ).bind fun x => match x with
    | .int i => .ok (.int (-i))
    | _ => .bad := nrfl rfl
theorem dE_cmp {o a b} : dE T (.cmp o a b) ρ = ((dO T a ρ).bind fun x => (dO T b ρ).bind fun y => R.of (cmpD o x y)).bind fun r => .ok (.bl r) := nrfl rfl
theorem dE_chn {o p a b c} : dE T (.chn o p a b c) ρ = ((dE T a ρ).bind fun x => (dE T b ρ).bind fun y => (R.of (cmpD o x y)).bind fun r =>
    if r = true then (dE T c ρ).bind fun z => R.of (cmpD p y z) else .ok false).bind fun r => .ok (.bl r) := nrfl rfl
theorem dE_and {a b} : dE T (.and_ a b) ρ = (dE T a ρ).bind fun x => match x with
    | .bl c => if c = true then dE T b ρ else .ok (.bl false)
    | _ => .bad := nrfl rfl
theorem dE_or {a b} : dE T (.or_ a b) ρ = (dE T a ρ).bind fun x => match x with
    | .bl c => if c = true then .ok (.bl true) else dE T b ρ
    | _ => .bad := nrfl rfl
theorem dE_not {a} : dE T (.not_ a) ρ = (dE T a ρ).bind fun x => match x with
    | .bl c => .ok (.bl (!c))
    | _ => .bad := nrfl rfl
theorem dE_ite {c a b} : dE T (.ite c a b) ρ = (dT T c ρ).bind fun t => if t = true then dE T a ρ else dE T b ρ := nrfl rfl
theorem dE_tup {es} : dE T (.tup es) ρ = (dEs T es ρ).bind fun ds => if ds.length ≤ lim then .ok (.tup ds) else .bad := nrfl rfl
theorem dE_lst {es} : dE T (.lst es) ρ = (dEs T es ρ).bind fun ds => if ds.length ≤ lim then .ok (.lst ds) else .bad := nrfl rfl
theorem dE_call {f es} : dE T (.call f es) ρ = (dEs T es ρ).bind fun ds => T f ds := nrfl rfl
theorem dE_blt {b es} : dE T (.blt b es) ρ = (dBs T es ρ).bind fun ds => R.of (bltD b ds) := nrfl rfl
theorem dE_mkb {b es} : dE T (.mkb b es) ρ = (dEs T es ρ).bind fun ds => R.of (mkbD b ds) := nrfl rfl
theorem dE_isi {a t} : dE T (.isi a t) ρ = (dE T a ρ).bind fun x => (R.of (tyD x t)).bind fun r => .ok (.bl r) := nrfl rfl
theorem dE_ix {a i} : dE T (.ix a i) ρ = (dO T a ρ).bind fun x => (dE T i ρ).bind fun y => R.of (ixD x y) := nrfl rfl
theorem dE_sl {a lo hi} : dE T (.sl a lo hi) ρ = (dE T a ρ).bind fun x => (dBd T lo ρ).bind fun l => (dBd T hi ρ).bind fun h => R.of (slD x l h) := nrfl rfl
theorem dE_rev {a} : dE T (.rev a) ρ = (dE T a ρ).bind fun x => R.of (revD x) := nrfl rfl
theorem dE_comp {x own t it c} : dE T (.comp x own t it c) ρ = (dIt T it ρ).bind fun ds => if ds.length < lim then ((compL (fun d => dTg t d (wipeE ρ own)) (dT T c) (dE T x) ds).calm).bind fun ys => .ok (.lst ys) else .bad := nrfl rfl
theorem dT_cst {d} : dT T (.cst d) ρ = R.of (truD d) := nrfl rfl
theorem dT_var {i} : dT T (.var i) ρ = (dE T (.var i) ρ).bind fun x => R.of (truD x) := nrfl rfl
theorem dT_bin {o a b} : dT T (.bin o a b) ρ = (dE T (.bin o a b) ρ).bind fun x => R.of (truD x) := nrfl rfl
theorem dT_cmp {o a b} : dT T (.cmp o a b) ρ = (dE T (.cmp o a b) ρ).bind fun x => R.of (truD x) := nrfl rfl
theorem dT_chn {o p a b c} : dT T (.chn o p a b c) ρ = (dE T (.chn o p a b c) ρ).bind fun x => R.of (truD x) := nrfl rfl
theorem dT_call {f es} : dT T (.call f es) ρ = (dE T (.call f es) ρ).bind fun x => R.of (truD x) := nrfl rfl
theorem dT_blt {f es} : dT T (.blt f es) ρ = (dE T (.blt f es) ρ).bind fun x => R.of (truD x) := nrfl rfl
theorem dT_isi {f es} : dT T (.isi f es) ρ = (dE T (.isi f es) ρ).bind fun x => R.of (truD x) := nrfl rfl
theorem dT_ix {f es} : dT T (.ix f es) ρ = (dE T (.ix f es) ρ).bind fun x => R.of (truD x) := nrfl rfl
theorem dT_ite {c a b} : dT T (.ite c a b) ρ = (dE T (.ite c a b) ρ).bind fun x => R.of (truD x) := nrfl rfl
theorem dT_and {a b} : dT T (.and_ a b) ρ = (dT T a ρ).bind fun x => if x = true then dT T b ρ else .ok false := nrfl rfl
theorem dT_or {a b} : dT T (.or_ a b) ρ = (dT T a ρ).bind fun x => if x = true then .ok true else dT T b ρ := nrfl rfl
theorem dT_not {a} : dT T (.not_ a) ρ = (dT T a ρ).bind fun x => .ok (!x) := nrfl rfl
theorem dO_own {i} : dO T (.own i) ρ = lookB ρ i := nrfl rfl
theorem dO_ev {e} : dO T (.ev e) ρ = dE T e ρ := nrfl rfl
theorem dBd_no : dBd T .no ρ = .ok none := nrfl rfl
theorem dBd_to {e} : dBd T (.to e) ρ = (dE T e ρ).bind fun x => match x with
    | .int i => .ok (some i)
    | _ => .bad := nrfl rfl
theorem dBs_nil : dBs T .nil ρ = .ok [] := nrfl rfl
theorem dBs_cons {e r} : dBs T (.cons e r) ρ = (dO T e ρ).bind fun x => (dBs T r ρ).bind fun xs => .ok (x :: xs) := nrfl rfl
theorem dEs_nil : dEs T .nil ρ = .ok [] := nrfl rfl
theorem dEs_cons {e r} : dEs T (.cons e r) ρ = (dE T e ρ).bind fun x => (dEs T r ρ).bind fun xs => .ok (x :: xs) := nrfl rfl
theorem dIt_seq {e} : dIt T (.seq e) ρ = (dE T e ρ).bind fun x => R.of (itemsD x) := nrfl rfl
theorem dIt_rng1 {e} : dIt T (.rng1 e) ρ = (dE T e ρ).bind fun x => match x with
    | .int j => if inRng j = true then .ok (rngL 0 j.toNat) else .bad
    | _ => .bad := nrfl rfl
theorem dIt_rng2 {a b} : dIt T (.rng2 a b) ρ = (dE T a ρ).bind fun x => (dE T b ρ).bind fun y => match x, y with
    | .int i, .int j => if (inRng i && inRng j) = true then .ok (rngL i (j - i).toNat) else .bad
    | _, _ => .bad := nrfl rfl
theorem dIt_enm {e} : dIt T (.enm e) ρ = (dE T e ρ).bind fun x => (R.of (itemsD x)).bind fun ds => .ok (enumL 0 ds) := nrfl rfl
theorem dIt_zip {a b} : dIt T (.zip a b) ρ = (dE T a ρ).bind fun x => (dE T b ρ).bind fun y => match x, y with
    | .lst xs, .lst ys => .ok (zipL xs ys)
    | .tup xs, .tup ys => .ok (zipL xs ys)
    | _, _ => .bad := nrfl rfl
theorem dS_set {fz i own e} : dS T sub (.set fz i own e) ρ = (dE T e (frzL ρ fz)).fl (frzL ρ fz) fun d => .nx ((frzL ρ fz).set i (ownList d (own && isFr e))) := nrfl rfl
theorem dS_unp {fz t e} : dS T sub (.unp fz t e) ρ = (dE T e (frzL ρ fz)).fl (frzL ρ fz) fun d => Fl.of (dTg t d (frzL ρ fz)) := nrfl rfl
theorem dS_par {fz i j es} : dS T sub (.par fz i j es) ρ = (dEs T es (frzL ρ fz)).fl (frzL ρ fz) fun ds => match ds with
    | [d, e] => .nx (((frzL ρ fz).set i (.im d)).set j (.im e))
    | _ => .bad := nrfl rfl
theorem dS_aug {fz i o e} : dS T sub (.aug fz i o e) ρ = (look (frzL ρ fz) i).fl (frzL ρ fz) fun x => (dE T e (frzL ρ fz)).fl (frzL ρ fz) fun y => match augD o x y with
    | some z => .nx ((frzL ρ fz).set i (.im z))
    | none => .bad := nrfl rfl
theorem dS_app {fz i e} : dS T sub (.app fz i e) ρ = match (frzL ρ fz)[i]? with
    | some (.ow (.lst ds)) => (dE T e (frzL ρ fz)).fl (frzL ρ fz) fun d => if ds.length < lim then .nx ((frzL ρ fz).set i (.ow (.lst (ds ++ [d])))) else .bad
    | _ => .bad := nrfl rfl
theorem dS_ret {fz e} : dS T sub (.ret fz e) ρ = (dE T e (frzL ρ fz)).fl (frzL ρ fz) fun d => .rt d := nrfl rfl
theorem dS_retN : dS T sub .retN ρ = .rt .non := nrfl rfl
theorem dS_ite {fz c a b} : dS T sub (.ite fz c a b) ρ = (dT T c (frzL ρ fz)).fl (frzL ρ fz) fun t => if t = true then dSs T sub a (frzL ρ fz) else dSs T sub b (frzL ρ fz) := nrfl rfl
theorem dS_fo {fz t it b} : dS T sub (.fo fz t it b) ρ = (dIt T it (frzL ρ fz)).fl (frzL ρ fz) fun ds => forL (dTg t) (dSs T sub b) ds (frzL ρ fz) := nrfl rfl
theorem dS_wh {fz c b} : dS T sub (.wh fz c b) ρ = whL (dT T c) fz (dSs T sub b) fuel ρ := nrfl rfl
theorem dS_pass : dS T sub .pass ρ = .nx ρ := nrfl rfl
theorem dS_rai {c} : dS T sub (.rai c) ρ = .exc c ρ := nrfl rfl
theorem dS_exp {fz e} : dS T sub (.exp fz e) ρ = (dE T e (frzL ρ fz)).fl (frzL ρ fz) fun _ => .nx (frzL ρ fz) := nrfl rfl
theorem dS_tr {b h} : dS T sub (.tr b h) ρ = match dSs T sub b ρ with
    | .exc c ρ' => dHs sub c ρ' h
    | f => f := nrfl rfl
/-- on with the rest -/
def Fl.go (f : Fl) (k : Env' → Fl) : Fl := match f with
  | .nx ρ' => k ρ'
  | f => f
theorem dSs_nil : dSs T sub .nil ρ = .nx ρ := nrfl rfl
theorem dSs_cons {s r} : dSs T sub (.cons s r) ρ = (dS T sub s ρ).go (dSs T sub r) := nrfl rfl
theorem go_nx {k} : (Fl.nx ρ).go k = k ρ := nrfl rfl
theorem go_rt {d} {k : Env' → Fl} : (Fl.rt d).go k = .rt d := nrfl rfl
theorem go_exc {d} {k : Env' → Fl} : (Fl.exc d ρ).go k = .exc d ρ := nrfl rfl
theorem go_ct {k : Env' → Fl} : (Fl.ct ρ).go k = .ct ρ := nrfl rfl
theorem go_bk {k : Env' → Fl} : (Fl.bk ρ).go k = .bk ρ := nrfl rfl
theorem fl_ok {α : Type} {a : α} {k : α → Fl} : (R.ok a).fl ρ k = k a := nrfl rfl
theorem fl_exc {α : Type} {a : Str} {k : α → Fl} : (R.exc a).fl ρ k = .exc a ρ := nrfl rfl
theorem bind_ok {α β : Type} {a : α} {f : α → R β} : (R.ok a).bind f = f a := nrfl rfl
theorem bind_exc {α β : Type} {a : Str} {f : α → R β} : (R.exc a).bind f = .exc a := nrfl rfl
theorem of_some {α : Type} {a : α} : R.of (some a) = .ok a := nrfl rfl
theorem calm_ok {α : Type} {a : α} : (R.ok a).calm = .ok a := nrfl rfl
theorem flof_some : Fl.of (some ρ) = .nx ρ := nrfl rfl
theorem look_0 {d} {r : Env'} : look (.im d :: r) 0 = .ok d := nrfl rfl
theorem look_s {s} {r : Env'} {i} : look (s :: r) (i + 1) = look r i := by unfold look; rw [List.getElem?_cons_succ]
theorem lookB_im {d} {r : Env'} : lookB (.im d :: r) 0 = .ok d := nrfl rfl
theorem lookB_ow {d} {r : Env'} : lookB (.ow d :: r) 0 = .ok d := nrfl rfl
theorem lookB_s {s} {r : Env'} {i} : lookB (s :: r) (i + 1) = lookB r i := by unfold lookB; rw [List.getElem?_cons_succ]
theorem frzL_nil : frzL ρ [] = ρ := nrfl rfl
theorem frzL_cons {i r} : frzL ρ (i :: r) = frzL (frz1 ρ i) r := nrfl rfl
theorem frz1_im {d} {r : Env'} : frz1 (.im d :: r) 0 = .im d :: r := nrfl rfl
theorem frz1_un {r : Env'} : frz1 (.un :: r) 0 = .un :: r := nrfl rfl
theorem frz1_ow {d} {r : Env'} : frz1 (.ow d :: r) 0 = .im d :: r := nrfl rfl
theorem frz1_s {s} {r : Env'} {i} : frz1 (s :: r) (i + 1) = s :: frz1 r i := by
  unfold frz1
  rw [List.getElem?_cons_succ]
  cases h : r[i]? with
  | none => rfl
  | some q => cases q <;> rfl
theorem tg_nm {i d} : dTg (.nm i) d ρ = some (ρ.set i (.im d)) := nrfl rfl
theorem tg_tp {ts ds} : dTg (.tp ts) (.tup ds) ρ = dTgs ts ds ρ := nrfl rfl
theorem tg_tpl {ts ds} : dTg (.tp ts) (.lst ds) ρ = dTgs ts ds ρ := nrfl rfl
theorem tgs_nil : dTgs .nil [] ρ = some ρ := nrfl rfl
theorem tgs_cons {t r d ds} : dTgs (.cons t r) (d :: ds) ρ = (dTg t d ρ).bind fun ρ' => dTgs r ds ρ' := nrfl rfl
theorem obind {α β : Type} {a : α} {f : α → Option β} : (some a).bind f = f a := nrfl rfl
theorem set_0 {s t : Slot} {r : Env'} : List.set (s :: r) 0 t = t :: r := nrfl rfl
theorem set_s {s t : Slot} {r : Env'} {i : Nat} : List.set (s :: r) (i + 1) t = s :: r.set i t := nrfl rfl
theorem forL_nil {tg : D → Env' → Option Env'} {b : Env' → Fl} : forL tg b [] ρ = .nx ρ := nrfl rfl
/-- what a loop does with the end of its body -/
def Fl.lp (f : Fl) (k : Env' → Fl) : Fl := match f with
  | .nx ρ2 => k ρ2
  | .ct ρ2 => k ρ2
  | .bk ρ2 => .nx ρ2
  | f => f
theorem forL_cons {tg : D → Env' → Option Env'} {b : Env' → Fl} {d ds ρ1} (h : tg d ρ = some ρ1) : forL tg b (d :: ds) ρ = (b ρ1).lp (forL tg b ds) := by
  show (match tg d ρ with
    | none => Fl.bad
    | some ρ1 => match b ρ1 with
      | .nx ρ2 => forL tg b ds ρ2
      | .ct ρ2 => forL tg b ds ρ2
      | .bk ρ2 => .nx ρ2
      | f => f) = _
  rw [h]
  rfl
theorem lp_nx {k} : (Fl.nx ρ).lp k = k ρ := nrfl rfl
theorem lp_ct {k} : (Fl.ct ρ).lp k = k ρ := nrfl rfl
theorem lp_bk {k} : (Fl.bk ρ).lp k = .nx ρ := nrfl rfl
theorem lp_rt {k : Env' → Fl} {d} : (Fl.rt d).lp k = .rt d := nrfl rfl
theorem lp_exc {k : Env' → Fl} {d} : (Fl.exc d ρ).lp k = .exc d ρ := nrfl rfl
theorem whL_s {c : Env' → R Bool} {fz b n} : whL c fz b (n + 1) ρ = (c (frzL ρ fz)).fl (frzL ρ fz) fun t => if t = true then (b (frzL ρ fz)).lp (whL c fz b n) else .nx (frzL ρ fz) := nrfl rfl
theorem run_s {t : Txt} {n i : Nat} {ds : List D} {d : Def} (h : t.defs[i]? = some d) (hl : ds.length = d.ar) : run t (n + 1) i ds = (dSs (run t n) (subL t.sub) d.body (startE d.N ds)).out := by
  show (match t.defs[i]? with
          | none => R.bad
          | some d => if ds.length = d.ar then (dSs (run t n) (subL t.sub) d.body (startE d.N ds)).out else .bad) = _
  rw [h]
  exact if_pos hl
theorem out_rt {d} : (Fl.rt d).out = .ok d := nrfl rfl
theorem out_nx : (Fl.nx ρ).out = .ok .non := nrfl rfl
theorem out_exc {c} : (Fl.exc c ρ).out = .exc c := nrfl rfl
/-- a loop whose body keeps a promise -/
theorem forL_inv {tg : D → Env' → Option Env'} {b : Env' → Fl} (P : Nat → Env' → Prop) : ∀ (ds : List D) (j : Nat) (ρ : Env'), P j ρ →
    (∀ i d ρ, ds[i]? = some d → P (j + i) ρ → ∃ ρ1, tg d ρ = some ρ1 ∧ ∃ ρ2, (b ρ1 = .nx ρ2 ∨ b ρ1 = .ct ρ2) ∧ P (j + i + 1) ρ2) → ∃ ρ', forL tg b ds ρ = .nx ρ' ∧ P (j + ds.length) ρ'
  | [], j, ρ, h, _ => ⟨ρ, rfl, h⟩
  | d :: ds, j, ρ, h, st => by
    obtain ⟨ρ1, h1, ρ2, h2, h3⟩ := st 0 d ρ rfl h
    obtain ⟨ρ', h4, h5⟩ := forL_inv P ds (j + 1) ρ2 h3 fun i d ρ hd hp => by
      have e : j + 1 + i = j + (i + 1) := by omega
      obtain ⟨ρ1, q1, ρ2, q2, q3⟩ := st (i + 1) d ρ (by rw [List.getElem?_cons_succ]; exact hd) (by rw [← e]; exact hp)
      exact ⟨ρ1, q1, ρ2, q2, by rw [e]; exact q3⟩
    refine ⟨ρ', ?_, by rw [List.length_cons]; have e : j + 1 + ds.length = j + (ds.length + 1) := by omega
                       rw [← e]; exact h5⟩
    rw [forL_cons h1]
    rcases h2 with h2 | h2 <;> rw [h2] <;> exact h4
theorem rngL_nil {lo : Int} : rngL lo 0 = [] := rfl
theorem rngL_cons {lo : Int} {n : Nat} : rngL lo (n + 1) = .int lo :: rngL (lo + 1) n := by
  show (List.range (n + 1)).map (fun i : Nat => D.int (lo + (i : Nat))) = .int lo :: (List.range n).map (fun i : Nat => D.int (lo + 1 + (i : Nat)))
  rw [List.range_succ_eq_map, List.map_cons, List.map_map]
  congr 1
  · congr 1; simp
  · apply List.map_congr_left
    intro i _
    show D.int (lo + ((i + 1 : Nat) : Int)) = D.int (lo + 1 + (i : Nat))
    congr 1
    omega
theorem rngL_len {lo : Int} {n : Nat} : (rngL lo n).length = n := by show ((List.range n).map _).length = _; rw [List.length_map, List.length_range]
theorem rngL_get {lo : Int} {n i : Nat} (h : i < n) : (rngL lo n)[i]? = some (.int (lo + (i : Nat))) := by
  show ((List.range n).map (fun i : Nat => D.int (lo + (i : Nat))))[i]? = _
  rw [List.getElem?_map, List.getElem?_range h]
  rfl
/-- a comprehension without a test, item by item -/
theorem compL_map {tg : D → Option Env'} {c : Env' → R Bool} {x : Env' → R D} (f : D → D) : ∀ (ds : List D), (∀ d ∈ ds, ∃ ρ, tg d = some ρ ∧ c ρ = .ok true ∧ x ρ = .ok (f d)) → compL tg c x ds = .ok (ds.map f)
  | [], _ => rfl
  | d :: ds, h => by
    obtain ⟨ρ, h1, h2, h3⟩ := h d List.mem_cons_self
    have e : compL tg c x (d :: ds) = (R.of (tg d)).bind fun ρ => (c ρ).bind fun b => if b = true then (x ρ).bind fun y => (compL tg c x ds).bind fun ys => .ok (y :: ys) else compL tg c x ds := rfl
    rw [e, h1, of_some, bind_ok, h2, bind_ok, if_pos rfl, h3, bind_ok, compL_map f ds fun d hd => h d (List.mem_cons_of_mem _ hd)]
    rfl
/-- with a test -/
theorem compL_filter {tg : D → Option Env'} {c : Env' → R Bool} {x : Env' → R D} (p : D → Bool) (f : D → D) : ∀ (ds : List D), (∀ d ∈ ds, ∃ ρ, tg d = some ρ ∧ c ρ = .ok (p d) ∧ (p d = true → x ρ = .ok (f d))) → compL tg c x ds = .ok ((ds.filter p).map f)
  | [], _ => rfl
  | d :: ds, h => by
    obtain ⟨ρ, h1, h2, h3⟩ := h d List.mem_cons_self
    have e : compL tg c x (d :: ds) = (R.of (tg d)).bind fun ρ => (c ρ).bind fun b => if b = true then (x ρ).bind fun y => (compL tg c x ds).bind fun ys => .ok (y :: ys) else compL tg c x ds := rfl
    have ih := compL_filter p f ds fun d hd => h d (List.mem_cons_of_mem _ hd)
    rw [e, h1, of_some, bind_ok, h2, bind_ok]
    cases hp : p d with
    | true => rw [if_pos rfl, h3 hp, bind_ok, ih, List.filter_cons_of_pos hp]; rfl
    | false => rw [if_neg (by decide), ih, List.filter_cons_of_neg (by rw [hp]; decide)]
end
theorem eqvL_ints : ∀ (xs ys : List Int), eqvL (xs.map D.int) (ys.map D.int) = decide (xs = ys)
  | [], [] => rfl
  | [], y :: ys => rfl
  | x :: xs, [] => rfl
  | x :: xs, y :: ys => by
    show ((x == y) && eqvL (xs.map D.int) (ys.map D.int)) = _
    rw [eqvL_ints xs ys]
    by_cases h : x = y
    · subst h; simp
    · have : (x == y) = false := by simpa using h
      rw [this]; simp [h]
theorem flatL_ints (n : Nat) : ∀ xs : List Int, flatL n (xs.map D.int) = true
  | [] => rfl
  | x :: xs => by
    show (flat n (.int x) && flatL n (xs.map D.int)) = true
    rw [flatL_ints n xs]
    cases n <;> rfl
/-- equal to itself -/
theorem atI_nat {α : Type} {xs : List α} {i : Nat} (h : i < xs.length) : atI xs (i : Int) = xs[i]? := by
  unfold L2.atI
  have : ixN xs.length (i : Int) = some i := by
    unfold ixN
    rw [if_pos (by omega), if_pos (by omega)]
    congr 1
  rw [this]; rfl
theorem sIx_some {n d : Nat} {v : Int} (h : 0 ≤ v) : HT.sIx n d (some v) = min v.toNat n := by
  show (if v < 0 then _ else _) = _
  rw [if_neg (by omega)]
theorem startE_nil {N : List Str} : startE N [] = List.replicate N.length .un := nrfl rfl
theorem startE_cons {x : Str} {N : List Str} {d : D} {ds : List D} : startE (x :: N) (d :: ds) = .im d :: startE N ds := by
  unfold startE
  rw [List.map_cons, List.length_cons, List.length_cons]
  show _ :: (_ ++ _) = _
  congr 3
  omega
def EachN (p : Nat → Prop) : Nat → Prop
  | 0 => True
  | n + 1 => EachN p n ∧ p n
theorem EachN.get {p : Nat → Prop} : ∀ {n i : Nat}, EachN p n → i < n → p i
  | n + 1, i, h, hi => by
    by_cases e : i = n
    · rw [e]; exact h.2
    · exact EachN.get h.1 (by omega)
end Z
/-! What the laws have in common. -/
namespace Z
open PySem PySem.Spec PyProof.Rows L2
theorem inRng_nat {n : Nat} (h : n < 2 ^ 60) : inRng (n : Int) = true := by
  unfold inRng
  rw [Bool.and_eq_true]
  exact ⟨decide_eq_true (by omega), decide_eq_true (by omega)⟩
theorem toNat_nat (n : Nat) : (n : Int).toNat = n := by omega
theorem lim_le {n : Nat} (h : n < 2 ^ 20) : n ≤ lim := by
  show n ≤ 16777216
  omega
theorem ne_int (a b : Int) : cmpD .ne (.int a) (.int b) = some (decide (a ≠ b)) := by
  show some (!(a == b)) = _
  by_cases h : a = b
  · subst h; simp
  · have : (a == b) = false := by simpa using h
    rw [this]; simp [h]
theorem eq_int (a b : Int) : cmpD .eq (.int a) (.int b) = some (decide (a = b)) := by
  show some (a == b) = _
  by_cases h : a = b
  · subst h; simp
  · have : (a == b) = false := by simpa using h
    rw [this]; simp [h]
theorem blsOf_bls : ∀ l : List Bool, blsOf (l.map D.bl) = some l
  | [] => rfl
  | b :: l => by rw [List.map_cons, blsOf, blsOf_bls l]; rfl
theorem rngL_map (N : Nat) : rngL 0 N = ((List.range N).map fun a : Nat => (a : Int)).map D.int := by
  show (List.range N).map (fun i : Nat => D.int (0 + (i : Nat))) = _
  rw [List.map_map]
  apply List.map_congr_left
  intro i _
  show D.int (0 + (i : Nat)) = D.int (i : Nat)
  rw [Int.zero_add]
theorem emod_iff {m t v b : Int} (h0 : 0 ≤ t) (h1 : t < m) : (v + b) % m = t ↔ b % m = (t - v) % m := by
  constructor
  · intro h
    rw [← h, Int.sub_emod, Int.emod_emod_of_dvd _ (Int.dvd_refl _), ← Int.sub_emod]
    congr 1
    omega
  · intro h
    rw [Int.add_emod, h, ← Int.add_emod]
    have : v + (t - v) = t := by omega
    rw [this]
    exact Int.emod_eq_of_lt h0 h1
mutual
theorem eqv_self : ∀ (n : Nat) (d : D), flat n d = true → eqv d d = true
  | _, .non, _ => rfl
  | _, .bl b, _ => by show (b == b) = true; simp
  | _, .int i, _ => by show (i == i) = true; simp
  | _, .str x, _ => by show (x == x) = true; simp
  | 0, .tup _, h => by simp [flat] at h
  | 0, .lst _, h => by simp [flat] at h
  | n + 1, .tup xs, h => eqvL_self n xs (by simpa only [flat] using h)
  | n + 1, .lst xs, h => eqvL_self n xs (by simpa only [flat] using h)
  | n, .dic _ _, h => by simp [flat] at h
  | n, .scr _, h => by simp [flat] at h
  | n, .obj _ _ _, h => by simp [flat] at h
theorem eqvL_self : ∀ (n : Nat) (ds : List D), flatL n ds = true → eqvL ds ds = true
  | _, [], _ => rfl
  | n, d :: ds, h => by
    simp only [flatL, Bool.and_eq_true] at h
    show (eqv d d && eqvL ds ds) = true
    rw [eqv_self n d h.1, eqvL_self n ds h.2]
    rfl
end
theorem ne_self {d : D} (h : flat 60 d = true) : cmpD .ne d d = some false := by
  show (if (flat 60 d && flat 60 d) = true then some (!eqv d d) else none) = _
  rw [h, eqv_self 60 d h]
  rfl
theorem ix_lst {T : List Int} {x : Nat} (h : x < T.length) : ixD (.lst (T.map .int)) (.int (x : Nat)) = some (.int (T.getD x 0)) := by
  show atI _ _ = _
  rw [atI_nat (by rw [List.length_map]; exact h), List.getElem?_map, List.getElem?_eq_getElem h, List.getD_eq_getElem?_getD, List.getElem?_eq_getElem h]
  rfl
theorem rng_comp {m : Nat} {f : Nat → Int} {T : Nat → List D → R D} {tg : D → Option Env'} {c : Env' → R Bool} {x : Env' → R D} (h : ∀ k : Nat, k < m → ∃ ρ, tg (.int (k : Nat)) = some ρ ∧ c ρ = .ok true ∧ x ρ = .ok (.int (f k))) : compL tg c x (rngL 0 m) = .ok (((List.range m).map f).map .int) := by
  have e := compL_map (tg := tg) (c := c) (x := x) (fun d => match d with
    | .int i => D.int (f i.toNat)
    | _ => .non) (rngL 0 m) (fun d hd => by
      rw [rngL_map, List.map_map] at hd
      obtain ⟨k, hk, rfl⟩ := List.mem_map.mp hd
      obtain ⟨ρ, h1, h2, h3⟩ := h k (List.mem_range.mp hk)
      exact ⟨ρ, h1, h2, by rw [h3]; show _ = R.ok (D.int (f ((k : Nat) : Int).toNat)); rw [toNat_nat]⟩)
  rw [e, rngL_map, List.map_map, List.map_map, List.map_map]
  congr 1
theorem cut_from {α : List D} {k : Nat} : Z.cutD α (some (k : Int)) none = α.drop k := by
  unfold Z.cutD
  rw [sIx_some (by omega), toNat_nat]
  show (α.drop (min k α.length)).take (α.length - min k α.length) = _
  rcases Nat.le_total k α.length with h | h
  · rw [Nat.min_eq_left h, List.take_of_length_le (by rw [List.length_drop]; omega)]
  · rw [Nat.min_eq_right h, Nat.sub_self, List.take_zero, List.drop_of_length_le h]
theorem cut_to {α : List D} {k : Nat} : Z.cutD α none (some (k : Int)) = α.take k := by
  unfold Z.cutD
  rw [sIx_some (by omega), toNat_nat]
  show (α.drop 0).take (min k α.length - 0) = _
  rw [List.drop_zero, Nat.sub_zero, ← List.take_take, List.take_length]
theorem cut_last {α : List D} (h : 0 < α.length) : Z.cutD α none (some (-1)) = α.take (α.length - 1) := by
  unfold Z.cutD
  have e : HT.sIx α.length α.length (some (-1)) = α.length - 1 := by
    show (if (-1 : Int) < 0 then (-1 + (α.length : Int)).toNat else min (-1 : Int).toNat α.length) = _
    rw [if_pos (by decide)]
    omega
  rw [e]
  rfl
theorem sl_from {L : List Int} {k : Nat} : slD (.lst (L.map .int)) (some (k : Int)) none = some (.lst ((L.drop k).map .int)) := by
  show some (D.lst (Z.cutD _ _ _)) = _
  rw [cut_from, List.map_drop]
theorem slt_from {L : List Int} {k : Nat} : slD (.tup (L.map .int)) (some (k : Int)) none = some (.tup ((L.drop k).map .int)) := by
  show some (D.tup (Z.cutD _ _ _)) = _
  rw [cut_from, List.map_drop]
theorem slt_to {L : List Int} {k : Nat} : slD (.tup (L.map .int)) none (some (k : Int)) = some (.tup ((L.take k).map .int)) := by
  show some (D.tup (Z.cutD _ _ _)) = _
  rw [cut_to, List.map_take]
theorem slt_last {L : List Int} (h : 0 < L.length) : slD (.tup (L.map .int)) none (some (-1)) = some (.tup ((L.take (L.length - 1)).map .int)) := by
  show some (D.tup (Z.cutD _ _ _)) = _
  rw [cut_last (by rw [List.length_map]; exact h), List.map_take, List.length_map]
def Pos (L : List Int) : Prop := ∀ a ∈ L, 0 ≤ a
theorem Pos.snoc {L : List Int} {a : Int} (h : Pos L) (ha : 0 ≤ a) : Pos (L ++ [a]) := fun b hb => by
  rcases List.mem_append.mp hb with z | z
  · exact h b z
  · rw [List.mem_singleton.mp z]; exact ha
theorem lt_int (a b : Int) : cmpD .lt (.int a) (.int b) = some (decide (a < b)) := nrfl rfl
theorem gt_int (a b : Int) : cmpD .gt (.int a) (.int b) = some (decide (b < a)) := nrfl rfl
theorem ge_int (a b : Int) : cmpD .ge (.int a) (.int b) = some (decide (b ≤ a)) := nrfl rfl
theorem len_lst {xs : List D} : bltD .len [.lst xs] = some (.int xs.length) := nrfl rfl
theorem int_int {i : Int} : bltD .int [.int i] = some (.int i) := nrfl rfl
theorem abs_int {i : Int} : bltD .abs [.int i] = some (.int (if i < 0 then -i else i)) := nrfl rfl
theorem mul_r {i j : Int} (h : -(2 ^ 64) < j ∧ j < 2 ^ 64) : mulD (.int i) (.int j) = some (.int (i * j)) := if_pos (.inr h)
theorem mul_l {i j : Int} (h : -(2 ^ 64) < i ∧ i < 2 ^ 64) : mulD (.int i) (.int j) = some (.int (i * j)) := if_pos (.inl h)
def pD (s m : D) (L : List Int) (seed : Int) (s4 s5 : Slot) (num : Slot) : Env' := [.im s, .im m, .ow (.lst (L.map .int)), .im (.int seed), s4, s5, num]
theorem app_ok {T : Nat → List D → R D} {sub} {s m : D} {L : List Int} {seed : Int} {s4 s5 num : Slot} {e : E} {v : Int} (h : dE T e (pD s m L seed s4 s5 num) = .ok (.int v)) (hl : L.length < 2 ^ 20) : dS T sub (.app [] 2 e) (pD s m L seed s4 s5 num) = .nx (pD s m (L ++ [v]) seed s4 s5 num) := by
  have e1 : dS T sub (.app [] 2 e) (pD s m L seed s4 s5 num) = (dE T e (pD s m L seed s4 s5 num)).fl (pD s m L seed s4 s5 num) fun d => if (L.map D.int).length < lim then .nx ((pD s m L seed s4 s5 num).set 2 (.ow (.lst (L.map D.int ++ [d])))) else .bad := rfl
  rw [e1, h, fl_ok, if_pos (by rw [List.length_map]; show L.length < 16777216; omega)]
  show Fl.nx _ = Fl.nx _
  unfold pD
  rw [List.map_append]
  rfl
theorem loop_inner {T : Nat → List D → R D} {sub} (s m : D) (seed : Int) (s4 : Slot) : ∀ (k : Nat) (lo : Int) (L : List Int) (num : Int) (s5 : Slot), Pos L → 0 ≤ num → L.length + k < 2 ^ 20 → ∃ L' num' s5', Pos L' ∧ L'.length ≤ L.length + k ∧ forL (dTg (.nm 5)) (dSs T sub (.cons (.ite [] (.cmp .gt (.own 6) (.ev (.cst (.int 0))))
          (.cons (.app [] 2 (.bin .mod (.blt .int (.cons (.own 6) .nil)) (.cst (.int 1009)))) <|
          (.cons (.set [] 6 false (.bin .div (.var 6) (.cst (.int 1009)))) .nil))
          .nil) .nil)) (rngL lo k) (pD s m L seed s4 s5 (.im (.int num))) = .nx (pD s m L' seed s4 s5' (.im (.int num')))
  | 0, lo, L, num, s5, hL, hn, hk => ⟨L, num, s5, hL, Nat.le_refl _, rfl⟩
  | k + 1, lo, L, num, s5, hL, hn, hk => by
    rw [rngL_cons, forL_cons (ρ1 := pD s m L seed s4 (.im (.int lo)) (.im (.int num))) rfl]
    by_cases c : 0 < num
    · obtain ⟨L', num', s5', h1, h2, h3⟩ := loop_inner (T := T) (sub := sub) s m seed s4 k (lo + 1) (L ++ [num % 1009]) (num / 1009) (.im (.int lo)) (hL.snoc (Int.emod_nonneg _ (by decide))) (Int.ediv_nonneg hn (by decide)) (by rw [List.length_append, List.length_singleton]; omega)
      refine ⟨L', num', s5', h1, by rw [List.length_append, List.length_singleton] at h2; omega, ?_⟩
      have ap := app_ok (T := T) (sub := sub) (s := s) (m := m) (L := L) (seed := seed) (s4 := s4) (s5 := .im (.int lo)) (num := .im (.int num)) (e := .bin .mod (.blt .int (.cons (.own 6) .nil)) (.cst (.int 1009))) (v := num % 1009) (by
        unfold pD
        simp only [dE_cst, dE_glb, dE_var, dE_bin, dE_neg, dE_cmp, dE_chn, dE_and, dE_or, dE_not, dE_ite, dE_tup, dE_lst, dE_call, dE_blt, dE_mkb, dE_isi, dE_ix, dE_sl, dE_rev, dE_comp, dT_cst, dT_var, dT_bin, dT_cmp, dT_chn, dT_call, dT_blt, dT_isi, dT_ix, dT_ite, dT_and, dT_or, dT_not, dO_own, dO_ev, dBd_no, dBd_to, dBs_nil, dBs_cons, dEs_nil, dEs_cons, dIt_seq, dIt_rng1, dIt_rng2, dIt_enm, dIt_zip, dS_set, dS_unp, dS_par, dS_aug, dS_ret, dS_retN, dS_ite, dS_fo, dS_pass, dS_rai, dS_exp, dS_tr, dSs_nil, dSs_cons, go_nx, go_rt, go_exc, fl_ok, fl_exc, bind_ok, bind_exc, of_some, calm_ok, flof_some, look_0, look_s, lookB_im, lookB_ow, lookB_s, frzL_nil, frzL_cons, frz1_im, frz1_un, frz1_ow, frz1_s, tg_nm, tg_tp, tg_tpl, tgs_nil, tgs_cons, obind, set_0, set_s, lp_nx, lp_ct, lp_bk, lp_rt, lp_exc, out_rt, out_nx, out_exc, ownList, isFr, Bool.and_true, Bool.and_false, Bool.true_and, Bool.false_and, Bool.not_true, Bool.not_false, binD, addD, augD, truD, if_true, if_false, Bool.false_eq_true, ↓reduceIte, startE_nil, startE_cons, reduceCtorEq, decide_true, decide_false, tyD, int_int, (by decide : ((0 : Int) < 1009) = True)]) (by omega)
      have ct : dT T (.cmp .gt (.own 6) (.ev (.cst (.int 0)))) (pD s m L seed s4 (.im (.int lo)) (.im (.int num))) = .ok true := by
        unfold pD
        simp only [dE_cst, dE_glb, dE_var, dE_bin, dE_neg, dE_cmp, dE_chn, dE_and, dE_or, dE_not, dE_ite, dE_tup, dE_lst, dE_call, dE_blt, dE_mkb, dE_isi, dE_ix, dE_sl, dE_rev, dE_comp, dT_cst, dT_var, dT_bin, dT_cmp, dT_chn, dT_call, dT_blt, dT_isi, dT_ix, dT_ite, dT_and, dT_or, dT_not, dO_own, dO_ev, dBd_no, dBd_to, dBs_nil, dBs_cons, dEs_nil, dEs_cons, dIt_seq, dIt_rng1, dIt_rng2, dIt_enm, dIt_zip, dS_set, dS_unp, dS_par, dS_aug, dS_ret, dS_retN, dS_ite, dS_fo, dS_pass, dS_rai, dS_exp, dS_tr, dSs_nil, dSs_cons, go_nx, go_rt, go_exc, fl_ok, fl_exc, bind_ok, bind_exc, of_some, calm_ok, flof_some, look_0, look_s, lookB_im, lookB_ow, lookB_s, frzL_nil, frzL_cons, frz1_im, frz1_un, frz1_ow, frz1_s, tg_nm, tg_tp, tg_tpl, tgs_nil, tgs_cons, obind, set_0, set_s, lp_nx, lp_ct, lp_bk, lp_rt, lp_exc, out_rt, out_nx, out_exc, ownList, isFr, Bool.and_true, Bool.and_false, Bool.true_and, Bool.false_and, Bool.not_true, Bool.not_false, binD, addD, augD, truD, if_true, if_false, Bool.false_eq_true, ↓reduceIte, startE_nil, startE_cons, reduceCtorEq, decide_true, decide_false, tyD, gt_int, c]
      have st : dS T sub (.set [] 6 false (.bin .div (.var 6) (.cst (.int 1009)))) (pD s m (L ++ [num % 1009]) seed s4 (.im (.int lo)) (.im (.int num))) = .nx (pD s m (L ++ [num % 1009]) seed s4 (.im (.int lo)) (.im (.int (num / 1009)))) := by
        unfold pD
        simp only [dE_cst, dE_glb, dE_var, dE_bin, dE_neg, dE_cmp, dE_chn, dE_and, dE_or, dE_not, dE_ite, dE_tup, dE_lst, dE_call, dE_blt, dE_mkb, dE_isi, dE_ix, dE_sl, dE_rev, dE_comp, dT_cst, dT_var, dT_bin, dT_cmp, dT_chn, dT_call, dT_blt, dT_isi, dT_ix, dT_ite, dT_and, dT_or, dT_not, dO_own, dO_ev, dBd_no, dBd_to, dBs_nil, dBs_cons, dEs_nil, dEs_cons, dIt_seq, dIt_rng1, dIt_rng2, dIt_enm, dIt_zip, dS_set, dS_unp, dS_par, dS_aug, dS_ret, dS_retN, dS_ite, dS_fo, dS_pass, dS_rai, dS_exp, dS_tr, dSs_nil, dSs_cons, go_nx, go_rt, go_exc, fl_ok, fl_exc, bind_ok, bind_exc, of_some, calm_ok, flof_some, look_0, look_s, lookB_im, lookB_ow, lookB_s, frzL_nil, frzL_cons, frz1_im, frz1_un, frz1_ow, frz1_s, tg_nm, tg_tp, tg_tpl, tgs_nil, tgs_cons, obind, set_0, set_s, lp_nx, lp_ct, lp_bk, lp_rt, lp_exc, out_rt, out_nx, out_exc, ownList, isFr, Bool.and_true, Bool.and_false, Bool.true_and, Bool.false_and, Bool.not_true, Bool.not_false, binD, addD, augD, truD, if_true, if_false, Bool.false_eq_true, ↓reduceIte, startE_nil, startE_cons, reduceCtorEq, decide_true, decide_false, tyD, (by decide : ((0 : Int) < 1009) = True), (by decide : ((1009 : Int) < 1073741824) = True), and_self]
      simp only [dSs_cons, dSs_nil, dS_ite, frzL_nil, ct, fl_ok, if_true, ap, go_nx, st, lp_nx]
      exact h3
    · obtain ⟨L', num', s5', h1, h2, h3⟩ := loop_inner (T := T) (sub := sub) s m seed s4 k (lo + 1) L num (.im (.int lo)) hL hn (by omega)
      refine ⟨L', num', s5', h1, by omega, ?_⟩
      have ct : dT T (.cmp .gt (.own 6) (.ev (.cst (.int 0)))) (pD s m L seed s4 (.im (.int lo)) (.im (.int num))) = .ok false := by
        unfold pD
        simp only [dE_cst, dE_glb, dE_var, dE_bin, dE_neg, dE_cmp, dE_chn, dE_and, dE_or, dE_not, dE_ite, dE_tup, dE_lst, dE_call, dE_blt, dE_mkb, dE_isi, dE_ix, dE_sl, dE_rev, dE_comp, dT_cst, dT_var, dT_bin, dT_cmp, dT_chn, dT_call, dT_blt, dT_isi, dT_ix, dT_ite, dT_and, dT_or, dT_not, dO_own, dO_ev, dBd_no, dBd_to, dBs_nil, dBs_cons, dEs_nil, dEs_cons, dIt_seq, dIt_rng1, dIt_rng2, dIt_enm, dIt_zip, dS_set, dS_unp, dS_par, dS_aug, dS_ret, dS_retN, dS_ite, dS_fo, dS_pass, dS_rai, dS_exp, dS_tr, dSs_nil, dSs_cons, go_nx, go_rt, go_exc, fl_ok, fl_exc, bind_ok, bind_exc, of_some, calm_ok, flof_some, look_0, look_s, lookB_im, lookB_ow, lookB_s, frzL_nil, frzL_cons, frz1_im, frz1_un, frz1_ow, frz1_s, tg_nm, tg_tp, tg_tpl, tgs_nil, tgs_cons, obind, set_0, set_s, lp_nx, lp_ct, lp_bk, lp_rt, lp_exc, out_rt, out_nx, out_exc, ownList, isFr, Bool.and_true, Bool.and_false, Bool.true_and, Bool.false_and, Bool.not_true, Bool.not_false, binD, addD, augD, truD, if_true, if_false, Bool.false_eq_true, ↓reduceIte, startE_nil, startE_cons, reduceCtorEq, decide_true, decide_false, tyD, gt_int, c]
      simp only [dSs_cons, dSs_nil, dS_ite, frzL_nil, ct, fl_ok, Bool.false_eq_true, if_false, go_nx, lp_nx]
      exact h3
def body1 : Sms := (.cons (.set [] 6 false (.blt .abs (.cons (.own 4) .nil))) <|
    (.cons (.set [] 3 false (.bin .mod (.blt .int (.cons (.ev (.bin .add (.bin .add (.bin .mul (.var 3) (.cst (.int 48271))) (.var 6)) (.cst (.int 11)))) .nil)) (.cst (.int 2147483647)))) <|
    (.cons (.ite [] (.cmp .ge (.own 6) (.ev (.bin .pow (.cst (.int 10)) (.cst (.int 18)))))
      (.cons (.fo [] (.nm 5) (.rng1 (.cst (.int 60)))
        (.cons (.ite [] (.cmp .gt (.own 6) (.ev (.cst (.int 0))))
          (.cons (.app [] 2 (.bin .mod (.blt .int (.cons (.own 6) .nil)) (.cst (.int 1009)))) <|
          (.cons (.set [] 6 false (.bin .div (.var 6) (.cst (.int 1009)))) .nil))
          .nil) .nil)) .nil)
      (.cons (.app [] 2 (.bin .mod (.bin .div (.blt .int (.cons (.ev (.bin .add (.bin .mul (.var 3) (.cst (.int 16807))) (.cst (.int 5)))) .nil)) (.cst (.int 3))) (.cst (.int 65521)))) .nil)) .nil)))
theorem loop_cells {T : Nat → List D → R D} {sub} (s m : D) : ∀ (ns : List Int) (L : List Int) (seed : Int) (s4 s5 s6 : Slot), Pos L → 0 ≤ seed → L.length + 60 * ns.length < 2 ^ 20 → ∃ L' seed' s4' s5' s6', Pos L' ∧ 0 ≤ seed' ∧ L'.length ≤ L.length + 60 * ns.length ∧ forL (dTg (.nm 4)) (dSs T sub body1) (ns.map .int) (pD s m L seed s4 s5 s6) = .nx (pD s m L' seed' s4' s5' s6')
  | [], L, seed, s4, s5, s6, hL, hs, hk => ⟨L, seed, s4, s5, s6, hL, hs, by simp, rfl⟩
  | c :: ns, L, seed, s4, s5, s6, hL, hs, hk => by
    rw [List.length_cons] at hk
    have hx : ∃ x : Int, x = (if c < 0 then -c else c) ∧ 0 ≤ x := ⟨_, rfl, by split <;> omega⟩
    obtain ⟨x, ex, x0⟩ := hx
    have e1 : dS T sub (.set [] 6 false (.blt .abs (.cons (.own 4) .nil))) (pD s m L seed (.im (.int c)) s5 s6) = .nx (pD s m L seed (.im (.int c)) s5 (.im (.int x))) := by
      unfold pD
      simp only [dE_cst, dE_glb, dE_var, dE_bin, dE_neg, dE_cmp, dE_chn, dE_and, dE_or, dE_not, dE_ite, dE_tup, dE_lst, dE_call, dE_blt, dE_mkb, dE_isi, dE_ix, dE_sl, dE_rev, dE_comp, dT_cst, dT_var, dT_bin, dT_cmp, dT_chn, dT_call, dT_blt, dT_isi, dT_ix, dT_ite, dT_and, dT_or, dT_not, dO_own, dO_ev, dBd_no, dBd_to, dBs_nil, dBs_cons, dEs_nil, dEs_cons, dIt_seq, dIt_rng1, dIt_rng2, dIt_enm, dIt_zip, dS_set, dS_unp, dS_par, dS_aug, dS_ret, dS_retN, dS_ite, dS_fo, dS_pass, dS_rai, dS_exp, dS_tr, dSs_nil, dSs_cons, go_nx, go_rt, go_exc, fl_ok, fl_exc, bind_ok, bind_exc, of_some, calm_ok, flof_some, look_0, look_s, lookB_im, lookB_ow, lookB_s, frzL_nil, frzL_cons, frz1_im, frz1_un, frz1_ow, frz1_s, tg_nm, tg_tp, tg_tpl, tgs_nil, tgs_cons, obind, set_0, set_s, lp_nx, lp_ct, lp_bk, lp_rt, lp_exc, out_rt, out_nx, out_exc, ownList, isFr, Bool.and_true, Bool.and_false, Bool.true_and, Bool.false_and, Bool.not_true, Bool.not_false, binD, addD, augD, truD, if_true, if_false, Bool.false_eq_true, ↓reduceIte, startE_nil, startE_cons, reduceCtorEq, decide_true, decide_false, tyD, abs_int, ← ex]
    have e2 : dS T sub (.set [] 3 false (.bin .mod (.blt .int (.cons (.ev (.bin .add (.bin .add (.bin .mul (.var 3) (.cst (.int 48271))) (.var 6)) (.cst (.int 11)))) .nil)) (.cst (.int 2147483647)))) (pD s m L seed (.im (.int c)) s5 (.im (.int x))) = .nx (pD s m L ((seed * 48271 + x + 11) % 2147483647) (.im (.int c)) s5 (.im (.int x))) := by
      unfold pD
      simp only [dE_cst, dE_glb, dE_var, dE_bin, dE_neg, dE_cmp, dE_chn, dE_and, dE_or, dE_not, dE_ite, dE_tup, dE_lst, dE_call, dE_blt, dE_mkb, dE_isi, dE_ix, dE_sl, dE_rev, dE_comp, dT_cst, dT_var, dT_bin, dT_cmp, dT_chn, dT_call, dT_blt, dT_isi, dT_ix, dT_ite, dT_and, dT_or, dT_not, dO_own, dO_ev, dBd_no, dBd_to, dBs_nil, dBs_cons, dEs_nil, dEs_cons, dIt_seq, dIt_rng1, dIt_rng2, dIt_enm, dIt_zip, dS_set, dS_unp, dS_par, dS_aug, dS_ret, dS_retN, dS_ite, dS_fo, dS_pass, dS_rai, dS_exp, dS_tr, dSs_nil, dSs_cons, go_nx, go_rt, go_exc, fl_ok, fl_exc, bind_ok, bind_exc, of_some, calm_ok, flof_some, look_0, look_s, lookB_im, lookB_ow, lookB_s, frzL_nil, frzL_cons, frz1_im, frz1_un, frz1_ow, frz1_s, tg_nm, tg_tp, tg_tpl, tgs_nil, tgs_cons, obind, set_0, set_s, lp_nx, lp_ct, lp_bk, lp_rt, lp_exc, out_rt, out_nx, out_exc, ownList, isFr, Bool.and_true, Bool.and_false, Bool.true_and, Bool.false_and, Bool.not_true, Bool.not_false, binD, addD, augD, truD, if_true, if_false, Bool.false_eq_true, ↓reduceIte, startE_nil, startE_cons, reduceCtorEq, decide_true, decide_false, tyD, int_int, mul_r (by decide : -(2 ^ 64) < (48271 : Int) ∧ (48271 : Int) < 2 ^ 64), (by decide : ((0 : Int) < 2147483647) = True)]
    have hs2 : 0 ≤ (seed * 48271 + x + 11) % 2147483647 := Int.emod_nonneg _ (by decide)
    rw [List.map_cons, forL_cons (ρ1 := pD s m L seed (.im (.int c)) s5 s6) rfl]
    generalize (seed * 48271 + x + 11) % 2147483647 = sd at e2 hs2
    have pw : binD .pow (.int 10) (.int 18) = some (.int 1000000000000000000) := by
      show (if (0 : Int) ≤ 18 ∧ (18 : Int) ≤ 1000000 ∧ Int.natAbs 10 < 2 ^ 64 then some (D.int (10 ^ Int.toNat 18)) else none) = _
      rw [if_pos (by decide)]
      rfl
    by_cases c1 : (1000000000000000000 : Int) ≤ x
    · have ct : dT T (.cmp .ge (.own 6) (.ev (.bin .pow (.cst (.int 10)) (.cst (.int 18))))) (pD s m L sd (.im (.int c)) s5 (.im (.int x))) = .ok true := by
        unfold pD
        simp only [dT_cmp, dE_cmp, dO_own, dO_ev, dE_bin, dE_cst, lookB_s, lookB_im, bind_ok, pw, of_some, ge_int, c1, decide_true, truD]
      obtain ⟨L1, num1, s5', h1, h2, h3⟩ := loop_inner (T := T) (sub := sub) s m sd (.im (.int c)) 60 0 L x s5 hL x0 (by omega)
      obtain ⟨L', seed', s4', s5'', s6', i1, i2, i3, i4⟩ := loop_cells (T := T) (sub := sub) s m ns L1 sd (.im (.int c)) s5' (.im (.int num1)) h1 hs2 (by omega)
      refine ⟨L', seed', s4', s5'', s6', i1, i2, by rw [List.length_cons]; omega, ?_⟩
      have it : dIt T (.rng1 (.cst (.int 60))) (pD s m L sd (.im (.int c)) s5 (.im (.int x))) = .ok (rngL 0 60) := rfl
      simp only [body1, dSs_cons, dSs_nil, dS_ite, dS_fo, frzL_nil, e1, e2, ct, it, h3, fl_ok, if_true, go_nx, lp_nx]
      exact i4
    · have ct : dT T (.cmp .ge (.own 6) (.ev (.bin .pow (.cst (.int 10)) (.cst (.int 18))))) (pD s m L sd (.im (.int c)) s5 (.im (.int x))) = .ok false := by
        unfold pD
        simp only [dT_cmp, dE_cmp, dO_own, dO_ev, dE_bin, dE_cst, lookB_s, lookB_im, bind_ok, pw, of_some, ge_int, c1, decide_false, truD]
      have ap := app_ok (T := T) (sub := sub) (s := s) (m := m) (L := L) (seed := sd) (s4 := .im (.int c)) (s5 := s5) (num := .im (.int x)) (e := .bin .mod (.bin .div (.blt .int (.cons (.ev (.bin .add (.bin .mul (.var 3) (.cst (.int 16807))) (.cst (.int 5)))) .nil)) (.cst (.int 3))) (.cst (.int 65521))) (v := (sd * 16807 + 5) / 3 % 65521) (by
        unfold pD
        simp only [dE_cst, dE_glb, dE_var, dE_bin, dE_neg, dE_cmp, dE_chn, dE_and, dE_or, dE_not, dE_ite, dE_tup, dE_lst, dE_call, dE_blt, dE_mkb, dE_isi, dE_ix, dE_sl, dE_rev, dE_comp, dT_cst, dT_var, dT_bin, dT_cmp, dT_chn, dT_call, dT_blt, dT_isi, dT_ix, dT_ite, dT_and, dT_or, dT_not, dO_own, dO_ev, dBd_no, dBd_to, dBs_nil, dBs_cons, dEs_nil, dEs_cons, dIt_seq, dIt_rng1, dIt_rng2, dIt_enm, dIt_zip, dS_set, dS_unp, dS_par, dS_aug, dS_ret, dS_retN, dS_ite, dS_fo, dS_pass, dS_rai, dS_exp, dS_tr, dSs_nil, dSs_cons, go_nx, go_rt, go_exc, fl_ok, fl_exc, bind_ok, bind_exc, of_some, calm_ok, flof_some, look_0, look_s, lookB_im, lookB_ow, lookB_s, frzL_nil, frzL_cons, frz1_im, frz1_un, frz1_ow, frz1_s, tg_nm, tg_tp, tg_tpl, tgs_nil, tgs_cons, obind, set_0, set_s, lp_nx, lp_ct, lp_bk, lp_rt, lp_exc, out_rt, out_nx, out_exc, ownList, isFr, Bool.and_true, Bool.and_false, Bool.true_and, Bool.false_and, Bool.not_true, Bool.not_false, binD, addD, augD, truD, if_true, if_false, Bool.false_eq_true, ↓reduceIte, startE_nil, startE_cons, reduceCtorEq, decide_true, decide_false, tyD, int_int, mul_r (by decide : -(2 ^ 64) < (16807 : Int) ∧ (16807 : Int) < 2 ^ 64), (by decide : ((0 : Int) < 65521) = True), (by decide : ((0 : Int) < 3) = True), (by decide : ((3 : Int) < 1073741824) = True), and_self]) (by omega)
      obtain ⟨L', seed', s4', s5'', s6', i1, i2, i3, i4⟩ := loop_cells (T := T) (sub := sub) s m ns (L ++ [(sd * 16807 + 5) / 3 % 65521]) sd (.im (.int c)) s5 (.im (.int x)) (hL.snoc (Int.emod_nonneg _ (by decide))) hs2 (by rw [List.length_append, List.length_singleton]; omega)
      rw [List.length_append, List.length_singleton] at i3
      refine ⟨L', seed', s4', s5'', s6', i1, i2, by rw [List.length_cons]; omega, ?_⟩
      simp only [body1, dSs_cons, dSs_nil, dS_ite, dS_fo, frzL_nil, e1, e2, ct, ap, fl_ok, Bool.false_eq_true, if_false, go_nx, lp_nx]
      exact i4
def body2 : Sms := (.cons (.ite [] (.cmp .lt (.ev (.blt .len (.cons (.own 2) .nil))) (.own 1))
      (.cons (.set [] 3 false (.bin .mod (.blt .int (.cons (.ev (.bin .add (.bin .add (.bin .mul (.var 3) (.cst (.int 69621))) (.var 5)) (.cst (.int 1)))) .nil)) (.cst (.int 2147483647)))) <|
      (.cons (.app [] 2 (.bin .mod (.bin .div (.blt .int (.cons (.own 3) .nil)) (.cst (.int 7))) (.cst (.int 65521)))) .nil))
      .nil) .nil)
theorem loop_fill {T : Nat → List D → R D} {sub} (s : D) (m : Nat) (s4 s6 : Slot) (hm : m < 2 ^ 15) : ∀ (k : Nat) (lo : Int) (L : List Int) (seed : Int) (s5 : Slot), Pos L → 0 ≤ seed → L.length < 2 ^ 15 → m ≤ L.length + k → ∃ L' seed' s5', Pos L' ∧ m ≤ L'.length ∧ L'.length < 2 ^ 16 ∧ forL (dTg (.nm 5)) (dSs T sub body2) (rngL lo k) (pD s (.int (m : Nat)) L seed s4 s5 s6) = .nx (pD s (.int (m : Nat)) L' seed' s4 s5' s6)
  | 0, lo, L, seed, s5, hL, hs, hl, hk => ⟨L, seed, s5, hL, by omega, by omega, rfl⟩
  | k + 1, lo, L, seed, s5, hL, hs, hl, hk => by
    rw [rngL_cons, forL_cons (ρ1 := pD s (.int (m : Nat)) L seed s4 (.im (.int lo)) s6) rfl]
    by_cases c : L.length < m
    · have ct : dT T (.cmp .lt (.ev (.blt .len (.cons (.own 2) .nil))) (.own 1)) (pD s (.int (m : Nat)) L seed s4 (.im (.int lo)) s6) = .ok true := by
        unfold pD
        simp only [dE_cst, dE_glb, dE_var, dE_bin, dE_neg, dE_cmp, dE_chn, dE_and, dE_or, dE_not, dE_ite, dE_tup, dE_lst, dE_call, dE_blt, dE_mkb, dE_isi, dE_ix, dE_sl, dE_rev, dE_comp, dT_cst, dT_var, dT_bin, dT_cmp, dT_chn, dT_call, dT_blt, dT_isi, dT_ix, dT_ite, dT_and, dT_or, dT_not, dO_own, dO_ev, dBd_no, dBd_to, dBs_nil, dBs_cons, dEs_nil, dEs_cons, dIt_seq, dIt_rng1, dIt_rng2, dIt_enm, dIt_zip, dS_set, dS_unp, dS_par, dS_aug, dS_ret, dS_retN, dS_ite, dS_fo, dS_pass, dS_rai, dS_exp, dS_tr, dSs_nil, dSs_cons, go_nx, go_rt, go_exc, fl_ok, fl_exc, bind_ok, bind_exc, of_some, calm_ok, flof_some, look_0, look_s, lookB_im, lookB_ow, lookB_s, frzL_nil, frzL_cons, frz1_im, frz1_un, frz1_ow, frz1_s, tg_nm, tg_tp, tg_tpl, tgs_nil, tgs_cons, obind, set_0, set_s, lp_nx, lp_ct, lp_bk, lp_rt, lp_exc, out_rt, out_nx, out_exc, ownList, isFr, Bool.and_true, Bool.and_false, Bool.true_and, Bool.false_and, Bool.not_true, Bool.not_false, binD, addD, augD, truD, if_true, if_false, Bool.false_eq_true, ↓reduceIte, startE_nil, startE_cons, reduceCtorEq, decide_true, decide_false, tyD, len_lst, lt_int, List.length_map, Int.ofNat_lt, c]
      have e2 : dS T sub (.set [] 3 false (.bin .mod (.blt .int (.cons (.ev (.bin .add (.bin .add (.bin .mul (.var 3) (.cst (.int 69621))) (.var 5)) (.cst (.int 1)))) .nil)) (.cst (.int 2147483647)))) (pD s (.int (m : Nat)) L seed s4 (.im (.int lo)) s6) = .nx (pD s (.int (m : Nat)) L ((seed * 69621 + lo + 1) % 2147483647) s4 (.im (.int lo)) s6) := by
        unfold pD
        simp only [dE_cst, dE_glb, dE_var, dE_bin, dE_neg, dE_cmp, dE_chn, dE_and, dE_or, dE_not, dE_ite, dE_tup, dE_lst, dE_call, dE_blt, dE_mkb, dE_isi, dE_ix, dE_sl, dE_rev, dE_comp, dT_cst, dT_var, dT_bin, dT_cmp, dT_chn, dT_call, dT_blt, dT_isi, dT_ix, dT_ite, dT_and, dT_or, dT_not, dO_own, dO_ev, dBd_no, dBd_to, dBs_nil, dBs_cons, dEs_nil, dEs_cons, dIt_seq, dIt_rng1, dIt_rng2, dIt_enm, dIt_zip, dS_set, dS_unp, dS_par, dS_aug, dS_ret, dS_retN, dS_ite, dS_fo, dS_pass, dS_rai, dS_exp, dS_tr, dSs_nil, dSs_cons, go_nx, go_rt, go_exc, fl_ok, fl_exc, bind_ok, bind_exc, of_some, calm_ok, flof_some, look_0, look_s, lookB_im, lookB_ow, lookB_s, frzL_nil, frzL_cons, frz1_im, frz1_un, frz1_ow, frz1_s, tg_nm, tg_tp, tg_tpl, tgs_nil, tgs_cons, obind, set_0, set_s, lp_nx, lp_ct, lp_bk, lp_rt, lp_exc, out_rt, out_nx, out_exc, ownList, isFr, Bool.and_true, Bool.and_false, Bool.true_and, Bool.false_and, Bool.not_true, Bool.not_false, binD, addD, augD, truD, if_true, if_false, Bool.false_eq_true, ↓reduceIte, startE_nil, startE_cons, reduceCtorEq, decide_true, decide_false, tyD, int_int, mul_r (by decide : -(2 ^ 64) < (69621 : Int) ∧ (69621 : Int) < 2 ^ 64), (by decide : ((0 : Int) < 2147483647) = True)]
      have hs2 : 0 ≤ (seed * 69621 + lo + 1) % 2147483647 := Int.emod_nonneg _ (by decide)
      generalize (seed * 69621 + lo + 1) % 2147483647 = sd at e2 hs2
      have ap := app_ok (T := T) (sub := sub) (s := s) (m := .int (m : Nat)) (L := L) (seed := sd) (s4 := s4) (s5 := .im (.int lo)) (num := s6) (e := .bin .mod (.bin .div (.blt .int (.cons (.own 3) .nil)) (.cst (.int 7))) (.cst (.int 65521))) (v := sd / 7 % 65521) (by
        unfold pD
        simp only [dE_cst, dE_glb, dE_var, dE_bin, dE_neg, dE_cmp, dE_chn, dE_and, dE_or, dE_not, dE_ite, dE_tup, dE_lst, dE_call, dE_blt, dE_mkb, dE_isi, dE_ix, dE_sl, dE_rev, dE_comp, dT_cst, dT_var, dT_bin, dT_cmp, dT_chn, dT_call, dT_blt, dT_isi, dT_ix, dT_ite, dT_and, dT_or, dT_not, dO_own, dO_ev, dBd_no, dBd_to, dBs_nil, dBs_cons, dEs_nil, dEs_cons, dIt_seq, dIt_rng1, dIt_rng2, dIt_enm, dIt_zip, dS_set, dS_unp, dS_par, dS_aug, dS_ret, dS_retN, dS_ite, dS_fo, dS_pass, dS_rai, dS_exp, dS_tr, dSs_nil, dSs_cons, go_nx, go_rt, go_exc, fl_ok, fl_exc, bind_ok, bind_exc, of_some, calm_ok, flof_some, look_0, look_s, lookB_im, lookB_ow, lookB_s, frzL_nil, frzL_cons, frz1_im, frz1_un, frz1_ow, frz1_s, tg_nm, tg_tp, tg_tpl, tgs_nil, tgs_cons, obind, set_0, set_s, lp_nx, lp_ct, lp_bk, lp_rt, lp_exc, out_rt, out_nx, out_exc, ownList, isFr, Bool.and_true, Bool.and_false, Bool.true_and, Bool.false_and, Bool.not_true, Bool.not_false, binD, addD, augD, truD, if_true, if_false, Bool.false_eq_true, ↓reduceIte, startE_nil, startE_cons, reduceCtorEq, decide_true, decide_false, tyD, int_int, (by decide : ((0 : Int) < 65521) = True), (by decide : ((0 : Int) < 7) = True), (by decide : ((7 : Int) < 1073741824) = True), and_self]) (by omega)
      obtain ⟨L', seed', s5', i1, i2, i3, i4⟩ := loop_fill (T := T) (sub := sub) s m s4 s6 hm k (lo + 1) (L ++ [sd / 7 % 65521]) sd (.im (.int lo)) (hL.snoc (Int.emod_nonneg _ (by decide))) hs2 (by rw [List.length_append, List.length_singleton]; omega) (by rw [List.length_append, List.length_singleton]; omega)
      refine ⟨L', seed', s5', i1, i2, i3, ?_⟩
      simp only [body2, dSs_cons, dSs_nil, dS_ite, frzL_nil, e2, ct, ap, fl_ok, if_true, go_nx, lp_nx]
      exact i4
    · have ct : dT T (.cmp .lt (.ev (.blt .len (.cons (.own 2) .nil))) (.own 1)) (pD s (.int (m : Nat)) L seed s4 (.im (.int lo)) s6) = .ok false := by
        unfold pD
        simp only [dE_cst, dE_glb, dE_var, dE_bin, dE_neg, dE_cmp, dE_chn, dE_and, dE_or, dE_not, dE_ite, dE_tup, dE_lst, dE_call, dE_blt, dE_mkb, dE_isi, dE_ix, dE_sl, dE_rev, dE_comp, dT_cst, dT_var, dT_bin, dT_cmp, dT_chn, dT_call, dT_blt, dT_isi, dT_ix, dT_ite, dT_and, dT_or, dT_not, dO_own, dO_ev, dBd_no, dBd_to, dBs_nil, dBs_cons, dEs_nil, dEs_cons, dIt_seq, dIt_rng1, dIt_rng2, dIt_enm, dIt_zip, dS_set, dS_unp, dS_par, dS_aug, dS_ret, dS_retN, dS_ite, dS_fo, dS_pass, dS_rai, dS_exp, dS_tr, dSs_nil, dSs_cons, go_nx, go_rt, go_exc, fl_ok, fl_exc, bind_ok, bind_exc, of_some, calm_ok, flof_some, look_0, look_s, lookB_im, lookB_ow, lookB_s, frzL_nil, frzL_cons, frz1_im, frz1_un, frz1_ow, frz1_s, tg_nm, tg_tp, tg_tpl, tgs_nil, tgs_cons, obind, set_0, set_s, lp_nx, lp_ct, lp_bk, lp_rt, lp_exc, out_rt, out_nx, out_exc, ownList, isFr, Bool.and_true, Bool.and_false, Bool.true_and, Bool.false_and, Bool.not_true, Bool.not_false, binD, addD, augD, truD, if_true, if_false, Bool.false_eq_true, ↓reduceIte, startE_nil, startE_cons, reduceCtorEq, decide_true, decide_false, tyD, len_lst, lt_int, List.length_map, Int.ofNat_lt, c]
      obtain ⟨L', seed', s5', i1, i2, i3, i4⟩ := loop_fill (T := T) (sub := sub) s m s4 s6 hm k (lo + 1) L seed (.im (.int lo)) hL hs hl (by omega)
      refine ⟨L', seed', s5', i1, i2, i3, ?_⟩
      simp only [body2, dSs_cons, dSs_nil, dS_ite, frzL_nil, ct, fl_ok, Bool.false_eq_true, if_false, go_nx, lp_nx]
      exact i4
theorem getD_pos {L : List Int} (h : Pos L) (k : Nat) : 0 ≤ L.getD k 0 := by
  rw [List.getD_eq_getElem?_getD]
  cases q : L[k]? with
  | none => exact Int.le_refl _
  | some a => exact h a (List.mem_of_getElem? q)
def drawsB : Sms :=
  (.cons (.set [] 2 true (.lst .nil)) <|
  (.cons (.set [] 3 false (.cst (.int 7))) <|
  (.cons (.fo [] (.nm 4) (.seq (.sl (.var 0) .no (.to (.cst (.int 63)))))
    (.cons (.set [] 6 false (.blt .abs (.cons (.own 4) .nil))) <|
    (.cons (.set [] 3 false (.bin .mod (.blt .int (.cons (.ev (.bin .add (.bin .add (.bin .mul (.var 3) (.cst (.int 48271))) (.var 6)) (.cst (.int 11)))) .nil)) (.cst (.int 2147483647)))) <|
    (.cons (.ite [] (.cmp .ge (.own 6) (.ev (.bin .pow (.cst (.int 10)) (.cst (.int 18)))))
      (.cons (.fo [] (.nm 5) (.rng1 (.cst (.int 60)))
        (.cons (.ite [] (.cmp .gt (.own 6) (.ev (.cst (.int 0))))
          (.cons (.app [] 2 (.bin .mod (.blt .int (.cons (.own 6) .nil)) (.cst (.int 1009)))) <|
          (.cons (.set [] 6 false (.bin .div (.var 6) (.cst (.int 1009)))) .nil))
          .nil) .nil)) .nil)
      (.cons (.app [] 2 (.bin .mod (.bin .div (.blt .int (.cons (.ev (.bin .add (.bin .mul (.var 3) (.cst (.int 16807))) (.cst (.int 5)))) .nil)) (.cst (.int 3))) (.cst (.int 65521)))) .nil)) .nil)))) <|
  (.cons (.fo [] (.nm 5) (.rng1 (.var 1))
    (.cons (.ite [] (.cmp .lt (.ev (.blt .len (.cons (.own 2) .nil))) (.own 1))
      (.cons (.set [] 3 false (.bin .mod (.blt .int (.cons (.ev (.bin .add (.bin .add (.bin .mul (.var 3) (.cst (.int 69621))) (.var 5)) (.cst (.int 1)))) .nil)) (.cst (.int 2147483647)))) <|
      (.cons (.app [] 2 (.bin .mod (.bin .div (.blt .int (.cons (.own 3) .nil)) (.cst (.int 7))) (.cst (.int 65521)))) .nil))
      .nil) .nil)) <|
  (.cons (.ret [2] (.sl (.var 2) .no (.to (.var 1)))) .nil)))))
theorem run_draws {t : Txt} {i : Nat} {d : Def} (hi : t.defs[i]? = some d) (ha : d.ar = 2) (hN : d.N.length = 7) (hb : d.body = drawsB) (n : Nat) (ns : List Int) (m : Nat) (hm : m < 2 ^ 15) : ∃ L : List Int, Pos L ∧ L.length = m ∧ run t (n + 1) i [.scr ns, .int (m : Nat)] = .ok (.lst (L.map .int)) := by
  rw [run_s hi (by rw [ha]; rfl), hb]
  have hs : startE d.N [.scr ns, .int (m : Nat)] = [.im (.scr ns), .im (.int (m : Nat)), .un, .un, .un, .un, .un] := by
    unfold startE
    rw [hN]
    rfl
  rw [hs]
  show ∃ L : List Int, _ ∧ _ ∧ (dSs (run t n) (subL t.sub) drawsB [.im (.scr ns), .im (.int (m : Nat)), .un, .un, .un, .un, .un]).out = _
  obtain ⟨L1, seed1, s4, s5, s6, h1, h2, h3, h4⟩ := loop_cells (T := run t n) (sub := subL t.sub) (.scr ns) (.int (m : Nat)) (ns.take 63) [] 7 .un .un .un (fun a h => by cases h) (by decide) (by
    have : (ns.take 63).length ≤ 63 := List.length_take_le _ _
    simp only [List.length_nil]
    omega)
  have l63 : (ns.take 63).length ≤ 63 := List.length_take_le _ _
  simp only [List.length_nil] at h3
  obtain ⟨L2', seed2, s5', i1, i2, i3, i4⟩ := loop_fill (T := run t n) (sub := subL t.sub) (.scr ns) m s4 s6 hm m 0 L1 seed1 s5 h1 h2 (by omega) (by omega)
  refine ⟨L2'.take m, fun a ha => i1 a (List.mem_of_mem_take ha), by rw [List.length_take]; omega, ?_⟩
  have hd1 : dIt (run t n) (.seq (.sl (.var 0) .no (.to (.cst (.int 63))))) (pD (.scr ns) (.int (m : Nat)) [] 7 .un .un .un) = .ok ((ns.take 63).map .int) := by
    unfold pD
    have sl : slD (.scr ns) none (some 63) = some (.lst ((ns.take 63).map .int)) := by
      show some (D.lst (Z.cutD (ns.map D.int) none (some 63))) = _
      unfold Z.cutD
      rw [sIx_some (by decide)]
      show some (D.lst ((List.drop 0 (ns.map D.int)).take (min 63 (ns.map D.int).length - 0))) = _
      rw [List.drop_zero, Nat.sub_zero, List.map_take, ← List.take_take, List.take_length]
    simp only [dE_cst, dE_glb, dE_var, dE_bin, dE_neg, dE_cmp, dE_chn, dE_and, dE_or, dE_not, dE_ite, dE_tup, dE_lst, dE_call, dE_blt, dE_mkb, dE_isi, dE_ix, dE_sl, dE_rev, dE_comp, dT_cst, dT_var, dT_bin, dT_cmp, dT_chn, dT_call, dT_blt, dT_isi, dT_ix, dT_ite, dT_and, dT_or, dT_not, dO_own, dO_ev, dBd_no, dBd_to, dBs_nil, dBs_cons, dEs_nil, dEs_cons, dIt_seq, dIt_rng1, dIt_rng2, dIt_enm, dIt_zip, dS_set, dS_unp, dS_par, dS_aug, dS_ret, dS_retN, dS_ite, dS_fo, dS_pass, dS_rai, dS_exp, dS_tr, dSs_nil, dSs_cons, go_nx, go_rt, go_exc, fl_ok, fl_exc, bind_ok, bind_exc, of_some, calm_ok, flof_some, look_0, look_s, lookB_im, lookB_ow, lookB_s, frzL_nil, frzL_cons, frz1_im, frz1_un, frz1_ow, frz1_s, tg_nm, tg_tp, tg_tpl, tgs_nil, tgs_cons, obind, set_0, set_s, lp_nx, lp_ct, lp_bk, lp_rt, lp_exc, out_rt, out_nx, out_exc, ownList, isFr, Bool.and_true, Bool.and_false, Bool.true_and, Bool.false_and, Bool.not_true, Bool.not_false, binD, addD, augD, truD, if_true, if_false, Bool.false_eq_true, ↓reduceIte, startE_nil, startE_cons, reduceCtorEq, decide_true, decide_false, tyD, sl, itemsD]
  have hd2 : dIt (run t n) (.rng1 (.var 1)) (pD (.scr ns) (.int (m : Nat)) L1 seed1 s4 s5 s6) = .ok (rngL 0 m) := by
    unfold pD
    simp only [dE_cst, dE_glb, dE_var, dE_bin, dE_neg, dE_cmp, dE_chn, dE_and, dE_or, dE_not, dE_ite, dE_tup, dE_lst, dE_call, dE_blt, dE_mkb, dE_isi, dE_ix, dE_sl, dE_rev, dE_comp, dT_cst, dT_var, dT_bin, dT_cmp, dT_chn, dT_call, dT_blt, dT_isi, dT_ix, dT_ite, dT_and, dT_or, dT_not, dO_own, dO_ev, dBd_no, dBd_to, dBs_nil, dBs_cons, dEs_nil, dEs_cons, dIt_seq, dIt_rng1, dIt_rng2, dIt_enm, dIt_zip, dS_set, dS_unp, dS_par, dS_aug, dS_ret, dS_retN, dS_ite, dS_fo, dS_pass, dS_rai, dS_exp, dS_tr, dSs_nil, dSs_cons, go_nx, go_rt, go_exc, fl_ok, fl_exc, bind_ok, bind_exc, of_some, calm_ok, flof_some, look_0, look_s, lookB_im, lookB_ow, lookB_s, frzL_nil, frzL_cons, frz1_im, frz1_un, frz1_ow, frz1_s, tg_nm, tg_tp, tg_tpl, tgs_nil, tgs_cons, obind, set_0, set_s, lp_nx, lp_ct, lp_bk, lp_rt, lp_exc, out_rt, out_nx, out_exc, ownList, isFr, Bool.and_true, Bool.and_false, Bool.true_and, Bool.false_and, Bool.not_true, Bool.not_false, binD, addD, augD, truD, if_true, if_false, Bool.false_eq_true, ↓reduceIte, startE_nil, startE_cons, reduceCtorEq, decide_true, decide_false, tyD, inRng_nat (by omega : m < 2 ^ 60), toNat_nat]
  have e0 : dS (run t n) (subL t.sub) (.set [] 2 true (.lst .nil)) [.im (.scr ns), .im (.int (m : Nat)), .un, .un, .un, .un, .un] = .nx [.im (.scr ns), .im (.int (m : Nat)), .ow (.lst []), .un, .un, .un, .un] := by
    simp only [dE_cst, dE_glb, dE_var, dE_bin, dE_neg, dE_cmp, dE_chn, dE_and, dE_or, dE_not, dE_ite, dE_tup, dE_lst, dE_call, dE_blt, dE_mkb, dE_isi, dE_ix, dE_sl, dE_rev, dE_comp, dT_cst, dT_var, dT_bin, dT_cmp, dT_chn, dT_call, dT_blt, dT_isi, dT_ix, dT_ite, dT_and, dT_or, dT_not, dO_own, dO_ev, dBd_no, dBd_to, dBs_nil, dBs_cons, dEs_nil, dEs_cons, dIt_seq, dIt_rng1, dIt_rng2, dIt_enm, dIt_zip, dS_set, dS_unp, dS_par, dS_aug, dS_ret, dS_retN, dS_ite, dS_fo, dS_pass, dS_rai, dS_exp, dS_tr, dSs_nil, dSs_cons, go_nx, go_rt, go_exc, fl_ok, fl_exc, bind_ok, bind_exc, of_some, calm_ok, flof_some, look_0, look_s, lookB_im, lookB_ow, lookB_s, frzL_nil, frzL_cons, frz1_im, frz1_un, frz1_ow, frz1_s, tg_nm, tg_tp, tg_tpl, tgs_nil, tgs_cons, obind, set_0, set_s, lp_nx, lp_ct, lp_bk, lp_rt, lp_exc, out_rt, out_nx, out_exc, ownList, isFr, Bool.and_true, Bool.and_false, Bool.true_and, Bool.false_and, Bool.not_true, Bool.not_false, binD, addD, augD, truD, if_true, if_false, Bool.false_eq_true, ↓reduceIte, startE_nil, startE_cons, reduceCtorEq, decide_true, decide_false, tyD, List.length_nil, (by decide : (0 ≤ lim) = True)]
  have e1 : dS (run t n) (subL t.sub) (.set [] 3 false (.cst (.int 7))) [.im (.scr ns), .im (.int (m : Nat)), .ow (.lst []), .un, .un, .un, .un] = .nx (pD (.scr ns) (.int (m : Nat)) [] 7 .un .un .un) := rfl
  have e9 : dS (run t n) (subL t.sub) (.ret [2] (.sl (.var 2) .no (.to (.var 1)))) (pD (.scr ns) (.int (m : Nat)) L2' seed2 s4 s5' s6) = .rt (.lst ((L2'.take m).map .int)) := by
    unfold pD
    have sl : slD (.lst (L2'.map .int)) none (some (m : Nat)) = some (.lst ((L2'.take m).map .int)) := by
      show some (D.lst (Z.cutD (L2'.map D.int) none (some ((m : Nat) : Int)))) = _
      unfold Z.cutD
      rw [sIx_some (by omega)]
      show some (D.lst ((List.drop 0 (L2'.map D.int)).take (min ((m : Int)).toNat (L2'.map D.int).length - 0))) = _
      rw [List.drop_zero, Nat.sub_zero, toNat_nat, List.map_take, ← List.take_take, List.take_length]
    simp only [dE_cst, dE_glb, dE_var, dE_bin, dE_neg, dE_cmp, dE_chn, dE_and, dE_or, dE_not, dE_ite, dE_tup, dE_lst, dE_call, dE_blt, dE_mkb, dE_isi, dE_ix, dE_sl, dE_rev, dE_comp, dT_cst, dT_var, dT_bin, dT_cmp, dT_chn, dT_call, dT_blt, dT_isi, dT_ix, dT_ite, dT_and, dT_or, dT_not, dO_own, dO_ev, dBd_no, dBd_to, dBs_nil, dBs_cons, dEs_nil, dEs_cons, dIt_seq, dIt_rng1, dIt_rng2, dIt_enm, dIt_zip, dS_set, dS_unp, dS_par, dS_aug, dS_ret, dS_retN, dS_ite, dS_fo, dS_pass, dS_rai, dS_exp, dS_tr, dSs_nil, dSs_cons, go_nx, go_rt, go_exc, fl_ok, fl_exc, bind_ok, bind_exc, of_some, calm_ok, flof_some, look_0, look_s, lookB_im, lookB_ow, lookB_s, frzL_nil, frzL_cons, frz1_im, frz1_un, frz1_ow, frz1_s, tg_nm, tg_tp, tg_tpl, tgs_nil, tgs_cons, obind, set_0, set_s, lp_nx, lp_ct, lp_bk, lp_rt, lp_exc, out_rt, out_nx, out_exc, ownList, isFr, Bool.and_true, Bool.and_false, Bool.true_and, Bool.false_and, Bool.not_true, Bool.not_false, binD, addD, augD, truD, if_true, if_false, Bool.false_eq_true, ↓reduceIte, startE_nil, startE_cons, reduceCtorEq, decide_true, decide_false, tyD, sl]
  simp only [drawsB]
  rw [dSs_cons, e0, go_nx, dSs_cons, e1, go_nx, dSs_cons, dS_fo, frzL_nil, hd1, fl_ok]
  have h4 : forL (dTg (.nm 4)) (dSs (run t n) (subL t.sub) body1) ((ns.take 63).map .int) (pD (.scr ns) (.int (m : Nat)) [] 7 .un .un .un) = _ := h4
  have i4 : forL (dTg (.nm 5)) (dSs (run t n) (subL t.sub) body2) (rngL 0 m) (pD (.scr ns) (.int (m : Nat)) L1 seed1 s4 s5 s6) = _ := i4
  unfold body1 at h4
  unfold body2 at i4
  rw [h4, go_nx, dSs_cons, dS_fo, frzL_nil, hd2, fl_ok, i4, go_nx, dSs_cons, e9, go_rt, out_rt]
end Z
namespace Law
open PySem PySem.Spec PyProof.Rows L2 Z
def top (i : Nat) : Stmt := PySem.Challenge.pw_wordsblasted_k58_whole_spans.main.body.getD i (.Pass ⟨0, 0, 0, 0⟩)
def b0 : Sms :=
  (.cons (.ret [] (.and_ (.isi (.var 0) .int) (.and_ (.not_ (.isi (.var 0) .bool)) (.chn .le .le (.var 1) (.var 0) (.var 2))))) .nil)
def d0 : Def := { name := "is_whole", st := top 7, N := ["value", "least", "most"], ar := 3, muts := [], body := b0 }
def b1 : Sms :=
  (.cons (.ret [] (.bin .shl (.cst (.int 1)) (.var 0))) .nil)
def d1 : Def := { name := "power", st := top 8, N := ["width"], ar := 1, muts := [], body := b1 }
def b2 : Sms :=
  (.cons (.unp [] (.tp (.cons (.nm 2) (.cons (.nm 3) (.cons (.nm 4) (.cons (.nm 5) .nil))))) (.var 0)) <|
  (.cons (.ret [] (.and_ (.cmp .eq (.ev (.bin .and (.var 1) (.var 2))) (.own 2)) (.and_ (.cmp .eq (.ev (.bin .and (.var 1) (.var 3))) (.ev (.cst (.int 0)))) (.chn .le .le (.var 4) (.var 1) (.var 5))))) .nil))
def d2 : Def := { name := "fits_span", st := top 11, N := ["span", "value", "ones", "noughts", "least", "greatest"], ar := 2, muts := [], body := b2 }
def b3 : Sms :=
  (.cons (.ite [] (.and_ (.cmp .eq (.ev (.bin .and (.var 3) (.var 1))) (.own 1)) (.cmp .eq (.ev (.bin .and (.var 3) (.var 2))) (.ev (.cst (.int 0)))))
    (.cons (.ret [] (.var 3)) .nil)
    .nil) <|
  (.cons (.set [] 4 false (.bin .sub (.bin .sub (.call 1 (.cons (.var 0) .nil)) (.cst (.int 1))) (.bin .or (.var 1) (.var 2)))) <|
  (.cons (.set [] 5 false (.cst .non)) <|
  (.cons (.fo [] (.nm 6) (.rng1 (.var 0))
    (.cons (.set [] 7 false (.bin .shl (.cst (.int 1)) (.var 6))) <|
    (.cons (.set [] 8 false (.bin .shl (.bin .shr (.var 3) (.bin .add (.var 6) (.cst (.int 1)))) (.bin .add (.var 6) (.cst (.int 1))))) <|
    (.cons (.set [] 9 false (.bin .sub (.call 1 (.cons (.var 0) .nil)) (.bin .shl (.var 7) (.cst (.int 1))))) <|
    (.cons (.set [] 10 false (.and_ (.cmp .eq (.ev (.bin .and (.bin .and (.var 8) (.var 1)) (.var 9))) (.ev (.bin .and (.var 1) (.var 9)))) (.cmp .eq (.ev (.bin .and (.var 8) (.var 2))) (.ev (.cst (.int 0)))))) <|
    (.cons (.ite [] (.and_ (.var 10) (.and_ (.cmp .eq (.ev (.bin .and (.var 3) (.var 7))) (.ev (.cst (.int 0)))) (.and_ (.cmp .eq (.ev (.bin .and (.var 2) (.var 7))) (.ev (.cst (.int 0)))) (.bin .and (.bin .or (.var 4) (.var 1)) (.var 7)))))
      (.cons (.set [] 11 false (.bin .or (.bin .or (.var 8) (.var 7)) (.bin .and (.var 1) (.bin .sub (.var 7) (.cst (.int 1)))))) <|
      (.cons (.set [] 5 false (.ite (.cmp .is (.own 5) (.ev (.cst .non))) (.var 11) (.blt .min (.cons (.own 5) (.cons (.own 11) .nil))))) .nil))
      .nil) .nil)))))) <|
  (.cons (.ret [] (.var 5)) .nil)))))
def d3 : Def := { name := "next_within", st := top 12, N := ["width", "ones", "noughts", "value", "free", "best", "place", "bit", "above", "keep", "is_same", "found"], ar := 4, muts := [], body := b3 }
def b4 : Sms :=
  (.cons (.set [] 4 false (.bin .sub (.call 1 (.cons (.var 0) .nil)) (.cst (.int 1)))) <|
  (.cons (.set [] 5 false (.call 3 (.cons (.var 0) (.cons (.var 2) (.cons (.var 1) (.cons (.bin .sub (.var 4) (.var 3)) .nil)))))) <|
  (.cons (.ret [] (.ite (.cmp .is (.own 5) (.ev (.cst .non))) (.cst .non) (.bin .sub (.var 4) (.var 5)))) .nil)))
def d4 : Def := { name := "last_within", st := top 13, N := ["width", "ones", "noughts", "value", "whole", "found"], ar := 4, muts := [], body := b4 }
def b5 : Sms :=
  (.cons (.set [] 3 false (.cst (.int 0))) <|
  (.cons (.wh [] (.and_ (.cmp .lt (.own 3) (.own 0)) (.cmp .gt (.ev (.bin .shr (.bin .xor (.var 1) (.var 2)) (.var 3))) (.ev (.cst (.int 0)))))
    (.cons (.aug [] 3 .add (.cst (.int 1))) .nil)) <|
  (.cons (.ret [] (.bin .sub (.call 1 (.cons (.var 0) .nil)) (.call 1 (.cons (.var 3) .nil)))) .nil)))
def d5 : Def := { name := "_same_ahead", st := top 14, N := ["width", "least", "greatest", "size"], ar := 3, muts := [], body := b5 }
def b6 : Sms :=
  (.cons (.unp [] (.tp (.cons (.nm 3) (.cons (.nm 4) (.cons (.nm 5) (.cons (.nm 6) .nil))))) (.var 1)) <|
  (.cons (.ite [] (.cmp .gt (.ev (.bin .and (.var 3) (.var 4))) (.ev (.cst (.int 0))))
    (.cons (.ret [] (.cst .non)) .nil)
    .nil) <|
  (.cons (.par [] 7 8 (.cons (.call 3 (.cons (.var 0) (.cons (.var 3) (.cons (.var 4) (.cons (.var 5) .nil))))) (.cons (.call 4 (.cons (.var 0) (.cons (.var 3) (.cons (.var 4) (.cons (.var 6) .nil))))) .nil))) <|
  (.cons (.ite [] (.or_ (.cmp .is (.own 7) (.ev (.cst .non))) (.or_ (.cmp .is (.own 8) (.ev (.cst .non))) (.cmp .gt (.own 7) (.own 8))))
    (.cons (.ret [] (.cst .non)) .nil)
    .nil) <|
  (.cons (.set [] 2 false (.call 5 (.cons (.var 0) (.cons (.var 7) (.cons (.var 8) .nil))))) <|
  (.cons (.ret [] (.tup (.cons (.bin .or (.var 3) (.bin .and (.var 7) (.var 2))) (.cons (.bin .or (.var 4) (.bin .and (.bin .sub (.bin .sub (.call 1 (.cons (.var 0) .nil)) (.cst (.int 1))) (.var 7)) (.var 2))) (.cons (.var 7) (.cons (.var 8) .nil)))))) .nil))))))
def d6 : Def := { name := "tight", st := top 15, N := ["width", "span", "ahead", "ones", "noughts", "least", "greatest", "low", "high"], ar := 2, muts := [], body := b6 }
def b7 : Sms :=
  (.cons (.ite [] (.or_ (.cmp .is (.own 1) (.ev (.cst .non))) (.cmp .is (.own 2) (.ev (.cst .non))))
    (.cons (.ret [] (.cst .non)) .nil)
    .nil) <|
  (.cons (.ret [] (.call 6 (.cons (.var 0) (.cons (.tup (.cons (.bin .or (.ix (.own 1) (.cst (.int 0))) (.ix (.own 2) (.cst (.int 0)))) (.cons (.bin .or (.ix (.own 1) (.cst (.int 1))) (.ix (.own 2) (.cst (.int 1)))) (.cons (.blt .max (.cons (.ev (.ix (.own 1) (.cst (.int 2)))) (.cons (.ev (.ix (.own 2) (.cst (.int 2)))) .nil))) (.cons (.blt .min (.cons (.ev (.ix (.own 1) (.cst (.int 3)))) (.cons (.ev (.ix (.own 2) (.cst (.int 3)))) .nil))) .nil))))) .nil)))) .nil))
def d7 : Def := { name := "meet", st := top 16, N := ["width", "span", "other"], ar := 3, muts := [], body := b7 }
def b8 : Sms :=
  (.cons (.ite [] (.cmp .eq (.ev (.blt .len (.cons (.own 1) .nil))) (.ev (.cst (.int 0))))
    (.cons (.ret [] (.cst .non)) .nil)
    .nil) <|
  (.cons (.par [] 3 4 (.cons (.bin .sub (.call 1 (.cons (.var 0) .nil)) (.cst (.int 1))) (.cons (.bin .sub (.call 1 (.cons (.var 0) .nil)) (.cst (.int 1))) .nil))) <|
  (.cons (.fo [] (.nm 2) (.seq (.var 1))
    (.cons (.par [] 3 4 (.cons (.bin .and (.var 3) (.var 2)) (.cons (.bin .and (.var 4) (.bin .sub (.bin .sub (.call 1 (.cons (.var 0) .nil)) (.cst (.int 1))) (.var 2))) .nil))) .nil)) <|
  (.cons (.ret [] (.tup (.cons (.var 3) (.cons (.var 4) (.cons (.blt .min (.cons (.own 1) .nil)) (.cons (.blt .max (.cons (.own 1) .nil)) .nil)))))) .nil))))
def d8 : Def := { name := "hull", st := top 17, N := ["width", "values", "value", "ones", "noughts"], ar := 2, muts := [], body := b8 }
def b9 : Sms :=
  (.cons (.unp [] (.tp (.cons (.nm 5) (.cons (.nm 6) (.cons (.nm 7) (.cons (.nm 8) .nil))))) (.var 1)) <|
  (.cons (.set [] 3 true (.lst .nil)) <|
  (.cons (.set [] 4 false (.var 7)) <|
  (.cons (.wh [] (.and_ (.cmp .isn (.own 4) (.ev (.cst .non))) (.cmp .le (.own 4) (.own 8)))
    (.cons (.app [] 3 (.var 4)) <|
    (.cons (.ite [] (.cmp .gt (.ev (.blt .len (.cons (.own 3) .nil))) (.own 2))
      (.cons (.ret [] (.cst .non)) .nil)
      .nil) <|
    (.cons (.set [] 4 false (.ite (.cmp .lt (.ev (.bin .add (.var 4) (.cst (.int 1)))) (.ev (.call 1 (.cons (.var 0) .nil)))) (.call 3 (.cons (.var 0) (.cons (.var 5) (.cons (.var 6) (.cons (.bin .add (.var 4) (.cst (.int 1))) .nil))))) (.cst .non))) .nil)))) <|
  (.cons (.ret [3] (.var 3)) .nil)))))
def d9 : Def := { name := "list_within", st := top 18, N := ["width", "span", "most", "found", "value", "ones", "noughts", "least", "greatest"], ar := 3, muts := [3], body := b9 }
def b10 : Sms :=
  (.cons (.ite [] (.not_ (.call 0 (.cons (.var 0) (.cons (.cst (.int 1)) (.cons (.glb "MOST_WIDE" (.int 16)) .nil)))))
    (.cons (.rai "BadWidth") .nil)
    .nil) .nil)
def d10 : Def := { name := "check_width", st := top 19, N := ["width"], ar := 1, muts := [], body := b10 }
def b11 : Sms :=
  (.cons (.ite [] (.or_ (.not_ (.isi (.var 1) .tuple)) (.cmp .ne (.ev (.blt .len (.cons (.own 1) .nil))) (.ev (.cst (.int 4)))))
    (.cons (.ret [] (.cst (.bl false))) .nil)
    .nil) <|
  (.cons (.ret [] (.blt .all (.cons (.ev (.comp (.call 0 (.cons (.var 2) (.cons (.cst (.int 0)) (.cons (.bin .sub (.call 1 (.cons (.var 0) .nil)) (.cst (.int 1))) .nil)))) [2] (.nm 2) (.seq (.var 1)) (.cst (.bl true)))) .nil))) .nil))
def d11 : Def := { name := "is_span", st := top 20, N := ["width", "value", "one"], ar := 2, muts := [], body := b11 }
def b12 : Sms :=
  (.cons (.ite [] (.not_ (.call 11 (.cons (.var 0) (.cons (.var 1) .nil))))
    (.cons (.rai "BadSpan") .nil)
    .nil) .nil)
def d12 : Def := { name := "check_span", st := top 21, N := ["width", "span"], ar := 2, muts := [], body := b12 }
def b13 : Sms :=
  (.cons (.exp [] (.call 10 (.cons (.var 0) .nil))) <|
  (.cons (.exp [] (.call 12 (.cons (.var 0) (.cons (.var 1) .nil)))) <|
  (.cons (.ret [] (.and_ (.call 0 (.cons (.var 2) (.cons (.cst (.int 0)) (.cons (.bin .sub (.call 1 (.cons (.var 0) .nil)) (.cst (.int 1))) .nil)))) (.call 2 (.cons (.var 1) (.cons (.var 2) .nil))))) .nil)))
def d13 : Def := { name := "is_within", st := top 22, N := ["width", "span", "value"], ar := 3, muts := [], body := b13 }
def b14 : Sms :=
  (.cons (.exp [] (.call 10 (.cons (.var 0) .nil))) <|
  (.cons (.exp [] (.call 12 (.cons (.var 0) (.cons (.var 1) .nil)))) <|
  (.cons (.ret [] (.call 6 (.cons (.var 0) (.cons (.var 1) .nil)))) .nil)))
def d14 : Def := { name := "tightened", st := top 23, N := ["width", "span"], ar := 2, muts := [], body := b14 }
def b15 : Sms :=
  (.cons (.exp [] (.call 10 (.cons (.var 0) .nil))) <|
  (.cons (.exp [] (.call 12 (.cons (.var 0) (.cons (.var 1) .nil)))) <|
  (.cons (.exp [] (.call 12 (.cons (.var 0) (.cons (.var 2) .nil)))) <|
  (.cons (.ret [] (.call 7 (.cons (.var 0) (.cons (.var 1) (.cons (.var 2) .nil))))) .nil))))
def d15 : Def := { name := "met", st := top 24, N := ["width", "span", "other"], ar := 3, muts := [], body := b15 }
def b16 : Sms :=
  (.cons (.exp [] (.call 10 (.cons (.var 0) .nil))) <|
  (.cons (.ite [] (.or_ (.not_ (.isi (.var 1) .tuple)) (.cmp .eq (.ev (.blt .len (.cons (.own 1) .nil))) (.ev (.cst (.int 0)))))
    (.cons (.rai "BadNumber") .nil)
    .nil) <|
  (.cons (.ite [] (.not_ (.blt .all (.cons (.ev (.comp (.call 0 (.cons (.var 2) (.cons (.cst (.int 0)) (.cons (.bin .sub (.call 1 (.cons (.var 0) .nil)) (.cst (.int 1))) .nil)))) [2] (.nm 2) (.seq (.var 1)) (.cst (.bl true)))) .nil)))
    (.cons (.rai "BadNumber") .nil)
    .nil) <|
  (.cons (.ret [] (.call 8 (.cons (.var 0) (.cons (.var 1) .nil)))) .nil))))
def d16 : Def := { name := "hull_of", st := top 25, N := ["width", "values", "one"], ar := 2, muts := [], body := b16 }
def b17 : Sms :=
  (.cons (.exp [] (.call 10 (.cons (.var 0) .nil))) <|
  (.cons (.exp [] (.call 12 (.cons (.var 0) (.cons (.var 1) .nil)))) <|
  (.cons (.ite [] (.not_ (.call 0 (.cons (.var 2) (.cons (.cst (.int 0)) (.cons (.glb "MOST_LISTED" (.int 4096)) .nil)))))
    (.cons (.rai "BadNumber") .nil)
    .nil) <|
  (.cons (.set [] 3 false (.call 6 (.cons (.var 0) (.cons (.var 1) .nil)))) <|
  (.cons (.ite [] (.cmp .is (.own 3) (.ev (.cst .non)))
    (.cons (.ret [] (.tup .nil)) .nil)
    .nil) <|
  (.cons (.set [] 4 false (.call 9 (.cons (.var 0) (.cons (.var 3) (.cons (.var 2) .nil))))) <|
  (.cons (.ret [] (.ite (.cmp .is (.own 4) (.ev (.cst .non))) (.cst .non) (.mkb .tuple (.cons (.var 4) .nil)))) .nil)))))))
def d17 : Def := { name := "listed", st := top 26, N := ["width", "span", "most", "own", "found"], ar := 3, muts := [], body := b17 }
def b18 : Sms :=
  (.cons (.set [] 2 true (.lst .nil)) <|
  (.cons (.set [] 3 false (.cst (.int 7))) <|
  (.cons (.fo [] (.nm 4) (.seq (.sl (.var 0) .no (.to (.cst (.int 63)))))
    (.cons (.set [] 6 false (.blt .abs (.cons (.own 4) .nil))) <|
    (.cons (.set [] 3 false (.bin .mod (.blt .int (.cons (.ev (.bin .add (.bin .add (.bin .mul (.var 3) (.cst (.int 48271))) (.var 6)) (.cst (.int 11)))) .nil)) (.cst (.int 2147483647)))) <|
    (.cons (.ite [] (.cmp .ge (.own 6) (.ev (.bin .pow (.cst (.int 10)) (.cst (.int 18)))))
      (.cons (.fo [] (.nm 5) (.rng1 (.cst (.int 60)))
        (.cons (.ite [] (.cmp .gt (.own 6) (.ev (.cst (.int 0))))
          (.cons (.app [] 2 (.bin .mod (.blt .int (.cons (.own 6) .nil)) (.cst (.int 1009)))) <|
          (.cons (.set [] 6 false (.bin .div (.var 6) (.cst (.int 1009)))) .nil))
          .nil) .nil)) .nil)
      (.cons (.app [] 2 (.bin .mod (.bin .div (.blt .int (.cons (.ev (.bin .add (.bin .mul (.var 3) (.cst (.int 16807))) (.cst (.int 5)))) .nil)) (.cst (.int 3))) (.cst (.int 65521)))) .nil)) .nil)))) <|
  (.cons (.fo [] (.nm 5) (.rng1 (.var 1))
    (.cons (.ite [] (.cmp .lt (.ev (.blt .len (.cons (.own 2) .nil))) (.own 1))
      (.cons (.set [] 3 false (.bin .mod (.blt .int (.cons (.ev (.bin .add (.bin .add (.bin .mul (.var 3) (.cst (.int 69621))) (.var 5)) (.cst (.int 1)))) .nil)) (.cst (.int 2147483647)))) <|
      (.cons (.app [] 2 (.bin .mod (.bin .div (.blt .int (.cons (.own 3) .nil)) (.cst (.int 7))) (.cst (.int 65521)))) .nil))
      .nil) .nil)) <|
  (.cons (.ret [2] (.sl (.var 2) .no (.to (.var 1)))) .nil)))))
def d18 : Def := { name := "_law_draws", st := top 28, N := ["script", "many", "draws", "seed", "cell", "k", "number"], ar := 2, muts := [2], body := b18 }
def b19 : Sms :=
  (.cons (.ret [] (.comp (.bin .mod (.bin .div (.var 0) (.ix (.ev (.lst (.cons (.cst (.int 1)) (.cons (.cst (.int 2)) (.cons (.cst (.int 4)) (.cons (.cst (.int 8)) (.cons (.cst (.int 16)) (.cons (.cst (.int 32)) (.cons (.cst (.int 64)) (.cons (.cst (.int 128)) (.cons (.cst (.int 256)) (.cons (.cst (.int 512)) (.cons (.cst (.int 1024)) (.cons (.cst (.int 2048)) (.cons (.cst (.int 4096)) (.cons (.cst (.int 8192)) (.cons (.cst (.int 16384)) (.cons (.cst (.int 32768)) .nil)))))))))))))))))) (.var 2))) (.cst (.int 2))) [2] (.nm 2) (.rng1 (.var 1)) (.cst (.bl true)))) .nil)
def d19 : Def := { name := "_law_bits", st := top 34, N := ["value", "width", "k"], ar := 2, muts := [], body := b19 }
def b20 : Sms :=
  (.cons (.set [] 1 false (.cst (.int 0))) <|
  (.cons (.fo [] (.nm 2) (.seq (.rev (.var 0)))
    (.cons (.set [] 1 false (.bin .add (.bin .mul (.cst (.int 2)) (.var 1)) (.var 2))) .nil)) <|
  (.cons (.ret [] (.var 1)) .nil)))
def d20 : Def := { name := "_law_number", st := top 35, N := ["bits", "total", "bit"], ar := 1, muts := [], body := b20 }
def b21 : Sms :=
  (.cons (.set [] 2 true (.lst .nil)) <|
  (.cons (.unp [] (.tp (.cons (.nm 4) (.cons (.nm 5) .nil))) (.tup (.cons (.call 19 (.cons (.ix (.own 1) (.cst (.int 0))) (.cons (.var 0) .nil))) (.cons (.call 19 (.cons (.ix (.own 1) (.cst (.int 1))) (.cons (.var 0) .nil))) .nil)))) <|
  (.cons (.fo [] (.nm 3) (.rng1 (.ix (.ev (.lst (.cons (.cst (.int 1)) (.cons (.cst (.int 2)) (.cons (.cst (.int 4)) (.cons (.cst (.int 8)) (.cons (.cst (.int 16)) (.cons (.cst (.int 32)) (.cons (.cst (.int 64)) (.cons (.cst (.int 128)) (.cons (.cst (.int 256)) .nil))))))))))) (.var 0)))
    (.cons (.set [] 6 false (.ite (.chn .le .le (.ix (.own 1) (.cst (.int 2))) (.var 3) (.ix (.own 1) (.cst (.int 3)))) (.call 19 (.cons (.var 3) (.cons (.var 0) .nil))) (.cst .non))) <|
    (.cons (.ite [] (.and_ (.cmp .isn (.own 6) (.ev (.cst .non))) (.not_ (.blt .any (.cons (.ev (.comp (.or_ (.cmp .gt (.ev (.ix (.own 4) (.var 7))) (.ev (.ix (.own 6) (.var 7)))) (.cmp .gt (.ev (.bin .mul (.ix (.own 5) (.var 7)) (.ix (.own 6) (.var 7)))) (.ev (.cst (.int 0))))) [7] (.nm 7) (.rng1 (.var 0)) (.cst (.bl true)))) .nil))))
      (.cons (.app [] 2 (.var 3)) .nil)
      .nil) .nil))) <|
  (.cons (.ret [2] (.var 2)) .nil))))
def d21 : Def := { name := "_law_within", st := top 43, N := ["width", "span", "found", "value", "ones", "noughts", "bits", "k"], ar := 2, muts := [2], body := b21 }
def b22 : Sms :=
  (.cons (.ite [] (.cmp .eq (.ev (.blt .len (.cons (.own 1) .nil))) (.ev (.cst (.int 0))))
    (.cons (.ret [] (.cst .non)) .nil)
    .nil) <|
  (.cons (.set [] 2 false (.comp (.call 19 (.cons (.var 5) (.cons (.var 0) .nil))) [5] (.nm 5) (.seq (.var 1)) (.cst (.bl true)))) <|
  (.cons (.set [] 3 false (.call 20 (.cons (.comp (.blt .int (.cons (.ev (.blt .all (.cons (.ev (.comp (.cmp .eq (.ev (.ix (.own 7) (.var 6))) (.ev (.cst (.int 1)))) [7] (.nm 7) (.seq (.var 2)) (.cst (.bl true)))) .nil))) .nil)) [6] (.nm 6) (.rng1 (.var 0)) (.cst (.bl true))) .nil))) <|
  (.cons (.set [] 4 false (.call 20 (.cons (.comp (.blt .int (.cons (.ev (.blt .all (.cons (.ev (.comp (.cmp .eq (.ev (.ix (.own 7) (.var 6))) (.ev (.cst (.int 0)))) [7] (.nm 7) (.seq (.var 2)) (.cst (.bl true)))) .nil))) .nil)) [6] (.nm 6) (.rng1 (.var 0)) (.cst (.bl true))) .nil))) <|
  (.cons (.ret [] (.tup (.cons (.var 3) (.cons (.var 4) (.cons (.blt .min (.cons (.own 1) .nil)) (.cons (.blt .max (.cons (.own 1) .nil)) .nil)))))) .nil)))))
def d22 : Def := { name := "_law_hull", st := top 44, N := ["width", "values", "rows", "ones", "noughts", "value", "k", "row"], ar := 2, muts := [], body := b22 }
def b23 : Sms :=
  (.cons (.set [] 4 false (.comp (.bin .mod (.blt .int (.cons (.ev (.ix (.own 0) (.bin .mod (.bin .add (.var 1) (.var 9)) (.blt .len (.cons (.own 0) .nil))))) .nil)) (.bin .add (.var 3) (.cst (.int 1)))) [9] (.nm 9) (.rng1 (.cst (.int 6))) (.cst (.bl true)))) <|
  (.cons (.unp [] (.tp (.cons (.nm 5) (.cons (.nm 6) .nil))) (.lst (.cons (.ix (.ev (.lst (.cons (.cst (.int 0)) (.cons (.ix (.own 4) (.cst (.int 0))) .nil)))) (.bin .mod (.ix (.own 4) (.cst (.int 5))) (.cst (.int 2)))) (.cons (.ix (.ev (.lst (.cons (.cst (.int 0)) (.cons (.ix (.own 4) (.cst (.int 1))) .nil)))) (.bin .mod (.bin .div (.ix (.own 4) (.cst (.int 5))) (.cst (.int 2))) (.cst (.int 2)))) .nil)))) <|
  (.cons (.unp [] (.tp (.cons (.nm 7) (.cons (.nm 8) .nil))) (.ix (.ev (.lst (.cons (.tup (.cons (.blt .min (.cons (.ev (.ix (.own 4) (.cst (.int 2)))) (.cons (.ev (.ix (.own 4) (.cst (.int 3)))) .nil))) (.cons (.blt .max (.cons (.ev (.ix (.own 4) (.cst (.int 2)))) (.cons (.ev (.ix (.own 4) (.cst (.int 3)))) .nil))) .nil))) (.cons (.tup (.cons (.cst (.int 0)) (.cons (.var 3) .nil))) (.cons (.tup (.cons (.ix (.own 4) (.cst (.int 2))) (.cons (.ix (.own 4) (.cst (.int 3))) .nil))) .nil))))) (.bin .mod (.ix (.own 4) (.cst (.int 4))) (.cst (.int 3))))) <|
  (.cons (.ret [] (.tup (.cons (.var 5) (.cons (.var 6) (.cons (.var 7) (.cons (.var 8) .nil)))))) .nil))))
def d23 : Def := { name := "_law_span", st := top 45, N := ["draws", "at", "width", "whole", "found", "ones", "noughts", "low", "high", "k"], ar := 4, muts := [], body := b23 }
def b24 : Sms :=
  (.cons (.set [] 1 false (.call 18 (.cons (.var 0) (.cons (.cst (.int 200)) .nil)))) <|
  (.cons (.fo [] (.nm 2) (.rng1 (.cst (.int 30)))
    (.cons (.set [] 3 false (.bin .add (.cst (.int 1)) (.bin .mod (.blt .int (.cons (.ev (.ix (.own 1) (.var 2))) .nil)) (.cst (.int 7))))) <|
    (.cons (.set [] 4 false (.call 20 (.cons (.bin .mul (.lst (.cons (.cst (.int 1)) .nil)) (.var 3)) .nil))) <|
    (.cons (.unp [] (.tp (.cons (.nm 10) (.cons (.nm 11) .nil))) (.tup (.cons (.call 23 (.cons (.var 1) (.cons (.bin .add (.cst (.int 30)) (.bin .mul (.cst (.int 7)) (.var 2))) (.cons (.var 3) (.cons (.var 4) .nil))))) (.cons (.call 23 (.cons (.var 1) (.cons (.bin .add (.cst (.int 33)) (.bin .mul (.cst (.int 5)) (.var 2))) (.cons (.var 3) (.cons (.var 4) .nil))))) .nil)))) <|
    (.cons (.ite [] (.cmp .eq (.ev (.bin .mod (.var 2) (.cst (.int 3)))) (.ev (.cst (.int 0))))
      (.cons (.set [] 10 false (.tup (.cons (.ix (.own 10) (.cst (.int 0))) (.cons (.ite (.cmp .ge (.ev (.bin .sub (.bin .sub (.var 4) (.ix (.own 10) (.cst (.int 0)))) (.ix (.own 10) (.cst (.int 1))))) (.ev (.cst (.int 0)))) (.bin .sub (.bin .sub (.var 4) (.ix (.own 10) (.cst (.int 0)))) (.ix (.own 10) (.cst (.int 1)))) (.cst (.int 0))) (.cons (.ix (.own 10) (.cst (.int 2))) (.cons (.ix (.own 10) (.cst (.int 3))) .nil)))))) .nil)
      .nil) <|
    (.cons (.unp [] (.tp (.cons (.nm 12) (.cons (.nm 13) .nil))) (.tup (.cons (.call 21 (.cons (.var 3) (.cons (.var 10) .nil))) (.cons (.call 21 (.cons (.var 3) (.cons (.var 11) .nil))) .nil)))) <|
    (.cons (.ite [] (.or_ (.cmp .ne (.ev (.call 14 (.cons (.var 3) (.cons (.var 10) .nil)))) (.ev (.call 22 (.cons (.var 3) (.cons (.var 12) .nil))))) (.cmp .ne (.ev (.call 14 (.cons (.var 3) (.cons (.var 11) .nil)))) (.ev (.call 22 (.cons (.var 3) (.cons (.var 13) .nil))))))
      (.cons (.ret [] (.cst (.bl false))) .nil)
      .nil) <|
    (.cons (.set [] 5 false (.comp (.var 7) [7] (.nm 7) (.seq (.var 12)) (.cmp .in_ (.own 7) (.own 13)))) <|
    (.cons (.ite [] (.or_ (.cmp .ne (.ev (.call 15 (.cons (.var 3) (.cons (.var 10) (.cons (.var 11) .nil))))) (.ev (.call 22 (.cons (.var 3) (.cons (.var 5) .nil))))) (.cmp .ne (.ev (.call 15 (.cons (.var 3) (.cons (.var 10) (.cons (.var 10) .nil))))) (.ev (.call 14 (.cons (.var 3) (.cons (.var 10) .nil))))))
      (.cons (.ret [] (.cst (.bl false))) .nil)
      .nil) <|
    (.cons (.fo [] (.nm 6) (.seq (.lst (.cons (.cst (.int 0)) (.cons (.cst (.int 1)) (.cons (.blt .len (.cons (.own 12) .nil)) (.cons (.blt .max (.cons (.ev (.cst (.int 0))) (.cons (.ev (.bin .sub (.blt .len (.cons (.own 12) .nil)) (.cst (.int 1)))) .nil))) (.cons (.cst (.int 4096)) .nil)))))))
      (.cons (.ite [] (.cmp .ne (.ev (.call 17 (.cons (.var 3) (.cons (.var 10) (.cons (.var 6) .nil))))) (.ev (.ite (.cmp .le (.ev (.blt .len (.cons (.own 12) .nil))) (.own 6)) (.mkb .tuple (.cons (.var 12) .nil)) (.cst .non))))
        (.cons (.ret [] (.cst (.bl false))) .nil)
        .nil) .nil)) <|
    (.cons (.fo [] (.nm 7) (.seq (.lst (.cons (.cst (.int 0)) (.cons (.var 4) (.cons (.ix (.own 10) (.cst (.int 2))) (.cons (.ix (.own 10) (.cst (.int 3))) (.cons (.ite (.cmp .gt (.ev (.blt .len (.cons (.own 12) .nil))) (.ev (.cst (.int 0)))) (.ix (.own 12) (.cst (.int 0))) (.cst (.int 1))) (.cons (.bin .mod (.blt .int (.cons (.ev (.ix (.own 1) (.bin .add (.var 2) (.cst (.int 30))))) .nil)) (.bin .add (.var 4) (.cst (.int 1)))) .nil))))))))
      (.cons (.ite [] (.or_ (.cmp .ne (.ev (.call 13 (.cons (.var 3) (.cons (.var 10) (.cons (.var 7) .nil))))) (.ev (.cmp .in_ (.own 7) (.own 12)))) (.not_ (.isi (.call 13 (.cons (.var 3) (.cons (.var 10) (.cons (.var 7) .nil)))) .bool)))
        (.cons (.ret [] (.cst (.bl false))) .nil)
        .nil) .nil)) <|
    (.cons (.ite [] (.blt .any (.cons (.ev (.comp (.call 13 (.cons (.var 3) (.cons (.var 10) (.cons (.var 15) .nil)))) [15] (.nm 15) (.seq (.lst (.cons (.cst .non) (.cons (.cst (.bl true)) (.cons (.neg (.cst (.int 1))) (.cons (.bin .add (.var 4) (.cst (.int 1))) (.cons (.cst (.str "0")) .nil))))))) (.cst (.bl true)))) .nil))
      (.cons (.ret [] (.cst (.bl false))) .nil)
      .nil) <|
    (.cons (.set [] 8 false (.comp (.bin .mod (.blt .int (.cons (.ev (.ix (.own 1) (.bin .mod (.bin .add (.bin .add (.cst (.int 50)) (.var 2)) (.var 14)) (.cst (.int 200))))) .nil)) (.bin .add (.var 4) (.cst (.int 1)))) [14] (.nm 14) (.rng1 (.bin .add (.cst (.int 1)) (.bin .mod (.var 2) (.cst (.int 4))))) (.cst (.bl true)))) <|
    (.cons (.set [] 9 false (.call 16 (.cons (.var 3) (.cons (.mkb .tuple (.cons (.var 8) .nil)) .nil)))) <|
    (.cons (.ite [] (.or_ (.cmp .ne (.own 9) (.ev (.call 22 (.cons (.var 3) (.cons (.var 8) .nil))))) (.or_ (.cmp .ne (.ev (.call 14 (.cons (.var 3) (.cons (.var 9) .nil)))) (.own 9)) (.not_ (.blt .all (.cons (.ev (.comp (.call 13 (.cons (.var 3) (.cons (.var 9) (.cons (.var 7) .nil)))) [7] (.nm 7) (.seq (.var 8)) (.cst (.bl true)))) .nil)))))
      (.cons (.ret [] (.cst (.bl false))) .nil)
      .nil) .nil))))))))))))))) <|
  (.cons (.ite [] (.or_ (.cmp .ne (.ev (.call 14 (.cons (.cst (.int 16)) (.cons (.tup (.cons (.cst (.int 0)) (.cons (.cst (.int 1)) (.cons (.cst (.int 3)) (.cons (.cst (.int 9)) .nil))))) .nil)))) (.ev (.tup (.cons (.cst (.int 0)) (.cons (.cst (.int 65521)) (.cons (.cst (.int 4)) (.cons (.cst (.int 8)) .nil))))))) (.cmp .ne (.ev (.call 14 (.cons (.cst (.int 4)) (.cons (.tup (.cons (.cst (.int 8)) (.cons (.cst (.int 1)) (.cons (.cst (.int 0)) (.cons (.cst (.int 15)) .nil))))) .nil)))) (.ev (.tup (.cons (.cst (.int 8)) (.cons (.cst (.int 1)) (.cons (.cst (.int 8)) (.cons (.cst (.int 14)) .nil))))))))
    (.cons (.ret [] (.cst (.bl false))) .nil)
    .nil) <|
  (.cons (.ret [] (.and_ (.cmp .eq (.ev (.call 16 (.cons (.cst (.int 16)) (.cons (.tup (.cons (.cst (.int 65535)) .nil)) .nil)))) (.ev (.tup (.cons (.cst (.int 65535)) (.cons (.cst (.int 0)) (.cons (.cst (.int 65535)) (.cons (.cst (.int 65535)) .nil))))))) (.cmp .eq (.ev (.call 17 (.cons (.cst (.int 16)) (.cons (.tup (.cons (.cst (.int 0)) (.cons (.cst (.int 65534)) (.cons (.cst (.int 0)) (.cons (.cst (.int 65535)) .nil))))) (.cons (.cst (.int 2)) .nil))))) (.ev (.tup (.cons (.cst (.int 0)) (.cons (.cst (.int 1)) .nil))))))) .nil))))
def d24 : Def := { name := "law", st := top 46, N := ["script", "draws", "turn", "width", "whole", "both", "most", "value", "some", "told", "one", "two", "first", "second", "k", "wrong"], ar := 1, muts := [], body := b24 }
def csts : List (Str × D) := [("MOST_WIDE", (.int 16)), ("MOST_LISTED", (.int 4096))]
def excs : List Str := ["BadNumber", "BadWidth", "BadSpan"]
def sBadNumber : Str := "BadNumber"
def sBadWidth : Str := "BadWidth"
def sBadSpan : Str := "BadSpan"
def subs : List ((Str × Str) × Bool) := [((sBadNumber, sBadNumber), true), ((sBadNumber, sBadWidth), false), ((sBadNumber, sBadSpan), false), ((sBadWidth, sBadNumber), false), ((sBadWidth, sBadWidth), true), ((sBadWidth, sBadSpan), false), ((sBadSpan, sBadNumber), false), ((sBadSpan, sBadWidth), false), ((sBadSpan, sBadSpan), true)]
def txt : Txt := { defs := [d0, d1, d2, d3, d4, d5, d6, d7, d8, d9, d10, d11, d12, d13, d14, d15, d16, d17, d18, d19, d20, d21, d22, d23, d24], cst := csts, exc := excs, sub := subs }
theorem ok0 : DefOk txt d0 := ⟨by kernel_rfl, ⟨rfl, rfl, rfl, by decide +kernel, rfl, by decide +kernel, by decide +kernel⟩, by decide, by decide +kernel⟩
theorem bd0 : BindOk d0 := fun _ _ _ _ _ _ us hl => match us, hl with | [_, _, _], _ => rfl
theorem ok1 : DefOk txt d1 := ⟨by kernel_rfl, ⟨rfl, rfl, rfl, by decide +kernel, rfl, by decide +kernel, by decide +kernel⟩, by decide, by decide +kernel⟩
theorem bd1 : BindOk d1 := fun _ _ _ _ _ _ us hl => match us, hl with | [_], _ => rfl
theorem ok2 : DefOk txt d2 := ⟨by kernel_rfl, ⟨rfl, rfl, rfl, by decide +kernel, rfl, by decide +kernel, by decide +kernel⟩, by decide, by decide +kernel⟩
theorem bd2 : BindOk d2 := fun _ _ _ _ _ _ us hl => match us, hl with | [_, _], _ => rfl
theorem ok3 : DefOk txt d3 := ⟨by kernel_rfl, ⟨rfl, rfl, rfl, by decide +kernel, rfl, by decide +kernel, by decide +kernel⟩, by decide, by decide +kernel⟩
theorem bd3 : BindOk d3 := fun _ _ _ _ _ _ us hl => match us, hl with | [_, _, _, _], _ => rfl
theorem ok4 : DefOk txt d4 := ⟨by kernel_rfl, ⟨rfl, rfl, rfl, by decide +kernel, rfl, by decide +kernel, by decide +kernel⟩, by decide, by decide +kernel⟩
theorem bd4 : BindOk d4 := fun _ _ _ _ _ _ us hl => match us, hl with | [_, _, _, _], _ => rfl
theorem ok5 : DefOk txt d5 := ⟨by kernel_rfl, ⟨rfl, rfl, rfl, by decide +kernel, rfl, by decide +kernel, by decide +kernel⟩, by decide, by decide +kernel⟩
theorem bd5 : BindOk d5 := fun _ _ _ _ _ _ us hl => match us, hl with | [_, _, _], _ => rfl
theorem ok6 : DefOk txt d6 := ⟨by kernel_rfl, ⟨rfl, rfl, rfl, by decide +kernel, rfl, by decide +kernel, by decide +kernel⟩, by decide, by decide +kernel⟩
theorem bd6 : BindOk d6 := fun _ _ _ _ _ _ us hl => match us, hl with | [_, _], _ => rfl
theorem ok7 : DefOk txt d7 := ⟨by kernel_rfl, ⟨rfl, rfl, rfl, by decide +kernel, rfl, by decide +kernel, by decide +kernel⟩, by decide, by decide +kernel⟩
theorem bd7 : BindOk d7 := fun _ _ _ _ _ _ us hl => match us, hl with | [_, _, _], _ => rfl
theorem ok8 : DefOk txt d8 := ⟨by kernel_rfl, ⟨rfl, rfl, rfl, by decide +kernel, rfl, by decide +kernel, by decide +kernel⟩, by decide, by decide +kernel⟩
theorem bd8 : BindOk d8 := fun _ _ _ _ _ _ us hl => match us, hl with | [_, _], _ => rfl
theorem ok9 : DefOk txt d9 := ⟨by kernel_rfl, ⟨rfl, rfl, rfl, by decide +kernel, rfl, by decide +kernel, by decide +kernel⟩, by decide, by decide +kernel⟩
theorem bd9 : BindOk d9 := fun _ _ _ _ _ _ us hl => match us, hl with | [_, _, _], _ => rfl
theorem ok10 : DefOk txt d10 := ⟨by kernel_rfl, ⟨rfl, rfl, rfl, by decide +kernel, rfl, by decide +kernel, by decide +kernel⟩, by decide, by decide +kernel⟩
theorem bd10 : BindOk d10 := fun _ _ _ _ _ _ us hl => match us, hl with | [_], _ => rfl
theorem ok11 : DefOk txt d11 := ⟨by kernel_rfl, ⟨rfl, rfl, rfl, by decide +kernel, rfl, by decide +kernel, by decide +kernel⟩, by decide, by decide +kernel⟩
theorem bd11 : BindOk d11 := fun _ _ _ _ _ _ us hl => match us, hl with | [_, _], _ => rfl
theorem ok12 : DefOk txt d12 := ⟨by kernel_rfl, ⟨rfl, rfl, rfl, by decide +kernel, rfl, by decide +kernel, by decide +kernel⟩, by decide, by decide +kernel⟩
theorem bd12 : BindOk d12 := fun _ _ _ _ _ _ us hl => match us, hl with | [_, _], _ => rfl
theorem ok13 : DefOk txt d13 := ⟨by kernel_rfl, ⟨rfl, rfl, rfl, by decide +kernel, rfl, by decide +kernel, by decide +kernel⟩, by decide, by decide +kernel⟩
theorem bd13 : BindOk d13 := fun _ _ _ _ _ _ us hl => match us, hl with | [_, _, _], _ => rfl
theorem ok14 : DefOk txt d14 := ⟨by kernel_rfl, ⟨rfl, rfl, rfl, by decide +kernel, rfl, by decide +kernel, by decide +kernel⟩, by decide, by decide +kernel⟩
theorem bd14 : BindOk d14 := fun _ _ _ _ _ _ us hl => match us, hl with | [_, _], _ => rfl
theorem ok15 : DefOk txt d15 := ⟨by kernel_rfl, ⟨rfl, rfl, rfl, by decide +kernel, rfl, by decide +kernel, by decide +kernel⟩, by decide, by decide +kernel⟩
theorem bd15 : BindOk d15 := fun _ _ _ _ _ _ us hl => match us, hl with | [_, _, _], _ => rfl
theorem ok16 : DefOk txt d16 := ⟨by kernel_rfl, ⟨rfl, rfl, rfl, by decide +kernel, rfl, by decide +kernel, by decide +kernel⟩, by decide, by decide +kernel⟩
theorem bd16 : BindOk d16 := fun _ _ _ _ _ _ us hl => match us, hl with | [_, _], _ => rfl
theorem ok17 : DefOk txt d17 := ⟨by kernel_rfl, ⟨rfl, rfl, rfl, by decide +kernel, rfl, by decide +kernel, by decide +kernel⟩, by decide, by decide +kernel⟩
theorem bd17 : BindOk d17 := fun _ _ _ _ _ _ us hl => match us, hl with | [_, _, _], _ => rfl
theorem ok18 : DefOk txt d18 := ⟨by kernel_rfl, ⟨rfl, rfl, rfl, by decide +kernel, rfl, by decide +kernel, by decide +kernel⟩, by decide, by decide +kernel⟩
theorem bd18 : BindOk d18 := fun _ _ _ _ _ _ us hl => match us, hl with | [_, _], _ => rfl
theorem ok19 : DefOk txt d19 := ⟨by kernel_rfl, ⟨rfl, rfl, rfl, by decide +kernel, rfl, by decide +kernel, by decide +kernel⟩, by decide, by decide +kernel⟩
theorem bd19 : BindOk d19 := fun _ _ _ _ _ _ us hl => match us, hl with | [_, _], _ => rfl
theorem ok20 : DefOk txt d20 := ⟨by kernel_rfl, ⟨rfl, rfl, rfl, by decide +kernel, rfl, by decide +kernel, by decide +kernel⟩, by decide, by decide +kernel⟩
theorem bd20 : BindOk d20 := fun _ _ _ _ _ _ us hl => match us, hl with | [_], _ => rfl
theorem ok21 : DefOk txt d21 := ⟨by kernel_rfl, ⟨rfl, rfl, rfl, by decide +kernel, rfl, by decide +kernel, by decide +kernel⟩, by decide, by decide +kernel⟩
theorem bd21 : BindOk d21 := fun _ _ _ _ _ _ us hl => match us, hl with | [_, _], _ => rfl
theorem ok22 : DefOk txt d22 := ⟨by kernel_rfl, ⟨rfl, rfl, rfl, by decide +kernel, rfl, by decide +kernel, by decide +kernel⟩, by decide, by decide +kernel⟩
theorem bd22 : BindOk d22 := fun _ _ _ _ _ _ us hl => match us, hl with | [_, _], _ => rfl
theorem ok23 : DefOk txt d23 := ⟨by kernel_rfl, ⟨rfl, rfl, rfl, by decide +kernel, rfl, by decide +kernel, by decide +kernel⟩, by decide, by decide +kernel⟩
theorem bd23 : BindOk d23 := fun _ _ _ _ _ _ us hl => match us, hl with | [_, _, _, _], _ => rfl
theorem ok24 : DefOk txt d24 := ⟨by kernel_rfl, ⟨rfl, rfl, rfl, by decide +kernel, rfl, by decide +kernel, by decide +kernel⟩, by decide, by decide +kernel⟩
theorem bd24 : BindOk d24 := fun _ _ _ _ _ _ us hl => match us, hl with | [_], _ => rfl
theorem tok : TxtOk txt := ⟨fun i d h => Each.get (l := txt.defs) (p := DefOk txt) ⟨ok0, ok1, ok2, ok3, ok4, ok5, ok6, ok7, ok8, ok9, ok10, ok11, ok12, ok13, ok14, ok15, ok16, ok17, ok18, ok19, ok20, ok21, ok22, ok23, ok24, trivial⟩ h, fun i d h => Each.get (l := txt.defs) (p := fun d => (d.name == ("__debug__" : Str)) = false) ⟨by decide +kernel, by decide +kernel, by decide +kernel, by decide +kernel, by decide +kernel, by decide +kernel, by decide +kernel, by decide +kernel, by decide +kernel, by decide +kernel, by decide +kernel, by decide +kernel, by decide +kernel, by decide +kernel, by decide +kernel, by decide +kernel, by decide +kernel, by decide +kernel, by decide +kernel, by decide +kernel, by decide +kernel, by decide +kernel, by decide +kernel, by decide +kernel, by decide +kernel, trivial⟩ h⟩
theorem fit : TxtFit txt := ⟨⟨bd0, bd1, bd2, bd3, bd4, bd5, bd6, bd7, bd8, bd9, bd10, bd11, bd12, bd13, bd14, bd15, bd16, bd17, bd18, bd19, bd20, bd21, bd22, bd23, bd24, trivial⟩, by decide +kernel, by decide +kernel, by decide +kernel⟩
end Law
/-! The plain law of spans: bits. -/
namespace Law
def fits (o n x : Nat) : Prop := x &&& o = o ∧ x &&& n = 0
instance (o n x : Nat) : Decidable (fits o n x) := inferInstanceAs (Decidable (_ ∧ _))
theorem fit_iff {o n x : Nat} : fits o n x ↔ ∀ i, (o.testBit i = true → x.testBit i = true) ∧ (n.testBit i = true → x.testBit i = false) := by
  constructor
  · rintro ⟨h1, h2⟩ i
    refine ⟨fun h => ?_, fun h => ?_⟩
    · have := congrArg (fun z => z.testBit i) h1
      simp only [Nat.testBit_and] at this
      rw [h] at this
      simpa using this
    · have := congrArg (fun z => z.testBit i) h2
      simp only [Nat.testBit_and, Nat.zero_testBit] at this
      rw [h] at this
      simpa using this
  · intro h
    constructor
    · apply Nat.eq_of_testBit_eq
      intro i
      rw [Nat.testBit_and]
      cases q : o.testBit i with
      | false => simp
      | true => rw [(h i).1 q]; rfl
    · apply Nat.eq_of_testBit_eq
      intro i
      rw [Nat.testBit_and, Nat.zero_testBit]
      cases q : n.testBit i with
      | false => simp
      | true => rw [(h i).2 q]; rfl
theorem le_of_bits {a b : Nat} (h : ∀ i, a.testBit i = true → b.testBit i = true) : a ≤ b := by
  have : b &&& a = a := by
    apply Nat.eq_of_testBit_eq
    intro i
    rw [Nat.testBit_and]
    cases q : a.testBit i with
    | false => simp
    | true => rw [h i q]; rfl
  rw [← this]
  exact Nat.and_le_left
theorem top_diff : ∀ (x v : Nat), v < x → ∃ p, v / 2 ^ (p + 1) = x / 2 ^ (p + 1) ∧ v.testBit p = false ∧ x.testBit p = true := by
  intro x
  induction x using Nat.strongRecOn with
  | ind x ih =>
    intro v h
    by_cases e : v / 2 = x / 2
    · refine ⟨0, by simpa using e, ?_, ?_⟩
      · rw [Nat.testBit_zero]; simp; omega
      · rw [Nat.testBit_zero]; simp; omega
    · obtain ⟨p, h1, h2, h3⟩ := ih (x / 2) (by omega) (v / 2) (by omega)
      refine ⟨p + 1, ?_, ?_, ?_⟩
      · rw [Nat.pow_succ 2 (p + 1), Nat.mul_comm, ← Nat.div_div_eq_div_mul, ← Nat.div_div_eq_div_mul]; exact h1
      · rw [Nat.testBit_succ]; exact h2
      · rw [Nat.testBit_succ]; exact h3
theorem bit_div {v x p i : Nat} (h : v / 2 ^ (p + 1) = x / 2 ^ (p + 1)) (hi : p < i) : v.testBit i = x.testBit i := by
  have e : i = (i - (p + 1)) + (p + 1) := by omega
  rw [e, ← Nat.testBit_div_two_pow, ← Nat.testBit_div_two_pow, h]
theorem lt_of_bits {v m p : Nat} (h0 : v.testBit p = false) (h1 : m.testBit p = true) (h : ∀ j, p < j → m.testBit j = v.testBit j) : v < m := by
  rcases Nat.lt_trichotomy v m with q | q | q
  · exact q
  · subst q; rw [h0] at h1; cases h1
  · obtain ⟨r, d1, d2, d3⟩ := top_diff v m q
    rcases Nat.lt_trichotomy r p with z | z | z
    · rw [bit_div d1 z, h0] at h1; cases h1
    · subst z; rw [h1] at d2; cases d2
    · rw [h r z, d3] at d2; cases d2
theorem bit_lt {o w i : Nat} (h : o < 2 ^ w) (hi : o.testBit i = true) : i < w := by
  rcases Nat.lt_or_ge i w with q | q
  · exact q
  · rw [Nat.testBit_lt_two_pow (Nat.lt_of_lt_of_le h (Nat.pow_le_pow_right (by decide) q))] at hi; cases hi
def abv (v p : Nat) : Nat := v >>> (p + 1) <<< (p + 1)
theorem abv_bit {v p i : Nat} : (abv v p).testBit i = (decide (p < i) && v.testBit i) := by
  unfold abv
  rw [Nat.testBit_shiftLeft, Nat.testBit_shiftRight]
  by_cases h : p < i
  · rw [decide_eq_true (by omega : i ≥ p + 1), decide_eq_true h, show p + 1 + (i - (p + 1)) = i from by omega]
  · rw [decide_eq_false (by omega : ¬ i ≥ p + 1), decide_eq_false h]; rfl
def mk (o v p : Nat) : Nat := abv v p ||| 2 ^ p ||| (o &&& (2 ^ p - 1))
theorem mk_bit {o v p i : Nat} : (mk o v p).testBit i = if p < i then v.testBit i else if i = p then true else o.testBit i := by
  unfold mk
  rw [Nat.testBit_or, Nat.testBit_or, Nat.testBit_and, abv_bit, Nat.testBit_two_pow, Nat.testBit_two_pow_sub_one]
  by_cases h : p < i
  · rw [if_pos h, decide_eq_true h, decide_eq_false (by omega : ¬ p = i), decide_eq_false (by omega : ¬ i < p)]; simp
  · rw [if_neg h, decide_eq_false h]
    by_cases e : i = p
    · rw [if_pos e, decide_eq_true e.symm]; simp
    · rw [if_neg e, decide_eq_false (fun z => e z.symm), decide_eq_true (by omega : i < p)]; simp
def keep (w p : Nat) : Nat := 2 ^ w - 2 ^ (p + 1)
theorem keep_bit {w p i : Nat} (hp : p < w) : (keep w p).testBit i = (decide (i < w) && decide (p < i)) := by
  unfold keep
  have h1 : 2 ^ (p + 1) = (2 ^ (p + 1) - 1) + 1 := by have := Nat.pos_of_ne_zero (n := 2 ^ (p + 1)) (by simp); omega
  have h2 : 2 ^ (p + 1) ≤ 2 ^ w := Nat.pow_le_pow_right (by decide) (by omega)
  rw [h1, Nat.testBit_two_pow_sub_succ (by omega), Nat.testBit_two_pow_sub_one]
  by_cases h : p < i
  · rw [decide_eq_true h, decide_eq_false (by omega : ¬ i < p + 1)]; rfl
  · rw [decide_eq_false h, decide_eq_true (by omega : i < p + 1)]; rfl
/-- a place at which the value may be raised -/
def canAt (w o n v p : Nat) : Bool := ((abv v p &&& o &&& keep w p == o &&& keep w p) && (abv v p &&& n == 0)) && ((v &&& 2 ^ p == 0) && ((n &&& 2 ^ p == 0) && ((((2 ^ w - 1 - (o ||| n)) ||| o) &&& 2 ^ p) != 0)))
theorem and_bit {v p : Nat} : v &&& 2 ^ p = if v.testBit p = true then 2 ^ p else 0 := by
  apply Nat.eq_of_testBit_eq
  intro i
  rw [Nat.testBit_and, Nat.testBit_two_pow]
  by_cases e : p = i
  · subst e
    cases q : v.testBit p with
    | true => rw [if_pos rfl, Nat.testBit_two_pow]; simp
    | false => rw [if_neg (by simp)]; simp
  · rw [decide_eq_false e, Bool.and_false]
    split
    · rw [Nat.testBit_two_pow, decide_eq_false e]
    · simp
theorem and_bit0 {v p : Nat} : (v &&& 2 ^ p == 0) = !v.testBit p := by
  rw [and_bit]
  have := Nat.pos_of_ne_zero (n := 2 ^ p) (by simp)
  cases q : v.testBit p with
  | true => rw [if_pos rfl]; simp
  | false => rw [if_neg (by simp)]; rfl
theorem canAt_iff {w o n v p : Nat} (ho : o < 2 ^ w) (hn : n < 2 ^ w) (hp : p < w) : canAt w o n v p = true ↔ (∀ i, p < i → (o.testBit i = true → v.testBit i = true) ∧ (n.testBit i = true → v.testBit i = false)) ∧ v.testBit p = false ∧ n.testBit p = false := by
  unfold canAt
  simp only [Bool.and_eq_true, and_bit0, beq_iff_eq, Bool.not_eq_true', bne_iff_ne, ne_eq]
  have free : ¬ ((2 ^ w - 1 - (o ||| n) ||| o) &&& 2 ^ p = 0) ↔ (n.testBit p = false ∨ o.testBit p = true) := by
    have on : o ||| n < 2 ^ w := Nat.or_lt_two_pow ho hn
    have e : ((2 ^ w - 1 - (o ||| n) ||| o) &&& 2 ^ p = 0) ↔ (2 ^ w - 1 - (o ||| n) ||| o).testBit p = false := by
      have := and_bit0 (v := 2 ^ w - 1 - (o ||| n) ||| o) (p := p)
      rw [Bool.eq_iff_iff] at this
      simpa using this
    rw [e, Nat.testBit_or, show 2 ^ w - 1 - (o ||| n) = 2 ^ w - ((o ||| n) + 1) from by omega, Nat.testBit_two_pow_sub_succ on, Nat.testBit_or, decide_eq_true hp]
    cases o.testBit p <;> cases n.testBit p <;> simp
  rw [free]
  constructor
  · rintro ⟨⟨h1, h2⟩, h3, h4, _⟩
    refine ⟨fun i hi => ⟨fun q => ?_, fun q => ?_⟩, h3, h4⟩
    · have := congrArg (fun z => z.testBit i) h1
      simp only [Nat.testBit_and, abv_bit, keep_bit hp] at this
      rw [q, decide_eq_true hi, decide_eq_true (bit_lt ho q)] at this
      simpa using this
    · have := congrArg (fun z => z.testBit i) h2
      simp only [Nat.testBit_and, abv_bit, Nat.zero_testBit] at this
      rw [q, decide_eq_true hi] at this
      simpa using this
  · rintro ⟨h1, h2, h3⟩
    refine ⟨⟨?_, ?_⟩, h2, h3, .inl h3⟩
    · apply Nat.eq_of_testBit_eq
      intro i
      rw [Nat.testBit_and, Nat.testBit_and, Nat.testBit_and, abv_bit, keep_bit hp]
      by_cases hi : p < i
      · cases q : o.testBit i with
        | false => simp
        | true => rw [(h1 i hi).1 q]; simp [hi]
      · rw [decide_eq_false hi]; simp
    · apply Nat.eq_of_testBit_eq
      intro i
      rw [Nat.testBit_and, abv_bit, Nat.zero_testBit]
      by_cases hi : p < i
      · cases q : n.testBit i with
        | false => simp
        | true => rw [(h1 i hi).2 q]; simp
      · rw [decide_eq_false hi]; simp
def best (w o n v : Nat) : Nat → Option Nat
  | 0 => none
  | p + 1 => if canAt w o n v p = true then some (match best w o n v p with
    | none => mk o v p
    | some b => min b (mk o v p)) else best w o n v p
def next (w o n v : Nat) : Option Nat := if fits o n v then some v else best w o n v w
theorem best_some {w o n v : Nat} : ∀ {k a : Nat}, best w o n v k = some a → ∃ p, p < k ∧ canAt w o n v p = true ∧ a = mk o v p
  | 0, a, h => by cases h
  | k + 1, a, h => by
    simp only [best] at h
    split at h
    · rename_i c
      cases q : best w o n v k with
      | none => rw [q] at h; cases h; exact ⟨k, by omega, c, rfl⟩
      | some b =>
        rw [q] at h
        cases h
        show ∃ p, p < k + 1 ∧ canAt w o n v p = true ∧ min b (mk o v k) = mk o v p
        rcases Nat.le_total b (mk o v k) with l | l
        · rw [Nat.min_eq_left l]
          obtain ⟨p, h1, h2, h3⟩ := best_some q
          exact ⟨p, by omega, h2, h3⟩
        · rw [Nat.min_eq_right l]; exact ⟨k, by omega, c, rfl⟩
    · obtain ⟨p, h1, h2, h3⟩ := best_some h
      exact ⟨p, by omega, h2, h3⟩
theorem best_le {w o n v : Nat} : ∀ {k p : Nat}, p < k → canAt w o n v p = true → ∃ a, best w o n v k = some a ∧ a ≤ mk o v p
  | k + 1, p, hp, hc => by
    simp only [best]
    by_cases e : p = k
    · subst e
      rw [if_pos hc]
      cases best w o n v p with
      | none => exact ⟨_, rfl, Nat.le_refl _⟩
      | some b => exact ⟨_, rfl, Nat.min_le_right _ _⟩
    · obtain ⟨a, h1, h2⟩ := best_le (k := k) (p := p) (by omega) hc
      rw [h1]
      split
      · exact ⟨_, rfl, Nat.le_trans (Nat.min_le_left _ _) h2⟩
      · exact ⟨a, rfl, h2⟩
/-- the least that a test takes -/
def Least (P : Nat → Prop) : Option Nat → Prop
  | none => ∀ x, ¬ P x
  | some a => P a ∧ ∀ x, P x → a ≤ x
theorem next_ok {w o n v : Nat} (ho : o < 2 ^ w) (hn : n < 2 ^ w) (hv : v < 2 ^ w) (hc : o &&& n = 0) : Least (fun x => v ≤ x ∧ x < 2 ^ w ∧ fits o n x) (next w o n v) := by
  have noc : ∀ i, o.testBit i = true → n.testBit i = false := fun i q => by
    have := congrArg (fun z => z.testBit i) hc
    simp only [Nat.testBit_and, Nat.zero_testBit] at this
    rw [q] at this
    simpa using this
  unfold next
  by_cases hf : fits o n v
  · rw [if_pos hf]
    exact ⟨⟨Nat.le_refl _, hv, hf⟩, fun x h => h.1⟩
  · rw [if_neg hf]
    have up : ∀ x, v ≤ x ∧ x < 2 ^ w ∧ fits o n x → ∃ p, p < w ∧ canAt w o n v p = true ∧ mk o v p ≤ x := fun x ⟨h1, h2, h3⟩ => by
      have ne : v ≠ x := fun e => hf (e ▸ h3)
      obtain ⟨p, d1, d2, d3⟩ := top_diff x v (by omega)
      have f := fit_iff.mp h3
      have hp := bit_lt h2 d3
      refine ⟨p, hp, (canAt_iff ho hn hp).mpr ⟨fun i hi => ⟨fun q => ?_, fun q => ?_⟩, d2, ?_⟩, le_of_bits fun i q => ?_⟩
      · rw [bit_div d1 hi]; exact (f i).1 q
      · rw [bit_div d1 hi]; exact (f i).2 q
      · cases q : n.testBit p with
        | false => rfl
        | true => rw [(f p).2 q] at d3; cases d3
      · rw [mk_bit] at q
        split at q
        · rename_i hi; rw [← bit_div d1 hi]; exact q
        · split at q
          · rename_i e; rw [e]; exact d3
          · exact (f i).1 q
    have down : ∀ p, p < w → canAt w o n v p = true → v ≤ mk o v p ∧ mk o v p < 2 ^ w ∧ fits o n (mk o v p) := fun p hp hcan => by
      obtain ⟨c1, c2, c3⟩ := (canAt_iff ho hn hp).mp hcan
      refine ⟨Nat.le_of_lt (lt_of_bits (p := p) c2 (by rw [mk_bit, if_neg (by omega), if_pos rfl]) fun j hj => by rw [mk_bit, if_pos hj]), Nat.lt_pow_two_of_testBit _ fun i hi => ?_, fit_iff.mpr fun i => ⟨fun q => ?_, fun q => ?_⟩⟩
      · rw [mk_bit, if_pos (by omega)]
        exact Nat.testBit_lt_two_pow (Nat.lt_of_lt_of_le hv (Nat.pow_le_pow_right (by decide) hi))
      · rw [mk_bit]
        split
        · rename_i hi; exact (c1 i hi).1 q
        · split
          · rfl
          · exact q
      · rw [mk_bit]
        split
        · rename_i hi; exact (c1 i hi).2 q
        · split
          · rename_i e; rw [e, c3] at q; cases q
          · cases z : o.testBit i with
            | false => rfl
            | true => rw [noc i z] at q; cases q
    cases q : best w o n v w with
    | none =>
      intro x hx
      obtain ⟨p, h1, h2, _⟩ := up x hx
      obtain ⟨a, h3, _⟩ := best_le h1 h2
      rw [q] at h3
      cases h3
    | some a =>
      obtain ⟨p, h1, h2, rfl⟩ := best_some q
      refine ⟨down p h1 h2, fun x hx => ?_⟩
      obtain ⟨p', k1, k2, k3⟩ := up x hx
      obtain ⟨a', h3, h4⟩ := best_le k1 k2
      rw [q] at h3
      cases h3
      exact Nat.le_trans h4 k3
end Law
namespace Law
theorem compl_bit {w x i : Nat} (hx : x < 2 ^ w) : (2 ^ w - 1 - x).testBit i = (decide (i < w) && !x.testBit i) := by
  rw [show 2 ^ w - 1 - x = 2 ^ w - (x + 1) from by omega, Nat.testBit_two_pow_sub_succ hx]
theorem fit_compl {w o n x : Nat} (ho : o < 2 ^ w) (hn : n < 2 ^ w) (hx : x < 2 ^ w) : fits n o (2 ^ w - 1 - x) ↔ fits o n x := by
  rw [fit_iff, fit_iff]
  constructor
  · intro h i
    have := h i
    rw [compl_bit hx] at this
    refine ⟨fun q => ?_, fun q => ?_⟩
    · have z := this.2 q
      rw [decide_eq_true (bit_lt ho q)] at z
      simpa using z
    · have z := this.1 q
      rw [decide_eq_true (bit_lt hn q)] at z
      simpa using z
  · intro h i
    rw [compl_bit hx]
    refine ⟨fun q => ?_, fun q => ?_⟩
    · rw [(h i).2 q, decide_eq_true (bit_lt hn q)]; rfl
    · rw [(h i).1 q]; simp
def last (w o n v : Nat) : Option Nat := (next w n o (2 ^ w - 1 - v)).map fun z => 2 ^ w - 1 - z
def Greatest (P : Nat → Prop) : Option Nat → Prop
  | none => ∀ x, ¬ P x
  | some a => P a ∧ ∀ x, P x → x ≤ a
theorem last_ok {w o n v : Nat} (ho : o < 2 ^ w) (hn : n < 2 ^ w) (hv : v < 2 ^ w) (hc : o &&& n = 0) : Greatest (fun x => x ≤ v ∧ fits o n x) (last w o n v) := by
  have p0 : 0 < 2 ^ w := Nat.pos_of_ne_zero (by simp)
  have h := next_ok (w := w) (o := n) (n := o) (v := 2 ^ w - 1 - v) hn ho (by omega) (by rw [Nat.and_comm]; exact hc)
  unfold last
  cases q : next w n o (2 ^ w - 1 - v) with
  | none =>
    rw [q] at h
    intro x ⟨h1, h2⟩
    exact h (2 ^ w - 1 - x) ⟨by omega, by omega, (fit_compl ho hn (by omega)).mpr h2⟩
  | some a =>
    rw [q] at h
    obtain ⟨⟨h1, h2, h3⟩, h4⟩ := h
    have e : 2 ^ w - 1 - (2 ^ w - 1 - a) = a := by omega
    refine ⟨⟨by show 2 ^ w - 1 - a ≤ v; omega, (fit_compl ho hn (show 2 ^ w - 1 - a < 2 ^ w by omega)).mp (by rw [e]; exact h3)⟩, fun x ⟨k1, k2⟩ => ?_⟩
    have := h4 (2 ^ w - 1 - x) ⟨by omega, by omega, (fit_compl ho hn (by omega)).mpr k2⟩
    have kv : x ≤ v := k1
    show x ≤ 2 ^ w - 1 - a
    omega
/-- how many low places are unlike -/
def szGo (w l h : Nat) : Nat → Nat → Nat
  | 0, s => s
  | f + 1, s => if s < w ∧ (l ^^^ h) >>> s > 0 then szGo w l h f (s + 1) else s
def sz (w l h : Nat) : Nat := szGo w l h (w + 1) 0
theorem sz_go {w l h : Nat} (hl : l < 2 ^ w) (hh : h < 2 ^ w) : ∀ (f s : Nat), w < s + f → (s = 0 ∨ (s ≤ w ∧ (l ^^^ h) >>> (s - 1) > 0)) → (l ^^^ h) >>> szGo w l h f s = 0 ∧ (szGo w l h f s = 0 ∨ (szGo w l h f s ≤ w ∧ (l ^^^ h) >>> (szGo w l h f s - 1) > 0))
  | 0, s, hf, hs => by
    rcases hs with hs | ⟨hs, _⟩ <;> omega
  | f + 1, s, hf, hs => by
    rw [szGo]
    by_cases c : s < w ∧ (l ^^^ h) >>> s > 0
    · rw [if_pos c]
      exact sz_go hl hh f (s + 1) (by omega) (.inr ⟨by omega, by rw [Nat.add_sub_cancel]; exact c.2⟩)
    · rw [if_neg c]
      refine ⟨?_, hs⟩
      by_cases c2 : s < w
      · exact Nat.eq_zero_of_not_pos fun z => c ⟨c2, z⟩
      · rw [Nat.shiftRight_eq_div_pow]
        apply Nat.div_eq_of_lt
        exact Nat.lt_of_lt_of_le (Nat.xor_lt_two_pow hl hh) (Nat.pow_le_pow_right (by decide) (by omega))
theorem sz_ok {w l h : Nat} (hl : l < 2 ^ w) (hh : h < 2 ^ w) (lh : l ≤ h) : sz w l h ≤ w ∧ (∀ i, sz w l h ≤ i → l.testBit i = h.testBit i) ∧ (sz w l h = 0 ∨ (0 < sz w l h ∧ l.testBit (sz w l h - 1) = false ∧ h.testBit (sz w l h - 1) = true)) := by
  obtain ⟨h1, h2⟩ := sz_go hl hh (w + 1) 0 (by omega) (.inl rfl)
  have h1 : (l ^^^ h) >>> sz w l h = 0 := h1
  have h2 : sz w l h = 0 ∨ (sz w l h ≤ w ∧ (l ^^^ h) >>> (sz w l h - 1) > 0) := h2
  have above : ∀ i, sz w l h ≤ i → l.testBit i = h.testBit i := fun i hi => by
    have z : (l ^^^ h).testBit i = false := by
      have := congrArg (fun y => y.testBit (i - sz w l h)) h1
      simp only [Nat.testBit_shiftRight, Nat.zero_testBit] at this
      rw [show sz w l h + (i - sz w l h) = i from by omega] at this
      exact this
    rw [Nat.testBit_xor] at z
    cases p : l.testBit i <;> cases q : h.testBit i <;> rw [p, q] at z <;> first | rfl | cases z
  refine ⟨by rcases h2 with h2 | h2 <;> omega, above, ?_⟩
  rcases h2 with h2 | ⟨h2, h3⟩
  · exact .inl h2
  · by_cases z0 : sz w l h = 0
    · exact .inl z0
    · refine .inr ⟨by omega, ?_⟩
      generalize hs : sz w l h = s at *
      have d : (l ^^^ h).testBit (s - 1) = true := by
        have e : (l ^^^ h) >>> (s - 1) / 2 = 0 := by
          rw [Nat.shiftRight_eq_div_pow, Nat.div_div_eq_div_mul, ← Nat.pow_succ, show (s - 1).succ = s from by omega, ← Nat.shiftRight_eq_div_pow]
          exact h1
        have e1 : (l ^^^ h) >>> (s - 1) = 1 := by omega
        have := congrArg (fun y => y.testBit 0) e1
        simp only [Nat.testBit_shiftRight, Nat.add_zero] at this
        rw [this]; rfl
      rw [Nat.testBit_xor] at d
      cases p : l.testBit (s - 1) with
      | true =>
        have q : h.testBit (s - 1) = false := by rw [p] at d; simpa using d
        have := lt_of_bits (v := h) (m := l) (p := s - 1) q p fun j hj => above j (by omega)
        omega
      | false => exact ⟨rfl, by rw [p] at d; simpa using d⟩
/-- a number of its bits -/
def ofB : List Bool → Nat
  | [] => 0
  | b :: r => (if b then 1 else 0) + 2 * ofB r
theorem ofB_bit : ∀ (l : List Bool) (i : Nat), (ofB l).testBit i = l.getD i false
  | [], i => by simp [ofB]
  | b :: r, 0 => by
    rw [ofB, Nat.testBit_zero]
    cases b <;> simp <;> omega
  | b :: r, i + 1 => by
    rw [ofB, Nat.testBit_succ]
    have : ((if b = true then 1 else 0) + 2 * ofB r) / 2 = ofB r := by cases b <;> simp <;> omega
    rw [this, ofB_bit r i]
    simp
def num (w : Nat) (f : Nat → Bool) : Nat := ofB ((List.range w).map f)
theorem num_bit (w : Nat) (f : Nat → Bool) (i : Nat) : (num w f).testBit i = (decide (i < w) && f i) := by
  unfold num
  rw [ofB_bit, List.getD_eq_getElem?_getD, List.getElem?_map]
  by_cases h : i < w
  · rw [List.getElem?_range h, decide_eq_true h]; rfl
  · rw [List.getElem?_eq_none (by rw [List.length_range]; omega), decide_eq_false h]; rfl
/-- a span: ones, noughts, least, greatest -/
structure Span where
  o : Nat
  n : Nat
  lo : Nat
  hi : Nat
structure Span.Ok (w : Nat) (s : Span) : Prop where
  o : s.o < 2 ^ w
  n : s.n < 2 ^ w
  lo : s.lo < 2 ^ w
  hi : s.hi < 2 ^ w
def Span.has (s : Span) (x : Nat) : Bool := decide (fits s.o s.n x) && (decide (s.lo ≤ x) && decide (x ≤ s.hi))
def tightN (w : Nat) (s : Span) : Option Span := if s.o &&& s.n > 0 then none else match next w s.o s.n s.lo, last w s.o s.n s.hi with
  | some l, some h => if l > h then none else some ⟨s.o ||| (l &&& (2 ^ w - 2 ^ sz w l h)), s.n ||| ((2 ^ w - 1 - l) &&& (2 ^ w - 2 ^ sz w l h)), l, h⟩
  | _, _ => none
/-- the values within -/
def within (w : Nat) (s : Span) : List Nat := (List.range (2 ^ w)).filter s.has
def hullN (w : Nat) (xs : List Nat) (l h : Nat) : Span := ⟨num w fun k => xs.all fun x => x.testBit k, num w fun k => xs.all fun x => !x.testBit k, l, h⟩
theorem mem_within {w : Nat} {s : Span} {x : Nat} : x ∈ within w s ↔ x < 2 ^ w ∧ s.has x = true := by
  unfold within
  rw [List.mem_filter, List.mem_range]
theorem has_iff {s : Span} {x : Nat} : s.has x = true ↔ fits s.o s.n x ∧ s.lo ≤ x ∧ x ≤ s.hi := by
  unfold Span.has
  simp only [Bool.and_eq_true, decide_eq_true_eq]
/-- how the least and the greatest are -/
def Ends (xs : List Nat) (l h : Nat) : Prop := l ∈ xs ∧ h ∈ xs ∧ ∀ x ∈ xs, l ≤ x ∧ x ≤ h
theorem low_fill {o n l h p : Nat} (noc : ∀ i, o.testBit i = true → n.testBit i = false) (fl : fits o n l) (fh : fits o n h) (a : ∀ j, p < j → l.testBit j = h.testBit j) (b : l.testBit p = false) (c : h.testBit p = true) : fits o n (mk o l p) ∧ l ≤ mk o l p ∧ mk o l p ≤ h := by
  have fl := fit_iff.mp fl
  have fh := fit_iff.mp fh
  refine ⟨fit_iff.mpr fun i => ⟨fun q => ?_, fun q => ?_⟩, Nat.le_of_lt (lt_of_bits (p := p) b (by rw [mk_bit, if_neg (by omega), if_pos rfl]) fun j hj => by rw [mk_bit, if_pos hj]), le_of_bits fun i q => ?_⟩
  · rw [mk_bit]
    split
    · exact (fl i).1 q
    · split
      · rfl
      · exact q
  · rw [mk_bit]
    split
    · exact (fl i).2 q
    · split
      · rename_i e; rw [e] at q; rw [(fh p).2 q] at c; cases c
      · cases z : o.testBit i with
        | false => rfl
        | true => rw [noc i z] at q; cases q
  · rw [mk_bit] at q
    split at q
    · rename_i hi; rw [← a i hi]; exact q
    · split at q
      · rename_i e; rw [e]; exact c
      · exact (fh i).1 q
theorem tight_ok {w : Nat} {s : Span} (ok : s.Ok w) : match tightN w s with
    | none => within w s = []
    | some t => Ends (within w s) t.lo t.hi ∧ t = hullN w (within w s) t.lo t.hi := by
  unfold tightN
  by_cases c : s.o &&& s.n > 0
  · rw [if_pos c]
    show within w s = []
    apply List.eq_nil_iff_forall_not_mem.mpr
    intro x hx
    obtain ⟨_, h⟩ := mem_within.mp hx
    obtain ⟨f, _, _⟩ := has_iff.mp h
    have f := fit_iff.mp f
    have : s.o &&& s.n = 0 := by
      apply Nat.eq_of_testBit_eq
      intro i
      rw [Nat.testBit_and, Nat.zero_testBit]
      cases q : s.o.testBit i with
      | false => rfl
      | true =>
        cases r : s.n.testBit i with
        | false => rfl
        | true => have := (fit_iff.mp (has_iff.mp h).1 i).2 r; rw [(fit_iff.mp (has_iff.mp h).1 i).1 q] at this; cases this
    omega
  · rw [if_neg c]
    have hc : s.o &&& s.n = 0 := by omega
    have hl := next_ok ok.o ok.n ok.lo hc
    have hh := last_ok ok.o ok.n ok.hi hc
    have noc : ∀ i, s.o.testBit i = true → s.n.testBit i = false := fun i q => by
      have := congrArg (fun z => z.testBit i) hc
      simp only [Nat.testBit_and, Nat.zero_testBit] at this
      rw [q] at this
      simpa using this
    have no : ∀ {P : Prop}, (∀ x, x ∈ within w s → False) → within w s = [] := fun h => List.eq_nil_iff_forall_not_mem.mpr fun x hx => h x hx
    cases ql : next w s.o s.n s.lo with
    | none =>
      rw [ql] at hl
      show within w s = []
      refine no (P := True) fun x hx => ?_
      obtain ⟨h1, h2⟩ := mem_within.mp hx
      obtain ⟨f, f2, _⟩ := has_iff.mp h2
      exact hl x ⟨f2, h1, f⟩
    | some l =>
      cases qh : last w s.o s.n s.hi with
      | none =>
        rw [qh] at hh
        show within w s = []
        refine no (P := True) fun x hx => ?_
        obtain ⟨h1, h2⟩ := mem_within.mp hx
        obtain ⟨f, _, f3⟩ := has_iff.mp h2
        exact hh x ⟨f3, f⟩
      | some h =>
        rw [ql] at hl
        rw [qh] at hh
        obtain ⟨⟨l1, l2, l3⟩, l4⟩ := hl
        obtain ⟨⟨h1, h3⟩, h4⟩ := hh
        have h2 : h < 2 ^ w := Nat.lt_of_le_of_lt h1 ok.hi
        show (match (if l > h then none else some (⟨s.o ||| (l &&& (2 ^ w - 2 ^ sz w l h)), s.n ||| ((2 ^ w - 1 - l) &&& (2 ^ w - 2 ^ sz w l h)), l, h⟩ : Span)) with
          | none => within w s = []
          | some t => Ends (within w s) t.lo t.hi ∧ t = hullN w (within w s) t.lo t.hi)
        by_cases lh : l > h
        · rw [if_pos lh]
          show within w s = []
          refine no (P := True) fun x hx => ?_
          obtain ⟨x1, x2⟩ := mem_within.mp hx
          obtain ⟨f, f2, f3⟩ := has_iff.mp x2
          have := l4 x ⟨f2, x1, f⟩
          have := h4 x ⟨f3, f⟩
          omega
        · rw [if_neg lh]
          have lh : l ≤ h := by omega
          obtain ⟨z0, z1, z2⟩ := sz_ok l2 h2 lh
          have inS : ∀ x, l ≤ x → x ≤ h → fits s.o s.n x → x ∈ within w s := fun x a b f => mem_within.mpr ⟨by omega, has_iff.mpr ⟨f, by omega, by omega⟩⟩
          have outS : ∀ x, x ∈ within w s → l ≤ x ∧ x ≤ h ∧ fits s.o s.n x := fun x hx => by
            obtain ⟨x1, x2⟩ := mem_within.mp hx
            obtain ⟨f, f2, f3⟩ := has_iff.mp x2
            exact ⟨l4 x ⟨f2, x1, f⟩, h4 x ⟨f3, f⟩, f⟩
          have fl := fit_iff.mp l3
          have fh := fit_iff.mp h3
          have same : ∀ x, x ∈ within w s → ∀ i, sz w l h ≤ i → x.testBit i = l.testBit i := fun x hx i hi => by
            obtain ⟨x1, x2, _⟩ := outS x hx
            have e : l / 2 ^ sz w l h = h / 2 ^ sz w l h := by
              apply Nat.eq_of_testBit_eq
              intro j
              rw [Nat.testBit_div_two_pow, Nat.testBit_div_two_pow]
              exact z1 _ (by omega)
            have a := Nat.div_le_div_right (c := 2 ^ sz w l h) x1
            have b := Nat.div_le_div_right (c := 2 ^ sz w l h) x2
            have e2 : x / 2 ^ sz w l h = l / 2 ^ sz w l h := by omega
            have := congrArg (fun y => y.testBit (i - sz w l h)) e2
            simp only [Nat.testBit_div_two_pow] at this
            rw [show i - sz w l h + sz w l h = i from by omega] at this
            exact this
          have ahead : ∀ i, (2 ^ w - 2 ^ sz w l h).testBit i = (decide (i < w) && decide (sz w l h ≤ i)) := fun i => by
            have p1 : 2 ^ sz w l h = (2 ^ sz w l h - 1) + 1 := by have := Nat.pos_of_ne_zero (n := 2 ^ sz w l h) (by simp); omega
            have p2 : 2 ^ sz w l h ≤ 2 ^ w := Nat.pow_le_pow_right (by decide) z0
            rw [p1, Nat.testBit_two_pow_sub_succ (by omega), Nat.testBit_two_pow_sub_one]
            by_cases q : sz w l h ≤ i
            · rw [decide_eq_true q, decide_eq_false (by omega : ¬ i < sz w l h)]; rfl
            · rw [decide_eq_false q, decide_eq_true (by omega : i < sz w l h)]; rfl
          refine ⟨⟨inS l (Nat.le_refl _) lh l3, inS h lh (Nat.le_refl _) h3, fun x hx => ⟨(outS x hx).1, (outS x hx).2.1⟩⟩, ?_⟩
          show (⟨_, _, l, h⟩ : Span) = ⟨_, _, l, h⟩
          have lS := inS l (Nat.le_refl _) lh l3
          have hS := inS h lh (Nat.le_refl _) h3
          congr 1
          · apply Nat.eq_of_testBit_eq
            intro i
            rw [num_bit, Nat.testBit_or, Nat.testBit_and, ahead, Bool.eq_iff_iff]
            simp only [Bool.or_eq_true, Bool.and_eq_true, decide_eq_true_eq, List.all_eq_true]
            constructor
            · rintro (q | ⟨q, r, t⟩)
              · exact ⟨bit_lt ok.o q, fun x hx => (fit_iff.mp (outS x hx).2.2 i).1 q⟩
              · exact ⟨r, fun x hx => by rw [same x hx i t]; exact q⟩
            · rintro ⟨r, q⟩
              by_cases t : sz w l h ≤ i
              · exact .inr ⟨q l lS, r, t⟩
              · left
                rcases z2 with z2 | ⟨z2, z3, z4⟩
                · omega
                · obtain ⟨p, hp⟩ : ∃ p, sz w l h = p + 1 := ⟨sz w l h - 1, by omega⟩
                  rw [hp, Nat.add_sub_cancel] at z3 z4
                  by_cases e : i = p
                  · have := q l lS; rw [e, z3] at this; cases this
                  · obtain ⟨f1, f2, f3⟩ := low_fill (p := p) noc l3 h3 (fun j hj => z1 j (by omega)) z3 z4
                    have := q _ (inS _ f2 f3 f1)
                    rw [mk_bit, if_neg (by omega), if_neg e] at this
                    exact this
          · apply Nat.eq_of_testBit_eq
            intro i
            rw [num_bit, Nat.testBit_or, Nat.testBit_and, ahead, compl_bit l2, Bool.eq_iff_iff]
            simp only [Bool.or_eq_true, Bool.and_eq_true, decide_eq_true_eq, List.all_eq_true, Bool.not_eq_true']
            constructor
            · rintro (q | ⟨⟨_, q⟩, r, t⟩)
              · exact ⟨bit_lt ok.n q, fun x hx => (fit_iff.mp (outS x hx).2.2 i).2 q⟩
              · exact ⟨r, fun x hx => by rw [same x hx i t]; exact q⟩
            · rintro ⟨r, q⟩
              by_cases t : sz w l h ≤ i
              · exact .inr ⟨⟨r, q l lS⟩, r, t⟩
              · left
                rcases z2 with z2 | ⟨z2, z3, z4⟩
                · omega
                · obtain ⟨p, hp⟩ : ∃ p, sz w l h = p + 1 := ⟨sz w l h - 1, by omega⟩
                  rw [hp, Nat.add_sub_cancel] at z3 z4
                  by_cases e : i = p
                  · have := q h hS; rw [e, z4] at this; cases this
                  · have pw : p < w := by omega
                    have noc' : ∀ i, s.n.testBit i = true → s.o.testBit i = false := fun i q => by
                      cases z : s.o.testBit i with
                      | false => rfl
                      | true => rw [noc i z] at q; cases q
                    obtain ⟨f1, f2, f3⟩ := low_fill (o := s.n) (n := s.o) (l := 2 ^ w - 1 - h) (h := 2 ^ w - 1 - l) (p := p) noc' ((fit_compl ok.o ok.n h2).mpr h3) ((fit_compl ok.o ok.n l2).mpr l3) (fun j hj => by rw [compl_bit h2, compl_bit l2, z1 j (by omega)]) (by rw [compl_bit h2, z4]; simp) (by rw [compl_bit l2, z3, decide_eq_true pw]; rfl)
                    obtain ⟨m, hm⟩ : ∃ m, mk s.n (2 ^ w - 1 - h) p = m := ⟨_, rfl⟩
                    rw [hm] at f1 f2 f3
                    have mlt : m < 2 ^ w := by omega
                    have e1 : 2 ^ w - 1 - (2 ^ w - 1 - m) = m := by omega
                    have := q (2 ^ w - 1 - m) (inS _ (by omega) (by omega) ((fit_compl ok.o ok.n (by omega)).mp (by rw [e1]; exact f1)))
                    rw [compl_bit mlt, decide_eq_true r, ← hm, mk_bit, if_neg (by omega), if_neg e] at this
                    simpa using this
end Law
namespace Law
def meetS (s t : Span) : Span := ⟨s.o ||| t.o, s.n ||| t.n, max s.lo t.lo, min s.hi t.hi⟩
theorem fit_or {o n o' n' x : Nat} : fits (o ||| o') (n ||| n') x ↔ fits o n x ∧ fits o' n' x := by
  simp only [fit_iff, Nat.testBit_or, Bool.or_eq_true]
  constructor
  · intro h
    exact ⟨fun i => ⟨fun q => (h i).1 (.inl q), fun q => (h i).2 (.inl q)⟩, fun i => ⟨fun q => (h i).1 (.inr q), fun q => (h i).2 (.inr q)⟩⟩
  · rintro ⟨h1, h2⟩ i
    exact ⟨fun q => q.elim (h1 i).1 (h2 i).1, fun q => q.elim (h1 i).2 (h2 i).2⟩
theorem has_meet {s t : Span} {x : Nat} : (meetS s t).has x = (s.has x && t.has x) := by
  rw [Bool.eq_iff_iff, Bool.and_eq_true, has_iff, has_iff, has_iff]
  show fits (s.o ||| t.o) (s.n ||| t.n) x ∧ max s.lo t.lo ≤ x ∧ x ≤ min s.hi t.hi ↔ _
  rw [fit_or, Nat.max_le, Nat.le_min]
  constructor
  · rintro ⟨⟨a, b⟩, ⟨c, d⟩, e, f⟩; exact ⟨⟨a, c, e⟩, b, d, f⟩
  · rintro ⟨⟨a, c, e⟩, b, d, f⟩; exact ⟨⟨a, b⟩, ⟨c, d⟩, e, f⟩
theorem meet_ok {w : Nat} {s t : Span} (hs : s.Ok w) (ht : t.Ok w) : (meetS s t).Ok w := ⟨Nat.or_lt_two_pow hs.o ht.o, Nat.or_lt_two_pow hs.n ht.n, Nat.max_lt.mpr ⟨hs.lo, ht.lo⟩, Nat.lt_of_le_of_lt (Nat.min_le_left _ _) hs.hi⟩
/-- the values of both -/
theorem within_meet {w : Nat} {s t : Span} : within w (meetS s t) = (within w s).filter fun x => (within w t).contains x := by
  unfold within
  rw [List.filter_filter]
  apply List.filter_congr
  intro x hx
  rw [has_meet, Bool.and_comm]
  congr 1
  rw [Bool.eq_iff_iff, List.contains_iff_mem, List.mem_filter]
  exact ⟨fun h => ⟨hx, h⟩, fun h => h.2⟩
theorem meet_self {s : Span} : meetS s s = s := by
  cases s
  unfold meetS
  simp
/-- what fits a hull of some -/
theorem hull_fit {w : Nat} {xs : List Nat} {l h x : Nat} (hx : x ∈ xs) (lt : x < 2 ^ w) : fits (hullN w xs l h).o (hullN w xs l h).n x := by
  rw [fit_iff]
  intro i
  show ((num w _).testBit i = true → _) ∧ ((num w _).testBit i = true → _)
  rw [num_bit, num_bit]
  simp only [Bool.and_eq_true, decide_eq_true_eq, List.all_eq_true, Bool.not_eq_true']
  exact ⟨fun q => q.2 x hx, fun q => q.2 x hx⟩
theorem num_lt (w : Nat) (f : Nat → Bool) : num w f < 2 ^ w := Nat.lt_pow_two_of_testBit _ fun i hi => by
  rw [num_bit, decide_eq_false (by omega)]; rfl
theorem hull_ok {w : Nat} {xs : List Nat} {l h : Nat} (hl : l < 2 ^ w) (hh : h < 2 ^ w) : (hullN w xs l h).Ok w := ⟨num_lt _ _, num_lt _ _, hl, hh⟩
/-- a tight span holds the same values -/
theorem within_tight {w : Nat} {s t : Span} (ok : s.Ok w) (ht : tightN w s = some t) : t.Ok w ∧ within w t = within w s ∧ Ends (within w s) t.lo t.hi := by
  have h := tight_ok ok
  rw [ht] at h
  obtain ⟨e, h⟩ := h
  have ltS : ∀ x, x ∈ within w s → x < 2 ^ w := fun x hx => (mem_within.mp hx).1
  have tok : t.Ok w := by rw [h]; exact hull_ok (ltS _ e.1) (ltS _ e.2.1)
  refine ⟨tok, ?_, e⟩
  unfold within
  apply List.filter_congr
  intro x hx
  have hx := List.mem_range.mp hx
  rw [Bool.eq_iff_iff]
  constructor
  · intro q
    obtain ⟨f, a, b⟩ := has_iff.mp q
    have f := fit_iff.mp f
    have all : ∀ y, y ∈ within w s → fits s.o s.n y ∧ s.lo ≤ y ∧ y ≤ s.hi := fun y hy => has_iff.mp (mem_within.mp hy).2
    refine has_iff.mpr ⟨fit_iff.mpr fun i => ⟨fun z => (f i).1 ?_, fun z => (f i).2 ?_⟩, Nat.le_trans (all _ e.1).2.1 a, Nat.le_trans b (all _ e.2.1).2.2⟩
    · rw [h]
      show (num w _).testBit i = true
      rw [num_bit, decide_eq_true (bit_lt ok.o z), Bool.true_and, List.all_eq_true]
      exact fun y hy => (fit_iff.mp (all y hy).1 i).1 z
    · rw [h]
      show (num w _).testBit i = true
      rw [num_bit, decide_eq_true (bit_lt ok.n z), Bool.true_and, List.all_eq_true]
      intro y hy
      rw [(fit_iff.mp (all y hy).1 i).2 z]
      rfl
  · intro q
    have m : x ∈ within w s := mem_within.mpr ⟨hx, q⟩
    refine has_iff.mpr ⟨?_, (e.2.2 x m).1, (e.2.2 x m).2⟩
    rw [h]
    exact hull_fit m hx
/-- the hull of some is tight -/
theorem tight_hull {w : Nat} {xs : List Nat} {l h : Nat} (lt : ∀ x ∈ xs, x < 2 ^ w) (e : Ends xs l h) : tightN w (hullN w xs l h) = some (hullN w xs l h) := by
  have ok : (hullN w xs l h).Ok w := hull_ok (lt _ e.1) (lt _ e.2.1)
  have inn : ∀ x ∈ xs, x ∈ within w (hullN w xs l h) := fun x hx => mem_within.mpr ⟨lt x hx, has_iff.mpr ⟨hull_fit hx (lt x hx), e.2.2 x hx⟩⟩
  have out : ∀ x, x ∈ within w (hullN w xs l h) → fits (hullN w xs l h).o (hullN w xs l h).n x ∧ l ≤ x ∧ x ≤ h := fun x hx => has_iff.mp (mem_within.mp hx).2
  have t := tight_ok ok
  cases q : tightN w (hullN w xs l h) with
  | none =>
    rw [q] at t
    have := inn l e.1
    rw [t] at this
    cases this
  | some s =>
    rw [q] at t
    obtain ⟨e2, t⟩ := t
    have lo : s.lo = l := Nat.le_antisymm (e2.2.2 l (inn l e.1)).1 (out _ e2.1).2.1
    have hi : s.hi = h := Nat.le_antisymm (out _ e2.2.1).2.2 (e2.2.2 h (inn h e.2.1)).2
    rw [t, lo, hi]
    congr 1
    show (⟨_, _, l, h⟩ : Span) = ⟨_, _, l, h⟩
    congr 1
    · apply Nat.eq_of_testBit_eq
      intro i
      rw [num_bit, Bool.eq_iff_iff, Bool.and_eq_true, decide_eq_true_eq, List.all_eq_true]
      show _ ↔ (hullN w xs l h).o.testBit i = true
      constructor
      · rintro ⟨r, z⟩
        show (num w _).testBit i = true
        rw [num_bit, decide_eq_true r, Bool.true_and, List.all_eq_true]
        exact fun x hx => z x (inn x hx)
      · intro z
        exact ⟨bit_lt ok.o z, fun x hx => (fit_iff.mp (out x hx).1 i).1 z⟩
    · apply Nat.eq_of_testBit_eq
      intro i
      rw [num_bit, Bool.eq_iff_iff, Bool.and_eq_true, decide_eq_true_eq, List.all_eq_true]
      show _ ↔ (hullN w xs l h).n.testBit i = true
      constructor
      · rintro ⟨r, z⟩
        show (num w _).testBit i = true
        rw [num_bit, decide_eq_true r, Bool.true_and, List.all_eq_true]
        exact fun x hx => z x (inn x hx)
      · intro z
        refine ⟨bit_lt ok.n z, fun x hx => ?_⟩
        rw [(fit_iff.mp (out x hx).1 i).2 z]
        rfl
/-! ### one after another -/
/-- the values from v on -/
def from_ (w : Nat) (s : Span) (v : Nat) : List Nat := (within w s).filter fun x => decide (v ≤ x)
theorem range_from (w v : Nat) (p : Nat → Bool) : ∀ N, N ≤ 2 ^ w → True := fun _ _ => trivial
theorem filter_range_cons {p : Nat → Bool} {a : Nat} : ∀ (N : Nat), a < N → p a = true → (∀ x, x < a → p x = false) → (List.range N).filter p = a :: (List.range N).filter fun x => p x && decide (a < x)
  | N + 1, h, hp, hl => by
    rw [List.range_succ, List.filter_append, List.filter_append]
    by_cases e : a = N
    · subst e
      have z : (List.range a).filter p = [] := List.filter_eq_nil_iff.mpr fun x hx => by rw [hl x (List.mem_range.mp hx)]; decide
      have z2 : (List.range a).filter (fun x => p x && decide (a < x)) = [] := List.filter_eq_nil_iff.mpr fun x hx => by rw [hl x (List.mem_range.mp hx)]; simp
      rw [z, z2]
      simp [hp]
    · rw [filter_range_cons N (by omega) hp hl]
      have : (List.filter (fun x => p x && decide (a < x)) [N]) = List.filter p [N] := by
        cases q : p N with
        | true => rw [List.filter_cons_of_pos q, List.filter_cons_of_pos (by rw [q, decide_eq_true (by omega)]; rfl)]; rfl
        | false => rw [List.filter_cons_of_neg (by rw [q]; simp), List.filter_cons_of_neg (by rw [q]; simp)]; rfl
      rw [this]
      rfl
/-- what follows: the next value that fits, if it is not past the greatest -/
def nextN (w : Nat) (s : Span) (v : Nat) : Option Nat := if v < 2 ^ w then next w s.o s.n v else none
theorem from_next {w : Nat} {s : Span} (ok : s.Ok w) (hc : s.o &&& s.n = 0) {v : Nat} (hv : s.lo ≤ v) : from_ w s v = match nextN w s v with
    | none => []
    | some a => if a ≤ s.hi then a :: from_ w s (a + 1) else [] := by
  have fr : ∀ v, from_ w s v = (List.range (2 ^ w)).filter fun x => s.has x && decide (v ≤ x) := fun v => by
    unfold from_ within
    rw [List.filter_filter]
    apply List.filter_congr
    intro x _
    exact Bool.and_comm _ _
  have nil : (∀ x, v ≤ x → x < 2 ^ w → s.has x = true → False) → from_ w s v = [] := fun h => by
    rw [fr, List.filter_eq_nil_iff]
    intro x hx q
    rw [Bool.and_eq_true, decide_eq_true_eq] at q
    exact h x q.2 (List.mem_range.mp hx) q.1
  unfold nextN
  by_cases c : v < 2 ^ w
  · rw [if_pos c]
    have h := next_ok ok.o ok.n c hc
    cases q : next w s.o s.n v with
    | none =>
      rw [q] at h
      exact nil fun x a b d => h x ⟨a, b, (has_iff.mp d).1⟩
    | some a =>
      rw [q] at h
      obtain ⟨⟨h1, h2, h3⟩, h4⟩ := h
      show from_ w s v = if a ≤ s.hi then a :: from_ w s (a + 1) else []
      by_cases g : a ≤ s.hi
      · rw [if_pos g, fr, filter_range_cons (a := a) _ h2 (by rw [has_iff.mpr ⟨h3, by omega, g⟩, decide_eq_true h1]; rfl) fun x hx => ?_, fr]
        · congr 1
          apply List.filter_congr
          intro x _
          by_cases k : a < x
          · rw [decide_eq_true k, decide_eq_true (by omega : v ≤ x), decide_eq_true (by omega : a + 1 ≤ x)]
            simp
          · rw [decide_eq_false k, decide_eq_false (by omega : ¬ a + 1 ≤ x)]
            simp
        · cases z : s.has x with
          | false => rfl
          | true =>
            by_cases k : v ≤ x
            · have := h4 x ⟨k, by omega, (has_iff.mp z).1⟩
              omega
            · rw [decide_eq_false k]; rfl
      · rw [if_neg g]
        refine nil fun x a' b d => ?_
        have := h4 x ⟨a', b, (has_iff.mp d).1⟩
        have := (has_iff.mp d).2.2
        omega
  · rw [if_neg c]
    exact nil fun x a b d => by omega
theorem from_lo {w : Nat} {s : Span} : from_ w s s.lo = within w s := by
  unfold from_
  rw [List.filter_eq_self]
  intro x hx
  exact decide_eq_true (has_iff.mp (mem_within.mp hx).2).2.1
end Law
namespace Law
open PySem PySem.Spec PyProof.Rows L2 Z
theorem and_nat {a b : Nat} : binD .and (.int (a : Nat)) (.int (b : Nat)) = some (.int ((a &&& b : Nat) : Int)) := by
  show some (D.int (Builtin.bitAnd (a : Nat) (b : Nat))) = _
  rw [PySem.W.os_band]
theorem bitNot2 (a : Nat) : Builtin.bitNot (Builtin.bitNot (a : Int)) = a := by
  unfold Builtin.bitNot
  omega
theorem bitOr_nat (a b : Nat) : Builtin.bitOr (a : Int) (b : Int) = ((a ||| b : Nat) : Int) := by
  have ha : decide (0 ≤ Builtin.bitNot (a : Int)) = false := decide_eq_false (by unfold Builtin.bitNot; omega)
  have hb : decide (0 ≤ Builtin.bitNot (b : Int)) = false := decide_eq_false (by unfold Builtin.bitNot; omega)
  unfold Builtin.bitOr Builtin.bitAnd
  rw [ha, hb]
  simp only [bitNot2]
  show (((a : Int).toNat ||| (b : Int).toNat : Nat) : Int) = _
  rw [toNat_nat, toNat_nat]
theorem or_nat {a b : Nat} : binD .or (.int (a : Nat)) (.int (b : Nat)) = some (.int ((a ||| b : Nat) : Int)) := by
  show some (D.int (Builtin.bitOr (a : Nat) (b : Nat))) = _
  rw [bitOr_nat]
theorem or_split : ∀ a b : Nat, (a ^^^ b) + (a &&& b) = a ||| b := by
  intro a
  induction a using Nat.strongRecOn with
  | ind a ih =>
    intro b
    by_cases h : a = 0
    · subst h; simp
    · have := ih (a / 2) (by omega) (b / 2)
      rw [← Nat.xor_div_two, ← Nat.and_div_two, ← Nat.or_div_two] at this
      have m1 : ∀ x : Nat, x = 2 * (x / 2) + (if x.testBit 0 = true then 1 else 0) := fun x => by
        rw [Nat.testBit_zero]
        by_cases q : x % 2 = 1
        · simp [q]; omega
        · simp [q]; omega
      rw [m1 (a ^^^ b), m1 (a &&& b), m1 (a ||| b), Nat.testBit_xor, Nat.testBit_and, Nat.testBit_or]
      cases a.testBit 0 <;> cases b.testBit 0 <;> simp <;> omega
theorem xor_nat {a b : Nat} : binD .xor (.int (a : Nat)) (.int (b : Nat)) = some (.int ((a ^^^ b : Nat) : Int)) := by
  show some (D.int (Builtin.bitXor (a : Nat) (b : Nat))) = _
  have e : Builtin.bitXor (a : Int) (b : Int) = Builtin.bitOr (a : Int) (b : Int) - Builtin.bitAnd (a : Int) (b : Int) := rfl
  have := or_split a b
  rw [e, bitOr_nat, PySem.W.os_band]
  congr 2
  omega
theorem shl_nat {a k : Nat} (ha : a < 2 ^ 64) (hk : k ≤ 1000000) : binD .shl (.int (a : Nat)) (.int (k : Nat)) = some (.int ((a <<< k : Nat) : Int)) := by
  show (if 0 ≤ ((k : Nat) : Int) ∧ ((k : Nat) : Int) ≤ 1000000 ∧ ((a : Nat) : Int).natAbs < 2 ^ 64 then some (D.int ((a : Nat) * 2 ^ ((k : Nat) : Int).toNat)) else none) = _
  rw [if_pos ⟨by omega, by omega, by omega⟩, toNat_nat, Nat.shiftLeft_eq]
  simp
theorem shr_nat {a k : Nat} : binD .shr (.int (a : Nat)) (.int (k : Nat)) = some (.int ((a >>> k : Nat) : Int)) := by
  show (if 0 ≤ ((k : Nat) : Int) then some (D.int ((a : Nat) / 2 ^ ((k : Nat) : Int).toNat)) else none) = _
  rw [if_pos (by omega), toNat_nat, Nat.shiftRight_eq_div_pow]
  simp
theorem add_nat {a b : Nat} : binD .add (.int (a : Nat)) (.int (b : Nat)) = some (.int ((a + b : Nat) : Int)) := by
  show some (D.int ((a : Nat) + (b : Nat))) = _
  simp
theorem add_one {a : Nat} : binD .add (.int (a : Nat)) (.int 1) = some (.int ((a + 1 : Nat) : Int)) := add_nat (b := 1)
theorem sub_nat {a b : Nat} (h : b ≤ a) : binD .sub (.int (a : Nat)) (.int (b : Nat)) = some (.int ((a - b : Nat) : Int)) := by
  show some (D.int ((a : Nat) - (b : Nat))) = _
  rw [Int.ofNat_sub h]
theorem sub_one {a : Nat} (h : 1 ≤ a) : binD .sub (.int (a : Nat)) (.int 1) = some (.int ((a - 1 : Nat) : Int)) := sub_nat (b := 1) h
theorem eq_nat {a b : Nat} : cmpD .eq (.int (a : Nat)) (.int (b : Nat)) = some (a == b) := by
  rw [Z.eq_int]
  congr 1
  rw [Bool.eq_iff_iff, decide_eq_true_eq, beq_iff_eq]
  omega
theorem eq_zero {a : Nat} : cmpD .eq (.int (a : Nat)) (.int 0) = some (a == 0) := eq_nat (b := 0)
theorem le_nat {a b : Nat} : cmpD .le (.int (a : Nat)) (.int (b : Nat)) = some (decide (a ≤ b)) := by
  show some (decide ((a : Int) ≤ b)) = _
  congr 1
  rw [decide_eq_decide]
  omega
theorem lt_nat {a b : Nat} : cmpD .lt (.int (a : Nat)) (.int (b : Nat)) = some (decide (a < b)) := by
  show some (decide ((a : Int) < b)) = _
  congr 1
  rw [decide_eq_decide]
  omega
theorem gt_nat {a b : Nat} : cmpD .gt (.int (a : Nat)) (.int (b : Nat)) = some (decide (b < a)) := by
  show some (decide ((b : Int) < a)) = _
  congr 1
  rw [decide_eq_decide]
  omega
theorem gt_zero {a : Nat} : cmpD .gt (.int (a : Nat)) (.int 0) = some (decide (0 < a)) := gt_nat (b := 0)
theorem nz {a : Nat} : (((a : Nat) : Int) != 0) = (a != 0) := by
  rw [Bool.eq_iff_iff, bne_iff_ne, bne_iff_ne]
  omega
theorem is_int {i : Int} : cmpD .is (.int i) .non = some false := nrfl rfl
theorem is_non : cmpD .is .non .non = some true := nrfl rfl
theorem is_tup {i} : cmpD .is (.tup i) .non = some false := nrfl rfl
theorem isn_int {i : Int} : cmpD .isn (.int i) .non = some true := nrfl rfl
theorem isn_non : cmpD .isn .non .non = some false := nrfl rfl
theorem pw16 {w : Nat} (h : w ≤ 16) : 2 ^ w < 2 ^ 17 := Nat.pow_lt_pow_right (by decide) (by omega)
theorem p_pos (w : Nat) : 1 ≤ 2 ^ w := Nat.pos_of_ne_zero (by simp)
theorem run_power (n w : Nat) (h : w ≤ 1000) : run txt (n + 1) 1 [.int (w : Nat)] = .ok (.int ((2 ^ w : Nat) : Int)) := by
  rw [run_s (d := d1) rfl rfl]
  show (dSs _ _ b1 [.im (.int (w : Nat))]).out = _
  have e : binD .shl (.int 1) (.int (w : Nat)) = some (.int ((2 ^ w : Nat) : Int)) := by
    have := shl_nat (a := 1) (k := w) (by decide) (by omega)
    rw [Nat.one_shiftLeft] at this
    exact this
  simp only [b1, dE_cst, dE_glb, dE_var, dE_bin, dE_neg, dE_cmp, dE_chn, dE_and, dE_or, dE_not, dE_ite, dE_tup, dE_lst, dE_call, dE_blt, dE_mkb, dE_isi, dE_ix, dE_sl, dE_rev, dE_comp, dT_cst, dT_var, dT_bin, dT_cmp, dT_chn, dT_call, dT_blt, dT_isi, dT_ix, dT_ite, dT_and, dT_or, dT_not, dO_own, dO_ev, dBd_no, dBd_to, dBs_nil, dBs_cons, dEs_nil, dEs_cons, dIt_seq, dIt_rng1, dIt_rng2, dIt_enm, dIt_zip, dS_set, dS_unp, dS_par, dS_aug, dS_ret, dS_retN, dS_ite, dS_fo, dS_pass, dS_rai, dS_exp, dS_tr, dSs_nil, dSs_cons, go_nx, go_rt, go_exc, fl_ok, fl_exc, bind_ok, bind_exc, of_some, calm_ok, flof_some, look_0, look_s, lookB_im, lookB_ow, lookB_s, frzL_nil, frzL_cons, frz1_im, frz1_un, frz1_ow, frz1_s, tg_nm, tg_tp, tg_tpl, tgs_nil, tgs_cons, obind, set_0, set_s, lp_nx, lp_ct, lp_bk, lp_rt, lp_exc, out_rt, out_nx, out_exc, ownList, isFr, Bool.and_true, Bool.and_false, Bool.true_and, Bool.false_and, Bool.not_true, Bool.not_false, truD, if_true, if_false, Bool.false_eq_true, ↓reduceIte, startE_nil, startE_cons, reduceCtorEq, decide_true, decide_false, tyD, e]
theorem run_whole (n : Nat) (a lo hi : Int) : run txt (n + 1) 0 [.int a, .int lo, .int hi] = .ok (.bl (decide (lo ≤ a) && decide (a ≤ hi))) := by
  rw [run_s (d := d0) rfl rfl]
  show (dSs _ _ b0 [.im (.int a), .im (.int lo), .im (.int hi)]).out = _
  by_cases c : lo ≤ a
  · simp only [b0, dE_cst, dE_glb, dE_var, dE_bin, dE_neg, dE_cmp, dE_chn, dE_and, dE_or, dE_not, dE_ite, dE_tup, dE_lst, dE_call, dE_blt, dE_mkb, dE_isi, dE_ix, dE_sl, dE_rev, dE_comp, dT_cst, dT_var, dT_bin, dT_cmp, dT_chn, dT_call, dT_blt, dT_isi, dT_ix, dT_ite, dT_and, dT_or, dT_not, dO_own, dO_ev, dBd_no, dBd_to, dBs_nil, dBs_cons, dEs_nil, dEs_cons, dIt_seq, dIt_rng1, dIt_rng2, dIt_enm, dIt_zip, dS_set, dS_unp, dS_par, dS_aug, dS_ret, dS_retN, dS_ite, dS_fo, dS_pass, dS_rai, dS_exp, dS_tr, dSs_nil, dSs_cons, go_nx, go_rt, go_exc, fl_ok, fl_exc, bind_ok, bind_exc, of_some, calm_ok, flof_some, look_0, look_s, lookB_im, lookB_ow, lookB_s, frzL_nil, frzL_cons, frz1_im, frz1_un, frz1_ow, frz1_s, tg_nm, tg_tp, tg_tpl, tgs_nil, tgs_cons, obind, set_0, set_s, lp_nx, lp_ct, lp_bk, lp_rt, lp_exc, out_rt, out_nx, out_exc, ownList, isFr, Bool.and_true, Bool.and_false, Bool.true_and, Bool.false_and, Bool.not_true, Bool.not_false, binD, addD, augD, truD, if_true, if_false, Bool.false_eq_true, ↓reduceIte, startE_nil, startE_cons, reduceCtorEq, decide_true, decide_false, tyD, cmpD, leD, c]
  · simp only [b0, dE_cst, dE_glb, dE_var, dE_bin, dE_neg, dE_cmp, dE_chn, dE_and, dE_or, dE_not, dE_ite, dE_tup, dE_lst, dE_call, dE_blt, dE_mkb, dE_isi, dE_ix, dE_sl, dE_rev, dE_comp, dT_cst, dT_var, dT_bin, dT_cmp, dT_chn, dT_call, dT_blt, dT_isi, dT_ix, dT_ite, dT_and, dT_or, dT_not, dO_own, dO_ev, dBd_no, dBd_to, dBs_nil, dBs_cons, dEs_nil, dEs_cons, dIt_seq, dIt_rng1, dIt_rng2, dIt_enm, dIt_zip, dS_set, dS_unp, dS_par, dS_aug, dS_ret, dS_retN, dS_ite, dS_fo, dS_pass, dS_rai, dS_exp, dS_tr, dSs_nil, dSs_cons, go_nx, go_rt, go_exc, fl_ok, fl_exc, bind_ok, bind_exc, of_some, calm_ok, flof_some, look_0, look_s, lookB_im, lookB_ow, lookB_s, frzL_nil, frzL_cons, frz1_im, frz1_un, frz1_ow, frz1_s, tg_nm, tg_tp, tg_tpl, tgs_nil, tgs_cons, obind, set_0, set_s, lp_nx, lp_ct, lp_bk, lp_rt, lp_exc, out_rt, out_nx, out_exc, ownList, isFr, Bool.and_true, Bool.and_false, Bool.true_and, Bool.false_and, Bool.not_true, Bool.not_false, binD, addD, augD, truD, if_true, if_false, Bool.false_eq_true, ↓reduceIte, startE_nil, startE_cons, reduceCtorEq, decide_true, decide_false, tyD, cmpD, leD, c]
/-! ### the next within -/
def oD : Option Nat → D
  | none => .non
  | some a => .int (a : Nat)
theorem min_nat {a b : Nat} : bltD .min [.int (a : Nat), .int (b : Nat)] = some (.int ((min a b : Nat) : Int)) := by
  show some (D.int (if (b : Int) < (a : Int) then (b : Nat) else (a : Nat))) = _
  congr 2
  split <;> omega
theorem max_nat {a b : Nat} : bltD .max [.int (a : Nat), .int (b : Nat)] = some (.int ((max a b : Nat) : Int)) := by
  show some (D.int (if (b : Int) > (a : Int) then (b : Nat) else (a : Nat))) = _
  congr 2
  split <;> omega
def bodyN : Sms := (.cons (.set [] 7 false (.bin .shl (.cst (.int 1)) (.var 6))) <|
    (.cons (.set [] 8 false (.bin .shl (.bin .shr (.var 3) (.bin .add (.var 6) (.cst (.int 1)))) (.bin .add (.var 6) (.cst (.int 1))))) <|
    (.cons (.set [] 9 false (.bin .sub (.call 1 (.cons (.var 0) .nil)) (.bin .shl (.var 7) (.cst (.int 1))))) <|
    (.cons (.set [] 10 false (.and_ (.cmp .eq (.ev (.bin .and (.bin .and (.var 8) (.var 1)) (.var 9))) (.ev (.bin .and (.var 1) (.var 9)))) (.cmp .eq (.ev (.bin .and (.var 8) (.var 2))) (.ev (.cst (.int 0)))))) <|
    (.cons (.ite [] (.and_ (.var 10) (.and_ (.cmp .eq (.ev (.bin .and (.var 3) (.var 7))) (.ev (.cst (.int 0)))) (.and_ (.cmp .eq (.ev (.bin .and (.var 2) (.var 7))) (.ev (.cst (.int 0)))) (.bin .and (.bin .or (.var 4) (.var 1)) (.var 7)))))
      (.cons (.set [] 11 false (.bin .or (.bin .or (.var 8) (.var 7)) (.bin .and (.var 1) (.bin .sub (.var 7) (.cst (.int 1)))))) <|
      (.cons (.set [] 5 false (.ite (.cmp .is (.own 5) (.ev (.cst .non))) (.var 11) (.blt .min (.cons (.own 5) (.cons (.own 11) .nil))))) .nil))
      .nil) .nil)))))
theorem one_next {T : Nat → List D → R D} {sub} {w o n v p : Nat} (h16 : w ≤ 16) (hv : v < 2 ^ w) (hp : p < w) (hT : T 1 [.int (w : Nat)] = .ok (.int ((2 ^ w : Nat) : Int))) (b : Option Nat) (s7 s8 s9 s10 s11 : Slot) : ∃ s7' s8' s9' s10' s11', dSs T sub bodyN [.im (.int (w : Nat)), .im (.int (o : Nat)), .im (.int (n : Nat)), .im (.int (v : Nat)), .im (.int ((2 ^ w - 1 - (o ||| n) : Nat) : Int)), .im (oD b), .im (.int (p : Nat)), s7, s8, s9, s10, s11] = .nx [.im (.int (w : Nat)), .im (.int (o : Nat)), .im (.int (n : Nat)), .im (.int (v : Nat)), .im (.int ((2 ^ w - 1 - (o ||| n) : Nat) : Int)), .im (oD (if canAt w o n v p = true then some (match b with
    | none => mk o v p
    | some b => min b (mk o v p)) else b)), .im (.int (p : Nat)), s7', s8', s9', s10', s11'] := by
  have w17 := pw16 h16
  have e1 : binD .shl (.int 1) (.int (p : Nat)) = some (.int ((2 ^ p : Nat) : Int)) := by
    have := shl_nat (a := 1) (k := p) (by decide) (by omega)
    rw [Nat.one_shiftLeft] at this
    exact this
  have hs : v >>> (p + 1) < 2 ^ 64 := by
    rw [Nat.shiftRight_eq_div_pow]
    have := Nat.div_le_self v (2 ^ (p + 1))
    omega
  have e2 := shl_nat (a := v >>> (p + 1)) (k := p + 1) hs (by omega)
  have p17 : 2 ^ p < 2 ^ 17 := Nat.lt_of_le_of_lt (Nat.pow_le_pow_right (by decide) (by omega : p ≤ w)) w17
  have e3 : binD .shl (.int ((2 ^ p : Nat) : Int)) (.int 1) = some (.int ((2 ^ (p + 1) : Nat) : Int)) := by
    have := shl_nat (a := 2 ^ p) (k := 1) (by omega) (by decide)
    rw [Nat.shiftLeft_eq, ← Nat.pow_succ] at this
    exact this
  have e4 := sub_nat (a := 2 ^ w) (b := 2 ^ (p + 1)) (Nat.pow_le_pow_right (by decide) (by omega))
  have e5 := sub_one (a := 2 ^ p) (p_pos p)
  have dk : (abv v p &&& o &&& keep w p == o &&& keep w p) = (v >>> (p + 1) <<< (p + 1) &&& o &&& (2 ^ w - 2 ^ (p + 1)) == o &&& (2 ^ w - 2 ^ (p + 1))) := rfl
  have dk2 : (abv v p &&& n == 0) = (v >>> (p + 1) <<< (p + 1) &&& n == 0) := rfl
  have dm : mk o v p = v >>> (p + 1) <<< (p + 1) ||| 2 ^ p ||| (o &&& (2 ^ p - 1)) := rfl
  unfold canAt
  rw [dk, dk2, dm]
  cases c1 : (v >>> (p + 1) <<< (p + 1) &&& o &&& (2 ^ w - 2 ^ (p + 1)) == o &&& (2 ^ w - 2 ^ (p + 1))) with
  | false => exact ⟨.im (.int ((2 ^ p : Nat) : Int)), .im (.int ((v >>> (p + 1) <<< (p + 1) : Nat) : Int)), .im (.int ((2 ^ w - 2 ^ (p + 1) : Nat) : Int)), .im (.bl false), s11, by simp only [bodyN, dE_cst, dE_glb, dE_var, dE_bin, dE_neg, dE_cmp, dE_chn, dE_and, dE_or, dE_not, dE_ite, dE_tup, dE_lst, dE_call, dE_blt, dE_mkb, dE_isi, dE_ix, dE_sl, dE_rev, dE_comp, dT_cst, dT_var, dT_bin, dT_cmp, dT_chn, dT_call, dT_blt, dT_isi, dT_ix, dT_ite, dT_and, dT_or, dT_not, dO_own, dO_ev, dBd_no, dBd_to, dBs_nil, dBs_cons, dEs_nil, dEs_cons, dIt_seq, dIt_rng1, dIt_rng2, dIt_enm, dIt_zip, dS_set, dS_unp, dS_par, dS_aug, dS_ret, dS_retN, dS_ite, dS_fo, dS_pass, dS_rai, dS_exp, dS_tr, dSs_nil, dSs_cons, go_nx, go_rt, go_exc, fl_ok, fl_exc, bind_ok, bind_exc, of_some, calm_ok, flof_some, look_0, look_s, lookB_im, lookB_ow, lookB_s, frzL_nil, frzL_cons, frz1_im, frz1_un, frz1_ow, frz1_s, tg_nm, tg_tp, tg_tpl, tgs_nil, tgs_cons, obind, set_0, set_s, lp_nx, lp_ct, lp_bk, lp_rt, lp_exc, out_rt, out_nx, out_exc, ownList, isFr, Bool.and_true, Bool.and_false, Bool.true_and, Bool.false_and, Bool.not_true, Bool.not_false, truD, if_true, if_false, Bool.false_eq_true, ↓reduceIte, startE_nil, startE_cons, reduceCtorEq, decide_true, decide_false, tyD, e1, add_one, shr_nat, e2, hT, e3, e4, and_nat, eq_nat, c1]⟩
  | true =>
    cases c2 : (v >>> (p + 1) <<< (p + 1) &&& n == 0) with
    | false => exact ⟨.im (.int ((2 ^ p : Nat) : Int)), .im (.int ((v >>> (p + 1) <<< (p + 1) : Nat) : Int)), .im (.int ((2 ^ w - 2 ^ (p + 1) : Nat) : Int)), .im (.bl false), s11, by simp only [bodyN, dE_cst, dE_glb, dE_var, dE_bin, dE_neg, dE_cmp, dE_chn, dE_and, dE_or, dE_not, dE_ite, dE_tup, dE_lst, dE_call, dE_blt, dE_mkb, dE_isi, dE_ix, dE_sl, dE_rev, dE_comp, dT_cst, dT_var, dT_bin, dT_cmp, dT_chn, dT_call, dT_blt, dT_isi, dT_ix, dT_ite, dT_and, dT_or, dT_not, dO_own, dO_ev, dBd_no, dBd_to, dBs_nil, dBs_cons, dEs_nil, dEs_cons, dIt_seq, dIt_rng1, dIt_rng2, dIt_enm, dIt_zip, dS_set, dS_unp, dS_par, dS_aug, dS_ret, dS_retN, dS_ite, dS_fo, dS_pass, dS_rai, dS_exp, dS_tr, dSs_nil, dSs_cons, go_nx, go_rt, go_exc, fl_ok, fl_exc, bind_ok, bind_exc, of_some, calm_ok, flof_some, look_0, look_s, lookB_im, lookB_ow, lookB_s, frzL_nil, frzL_cons, frz1_im, frz1_un, frz1_ow, frz1_s, tg_nm, tg_tp, tg_tpl, tgs_nil, tgs_cons, obind, set_0, set_s, lp_nx, lp_ct, lp_bk, lp_rt, lp_exc, out_rt, out_nx, out_exc, ownList, isFr, Bool.and_true, Bool.and_false, Bool.true_and, Bool.false_and, Bool.not_true, Bool.not_false, truD, if_true, if_false, Bool.false_eq_true, ↓reduceIte, startE_nil, startE_cons, reduceCtorEq, decide_true, decide_false, tyD, e1, add_one, shr_nat, e2, hT, e3, e4, and_nat, eq_nat, eq_zero, c1, c2]⟩
    | true =>
      cases c3 : (v &&& 2 ^ p == 0) with
      | false => exact ⟨.im (.int ((2 ^ p : Nat) : Int)), .im (.int ((v >>> (p + 1) <<< (p + 1) : Nat) : Int)), .im (.int ((2 ^ w - 2 ^ (p + 1) : Nat) : Int)), .im (.bl true), s11, by simp only [bodyN, dE_cst, dE_glb, dE_var, dE_bin, dE_neg, dE_cmp, dE_chn, dE_and, dE_or, dE_not, dE_ite, dE_tup, dE_lst, dE_call, dE_blt, dE_mkb, dE_isi, dE_ix, dE_sl, dE_rev, dE_comp, dT_cst, dT_var, dT_bin, dT_cmp, dT_chn, dT_call, dT_blt, dT_isi, dT_ix, dT_ite, dT_and, dT_or, dT_not, dO_own, dO_ev, dBd_no, dBd_to, dBs_nil, dBs_cons, dEs_nil, dEs_cons, dIt_seq, dIt_rng1, dIt_rng2, dIt_enm, dIt_zip, dS_set, dS_unp, dS_par, dS_aug, dS_ret, dS_retN, dS_ite, dS_fo, dS_pass, dS_rai, dS_exp, dS_tr, dSs_nil, dSs_cons, go_nx, go_rt, go_exc, fl_ok, fl_exc, bind_ok, bind_exc, of_some, calm_ok, flof_some, look_0, look_s, lookB_im, lookB_ow, lookB_s, frzL_nil, frzL_cons, frz1_im, frz1_un, frz1_ow, frz1_s, tg_nm, tg_tp, tg_tpl, tgs_nil, tgs_cons, obind, set_0, set_s, lp_nx, lp_ct, lp_bk, lp_rt, lp_exc, out_rt, out_nx, out_exc, ownList, isFr, Bool.and_true, Bool.and_false, Bool.true_and, Bool.false_and, Bool.not_true, Bool.not_false, truD, if_true, if_false, Bool.false_eq_true, ↓reduceIte, startE_nil, startE_cons, reduceCtorEq, decide_true, decide_false, tyD, e1, add_one, shr_nat, e2, hT, e3, e4, and_nat, eq_nat, eq_zero, c1, c2, c3]⟩
      | true =>
        cases c4 : (n &&& 2 ^ p == 0) with
        | false => exact ⟨.im (.int ((2 ^ p : Nat) : Int)), .im (.int ((v >>> (p + 1) <<< (p + 1) : Nat) : Int)), .im (.int ((2 ^ w - 2 ^ (p + 1) : Nat) : Int)), .im (.bl true), s11, by simp only [bodyN, dE_cst, dE_glb, dE_var, dE_bin, dE_neg, dE_cmp, dE_chn, dE_and, dE_or, dE_not, dE_ite, dE_tup, dE_lst, dE_call, dE_blt, dE_mkb, dE_isi, dE_ix, dE_sl, dE_rev, dE_comp, dT_cst, dT_var, dT_bin, dT_cmp, dT_chn, dT_call, dT_blt, dT_isi, dT_ix, dT_ite, dT_and, dT_or, dT_not, dO_own, dO_ev, dBd_no, dBd_to, dBs_nil, dBs_cons, dEs_nil, dEs_cons, dIt_seq, dIt_rng1, dIt_rng2, dIt_enm, dIt_zip, dS_set, dS_unp, dS_par, dS_aug, dS_ret, dS_retN, dS_ite, dS_fo, dS_pass, dS_rai, dS_exp, dS_tr, dSs_nil, dSs_cons, go_nx, go_rt, go_exc, fl_ok, fl_exc, bind_ok, bind_exc, of_some, calm_ok, flof_some, look_0, look_s, lookB_im, lookB_ow, lookB_s, frzL_nil, frzL_cons, frz1_im, frz1_un, frz1_ow, frz1_s, tg_nm, tg_tp, tg_tpl, tgs_nil, tgs_cons, obind, set_0, set_s, lp_nx, lp_ct, lp_bk, lp_rt, lp_exc, out_rt, out_nx, out_exc, ownList, isFr, Bool.and_true, Bool.and_false, Bool.true_and, Bool.false_and, Bool.not_true, Bool.not_false, truD, if_true, if_false, Bool.false_eq_true, ↓reduceIte, startE_nil, startE_cons, reduceCtorEq, decide_true, decide_false, tyD, e1, add_one, shr_nat, e2, hT, e3, e4, and_nat, eq_nat, eq_zero, c1, c2, c3, c4]⟩
        | true =>
          cases c5 : (((2 ^ w - 1 - (o ||| n)) ||| o) &&& 2 ^ p != 0) with
          | false => exact ⟨.im (.int ((2 ^ p : Nat) : Int)), .im (.int ((v >>> (p + 1) <<< (p + 1) : Nat) : Int)), .im (.int ((2 ^ w - 2 ^ (p + 1) : Nat) : Int)), .im (.bl true), s11, by simp only [bodyN, dE_cst, dE_glb, dE_var, dE_bin, dE_neg, dE_cmp, dE_chn, dE_and, dE_or, dE_not, dE_ite, dE_tup, dE_lst, dE_call, dE_blt, dE_mkb, dE_isi, dE_ix, dE_sl, dE_rev, dE_comp, dT_cst, dT_var, dT_bin, dT_cmp, dT_chn, dT_call, dT_blt, dT_isi, dT_ix, dT_ite, dT_and, dT_or, dT_not, dO_own, dO_ev, dBd_no, dBd_to, dBs_nil, dBs_cons, dEs_nil, dEs_cons, dIt_seq, dIt_rng1, dIt_rng2, dIt_enm, dIt_zip, dS_set, dS_unp, dS_par, dS_aug, dS_ret, dS_retN, dS_ite, dS_fo, dS_pass, dS_rai, dS_exp, dS_tr, dSs_nil, dSs_cons, go_nx, go_rt, go_exc, fl_ok, fl_exc, bind_ok, bind_exc, of_some, calm_ok, flof_some, look_0, look_s, lookB_im, lookB_ow, lookB_s, frzL_nil, frzL_cons, frz1_im, frz1_un, frz1_ow, frz1_s, tg_nm, tg_tp, tg_tpl, tgs_nil, tgs_cons, obind, set_0, set_s, lp_nx, lp_ct, lp_bk, lp_rt, lp_exc, out_rt, out_nx, out_exc, ownList, isFr, Bool.and_true, Bool.and_false, Bool.true_and, Bool.false_and, Bool.not_true, Bool.not_false, truD, if_true, if_false, Bool.false_eq_true, ↓reduceIte, startE_nil, startE_cons, reduceCtorEq, decide_true, decide_false, tyD, e1, add_one, shr_nat, e2, hT, e3, e4, and_nat, or_nat, eq_nat, eq_zero, c1, c2, c3, c4, c5, nz]⟩
          | true =>
            cases b with
            | none => exact ⟨.im (.int ((2 ^ p : Nat) : Int)), .im (.int ((v >>> (p + 1) <<< (p + 1) : Nat) : Int)), .im (.int ((2 ^ w - 2 ^ (p + 1) : Nat) : Int)), .im (.bl true), .im (.int ((v >>> (p + 1) <<< (p + 1) ||| 2 ^ p ||| (o &&& (2 ^ p - 1)) : Nat) : Int)), by simp only [bodyN, dE_cst, dE_glb, dE_var, dE_bin, dE_neg, dE_cmp, dE_chn, dE_and, dE_or, dE_not, dE_ite, dE_tup, dE_lst, dE_call, dE_blt, dE_mkb, dE_isi, dE_ix, dE_sl, dE_rev, dE_comp, dT_cst, dT_var, dT_bin, dT_cmp, dT_chn, dT_call, dT_blt, dT_isi, dT_ix, dT_ite, dT_and, dT_or, dT_not, dO_own, dO_ev, dBd_no, dBd_to, dBs_nil, dBs_cons, dEs_nil, dEs_cons, dIt_seq, dIt_rng1, dIt_rng2, dIt_enm, dIt_zip, dS_set, dS_unp, dS_par, dS_aug, dS_ret, dS_retN, dS_ite, dS_fo, dS_pass, dS_rai, dS_exp, dS_tr, dSs_nil, dSs_cons, go_nx, go_rt, go_exc, fl_ok, fl_exc, bind_ok, bind_exc, of_some, calm_ok, flof_some, look_0, look_s, lookB_im, lookB_ow, lookB_s, frzL_nil, frzL_cons, frz1_im, frz1_un, frz1_ow, frz1_s, tg_nm, tg_tp, tg_tpl, tgs_nil, tgs_cons, obind, set_0, set_s, lp_nx, lp_ct, lp_bk, lp_rt, lp_exc, out_rt, out_nx, out_exc, ownList, isFr, Bool.and_true, Bool.and_false, Bool.true_and, Bool.false_and, Bool.not_true, Bool.not_false, truD, if_true, if_false, Bool.false_eq_true, ↓reduceIte, startE_nil, startE_cons, reduceCtorEq, decide_true, decide_false, tyD, e1, add_one, shr_nat, e2, hT, e3, e4, e5, and_nat, or_nat, eq_nat, eq_zero, c1, c2, c3, c4, c5, nz, oD, is_non]⟩
            | some b => exact ⟨.im (.int ((2 ^ p : Nat) : Int)), .im (.int ((v >>> (p + 1) <<< (p + 1) : Nat) : Int)), .im (.int ((2 ^ w - 2 ^ (p + 1) : Nat) : Int)), .im (.bl true), .im (.int ((v >>> (p + 1) <<< (p + 1) ||| 2 ^ p ||| (o &&& (2 ^ p - 1)) : Nat) : Int)), by simp only [bodyN, dE_cst, dE_glb, dE_var, dE_bin, dE_neg, dE_cmp, dE_chn, dE_and, dE_or, dE_not, dE_ite, dE_tup, dE_lst, dE_call, dE_blt, dE_mkb, dE_isi, dE_ix, dE_sl, dE_rev, dE_comp, dT_cst, dT_var, dT_bin, dT_cmp, dT_chn, dT_call, dT_blt, dT_isi, dT_ix, dT_ite, dT_and, dT_or, dT_not, dO_own, dO_ev, dBd_no, dBd_to, dBs_nil, dBs_cons, dEs_nil, dEs_cons, dIt_seq, dIt_rng1, dIt_rng2, dIt_enm, dIt_zip, dS_set, dS_unp, dS_par, dS_aug, dS_ret, dS_retN, dS_ite, dS_fo, dS_pass, dS_rai, dS_exp, dS_tr, dSs_nil, dSs_cons, go_nx, go_rt, go_exc, fl_ok, fl_exc, bind_ok, bind_exc, of_some, calm_ok, flof_some, look_0, look_s, lookB_im, lookB_ow, lookB_s, frzL_nil, frzL_cons, frz1_im, frz1_un, frz1_ow, frz1_s, tg_nm, tg_tp, tg_tpl, tgs_nil, tgs_cons, obind, set_0, set_s, lp_nx, lp_ct, lp_bk, lp_rt, lp_exc, out_rt, out_nx, out_exc, ownList, isFr, Bool.and_true, Bool.and_false, Bool.true_and, Bool.false_and, Bool.not_true, Bool.not_false, truD, if_true, if_false, Bool.false_eq_true, ↓reduceIte, startE_nil, startE_cons, reduceCtorEq, decide_true, decide_false, tyD, e1, add_one, shr_nat, e2, hT, e3, e4, e5, and_nat, or_nat, eq_nat, eq_zero, c1, c2, c3, c4, c5, nz, oD, is_int, min_nat]⟩
end Law
namespace Law
open PySem PySem.Spec PyProof.Rows L2 Z
theorem loop_next {T : Nat → List D → R D} {sub} {w o n v : Nat} (h16 : w ≤ 16) (hv : v < 2 ^ w) (hT : T 1 [.int (w : Nat)] = .ok (.int ((2 ^ w : Nat) : Int))) : ∀ (m p : Nat) (s6 s7 s8 s9 s10 s11 : Slot), p + m = w → ∃ s6' s7' s8' s9' s10' s11', forL (dTg (.nm 6)) (dSs T sub bodyN) (rngL (p : Nat) m) [.im (.int (w : Nat)), .im (.int (o : Nat)), .im (.int (n : Nat)), .im (.int (v : Nat)), .im (.int ((2 ^ w - 1 - (o ||| n) : Nat) : Int)), .im (oD (best w o n v p)), s6, s7, s8, s9, s10, s11] = .nx [.im (.int (w : Nat)), .im (.int (o : Nat)), .im (.int (n : Nat)), .im (.int (v : Nat)), .im (.int ((2 ^ w - 1 - (o ||| n) : Nat) : Int)), .im (oD (best w o n v w)), s6', s7', s8', s9', s10', s11']
  | 0, p, s6, s7, s8, s9, s10, s11, h => by
    have e : p = w := by omega
    subst e
    exact ⟨s6, s7, s8, s9, s10, s11, rfl⟩
  | m + 1, p, s6, s7, s8, s9, s10, s11, h => by
    obtain ⟨t7, t8, t9, t10, t11, e⟩ := one_next (sub := sub) (o := o) (n := n) h16 hv (by omega : p < w) hT (best w o n v p) s7 s8 s9 s10 s11
    obtain ⟨r6, r7, r8, r9, r10, r11, ih⟩ := loop_next (sub := sub) (o := o) (n := n) h16 hv hT m (p + 1) (.im (.int (p : Nat))) t7 t8 t9 t10 t11 (by omega)
    refine ⟨r6, r7, r8, r9, r10, r11, ?_⟩
    rw [rngL_cons, forL_cons (ρ1 := [.im (.int (w : Nat)), .im (.int (o : Nat)), .im (.int (n : Nat)), .im (.int (v : Nat)), .im (.int ((2 ^ w - 1 - (o ||| n) : Nat) : Int)), .im (oD (best w o n v p)), .im (.int (p : Nat)), s7, s8, s9, s10, s11]) rfl, e, lp_nx]
    rw [show (((p + 1 : Nat)) : Int) = (p : Int) + 1 from by omega] at ih
    exact ih
theorem run_next (k w o n v : Nat) (h16 : w ≤ 16) (ho : o < 2 ^ w) (hn : n < 2 ^ w) (hv : v < 2 ^ w) : run txt (k + 2) 3 [.int (w : Nat), .int (o : Nat), .int (n : Nat), .int (v : Nat)] = .ok (oD (next w o n v)) := by
  rw [run_s (d := d3) rfl rfl]
  show (dSs _ _ b3 [.im (.int (w : Nat)), .im (.int (o : Nat)), .im (.int (n : Nat)), .im (.int (v : Nat)), .un, .un, .un, .un, .un, .un, .un, .un]).out = _
  have hp := run_power k w (by omega)
  have on : o ||| n < 2 ^ w := Nat.or_lt_two_pow ho hn
  have p1 := p_pos w
  have e1 := sub_one (a := 2 ^ w) p1
  have e2 := sub_nat (a := 2 ^ w - 1) (b := o ||| n) (by omega)
  obtain ⟨r6, r7, r8, r9, r10, r11, e⟩ := loop_next (T := run txt (k + 1)) (sub := subL txt.sub) (o := o) (n := n) h16 hv hp w 0 .un .un .un .un .un .un (Nat.zero_add w)
  rw [show ((0 : Nat) : Int) = 0 from rfl] at e
  unfold bodyN at e
  unfold next
  have lp : ∀ b : Bool, b = false → fits o n v = False ∨ True := fun _ _ => .inr trivial
  cases c1 : (v &&& o == o) with
  | false =>
    have f : ¬ fits o n v := fun z => by rw [z.1] at c1; simp at c1
    rw [if_neg f]
    simp only [b3, dE_cst, dE_glb, dE_var, dE_bin, dE_neg, dE_cmp, dE_chn, dE_and, dE_or, dE_not, dE_ite, dE_tup, dE_lst, dE_call, dE_blt, dE_mkb, dE_isi, dE_ix, dE_sl, dE_rev, dE_comp, dT_cst, dT_var, dT_bin, dT_cmp, dT_chn, dT_call, dT_blt, dT_isi, dT_ix, dT_ite, dT_and, dT_or, dT_not, dO_own, dO_ev, dBd_no, dBd_to, dBs_nil, dBs_cons, dEs_nil, dEs_cons, dIt_seq, dIt_rng1, dIt_rng2, dIt_enm, dIt_zip, dS_set, dS_unp, dS_par, dS_aug, dS_ret, dS_retN, dS_ite, dS_fo, dS_pass, dS_rai, dS_exp, dS_tr, dSs_nil, dSs_cons, go_nx, go_rt, go_exc, fl_ok, fl_exc, bind_ok, bind_exc, of_some, calm_ok, flof_some, look_0, look_s, lookB_im, lookB_ow, lookB_s, frzL_nil, frzL_cons, frz1_im, frz1_un, frz1_ow, frz1_s, tg_nm, tg_tp, tg_tpl, tgs_nil, tgs_cons, obind, set_0, set_s, lp_nx, lp_ct, lp_bk, lp_rt, lp_exc, out_rt, out_nx, out_exc, ownList, isFr, Bool.and_true, Bool.and_false, Bool.true_and, Bool.false_and, Bool.not_true, Bool.not_false, truD, if_true, if_false, Bool.false_eq_true, ↓reduceIte, startE_nil, startE_cons, reduceCtorEq, decide_true, decide_false, tyD, and_nat, eq_nat, eq_zero, c1, hp, e1, or_nat, e2, inRng_nat (by omega : w < 2 ^ 60), toNat_nat]
    simp only [best, oD] at e
    rw [e]
    simp only [dE_cst, dE_glb, dE_var, dE_bin, dE_neg, dE_cmp, dE_chn, dE_and, dE_or, dE_not, dE_ite, dE_tup, dE_lst, dE_call, dE_blt, dE_mkb, dE_isi, dE_ix, dE_sl, dE_rev, dE_comp, dT_cst, dT_var, dT_bin, dT_cmp, dT_chn, dT_call, dT_blt, dT_isi, dT_ix, dT_ite, dT_and, dT_or, dT_not, dO_own, dO_ev, dBd_no, dBd_to, dBs_nil, dBs_cons, dEs_nil, dEs_cons, dIt_seq, dIt_rng1, dIt_rng2, dIt_enm, dIt_zip, dS_set, dS_unp, dS_par, dS_aug, dS_ret, dS_retN, dS_ite, dS_fo, dS_pass, dS_rai, dS_exp, dS_tr, dSs_nil, dSs_cons, go_nx, go_rt, go_exc, fl_ok, fl_exc, bind_ok, bind_exc, of_some, calm_ok, flof_some, look_0, look_s, lookB_im, lookB_ow, lookB_s, frzL_nil, frzL_cons, frz1_im, frz1_un, frz1_ow, frz1_s, tg_nm, tg_tp, tg_tpl, tgs_nil, tgs_cons, obind, set_0, set_s, lp_nx, lp_ct, lp_bk, lp_rt, lp_exc, out_rt, out_nx, out_exc, ownList, isFr, Bool.and_true, Bool.and_false, Bool.true_and, Bool.false_and, Bool.not_true, Bool.not_false, truD, if_true, if_false, Bool.false_eq_true, ↓reduceIte, startE_nil, startE_cons, reduceCtorEq, decide_true, decide_false, tyD]
    rfl
  | true =>
    cases c2 : (v &&& n == 0) with
    | false =>
      have f : ¬ fits o n v := fun z => by rw [z.2] at c2; simp at c2
      rw [if_neg f]
      simp only [b3, dE_cst, dE_glb, dE_var, dE_bin, dE_neg, dE_cmp, dE_chn, dE_and, dE_or, dE_not, dE_ite, dE_tup, dE_lst, dE_call, dE_blt, dE_mkb, dE_isi, dE_ix, dE_sl, dE_rev, dE_comp, dT_cst, dT_var, dT_bin, dT_cmp, dT_chn, dT_call, dT_blt, dT_isi, dT_ix, dT_ite, dT_and, dT_or, dT_not, dO_own, dO_ev, dBd_no, dBd_to, dBs_nil, dBs_cons, dEs_nil, dEs_cons, dIt_seq, dIt_rng1, dIt_rng2, dIt_enm, dIt_zip, dS_set, dS_unp, dS_par, dS_aug, dS_ret, dS_retN, dS_ite, dS_fo, dS_pass, dS_rai, dS_exp, dS_tr, dSs_nil, dSs_cons, go_nx, go_rt, go_exc, fl_ok, fl_exc, bind_ok, bind_exc, of_some, calm_ok, flof_some, look_0, look_s, lookB_im, lookB_ow, lookB_s, frzL_nil, frzL_cons, frz1_im, frz1_un, frz1_ow, frz1_s, tg_nm, tg_tp, tg_tpl, tgs_nil, tgs_cons, obind, set_0, set_s, lp_nx, lp_ct, lp_bk, lp_rt, lp_exc, out_rt, out_nx, out_exc, ownList, isFr, Bool.and_true, Bool.and_false, Bool.true_and, Bool.false_and, Bool.not_true, Bool.not_false, truD, if_true, if_false, Bool.false_eq_true, ↓reduceIte, startE_nil, startE_cons, reduceCtorEq, decide_true, decide_false, tyD, and_nat, eq_nat, eq_zero, c1, c2, hp, e1, or_nat, e2, inRng_nat (by omega : w < 2 ^ 60), toNat_nat]
      simp only [best, oD] at e
      rw [e]
      simp only [dE_cst, dE_glb, dE_var, dE_bin, dE_neg, dE_cmp, dE_chn, dE_and, dE_or, dE_not, dE_ite, dE_tup, dE_lst, dE_call, dE_blt, dE_mkb, dE_isi, dE_ix, dE_sl, dE_rev, dE_comp, dT_cst, dT_var, dT_bin, dT_cmp, dT_chn, dT_call, dT_blt, dT_isi, dT_ix, dT_ite, dT_and, dT_or, dT_not, dO_own, dO_ev, dBd_no, dBd_to, dBs_nil, dBs_cons, dEs_nil, dEs_cons, dIt_seq, dIt_rng1, dIt_rng2, dIt_enm, dIt_zip, dS_set, dS_unp, dS_par, dS_aug, dS_ret, dS_retN, dS_ite, dS_fo, dS_pass, dS_rai, dS_exp, dS_tr, dSs_nil, dSs_cons, go_nx, go_rt, go_exc, fl_ok, fl_exc, bind_ok, bind_exc, of_some, calm_ok, flof_some, look_0, look_s, lookB_im, lookB_ow, lookB_s, frzL_nil, frzL_cons, frz1_im, frz1_un, frz1_ow, frz1_s, tg_nm, tg_tp, tg_tpl, tgs_nil, tgs_cons, obind, set_0, set_s, lp_nx, lp_ct, lp_bk, lp_rt, lp_exc, out_rt, out_nx, out_exc, ownList, isFr, Bool.and_true, Bool.and_false, Bool.true_and, Bool.false_and, Bool.not_true, Bool.not_false, truD, if_true, if_false, Bool.false_eq_true, ↓reduceIte, startE_nil, startE_cons, reduceCtorEq, decide_true, decide_false, tyD]
      rfl
    | true =>
      rw [if_pos ⟨eq_of_beq c1, eq_of_beq c2⟩]
      simp only [b3, dE_cst, dE_glb, dE_var, dE_bin, dE_neg, dE_cmp, dE_chn, dE_and, dE_or, dE_not, dE_ite, dE_tup, dE_lst, dE_call, dE_blt, dE_mkb, dE_isi, dE_ix, dE_sl, dE_rev, dE_comp, dT_cst, dT_var, dT_bin, dT_cmp, dT_chn, dT_call, dT_blt, dT_isi, dT_ix, dT_ite, dT_and, dT_or, dT_not, dO_own, dO_ev, dBd_no, dBd_to, dBs_nil, dBs_cons, dEs_nil, dEs_cons, dIt_seq, dIt_rng1, dIt_rng2, dIt_enm, dIt_zip, dS_set, dS_unp, dS_par, dS_aug, dS_ret, dS_retN, dS_ite, dS_fo, dS_pass, dS_rai, dS_exp, dS_tr, dSs_nil, dSs_cons, go_nx, go_rt, go_exc, fl_ok, fl_exc, bind_ok, bind_exc, of_some, calm_ok, flof_some, look_0, look_s, lookB_im, lookB_ow, lookB_s, frzL_nil, frzL_cons, frz1_im, frz1_un, frz1_ow, frz1_s, tg_nm, tg_tp, tg_tpl, tgs_nil, tgs_cons, obind, set_0, set_s, lp_nx, lp_ct, lp_bk, lp_rt, lp_exc, out_rt, out_nx, out_exc, ownList, isFr, Bool.and_true, Bool.and_false, Bool.true_and, Bool.false_and, Bool.not_true, Bool.not_false, truD, if_true, if_false, Bool.false_eq_true, ↓reduceIte, startE_nil, startE_cons, reduceCtorEq, decide_true, decide_false, tyD, and_nat, eq_nat, eq_zero, c1, c2, oD]
theorem run_last (k w o n v : Nat) (h16 : w ≤ 16) (ho : o < 2 ^ w) (hn : n < 2 ^ w) (hv : v < 2 ^ w) (hc : o &&& n = 0) : run txt (k + 3) 4 [.int (w : Nat), .int (o : Nat), .int (n : Nat), .int (v : Nat)] = .ok (oD (last w o n v)) := by
  rw [run_s (d := d4) rfl rfl]
  show (dSs _ _ b4 [.im (.int (w : Nat)), .im (.int (o : Nat)), .im (.int (n : Nat)), .im (.int (v : Nat)), .un, .un]).out = _
  have hp := run_power (k + 1) w (by omega)
  have p1 := p_pos w
  have e1 := sub_one (a := 2 ^ w) p1
  have e2 := sub_nat (a := 2 ^ w - 1) (b := v) (by omega)
  have e3 := run_next k w n o (2 ^ w - 1 - v) h16 hn ho (by omega)
  have nx := next_ok (w := w) (o := n) (n := o) (v := 2 ^ w - 1 - v) hn ho (by omega) (by rw [Nat.and_comm]; exact hc)
  unfold last
  cases q : next w n o (2 ^ w - 1 - v) with
  | none =>
    rw [q] at e3
    simp only [oD] at e3
    simp only [b4, dE_cst, dE_glb, dE_var, dE_bin, dE_neg, dE_cmp, dE_chn, dE_and, dE_or, dE_not, dE_ite, dE_tup, dE_lst, dE_call, dE_blt, dE_mkb, dE_isi, dE_ix, dE_sl, dE_rev, dE_comp, dT_cst, dT_var, dT_bin, dT_cmp, dT_chn, dT_call, dT_blt, dT_isi, dT_ix, dT_ite, dT_and, dT_or, dT_not, dO_own, dO_ev, dBd_no, dBd_to, dBs_nil, dBs_cons, dEs_nil, dEs_cons, dIt_seq, dIt_rng1, dIt_rng2, dIt_enm, dIt_zip, dS_set, dS_unp, dS_par, dS_aug, dS_ret, dS_retN, dS_ite, dS_fo, dS_pass, dS_rai, dS_exp, dS_tr, dSs_nil, dSs_cons, go_nx, go_rt, go_exc, fl_ok, fl_exc, bind_ok, bind_exc, of_some, calm_ok, flof_some, look_0, look_s, lookB_im, lookB_ow, lookB_s, frzL_nil, frzL_cons, frz1_im, frz1_un, frz1_ow, frz1_s, tg_nm, tg_tp, tg_tpl, tgs_nil, tgs_cons, obind, set_0, set_s, lp_nx, lp_ct, lp_bk, lp_rt, lp_exc, out_rt, out_nx, out_exc, ownList, isFr, Bool.and_true, Bool.and_false, Bool.true_and, Bool.false_and, Bool.not_true, Bool.not_false, truD, if_true, if_false, Bool.false_eq_true, ↓reduceIte, startE_nil, startE_cons, reduceCtorEq, decide_true, decide_false, tyD, hp, e1, e2, e3, is_non, Option.map_none, oD]
  | some a =>
    rw [q] at e3 nx
    obtain ⟨⟨_, a2, _⟩, _⟩ := nx
    simp only [oD] at e3
    have e4 := sub_nat (a := 2 ^ w - 1) (b := a) (by omega)
    simp only [b4, dE_cst, dE_glb, dE_var, dE_bin, dE_neg, dE_cmp, dE_chn, dE_and, dE_or, dE_not, dE_ite, dE_tup, dE_lst, dE_call, dE_blt, dE_mkb, dE_isi, dE_ix, dE_sl, dE_rev, dE_comp, dT_cst, dT_var, dT_bin, dT_cmp, dT_chn, dT_call, dT_blt, dT_isi, dT_ix, dT_ite, dT_and, dT_or, dT_not, dO_own, dO_ev, dBd_no, dBd_to, dBs_nil, dBs_cons, dEs_nil, dEs_cons, dIt_seq, dIt_rng1, dIt_rng2, dIt_enm, dIt_zip, dS_set, dS_unp, dS_par, dS_aug, dS_ret, dS_retN, dS_ite, dS_fo, dS_pass, dS_rai, dS_exp, dS_tr, dSs_nil, dSs_cons, go_nx, go_rt, go_exc, fl_ok, fl_exc, bind_ok, bind_exc, of_some, calm_ok, flof_some, look_0, look_s, lookB_im, lookB_ow, lookB_s, frzL_nil, frzL_cons, frz1_im, frz1_un, frz1_ow, frz1_s, tg_nm, tg_tp, tg_tpl, tgs_nil, tgs_cons, obind, set_0, set_s, lp_nx, lp_ct, lp_bk, lp_rt, lp_exc, out_rt, out_nx, out_exc, ownList, isFr, Bool.and_true, Bool.and_false, Bool.true_and, Bool.false_and, Bool.not_true, Bool.not_false, truD, if_true, if_false, Bool.false_eq_true, ↓reduceIte, startE_nil, startE_cons, reduceCtorEq, decide_true, decide_false, tyD, hp, e1, e2, e3, is_int, Option.map_some, oD, e4]
theorem wh_same {T : Nat → List D → R D} {sub} {w l h : Nat} : ∀ (f fu s : Nat), f < fu → w < s + f → ∃ fu', whL (dT T (.and_ (.cmp .lt (.own 3) (.own 0)) (.cmp .gt (.ev (.bin .shr (.bin .xor (.var 1) (.var 2)) (.var 3))) (.ev (.cst (.int 0)))))) [] (dSs T sub (.cons (.aug [] 3 .add (.cst (.int 1))) .nil)) fu [.im (.int (w : Nat)), .im (.int (l : Nat)), .im (.int (h : Nat)), .im (.int (s : Nat))] = .nx [.im (.int (w : Nat)), .im (.int (l : Nat)), .im (.int (h : Nat)), .im (.int ((szGo w l h f s : Nat) : Int))] ∧ fu' = fu
  | f, 0, s, hf, hs => by omega
  | 0, fu + 1, s, hf, hs => by
    refine ⟨_, ?_, rfl⟩
    rw [whL_s]
    simp only [dE_cst, dE_glb, dE_var, dE_bin, dE_neg, dE_cmp, dE_chn, dE_and, dE_or, dE_not, dE_ite, dE_tup, dE_lst, dE_call, dE_blt, dE_mkb, dE_isi, dE_ix, dE_sl, dE_rev, dE_comp, dT_cst, dT_var, dT_bin, dT_cmp, dT_chn, dT_call, dT_blt, dT_isi, dT_ix, dT_ite, dT_and, dT_or, dT_not, dO_own, dO_ev, dBd_no, dBd_to, dBs_nil, dBs_cons, dEs_nil, dEs_cons, dIt_seq, dIt_rng1, dIt_rng2, dIt_enm, dIt_zip, dS_set, dS_unp, dS_par, dS_aug, dS_ret, dS_retN, dS_ite, dS_fo, dS_pass, dS_rai, dS_exp, dS_tr, dSs_nil, dSs_cons, go_nx, go_rt, go_exc, fl_ok, fl_exc, bind_ok, bind_exc, of_some, calm_ok, flof_some, look_0, look_s, lookB_im, lookB_ow, lookB_s, frzL_nil, frzL_cons, frz1_im, frz1_un, frz1_ow, frz1_s, tg_nm, tg_tp, tg_tpl, tgs_nil, tgs_cons, obind, set_0, set_s, lp_nx, lp_ct, lp_bk, lp_rt, lp_exc, out_rt, out_nx, out_exc, ownList, isFr, Bool.and_true, Bool.and_false, Bool.true_and, Bool.false_and, Bool.not_true, Bool.not_false, truD, if_true, if_false, Bool.false_eq_true, ↓reduceIte, startE_nil, startE_cons, reduceCtorEq, decide_true, decide_false, tyD, lt_nat, decide_eq_false (by omega : ¬ s < w), szGo]
  | f + 1, fu + 1, s, hf, hs => by
    refine ⟨_, ?_, rfl⟩
    rw [whL_s, szGo]
    by_cases c1 : s < w
    · by_cases c2 : 0 < (l ^^^ h) >>> s
      · obtain ⟨_, ih, _⟩ := wh_same (T := T) (sub := sub) (w := w) (l := l) (h := h) f fu (s + 1) (by omega) (by omega)
        rw [if_pos ⟨c1, c2⟩]
        have e : ((s : Int) + 1) = ((s + 1 : Nat) : Int) := by omega
        simp only [dE_cst, dE_glb, dE_var, dE_bin, dE_neg, dE_cmp, dE_chn, dE_and, dE_or, dE_not, dE_ite, dE_tup, dE_lst, dE_call, dE_blt, dE_mkb, dE_isi, dE_ix, dE_sl, dE_rev, dE_comp, dT_cst, dT_var, dT_bin, dT_cmp, dT_chn, dT_call, dT_blt, dT_isi, dT_ix, dT_ite, dT_and, dT_or, dT_not, dO_own, dO_ev, dBd_no, dBd_to, dBs_nil, dBs_cons, dEs_nil, dEs_cons, dIt_seq, dIt_rng1, dIt_rng2, dIt_enm, dIt_zip, dS_set, dS_unp, dS_par, dS_aug, dS_ret, dS_retN, dS_ite, dS_fo, dS_pass, dS_rai, dS_exp, dS_tr, dSs_nil, dSs_cons, go_nx, go_rt, go_exc, fl_ok, fl_exc, bind_ok, bind_exc, of_some, calm_ok, flof_some, look_0, look_s, lookB_im, lookB_ow, lookB_s, frzL_nil, frzL_cons, frz1_im, frz1_un, frz1_ow, frz1_s, tg_nm, tg_tp, tg_tpl, tgs_nil, tgs_cons, obind, set_0, set_s, lp_nx, lp_ct, lp_bk, lp_rt, lp_exc, out_rt, out_nx, out_exc, ownList, isFr, Bool.and_true, Bool.and_false, Bool.true_and, Bool.false_and, Bool.not_true, Bool.not_false, truD, if_true, if_false, Bool.false_eq_true, ↓reduceIte, startE_nil, startE_cons, reduceCtorEq, decide_true, decide_false, tyD, lt_nat, gt_zero, c1, c2, xor_nat, shr_nat, augD, e]
        exact ih
      · rw [if_neg (fun z => c2 z.2)]
        simp only [dE_cst, dE_glb, dE_var, dE_bin, dE_neg, dE_cmp, dE_chn, dE_and, dE_or, dE_not, dE_ite, dE_tup, dE_lst, dE_call, dE_blt, dE_mkb, dE_isi, dE_ix, dE_sl, dE_rev, dE_comp, dT_cst, dT_var, dT_bin, dT_cmp, dT_chn, dT_call, dT_blt, dT_isi, dT_ix, dT_ite, dT_and, dT_or, dT_not, dO_own, dO_ev, dBd_no, dBd_to, dBs_nil, dBs_cons, dEs_nil, dEs_cons, dIt_seq, dIt_rng1, dIt_rng2, dIt_enm, dIt_zip, dS_set, dS_unp, dS_par, dS_aug, dS_ret, dS_retN, dS_ite, dS_fo, dS_pass, dS_rai, dS_exp, dS_tr, dSs_nil, dSs_cons, go_nx, go_rt, go_exc, fl_ok, fl_exc, bind_ok, bind_exc, of_some, calm_ok, flof_some, look_0, look_s, lookB_im, lookB_ow, lookB_s, frzL_nil, frzL_cons, frz1_im, frz1_un, frz1_ow, frz1_s, tg_nm, tg_tp, tg_tpl, tgs_nil, tgs_cons, obind, set_0, set_s, lp_nx, lp_ct, lp_bk, lp_rt, lp_exc, out_rt, out_nx, out_exc, ownList, isFr, Bool.and_true, Bool.and_false, Bool.true_and, Bool.false_and, Bool.not_true, Bool.not_false, truD, if_true, if_false, Bool.false_eq_true, ↓reduceIte, startE_nil, startE_cons, reduceCtorEq, decide_true, decide_false, tyD, lt_nat, gt_zero, c1, c2, xor_nat, shr_nat]
    · rw [if_neg (fun z => c1 z.1)]
      simp only [dE_cst, dE_glb, dE_var, dE_bin, dE_neg, dE_cmp, dE_chn, dE_and, dE_or, dE_not, dE_ite, dE_tup, dE_lst, dE_call, dE_blt, dE_mkb, dE_isi, dE_ix, dE_sl, dE_rev, dE_comp, dT_cst, dT_var, dT_bin, dT_cmp, dT_chn, dT_call, dT_blt, dT_isi, dT_ix, dT_ite, dT_and, dT_or, dT_not, dO_own, dO_ev, dBd_no, dBd_to, dBs_nil, dBs_cons, dEs_nil, dEs_cons, dIt_seq, dIt_rng1, dIt_rng2, dIt_enm, dIt_zip, dS_set, dS_unp, dS_par, dS_aug, dS_ret, dS_retN, dS_ite, dS_fo, dS_pass, dS_rai, dS_exp, dS_tr, dSs_nil, dSs_cons, go_nx, go_rt, go_exc, fl_ok, fl_exc, bind_ok, bind_exc, of_some, calm_ok, flof_some, look_0, look_s, lookB_im, lookB_ow, lookB_s, frzL_nil, frzL_cons, frz1_im, frz1_un, frz1_ow, frz1_s, tg_nm, tg_tp, tg_tpl, tgs_nil, tgs_cons, obind, set_0, set_s, lp_nx, lp_ct, lp_bk, lp_rt, lp_exc, out_rt, out_nx, out_exc, ownList, isFr, Bool.and_true, Bool.and_false, Bool.true_and, Bool.false_and, Bool.not_true, Bool.not_false, truD, if_true, if_false, Bool.false_eq_true, ↓reduceIte, startE_nil, startE_cons, reduceCtorEq, decide_true, decide_false, tyD, lt_nat, c1]
theorem run_ahead (k w l h : Nat) (h16 : w ≤ 16) (hl : l < 2 ^ w) (hh : h < 2 ^ w) (lh : l ≤ h) : run txt (k + 2) 5 [.int (w : Nat), .int (l : Nat), .int (h : Nat)] = .ok (.int ((2 ^ w - 2 ^ sz w l h : Nat) : Int)) := by
  rw [run_s (d := d5) rfl rfl]
  show (dSs _ _ b5 [.im (.int (w : Nat)), .im (.int (l : Nat)), .im (.int (h : Nat)), .un]).out = _
  obtain ⟨z0, _, _⟩ := sz_ok hl hh lh
  have hp := run_power k w (by omega)
  have hp2 := run_power k (sz w l h) (by omega)
  have e2 := sub_nat (a := 2 ^ w) (b := 2 ^ sz w l h) (Nat.pow_le_pow_right (by decide) z0)
  obtain ⟨_, e, _⟩ := wh_same (T := run txt (k + 1)) (sub := subL txt.sub) (w := w) (l := l) (h := h) (w + 1) fuel 0 (by show w + 1 < 1000000; omega) (by omega)
  have e0 : ((0 : Nat) : Int) = 0 := rfl
  rw [e0] at e
  have e : whL _ _ _ _ _ = Fl.nx [.im (.int (w : Nat)), .im (.int (l : Nat)), .im (.int (h : Nat)), .im (.int ((sz w l h : Nat) : Int))] := e
  simp only [b5, dE_cst, dE_glb, dE_var, dE_bin, dE_neg, dE_cmp, dE_chn, dE_and, dE_or, dE_not, dE_ite, dE_tup, dE_lst, dE_call, dE_blt, dE_mkb, dE_isi, dE_ix, dE_sl, dE_rev, dE_comp, dT_cst, dT_var, dT_bin, dT_cmp, dT_chn, dT_call, dT_blt, dT_isi, dT_ix, dT_ite, dT_and, dT_or, dT_not, dO_own, dO_ev, dBd_no, dBd_to, dBs_nil, dBs_cons, dEs_nil, dEs_cons, dIt_seq, dIt_rng1, dIt_rng2, dIt_enm, dIt_zip, dS_set, dS_unp, dS_par, dS_aug, dS_ret, dS_retN, dS_ite, dS_fo, dS_pass, dS_rai, dS_exp, dS_tr, dSs_nil, dSs_cons, go_nx, go_rt, go_exc, fl_ok, fl_exc, bind_ok, bind_exc, of_some, calm_ok, flof_some, look_0, look_s, lookB_im, lookB_ow, lookB_s, frzL_nil, frzL_cons, frz1_im, frz1_un, frz1_ow, frz1_s, tg_nm, tg_tp, tg_tpl, tgs_nil, tgs_cons, obind, set_0, set_s, lp_nx, lp_ct, lp_bk, lp_rt, lp_exc, out_rt, out_nx, out_exc, ownList, isFr, Bool.and_true, Bool.and_false, Bool.true_and, Bool.false_and, Bool.not_true, Bool.not_false, truD, if_true, if_false, Bool.false_eq_true, ↓reduceIte, startE_nil, startE_cons, reduceCtorEq, decide_true, decide_false, tyD, dS_wh]
  rw [e]
  simp only [dE_cst, dE_glb, dE_var, dE_bin, dE_neg, dE_cmp, dE_chn, dE_and, dE_or, dE_not, dE_ite, dE_tup, dE_lst, dE_call, dE_blt, dE_mkb, dE_isi, dE_ix, dE_sl, dE_rev, dE_comp, dT_cst, dT_var, dT_bin, dT_cmp, dT_chn, dT_call, dT_blt, dT_isi, dT_ix, dT_ite, dT_and, dT_or, dT_not, dO_own, dO_ev, dBd_no, dBd_to, dBs_nil, dBs_cons, dEs_nil, dEs_cons, dIt_seq, dIt_rng1, dIt_rng2, dIt_enm, dIt_zip, dS_set, dS_unp, dS_par, dS_aug, dS_ret, dS_retN, dS_ite, dS_fo, dS_pass, dS_rai, dS_exp, dS_tr, dSs_nil, dSs_cons, go_nx, go_rt, go_exc, fl_ok, fl_exc, bind_ok, bind_exc, of_some, calm_ok, flof_some, look_0, look_s, lookB_im, lookB_ow, lookB_s, frzL_nil, frzL_cons, frz1_im, frz1_un, frz1_ow, frz1_s, tg_nm, tg_tp, tg_tpl, tgs_nil, tgs_cons, obind, set_0, set_s, lp_nx, lp_ct, lp_bk, lp_rt, lp_exc, out_rt, out_nx, out_exc, ownList, isFr, Bool.and_true, Bool.and_false, Bool.true_and, Bool.false_and, Bool.not_true, Bool.not_false, truD, if_true, if_false, Bool.false_eq_true, ↓reduceIte, startE_nil, startE_cons, reduceCtorEq, decide_true, decide_false, tyD, hp, hp2, e2]
def spT (s : Span) : D := .tup [.int (s.o : Nat), .int (s.n : Nat), .int (s.lo : Nat), .int (s.hi : Nat)]
def oS : Option Span → D
  | none => .non
  | some s => spT s
theorem run_tight (k w : Nat) (s : Span) (h16 : w ≤ 16) (ok : s.Ok w) : run txt (k + 4) 6 [.int (w : Nat), spT s] = .ok (oS (tightN w s)) := by
  rw [run_s (d := d6) rfl rfl]
  show (dSs _ _ b6 [.im (.int (w : Nat)), .im (.tup [.int (s.o : Nat), .int (s.n : Nat), .int (s.lo : Nat), .int (s.hi : Nat)]), .un, .un, .un, .un, .un, .un, .un]).out = _
  unfold tightN
  by_cases c : s.o &&& s.n > 0
  · have c' : 0 < s.o &&& s.n := c
    rw [if_pos c]
    simp only [b6, dE_cst, dE_glb, dE_var, dE_bin, dE_neg, dE_cmp, dE_chn, dE_and, dE_or, dE_not, dE_ite, dE_tup, dE_lst, dE_call, dE_blt, dE_mkb, dE_isi, dE_ix, dE_sl, dE_rev, dE_comp, dT_cst, dT_var, dT_bin, dT_cmp, dT_chn, dT_call, dT_blt, dT_isi, dT_ix, dT_ite, dT_and, dT_or, dT_not, dO_own, dO_ev, dBd_no, dBd_to, dBs_nil, dBs_cons, dEs_nil, dEs_cons, dIt_seq, dIt_rng1, dIt_rng2, dIt_enm, dIt_zip, dS_set, dS_unp, dS_par, dS_aug, dS_ret, dS_retN, dS_ite, dS_fo, dS_pass, dS_rai, dS_exp, dS_tr, dSs_nil, dSs_cons, go_nx, go_rt, go_exc, fl_ok, fl_exc, bind_ok, bind_exc, of_some, calm_ok, flof_some, look_0, look_s, lookB_im, lookB_ow, lookB_s, frzL_nil, frzL_cons, frz1_im, frz1_un, frz1_ow, frz1_s, tg_nm, tg_tp, tg_tpl, tgs_nil, tgs_cons, obind, set_0, set_s, lp_nx, lp_ct, lp_bk, lp_rt, lp_exc, out_rt, out_nx, out_exc, ownList, isFr, Bool.and_true, Bool.and_false, Bool.true_and, Bool.false_and, Bool.not_true, Bool.not_false, truD, if_true, if_false, Bool.false_eq_true, ↓reduceIte, startE_nil, startE_cons, reduceCtorEq, decide_true, decide_false, tyD, and_nat, gt_zero, c', oS]
  · have c' : ¬ 0 < s.o &&& s.n := c
    have hc : s.o &&& s.n = 0 := by omega
    rw [if_neg c]
    have e1 := run_next (k + 1) w s.o s.n s.lo h16 ok.o ok.n ok.lo
    have e2 := run_last k w s.o s.n s.hi h16 ok.o ok.n ok.hi hc
    have nx := next_ok ok.o ok.n ok.lo hc
    have lx := last_ok ok.o ok.n ok.hi hc
    cases ql : next w s.o s.n s.lo with
    | none =>
      rw [ql] at e1
      simp only [oD] at e1
      simp only [b6, dE_cst, dE_glb, dE_var, dE_bin, dE_neg, dE_cmp, dE_chn, dE_and, dE_or, dE_not, dE_ite, dE_tup, dE_lst, dE_call, dE_blt, dE_mkb, dE_isi, dE_ix, dE_sl, dE_rev, dE_comp, dT_cst, dT_var, dT_bin, dT_cmp, dT_chn, dT_call, dT_blt, dT_isi, dT_ix, dT_ite, dT_and, dT_or, dT_not, dO_own, dO_ev, dBd_no, dBd_to, dBs_nil, dBs_cons, dEs_nil, dEs_cons, dIt_seq, dIt_rng1, dIt_rng2, dIt_enm, dIt_zip, dS_set, dS_unp, dS_par, dS_aug, dS_ret, dS_retN, dS_ite, dS_fo, dS_pass, dS_rai, dS_exp, dS_tr, dSs_nil, dSs_cons, go_nx, go_rt, go_exc, fl_ok, fl_exc, bind_ok, bind_exc, of_some, calm_ok, flof_some, look_0, look_s, lookB_im, lookB_ow, lookB_s, frzL_nil, frzL_cons, frz1_im, frz1_un, frz1_ow, frz1_s, tg_nm, tg_tp, tg_tpl, tgs_nil, tgs_cons, obind, set_0, set_s, lp_nx, lp_ct, lp_bk, lp_rt, lp_exc, out_rt, out_nx, out_exc, ownList, isFr, Bool.and_true, Bool.and_false, Bool.true_and, Bool.false_and, Bool.not_true, Bool.not_false, truD, if_true, if_false, Bool.false_eq_true, ↓reduceIte, startE_nil, startE_cons, reduceCtorEq, decide_true, decide_false, tyD, and_nat, gt_zero, c', oS, e1, e2, is_non]
    | some l =>
      cases qh : last w s.o s.n s.hi with
      | none =>
        rw [ql] at e1
        rw [qh] at e2
        simp only [oD] at e1 e2
        simp only [b6, dE_cst, dE_glb, dE_var, dE_bin, dE_neg, dE_cmp, dE_chn, dE_and, dE_or, dE_not, dE_ite, dE_tup, dE_lst, dE_call, dE_blt, dE_mkb, dE_isi, dE_ix, dE_sl, dE_rev, dE_comp, dT_cst, dT_var, dT_bin, dT_cmp, dT_chn, dT_call, dT_blt, dT_isi, dT_ix, dT_ite, dT_and, dT_or, dT_not, dO_own, dO_ev, dBd_no, dBd_to, dBs_nil, dBs_cons, dEs_nil, dEs_cons, dIt_seq, dIt_rng1, dIt_rng2, dIt_enm, dIt_zip, dS_set, dS_unp, dS_par, dS_aug, dS_ret, dS_retN, dS_ite, dS_fo, dS_pass, dS_rai, dS_exp, dS_tr, dSs_nil, dSs_cons, go_nx, go_rt, go_exc, fl_ok, fl_exc, bind_ok, bind_exc, of_some, calm_ok, flof_some, look_0, look_s, lookB_im, lookB_ow, lookB_s, frzL_nil, frzL_cons, frz1_im, frz1_un, frz1_ow, frz1_s, tg_nm, tg_tp, tg_tpl, tgs_nil, tgs_cons, obind, set_0, set_s, lp_nx, lp_ct, lp_bk, lp_rt, lp_exc, out_rt, out_nx, out_exc, ownList, isFr, Bool.and_true, Bool.and_false, Bool.true_and, Bool.false_and, Bool.not_true, Bool.not_false, truD, if_true, if_false, Bool.false_eq_true, ↓reduceIte, startE_nil, startE_cons, reduceCtorEq, decide_true, decide_false, tyD, and_nat, gt_zero, c', oS, e1, e2, is_non, is_int]
      | some h =>
        rw [ql] at e1 nx
        rw [qh] at e2 lx
        obtain ⟨⟨_, l2, _⟩, _⟩ := nx
        obtain ⟨⟨h1, _⟩, _⟩ := lx
        have h2 : h < 2 ^ w := Nat.lt_of_le_of_lt h1 ok.hi
        simp only [oD] at e1 e2
        by_cases g : l > h
        · have g' : h < l := g
          simp only [b6, dE_cst, dE_glb, dE_var, dE_bin, dE_neg, dE_cmp, dE_chn, dE_and, dE_or, dE_not, dE_ite, dE_tup, dE_lst, dE_call, dE_blt, dE_mkb, dE_isi, dE_ix, dE_sl, dE_rev, dE_comp, dT_cst, dT_var, dT_bin, dT_cmp, dT_chn, dT_call, dT_blt, dT_isi, dT_ix, dT_ite, dT_and, dT_or, dT_not, dO_own, dO_ev, dBd_no, dBd_to, dBs_nil, dBs_cons, dEs_nil, dEs_cons, dIt_seq, dIt_rng1, dIt_rng2, dIt_enm, dIt_zip, dS_set, dS_unp, dS_par, dS_aug, dS_ret, dS_retN, dS_ite, dS_fo, dS_pass, dS_rai, dS_exp, dS_tr, dSs_nil, dSs_cons, go_nx, go_rt, go_exc, fl_ok, fl_exc, bind_ok, bind_exc, of_some, calm_ok, flof_some, look_0, look_s, lookB_im, lookB_ow, lookB_s, frzL_nil, frzL_cons, frz1_im, frz1_un, frz1_ow, frz1_s, tg_nm, tg_tp, tg_tpl, tgs_nil, tgs_cons, obind, set_0, set_s, lp_nx, lp_ct, lp_bk, lp_rt, lp_exc, out_rt, out_nx, out_exc, ownList, isFr, Bool.and_true, Bool.and_false, Bool.true_and, Bool.false_and, Bool.not_true, Bool.not_false, truD, if_true, if_false, Bool.false_eq_true, ↓reduceIte, startE_nil, startE_cons, reduceCtorEq, decide_true, decide_false, tyD, and_nat, gt_zero, c', oS, e1, e2, is_int, gt_nat, g', gt_iff_lt]
        · have g' : ¬ h < l := g
          have e3 := run_ahead (k + 1) w l h h16 l2 h2 (by omega)
          have hp := run_power (k + 2) w (by omega)
          have f1 := sub_one (a := 2 ^ w) (p_pos w)
          have f2 := sub_nat (a := 2 ^ w - 1) (b := l) (by omega)
          simp only [b6, dE_cst, dE_glb, dE_var, dE_bin, dE_neg, dE_cmp, dE_chn, dE_and, dE_or, dE_not, dE_ite, dE_tup, dE_lst, dE_call, dE_blt, dE_mkb, dE_isi, dE_ix, dE_sl, dE_rev, dE_comp, dT_cst, dT_var, dT_bin, dT_cmp, dT_chn, dT_call, dT_blt, dT_isi, dT_ix, dT_ite, dT_and, dT_or, dT_not, dO_own, dO_ev, dBd_no, dBd_to, dBs_nil, dBs_cons, dEs_nil, dEs_cons, dIt_seq, dIt_rng1, dIt_rng2, dIt_enm, dIt_zip, dS_set, dS_unp, dS_par, dS_aug, dS_ret, dS_retN, dS_ite, dS_fo, dS_pass, dS_rai, dS_exp, dS_tr, dSs_nil, dSs_cons, go_nx, go_rt, go_exc, fl_ok, fl_exc, bind_ok, bind_exc, of_some, calm_ok, flof_some, look_0, look_s, lookB_im, lookB_ow, lookB_s, frzL_nil, frzL_cons, frz1_im, frz1_un, frz1_ow, frz1_s, tg_nm, tg_tp, tg_tpl, tgs_nil, tgs_cons, obind, set_0, set_s, lp_nx, lp_ct, lp_bk, lp_rt, lp_exc, out_rt, out_nx, out_exc, ownList, isFr, Bool.and_true, Bool.and_false, Bool.true_and, Bool.false_and, Bool.not_true, Bool.not_false, truD, if_true, if_false, Bool.false_eq_true, ↓reduceIte, startE_nil, startE_cons, reduceCtorEq, decide_true, decide_false, tyD, and_nat, or_nat, gt_zero, c', oS, e1, e2, is_int, gt_nat, g', gt_iff_lt, e3, hp, f1, f2, List.length_cons, List.length_nil, (by decide : (0 + 1 + 1 + 1 + 1 ≤ lim) = True)]
          rfl
end Law
namespace Law
open PySem PySem.Spec PyProof.Rows L2 Z
/-! ### what is checked -/
theorem run_check (k w : Nat) (h0 : 0 < w) (h16 : w ≤ 16) : run txt (k + 2) 10 [.int (w : Nat)] = .ok .non := by
  rw [run_s (d := d10) rfl rfl]
  show (dSs _ _ b10 [.im (.int (w : Nat))]).out = _
  simp only [b10, dE_cst, dE_glb, dE_var, dE_bin, dE_neg, dE_cmp, dE_chn, dE_and, dE_or, dE_not, dE_ite, dE_tup, dE_lst, dE_call, dE_blt, dE_mkb, dE_isi, dE_ix, dE_sl, dE_rev, dE_comp, dT_cst, dT_var, dT_bin, dT_cmp, dT_chn, dT_call, dT_blt, dT_isi, dT_ix, dT_ite, dT_and, dT_or, dT_not, dO_own, dO_ev, dBd_no, dBd_to, dBs_nil, dBs_cons, dEs_nil, dEs_cons, dIt_seq, dIt_rng1, dIt_rng2, dIt_enm, dIt_zip, dS_set, dS_unp, dS_par, dS_aug, dS_ret, dS_retN, dS_ite, dS_fo, dS_pass, dS_rai, dS_exp, dS_tr, dSs_nil, dSs_cons, go_nx, go_rt, go_exc, fl_ok, fl_exc, bind_ok, bind_exc, of_some, calm_ok, flof_some, look_0, look_s, lookB_im, lookB_ow, lookB_s, frzL_nil, frzL_cons, frz1_im, frz1_un, frz1_ow, frz1_s, tg_nm, tg_tp, tg_tpl, tgs_nil, tgs_cons, obind, set_0, set_s, lp_nx, lp_ct, lp_bk, lp_rt, lp_exc, out_rt, out_nx, out_exc, ownList, isFr, Bool.and_true, Bool.and_false, Bool.true_and, Bool.false_and, Bool.not_true, Bool.not_false, truD, if_true, if_false, Bool.false_eq_true, ↓reduceIte, startE_nil, startE_cons, reduceCtorEq, decide_true, decide_false, tyD, run_whole, decide_eq_true (by omega : (1 : Int) ≤ (w : Int)), decide_eq_true (by omega : (w : Int) ≤ 16)]
theorem run_wholeN (k w x : Nat) : run txt (k + 1) 0 [.int (x : Nat), .int 0, .int ((2 ^ w - 1 : Nat) : Int)] = .ok (.bl (decide (x < 2 ^ w))) := by
  rw [run_whole]
  have p1 := p_pos w
  rw [decide_eq_true (by omega : (0 : Int) ≤ (x : Int)), Bool.true_and]
  congr 2
  rw [decide_eq_decide]
  omega
theorem all_whole (k w : Nat) (xs : List Nat) (hx : ∀ x ∈ xs, x < 2 ^ w) {c : Env' → R Bool} {tg : D → Option Env'} {e : Env' → R D} (h : ∀ x ∈ xs, ∃ ρ, tg (.int (x : Nat)) = some ρ ∧ c ρ = .ok true ∧ e ρ = run txt (k + 1) 0 [.int (x : Nat), .int 0, .int ((2 ^ w - 1 : Nat) : Int)]) : compL tg c e (xs.map fun x : Nat => D.int (x : Nat)) = .ok (xs.map fun _ => D.bl true) := by
  have := compL_map (tg := tg) (c := c) (x := e) (fun _ => D.bl true) (xs.map fun x : Nat => D.int (x : Nat)) fun d hd => by
    obtain ⟨x, hm, rfl⟩ := List.mem_map.mp hd
    obtain ⟨ρ, h1, h2, h3⟩ := h x hm
    exact ⟨ρ, h1, h2, by rw [h3, run_wholeN, decide_eq_true (hx x hm)]⟩
  rw [this, List.map_map]
  rfl
theorem all_true {α : Type} (xs : List α) : bltD .all [.lst (xs.map fun _ => D.bl true)] = some (.bl true) := by
  show (blsOf (xs.map fun _ => D.bl true)).map (fun bs => D.bl (bs.all id)) = _
  have e : (xs.map fun _ => D.bl true) = (xs.map fun _ => true).map D.bl := by rw [List.map_map]; rfl
  rw [e, blsOf_bls]
  show some (D.bl ((xs.map fun _ => true).all id)) = _
  congr 2
  rw [List.all_eq_true]
  intro b hb
  obtain ⟨_, _, rfl⟩ := List.mem_map.mp hb
  rfl
theorem len_tup {xs : List D} : bltD .len [.tup xs] = some (.int xs.length) := nrfl rfl
theorem run_is_span (k w : Nat) (h16 : w ≤ 16) (s : Span) (ok : s.Ok w) : run txt (k + 2) 11 [.int (w : Nat), spT s] = .ok (.bl true) := by
  rw [run_s (d := d11) rfl rfl]
  show (dSs _ _ b11 [.im (.int (w : Nat)), .im (.tup [.int (s.o : Nat), .int (s.n : Nat), .int (s.lo : Nat), .int (s.hi : Nat)]), .un]).out = _
  have hp := run_power k w (by omega)
  have f1 := sub_one (a := 2 ^ w) (p_pos w)
  have comp := all_whole k w [s.o, s.n, s.lo, s.hi] (fun x hx => by
    simp only [List.mem_cons, List.not_mem_nil, or_false] at hx
    rcases hx with rfl | rfl | rfl | rfl
    · exact ok.o
    · exact ok.n
    · exact ok.lo
    · exact ok.hi) (tg := fun d => dTg (.nm 2) d (wipeE [.im (.int (w : Nat)), .im (.tup [.int (s.o : Nat), .int (s.n : Nat), .int (s.lo : Nat), .int (s.hi : Nat)]), .un] [2])) (c := dT (run txt (k + 1)) (.cst (.bl true))) (e := dE (run txt (k + 1)) (.call 0 (.cons (.var 2) (.cons (.cst (.int 0)) (.cons (.bin .sub (.call 1 (.cons (.var 0) .nil)) (.cst (.int 1))) .nil))))) fun x hx => ⟨[.im (.int (w : Nat)), .im (.tup [.int (s.o : Nat), .int (s.n : Nat), .int (s.lo : Nat), .int (s.hi : Nat)]), .im (.int (x : Nat))], rfl, rfl, by simp only [dE_cst, dE_glb, dE_var, dE_bin, dE_neg, dE_cmp, dE_chn, dE_and, dE_or, dE_not, dE_ite, dE_tup, dE_lst, dE_call, dE_blt, dE_mkb, dE_isi, dE_ix, dE_sl, dE_rev, dE_comp, dT_cst, dT_var, dT_bin, dT_cmp, dT_chn, dT_call, dT_blt, dT_isi, dT_ix, dT_ite, dT_and, dT_or, dT_not, dO_own, dO_ev, dBd_no, dBd_to, dBs_nil, dBs_cons, dEs_nil, dEs_cons, dIt_seq, dIt_rng1, dIt_rng2, dIt_enm, dIt_zip, dS_set, dS_unp, dS_par, dS_aug, dS_ret, dS_retN, dS_ite, dS_fo, dS_pass, dS_rai, dS_exp, dS_tr, dSs_nil, dSs_cons, go_nx, go_rt, go_exc, fl_ok, fl_exc, bind_ok, bind_exc, of_some, calm_ok, flof_some, look_0, look_s, lookB_im, lookB_ow, lookB_s, frzL_nil, frzL_cons, frz1_im, frz1_un, frz1_ow, frz1_s, tg_nm, tg_tp, tg_tpl, tgs_nil, tgs_cons, obind, set_0, set_s, lp_nx, lp_ct, lp_bk, lp_rt, lp_exc, out_rt, out_nx, out_exc, ownList, isFr, Bool.and_true, Bool.and_false, Bool.true_and, Bool.false_and, Bool.not_true, Bool.not_false, truD, if_true, if_false, Bool.false_eq_true, ↓reduceIte, startE_nil, startE_cons, reduceCtorEq, decide_true, decide_false, tyD, hp, f1]⟩
  simp only [tg_nm, List.map_cons, List.map_nil] at comp
  have at_ := all_true [s.o, s.n, s.lo, s.hi]
  simp only [List.map_cons, List.map_nil] at at_
  have l4 : cmpD .ne (.int ((0 + 1 + 1 + 1 + 1 : Nat) : Int)) (.int 4) = some false := by kernel_rfl
  simp only [b11, dE_cst, dE_glb, dE_var, dE_bin, dE_neg, dE_cmp, dE_chn, dE_and, dE_or, dE_not, dE_ite, dE_tup, dE_lst, dE_call, dE_blt, dE_mkb, dE_isi, dE_ix, dE_sl, dE_rev, dE_comp, dT_cst, dT_var, dT_bin, dT_cmp, dT_chn, dT_call, dT_blt, dT_isi, dT_ix, dT_ite, dT_and, dT_or, dT_not, dO_own, dO_ev, dBd_no, dBd_to, dBs_nil, dBs_cons, dEs_nil, dEs_cons, dIt_seq, dIt_rng1, dIt_rng2, dIt_enm, dIt_zip, dS_set, dS_unp, dS_par, dS_aug, dS_ret, dS_retN, dS_ite, dS_fo, dS_pass, dS_rai, dS_exp, dS_tr, dSs_nil, dSs_cons, go_nx, go_rt, go_exc, fl_ok, fl_exc, bind_ok, bind_exc, of_some, calm_ok, flof_some, look_0, look_s, lookB_im, lookB_ow, lookB_s, frzL_nil, frzL_cons, frz1_im, frz1_un, frz1_ow, frz1_s, tg_nm, tg_tp, tg_tpl, tgs_nil, tgs_cons, obind, set_0, set_s, lp_nx, lp_ct, lp_bk, lp_rt, lp_exc, out_rt, out_nx, out_exc, ownList, isFr, Bool.and_true, Bool.and_false, Bool.true_and, Bool.false_and, Bool.not_true, Bool.not_false, truD, if_true, if_false, Bool.false_eq_true, ↓reduceIte, startE_nil, startE_cons, reduceCtorEq, decide_true, decide_false, tyD, len_tup, List.length_cons, List.length_nil, l4, itemsD, (by decide : (0 + 1 + 1 + 1 + 1 < lim) = True), comp, at_]
theorem run_check_span (k w : Nat) (h16 : w ≤ 16) (s : Span) (ok : s.Ok w) : run txt (k + 3) 12 [.int (w : Nat), spT s] = .ok .non := by
  rw [run_s (d := d12) rfl rfl]
  show (dSs _ _ b12 [.im (.int (w : Nat)), .im (spT s)]).out = _
  simp only [b12, dE_cst, dE_glb, dE_var, dE_bin, dE_neg, dE_cmp, dE_chn, dE_and, dE_or, dE_not, dE_ite, dE_tup, dE_lst, dE_call, dE_blt, dE_mkb, dE_isi, dE_ix, dE_sl, dE_rev, dE_comp, dT_cst, dT_var, dT_bin, dT_cmp, dT_chn, dT_call, dT_blt, dT_isi, dT_ix, dT_ite, dT_and, dT_or, dT_not, dO_own, dO_ev, dBd_no, dBd_to, dBs_nil, dBs_cons, dEs_nil, dEs_cons, dIt_seq, dIt_rng1, dIt_rng2, dIt_enm, dIt_zip, dS_set, dS_unp, dS_par, dS_aug, dS_ret, dS_retN, dS_ite, dS_fo, dS_pass, dS_rai, dS_exp, dS_tr, dSs_nil, dSs_cons, go_nx, go_rt, go_exc, fl_ok, fl_exc, bind_ok, bind_exc, of_some, calm_ok, flof_some, look_0, look_s, lookB_im, lookB_ow, lookB_s, frzL_nil, frzL_cons, frz1_im, frz1_un, frz1_ow, frz1_s, tg_nm, tg_tp, tg_tpl, tgs_nil, tgs_cons, obind, set_0, set_s, lp_nx, lp_ct, lp_bk, lp_rt, lp_exc, out_rt, out_nx, out_exc, ownList, isFr, Bool.and_true, Bool.and_false, Bool.true_and, Bool.false_and, Bool.not_true, Bool.not_false, truD, if_true, if_false, Bool.false_eq_true, ↓reduceIte, startE_nil, startE_cons, reduceCtorEq, decide_true, decide_false, tyD, run_is_span k w h16 s ok]
theorem run_tightened (k w : Nat) (h0 : 0 < w) (h16 : w ≤ 16) (s : Span) (ok : s.Ok w) : run txt (k + 5) 14 [.int (w : Nat), spT s] = .ok (oS (tightN w s)) := by
  rw [run_s (d := d14) rfl rfl]
  show (dSs _ _ b14 [.im (.int (w : Nat)), .im (spT s)]).out = _
  simp only [b14, dE_cst, dE_glb, dE_var, dE_bin, dE_neg, dE_cmp, dE_chn, dE_and, dE_or, dE_not, dE_ite, dE_tup, dE_lst, dE_call, dE_blt, dE_mkb, dE_isi, dE_ix, dE_sl, dE_rev, dE_comp, dT_cst, dT_var, dT_bin, dT_cmp, dT_chn, dT_call, dT_blt, dT_isi, dT_ix, dT_ite, dT_and, dT_or, dT_not, dO_own, dO_ev, dBd_no, dBd_to, dBs_nil, dBs_cons, dEs_nil, dEs_cons, dIt_seq, dIt_rng1, dIt_rng2, dIt_enm, dIt_zip, dS_set, dS_unp, dS_par, dS_aug, dS_ret, dS_retN, dS_ite, dS_fo, dS_pass, dS_rai, dS_exp, dS_tr, dSs_nil, dSs_cons, go_nx, go_rt, go_exc, fl_ok, fl_exc, bind_ok, bind_exc, of_some, calm_ok, flof_some, look_0, look_s, lookB_im, lookB_ow, lookB_s, frzL_nil, frzL_cons, frz1_im, frz1_un, frz1_ow, frz1_s, tg_nm, tg_tp, tg_tpl, tgs_nil, tgs_cons, obind, set_0, set_s, lp_nx, lp_ct, lp_bk, lp_rt, lp_exc, out_rt, out_nx, out_exc, ownList, isFr, Bool.and_true, Bool.and_false, Bool.true_and, Bool.false_and, Bool.not_true, Bool.not_false, truD, if_true, if_false, Bool.false_eq_true, ↓reduceIte, startE_nil, startE_cons, reduceCtorEq, decide_true, decide_false, tyD, run_check (k + 2) w h0 h16, run_check_span (k + 1) w h16 s ok, run_tight k w s h16 ok]
theorem sp0 {s : Span} : ixD (spT s) (.int 0) = some (.int (s.o : Nat)) := nrfl rfl
theorem sp1 {s : Span} : ixD (spT s) (.int 1) = some (.int (s.n : Nat)) := nrfl rfl
theorem sp2 {s : Span} : ixD (spT s) (.int 2) = some (.int (s.lo : Nat)) := nrfl rfl
theorem sp3 {s : Span} : ixD (spT s) (.int 3) = some (.int (s.hi : Nat)) := nrfl rfl
theorem is_sp {s : Span} : cmpD .is (spT s) .non = some false := nrfl rfl
theorem run_meet (k w : Nat) (h16 : w ≤ 16) (s t : Span) (hs : s.Ok w) (ht : t.Ok w) : run txt (k + 5) 7 [.int (w : Nat), spT s, spT t] = .ok (oS (tightN w (meetS s t))) := by
  rw [run_s (d := d7) rfl rfl]
  show (dSs _ _ b7 [.im (.int (w : Nat)), .im (spT s), .im (spT t)]).out = _
  have e := run_tight k w (meetS s t) h16 (meet_ok hs ht)
  have e' : run txt (k + 4) 6 [.int (w : Nat), .tup [.int ((s.o ||| t.o : Nat) : Int), .int ((s.n ||| t.n : Nat) : Int), .int ((max s.lo t.lo : Nat) : Int), .int ((min s.hi t.hi : Nat) : Int)]] = _ := e
  simp only [b7, dE_cst, dE_glb, dE_var, dE_bin, dE_neg, dE_cmp, dE_chn, dE_and, dE_or, dE_not, dE_ite, dE_tup, dE_lst, dE_call, dE_blt, dE_mkb, dE_isi, dE_ix, dE_sl, dE_rev, dE_comp, dT_cst, dT_var, dT_bin, dT_cmp, dT_chn, dT_call, dT_blt, dT_isi, dT_ix, dT_ite, dT_and, dT_or, dT_not, dO_own, dO_ev, dBd_no, dBd_to, dBs_nil, dBs_cons, dEs_nil, dEs_cons, dIt_seq, dIt_rng1, dIt_rng2, dIt_enm, dIt_zip, dS_set, dS_unp, dS_par, dS_aug, dS_ret, dS_retN, dS_ite, dS_fo, dS_pass, dS_rai, dS_exp, dS_tr, dSs_nil, dSs_cons, go_nx, go_rt, go_exc, fl_ok, fl_exc, bind_ok, bind_exc, of_some, calm_ok, flof_some, look_0, look_s, lookB_im, lookB_ow, lookB_s, frzL_nil, frzL_cons, frz1_im, frz1_un, frz1_ow, frz1_s, tg_nm, tg_tp, tg_tpl, tgs_nil, tgs_cons, obind, set_0, set_s, lp_nx, lp_ct, lp_bk, lp_rt, lp_exc, out_rt, out_nx, out_exc, ownList, isFr, Bool.and_true, Bool.and_false, Bool.true_and, Bool.false_and, Bool.not_true, Bool.not_false, truD, if_true, if_false, Bool.false_eq_true, ↓reduceIte, startE_nil, startE_cons, reduceCtorEq, decide_true, decide_false, tyD, is_sp, sp0, sp1, sp2, sp3, or_nat, max_nat, min_nat, List.length_cons, List.length_nil, (by decide : (0 + 1 + 1 + 1 + 1 ≤ lim) = True), e']
theorem run_met (k w : Nat) (h0 : 0 < w) (h16 : w ≤ 16) (s t : Span) (hs : s.Ok w) (ht : t.Ok w) : run txt (k + 6) 15 [.int (w : Nat), spT s, spT t] = .ok (oS (tightN w (meetS s t))) := by
  rw [run_s (d := d15) rfl rfl]
  show (dSs _ _ b15 [.im (.int (w : Nat)), .im (spT s), .im (spT t)]).out = _
  simp only [b15, dE_cst, dE_glb, dE_var, dE_bin, dE_neg, dE_cmp, dE_chn, dE_and, dE_or, dE_not, dE_ite, dE_tup, dE_lst, dE_call, dE_blt, dE_mkb, dE_isi, dE_ix, dE_sl, dE_rev, dE_comp, dT_cst, dT_var, dT_bin, dT_cmp, dT_chn, dT_call, dT_blt, dT_isi, dT_ix, dT_ite, dT_and, dT_or, dT_not, dO_own, dO_ev, dBd_no, dBd_to, dBs_nil, dBs_cons, dEs_nil, dEs_cons, dIt_seq, dIt_rng1, dIt_rng2, dIt_enm, dIt_zip, dS_set, dS_unp, dS_par, dS_aug, dS_ret, dS_retN, dS_ite, dS_fo, dS_pass, dS_rai, dS_exp, dS_tr, dSs_nil, dSs_cons, go_nx, go_rt, go_exc, fl_ok, fl_exc, bind_ok, bind_exc, of_some, calm_ok, flof_some, look_0, look_s, lookB_im, lookB_ow, lookB_s, frzL_nil, frzL_cons, frz1_im, frz1_un, frz1_ow, frz1_s, tg_nm, tg_tp, tg_tpl, tgs_nil, tgs_cons, obind, set_0, set_s, lp_nx, lp_ct, lp_bk, lp_rt, lp_exc, out_rt, out_nx, out_exc, ownList, isFr, Bool.and_true, Bool.and_false, Bool.true_and, Bool.false_and, Bool.not_true, Bool.not_false, truD, if_true, if_false, Bool.false_eq_true, ↓reduceIte, startE_nil, startE_cons, reduceCtorEq, decide_true, decide_false, tyD, run_check (k + 3) w h0 h16, run_check_span (k + 2) w h16 s hs, run_check_span (k + 2) w h16 t ht, run_meet k w h16 s t hs ht]
theorem run_fits (k w : Nat) (s : Span) (x : Nat) : run txt (k + 1) 2 [spT s, .int (x : Nat)] = .ok (.bl (s.has x)) := by
  rw [run_s (d := d2) rfl rfl]
  show (dSs _ _ b2 [.im (.tup [.int (s.o : Nat), .int (s.n : Nat), .int (s.lo : Nat), .int (s.hi : Nat)]), .im (.int (x : Nat)), .un, .un, .un, .un]).out = _
  unfold Span.has
  cases c1 : (x &&& s.o == s.o) with
  | false =>
    rw [decide_eq_false (fun z : fits s.o s.n x => by rw [z.1] at c1; simp at c1)]
    simp only [b2, dE_cst, dE_glb, dE_var, dE_bin, dE_neg, dE_cmp, dE_chn, dE_and, dE_or, dE_not, dE_ite, dE_tup, dE_lst, dE_call, dE_blt, dE_mkb, dE_isi, dE_ix, dE_sl, dE_rev, dE_comp, dT_cst, dT_var, dT_bin, dT_cmp, dT_chn, dT_call, dT_blt, dT_isi, dT_ix, dT_ite, dT_and, dT_or, dT_not, dO_own, dO_ev, dBd_no, dBd_to, dBs_nil, dBs_cons, dEs_nil, dEs_cons, dIt_seq, dIt_rng1, dIt_rng2, dIt_enm, dIt_zip, dS_set, dS_unp, dS_par, dS_aug, dS_ret, dS_retN, dS_ite, dS_fo, dS_pass, dS_rai, dS_exp, dS_tr, dSs_nil, dSs_cons, go_nx, go_rt, go_exc, fl_ok, fl_exc, bind_ok, bind_exc, of_some, calm_ok, flof_some, look_0, look_s, lookB_im, lookB_ow, lookB_s, frzL_nil, frzL_cons, frz1_im, frz1_un, frz1_ow, frz1_s, tg_nm, tg_tp, tg_tpl, tgs_nil, tgs_cons, obind, set_0, set_s, lp_nx, lp_ct, lp_bk, lp_rt, lp_exc, out_rt, out_nx, out_exc, ownList, isFr, Bool.and_true, Bool.and_false, Bool.true_and, Bool.false_and, Bool.not_true, Bool.not_false, truD, if_true, if_false, Bool.false_eq_true, ↓reduceIte, startE_nil, startE_cons, reduceCtorEq, decide_true, decide_false, tyD, and_nat, eq_nat, c1]
  | true =>
    cases c2 : (x &&& s.n == 0) with
    | false =>
      rw [decide_eq_false (fun z : fits s.o s.n x => by rw [z.2] at c2; simp at c2)]
      simp only [b2, dE_cst, dE_glb, dE_var, dE_bin, dE_neg, dE_cmp, dE_chn, dE_and, dE_or, dE_not, dE_ite, dE_tup, dE_lst, dE_call, dE_blt, dE_mkb, dE_isi, dE_ix, dE_sl, dE_rev, dE_comp, dT_cst, dT_var, dT_bin, dT_cmp, dT_chn, dT_call, dT_blt, dT_isi, dT_ix, dT_ite, dT_and, dT_or, dT_not, dO_own, dO_ev, dBd_no, dBd_to, dBs_nil, dBs_cons, dEs_nil, dEs_cons, dIt_seq, dIt_rng1, dIt_rng2, dIt_enm, dIt_zip, dS_set, dS_unp, dS_par, dS_aug, dS_ret, dS_retN, dS_ite, dS_fo, dS_pass, dS_rai, dS_exp, dS_tr, dSs_nil, dSs_cons, go_nx, go_rt, go_exc, fl_ok, fl_exc, bind_ok, bind_exc, of_some, calm_ok, flof_some, look_0, look_s, lookB_im, lookB_ow, lookB_s, frzL_nil, frzL_cons, frz1_im, frz1_un, frz1_ow, frz1_s, tg_nm, tg_tp, tg_tpl, tgs_nil, tgs_cons, obind, set_0, set_s, lp_nx, lp_ct, lp_bk, lp_rt, lp_exc, out_rt, out_nx, out_exc, ownList, isFr, Bool.and_true, Bool.and_false, Bool.true_and, Bool.false_and, Bool.not_true, Bool.not_false, truD, if_true, if_false, Bool.false_eq_true, ↓reduceIte, startE_nil, startE_cons, reduceCtorEq, decide_true, decide_false, tyD, and_nat, eq_nat, eq_zero, c1, c2]
    | true =>
      rw [decide_eq_true (show fits s.o s.n x from ⟨eq_of_beq c1, eq_of_beq c2⟩)]
      by_cases c3 : s.lo ≤ x
      · simp only [b2, dE_cst, dE_glb, dE_var, dE_bin, dE_neg, dE_cmp, dE_chn, dE_and, dE_or, dE_not, dE_ite, dE_tup, dE_lst, dE_call, dE_blt, dE_mkb, dE_isi, dE_ix, dE_sl, dE_rev, dE_comp, dT_cst, dT_var, dT_bin, dT_cmp, dT_chn, dT_call, dT_blt, dT_isi, dT_ix, dT_ite, dT_and, dT_or, dT_not, dO_own, dO_ev, dBd_no, dBd_to, dBs_nil, dBs_cons, dEs_nil, dEs_cons, dIt_seq, dIt_rng1, dIt_rng2, dIt_enm, dIt_zip, dS_set, dS_unp, dS_par, dS_aug, dS_ret, dS_retN, dS_ite, dS_fo, dS_pass, dS_rai, dS_exp, dS_tr, dSs_nil, dSs_cons, go_nx, go_rt, go_exc, fl_ok, fl_exc, bind_ok, bind_exc, of_some, calm_ok, flof_some, look_0, look_s, lookB_im, lookB_ow, lookB_s, frzL_nil, frzL_cons, frz1_im, frz1_un, frz1_ow, frz1_s, tg_nm, tg_tp, tg_tpl, tgs_nil, tgs_cons, obind, set_0, set_s, lp_nx, lp_ct, lp_bk, lp_rt, lp_exc, out_rt, out_nx, out_exc, ownList, isFr, Bool.and_true, Bool.and_false, Bool.true_and, Bool.false_and, Bool.not_true, Bool.not_false, truD, if_true, if_false, Bool.false_eq_true, ↓reduceIte, startE_nil, startE_cons, reduceCtorEq, decide_true, decide_false, tyD, and_nat, eq_nat, eq_zero, c1, c2, le_nat, c3]
      · simp only [b2, dE_cst, dE_glb, dE_var, dE_bin, dE_neg, dE_cmp, dE_chn, dE_and, dE_or, dE_not, dE_ite, dE_tup, dE_lst, dE_call, dE_blt, dE_mkb, dE_isi, dE_ix, dE_sl, dE_rev, dE_comp, dT_cst, dT_var, dT_bin, dT_cmp, dT_chn, dT_call, dT_blt, dT_isi, dT_ix, dT_ite, dT_and, dT_or, dT_not, dO_own, dO_ev, dBd_no, dBd_to, dBs_nil, dBs_cons, dEs_nil, dEs_cons, dIt_seq, dIt_rng1, dIt_rng2, dIt_enm, dIt_zip, dS_set, dS_unp, dS_par, dS_aug, dS_ret, dS_retN, dS_ite, dS_fo, dS_pass, dS_rai, dS_exp, dS_tr, dSs_nil, dSs_cons, go_nx, go_rt, go_exc, fl_ok, fl_exc, bind_ok, bind_exc, of_some, calm_ok, flof_some, look_0, look_s, lookB_im, lookB_ow, lookB_s, frzL_nil, frzL_cons, frz1_im, frz1_un, frz1_ow, frz1_s, tg_nm, tg_tp, tg_tpl, tgs_nil, tgs_cons, obind, set_0, set_s, lp_nx, lp_ct, lp_bk, lp_rt, lp_exc, out_rt, out_nx, out_exc, ownList, isFr, Bool.and_true, Bool.and_false, Bool.true_and, Bool.false_and, Bool.not_true, Bool.not_false, truD, if_true, if_false, Bool.false_eq_true, ↓reduceIte, startE_nil, startE_cons, reduceCtorEq, decide_true, decide_false, tyD, and_nat, eq_nat, eq_zero, c1, c2, le_nat, c3]
theorem run_is_within (k w : Nat) (h0 : 0 < w) (h16 : w ≤ 16) (s : Span) (hs : s.Ok w) (x : Nat) (hx : x < 2 ^ w) : run txt (k + 4) 13 [.int (w : Nat), spT s, .int (x : Nat)] = .ok (.bl (s.has x)) := by
  rw [run_s (d := d13) rfl rfl]
  show (dSs _ _ b13 [.im (.int (w : Nat)), .im (spT s), .im (.int (x : Nat))]).out = _
  have hp := run_power (k + 2) w (by omega)
  have f1 := sub_one (a := 2 ^ w) (p_pos w)
  simp only [b13, dE_cst, dE_glb, dE_var, dE_bin, dE_neg, dE_cmp, dE_chn, dE_and, dE_or, dE_not, dE_ite, dE_tup, dE_lst, dE_call, dE_blt, dE_mkb, dE_isi, dE_ix, dE_sl, dE_rev, dE_comp, dT_cst, dT_var, dT_bin, dT_cmp, dT_chn, dT_call, dT_blt, dT_isi, dT_ix, dT_ite, dT_and, dT_or, dT_not, dO_own, dO_ev, dBd_no, dBd_to, dBs_nil, dBs_cons, dEs_nil, dEs_cons, dIt_seq, dIt_rng1, dIt_rng2, dIt_enm, dIt_zip, dS_set, dS_unp, dS_par, dS_aug, dS_ret, dS_retN, dS_ite, dS_fo, dS_pass, dS_rai, dS_exp, dS_tr, dSs_nil, dSs_cons, go_nx, go_rt, go_exc, fl_ok, fl_exc, bind_ok, bind_exc, of_some, calm_ok, flof_some, look_0, look_s, lookB_im, lookB_ow, lookB_s, frzL_nil, frzL_cons, frz1_im, frz1_un, frz1_ow, frz1_s, tg_nm, tg_tp, tg_tpl, tgs_nil, tgs_cons, obind, set_0, set_s, lp_nx, lp_ct, lp_bk, lp_rt, lp_exc, out_rt, out_nx, out_exc, ownList, isFr, Bool.and_true, Bool.and_false, Bool.true_and, Bool.false_and, Bool.not_true, Bool.not_false, truD, if_true, if_false, Bool.false_eq_true, ↓reduceIte, startE_nil, startE_cons, reduceCtorEq, decide_true, decide_false, tyD, run_check (k + 1) w h0 h16, run_check_span k w h16 s hs, hp, f1, run_wholeN, decide_eq_true hx, run_fits (k + 2) w]
theorem run_not_within (k w : Nat) (h0 : 0 < w) (h16 : w ≤ 16) (s : Span) (hs : s.Ok w) (d : D) (hd : run txt (k + 3) 0 [d, .int 0, .int ((2 ^ w - 1 : Nat) : Int)] = .ok (.bl false)) : run txt (k + 4) 13 [.int (w : Nat), spT s, d] = .ok (.bl false) := by
  rw [run_s (d := d13) rfl rfl]
  show (dSs _ _ b13 [.im (.int (w : Nat)), .im (spT s), .im d]).out = _
  have hp := run_power (k + 2) w (by omega)
  have f1 := sub_one (a := 2 ^ w) (p_pos w)
  simp only [b13, dE_cst, dE_glb, dE_var, dE_bin, dE_neg, dE_cmp, dE_chn, dE_and, dE_or, dE_not, dE_ite, dE_tup, dE_lst, dE_call, dE_blt, dE_mkb, dE_isi, dE_ix, dE_sl, dE_rev, dE_comp, dT_cst, dT_var, dT_bin, dT_cmp, dT_chn, dT_call, dT_blt, dT_isi, dT_ix, dT_ite, dT_and, dT_or, dT_not, dO_own, dO_ev, dBd_no, dBd_to, dBs_nil, dBs_cons, dEs_nil, dEs_cons, dIt_seq, dIt_rng1, dIt_rng2, dIt_enm, dIt_zip, dS_set, dS_unp, dS_par, dS_aug, dS_ret, dS_retN, dS_ite, dS_fo, dS_pass, dS_rai, dS_exp, dS_tr, dSs_nil, dSs_cons, go_nx, go_rt, go_exc, fl_ok, fl_exc, bind_ok, bind_exc, of_some, calm_ok, flof_some, look_0, look_s, lookB_im, lookB_ow, lookB_s, frzL_nil, frzL_cons, frz1_im, frz1_un, frz1_ow, frz1_s, tg_nm, tg_tp, tg_tpl, tgs_nil, tgs_cons, obind, set_0, set_s, lp_nx, lp_ct, lp_bk, lp_rt, lp_exc, out_rt, out_nx, out_exc, ownList, isFr, Bool.and_true, Bool.and_false, Bool.true_and, Bool.false_and, Bool.not_true, Bool.not_false, truD, if_true, if_false, Bool.false_eq_true, ↓reduceIte, startE_nil, startE_cons, reduceCtorEq, decide_true, decide_false, tyD, run_check (k + 1) w h0 h16, run_check_span k w h16 s hs, hp, f1, hd]
end Law
namespace Law
open PySem PySem.Spec PyProof.Rows L2 Z
def nD (x : Nat) : D := .int (x : Nat)
theorem intsOf_nat (xs : List Nat) : intsOf (xs.map nD) = some (xs.map fun x : Nat => (x : Int)) := by
  have := intsOf_ints (xs.map fun x : Nat => (x : Int))
  rw [List.map_map] at this
  exact this
theorem least_nat : ∀ {xs : List Nat} {l : Nat}, l ∈ xs → (∀ x ∈ xs, l ≤ x) → least (xs.map fun x : Nat => (x : Int)) = some (l : Int)
  | [], l, h, _ => by cases h
  | [x], l, h, _ => by rw [List.mem_singleton.mp h]; rfl
  | x :: y :: r, l, h, hl => by
    have un : least ((x :: y :: r).map fun x : Nat => (x : Int)) = (least ((y :: r).map fun x : Nat => (x : Int))).map fun m => if m < (x : Int) then m else (x : Int) := rfl
    rw [un]
    have hx := hl x List.mem_cons_self
    by_cases hm : l ∈ y :: r
    · rw [least_nat hm fun z hz => hl z (List.mem_cons_of_mem _ hz)]
      show some (if (l : Int) < (x : Int) then (l : Int) else (x : Int)) = _
      congr 1
      split <;> omega
    · have e : l = x := by
        rcases List.mem_cons.mp h with q | q
        · exact q
        · exact absurd q hm
      subst e
      obtain ⟨m, hm1, hm2⟩ : ∃ m, m ∈ y :: r ∧ ∀ z ∈ y :: r, m ≤ z := by
        have : ∀ (k : Nat) (ys : List Nat), ys.length = k → ys ≠ [] → ∃ m, m ∈ ys ∧ ∀ z ∈ ys, m ≤ z := by
          intro k
          induction k with
          | zero => intro ys h1 h2; exact absurd (List.length_eq_zero_iff.mp h1) h2
          | succ k ih =>
            intro ys h1 h2
            match ys, h1 with
            | [a], _ => exact ⟨a, by simp, by simp⟩
            | a :: b :: c, h1 =>
              obtain ⟨m, q1, q2⟩ := ih (b :: c) (by simpa using h1) (by simp)
              rcases Nat.le_total a m with z | z
              · exact ⟨a, by simp, fun t ht => by
                  rcases List.mem_cons.mp ht with rfl | ht
                  · exact Nat.le_refl _
                  · exact Nat.le_trans z (q2 t ht)⟩
              · exact ⟨m, List.mem_cons_of_mem _ q1, fun t ht => by
                  rcases List.mem_cons.mp ht with rfl | ht
                  · exact z
                  · exact q2 t ht⟩
        exact this _ _ rfl (by simp)
      rw [least_nat hm1 hm2]
      show some (if (m : Int) < (l : Int) then (m : Int) else (l : Int)) = _
      have := hl m (List.mem_cons_of_mem _ hm1)
      congr 1
      split <;> omega
theorem greatest_nat : ∀ {xs : List Nat} {l : Nat}, l ∈ xs → (∀ x ∈ xs, x ≤ l) → greatest (xs.map fun x : Nat => (x : Int)) = some (l : Int)
  | [], l, h, _ => by cases h
  | [x], l, h, _ => by rw [List.mem_singleton.mp h]; rfl
  | x :: y :: r, l, h, hl => by
    have un : greatest ((x :: y :: r).map fun x : Nat => (x : Int)) = (greatest ((y :: r).map fun x : Nat => (x : Int))).map fun m => if m > (x : Int) then m else (x : Int) := rfl
    rw [un]
    have hx := hl x List.mem_cons_self
    by_cases hm : l ∈ y :: r
    · rw [greatest_nat hm fun z hz => hl z (List.mem_cons_of_mem _ hz)]
      show some (if (l : Int) > (x : Int) then (l : Int) else (x : Int)) = _
      congr 1
      split <;> omega
    · have e : l = x := by
        rcases List.mem_cons.mp h with q | q
        · exact q
        · exact absurd q hm
      subst e
      obtain ⟨m, hm1, hm2⟩ : ∃ m, m ∈ y :: r ∧ ∀ z ∈ y :: r, z ≤ m := by
        have : ∀ (k : Nat) (ys : List Nat), ys.length = k → ys ≠ [] → ∃ m, m ∈ ys ∧ ∀ z ∈ ys, z ≤ m := by
          intro k
          induction k with
          | zero => intro ys h1 h2; exact absurd (List.length_eq_zero_iff.mp h1) h2
          | succ k ih =>
            intro ys h1 h2
            match ys, h1 with
            | [a], _ => exact ⟨a, by simp, by simp⟩
            | a :: b :: c, h1 =>
              obtain ⟨m, q1, q2⟩ := ih (b :: c) (by simpa using h1) (by simp)
              rcases Nat.le_total m a with z | z
              · exact ⟨a, by simp, fun t ht => by
                  rcases List.mem_cons.mp ht with rfl | ht
                  · exact Nat.le_refl _
                  · exact Nat.le_trans (q2 t ht) z⟩
              · exact ⟨m, List.mem_cons_of_mem _ q1, fun t ht => by
                  rcases List.mem_cons.mp ht with rfl | ht
                  · exact z
                  · exact q2 t ht⟩
        exact this _ _ rfl (by simp)
      rw [greatest_nat hm1 hm2]
      show some (if (m : Int) > (l : Int) then (m : Int) else (l : Int)) = _
      have := hl m (List.mem_cons_of_mem _ hm1)
      congr 1
      split <;> omega
theorem minT_nat {xs : List Nat} {l : Nat} (h : l ∈ xs) (h2 : ∀ x ∈ xs, l ≤ x) : bltD .min [.tup (xs.map nD)] = some (nD l) := by
  show (intsOf (xs.map nD)).bind (fun ns => (least ns).map D.int) = _
  rw [intsOf_nat, Option.bind_some, least_nat h h2]
  rfl
theorem maxT_nat {xs : List Nat} {l : Nat} (h : l ∈ xs) (h2 : ∀ x ∈ xs, x ≤ l) : bltD .max [.tup (xs.map nD)] = some (nD l) := by
  show (intsOf (xs.map nD)).bind (fun ns => (greatest ns).map D.int) = _
  rw [intsOf_nat, Option.bind_some, greatest_nat h h2]
  rfl
theorem minL_nat {xs : List Nat} {l : Nat} (h : l ∈ xs) (h2 : ∀ x ∈ xs, l ≤ x) : bltD .min [.lst (xs.map nD)] = some (nD l) := by
  show (intsOf (xs.map nD)).bind (fun ns => (least ns).map D.int) = _
  rw [intsOf_nat, Option.bind_some, least_nat h h2]
  rfl
theorem maxL_nat {xs : List Nat} {l : Nat} (h : l ∈ xs) (h2 : ∀ x ∈ xs, x ≤ l) : bltD .max [.lst (xs.map nD)] = some (nD l) := by
  show (intsOf (xs.map nD)).bind (fun ns => (greatest ns).map D.int) = _
  rw [intsOf_nat, Option.bind_some, greatest_nat h h2]
  rfl
/-! ### the hull -/
def foO (xs : List Nat) (a : Nat) : Nat := xs.foldl (fun a x => a &&& x) a
def foN (w : Nat) (xs : List Nat) (a : Nat) : Nat := xs.foldl (fun a x => a &&& (2 ^ w - 1 - x)) a
theorem foO_bit (i : Nat) : ∀ (xs : List Nat) (a : Nat), (foO xs a).testBit i = (a.testBit i && xs.all fun x => x.testBit i)
  | [], a => by simp [foO]
  | x :: r, a => by
    have e : foO (x :: r) a = foO r (a &&& x) := rfl
    rw [e, foO_bit i r, Nat.testBit_and, List.all_cons, Bool.and_assoc]
theorem foN_bit {w : Nat} (i : Nat) (hi : i < w) : ∀ (xs : List Nat) (a : Nat), (∀ x ∈ xs, x < 2 ^ w) → (foN w xs a).testBit i = (a.testBit i && xs.all fun x => !x.testBit i)
  | [], a, _ => by simp [foN]
  | x :: r, a, h => by
    have e : foN w (x :: r) a = foN w r (a &&& (2 ^ w - 1 - x)) := rfl
    rw [e, foN_bit i hi r _ fun y hy => h y (List.mem_cons_of_mem _ hy), Nat.testBit_and, compl_bit (h x List.mem_cons_self), decide_eq_true hi, List.all_cons, Bool.and_assoc, Bool.true_and]
theorem foN_lt {w : Nat} : ∀ (xs : List Nat) (a : Nat), a < 2 ^ w → foN w xs a < 2 ^ w
  | [], a, h => h
  | x :: r, a, h => foN_lt r _ (Nat.lt_of_le_of_lt Nat.and_le_left h)
theorem foO_num {w : Nat} (xs : List Nat) : foO xs (2 ^ w - 1) = num w fun k => xs.all fun x => x.testBit k := by
  apply Nat.eq_of_testBit_eq
  intro i
  rw [foO_bit, num_bit, Nat.testBit_two_pow_sub_one]
theorem foN_num {w : Nat} (xs : List Nat) (h : ∀ x ∈ xs, x < 2 ^ w) : foN w xs (2 ^ w - 1) = num w fun k => xs.all fun x => !x.testBit k := by
  apply Nat.eq_of_testBit_eq
  intro i
  rw [num_bit]
  by_cases hi : i < w
  · rw [foN_bit i hi xs _ h, Nat.testBit_two_pow_sub_one]
  · rw [decide_eq_false hi, Bool.false_and]
    exact Nat.testBit_lt_two_pow (Nat.lt_of_lt_of_le (foN_lt xs _ (by have := p_pos w; omega)) (Nat.pow_le_pow_right (by decide) (by omega)))
theorem loop_hull {T : Nat → List D → R D} {sub} {w : Nat} (h16 : w ≤ 16) (hp : T 1 [.int (w : Nat)] = .ok (.int ((2 ^ w : Nat) : Int))) (vals : D) : ∀ (xs : List Nat) (a b : Nat) (s2 : Slot), (∀ x ∈ xs, x < 2 ^ w) → ∃ s2', forL (dTg (.nm 2)) (dSs T sub (.cons (.par [] 3 4 (.cons (.bin .and (.var 3) (.var 2)) (.cons (.bin .and (.var 4) (.bin .sub (.bin .sub (.call 1 (.cons (.var 0) .nil)) (.cst (.int 1))) (.var 2))) .nil))) .nil)) (xs.map nD) [.im (.int (w : Nat)), .im vals, s2, .im (.int (a : Nat)), .im (.int (b : Nat))] = .nx [.im (.int (w : Nat)), .im vals, s2', .im (.int (foO xs a : Nat)), .im (.int (foN w xs b : Nat))]
  | [], a, b, s2, _ => ⟨s2, rfl⟩
  | x :: r, a, b, s2, h => by
    have hx := h x List.mem_cons_self
    obtain ⟨s2', ih⟩ := loop_hull (sub := sub) h16 hp vals r (a &&& x) (b &&& (2 ^ w - 1 - x)) (.im (.int (x : Nat))) fun y hy => h y (List.mem_cons_of_mem _ hy)
    refine ⟨s2', ?_⟩
    have f1 := sub_one (a := 2 ^ w) (p_pos w)
    have f2 := sub_nat (a := 2 ^ w - 1) (b := x) (by omega)
    rw [List.map_cons, forL_cons (ρ1 := [.im (.int (w : Nat)), .im vals, .im (.int (x : Nat)), .im (.int (a : Nat)), .im (.int (b : Nat))]) rfl]
    simp only [dE_cst, dE_glb, dE_var, dE_bin, dE_neg, dE_cmp, dE_chn, dE_and, dE_or, dE_not, dE_ite, dE_tup, dE_lst, dE_call, dE_blt, dE_mkb, dE_isi, dE_ix, dE_sl, dE_rev, dE_comp, dT_cst, dT_var, dT_bin, dT_cmp, dT_chn, dT_call, dT_blt, dT_isi, dT_ix, dT_ite, dT_and, dT_or, dT_not, dO_own, dO_ev, dBd_no, dBd_to, dBs_nil, dBs_cons, dEs_nil, dEs_cons, dIt_seq, dIt_rng1, dIt_rng2, dIt_enm, dIt_zip, dS_set, dS_unp, dS_par, dS_aug, dS_ret, dS_retN, dS_ite, dS_fo, dS_pass, dS_rai, dS_exp, dS_tr, dSs_nil, dSs_cons, go_nx, go_rt, go_exc, fl_ok, fl_exc, bind_ok, bind_exc, of_some, calm_ok, flof_some, look_0, look_s, lookB_im, lookB_ow, lookB_s, frzL_nil, frzL_cons, frz1_im, frz1_un, frz1_ow, frz1_s, tg_nm, tg_tp, tg_tpl, tgs_nil, tgs_cons, obind, set_0, set_s, lp_nx, lp_ct, lp_bk, lp_rt, lp_exc, out_rt, out_nx, out_exc, ownList, isFr, Bool.and_true, Bool.and_false, Bool.true_and, Bool.false_and, Bool.not_true, Bool.not_false, truD, if_true, if_false, Bool.false_eq_true, ↓reduceIte, startE_nil, startE_cons, reduceCtorEq, decide_true, decide_false, tyD, and_nat, hp, f1, f2]
    exact ih
theorem run_hull (k w : Nat) (h16 : w ≤ 16) (xs : List Nat) (l h : Nat) (e : Ends xs l h) (lt : ∀ x ∈ xs, x < 2 ^ w) : run txt (k + 2) 8 [.int (w : Nat), .tup (xs.map nD)] = .ok (spT (hullN w xs l h)) := by
  rw [run_s (d := d8) rfl rfl]
  show (dSs _ _ b8 [.im (.int (w : Nat)), .im (.tup (xs.map nD)), .un, .un, .un]).out = _
  have hp := run_power k w (by omega)
  have f1 := sub_one (a := 2 ^ w) (p_pos w)
  have ne : xs.length ≠ 0 := fun z => by
    have := e.1
    rw [List.length_eq_zero_iff.mp z] at this
    cases this
  have l0 : cmpD .eq (.int ((xs.length : Nat) : Int)) (.int 0) = some false := by
    rw [eq_zero]
    congr 1
    simpa using ne
  obtain ⟨s2', lp⟩ := loop_hull (T := run txt (k + 1)) (sub := subL txt.sub) h16 hp (.tup (xs.map nD)) xs (2 ^ w - 1) (2 ^ w - 1) .un lt
  have mn := minT_nat e.1 fun x hx => (e.2.2 x hx).1
  have mx := maxT_nat e.2.1 fun x hx => (e.2.2 x hx).2
  simp only [b8, dE_cst, dE_glb, dE_var, dE_bin, dE_neg, dE_cmp, dE_chn, dE_and, dE_or, dE_not, dE_ite, dE_tup, dE_lst, dE_call, dE_blt, dE_mkb, dE_isi, dE_ix, dE_sl, dE_rev, dE_comp, dT_cst, dT_var, dT_bin, dT_cmp, dT_chn, dT_call, dT_blt, dT_isi, dT_ix, dT_ite, dT_and, dT_or, dT_not, dO_own, dO_ev, dBd_no, dBd_to, dBs_nil, dBs_cons, dEs_nil, dEs_cons, dIt_seq, dIt_rng1, dIt_rng2, dIt_enm, dIt_zip, dS_set, dS_unp, dS_par, dS_aug, dS_ret, dS_retN, dS_ite, dS_fo, dS_pass, dS_rai, dS_exp, dS_tr, dSs_nil, dSs_cons, go_nx, go_rt, go_exc, fl_ok, fl_exc, bind_ok, bind_exc, of_some, calm_ok, flof_some, look_0, look_s, lookB_im, lookB_ow, lookB_s, frzL_nil, frzL_cons, frz1_im, frz1_un, frz1_ow, frz1_s, tg_nm, tg_tp, tg_tpl, tgs_nil, tgs_cons, obind, set_0, set_s, lp_nx, lp_ct, lp_bk, lp_rt, lp_exc, out_rt, out_nx, out_exc, ownList, isFr, Bool.and_true, Bool.and_false, Bool.true_and, Bool.false_and, Bool.not_true, Bool.not_false, truD, if_true, if_false, Bool.false_eq_true, ↓reduceIte, startE_nil, startE_cons, reduceCtorEq, decide_true, decide_false, tyD, len_tup, List.length_map, l0, hp, f1, itemsD]
  rw [lp]
  simp only [dE_cst, dE_glb, dE_var, dE_bin, dE_neg, dE_cmp, dE_chn, dE_and, dE_or, dE_not, dE_ite, dE_tup, dE_lst, dE_call, dE_blt, dE_mkb, dE_isi, dE_ix, dE_sl, dE_rev, dE_comp, dT_cst, dT_var, dT_bin, dT_cmp, dT_chn, dT_call, dT_blt, dT_isi, dT_ix, dT_ite, dT_and, dT_or, dT_not, dO_own, dO_ev, dBd_no, dBd_to, dBs_nil, dBs_cons, dEs_nil, dEs_cons, dIt_seq, dIt_rng1, dIt_rng2, dIt_enm, dIt_zip, dS_set, dS_unp, dS_par, dS_aug, dS_ret, dS_retN, dS_ite, dS_fo, dS_pass, dS_rai, dS_exp, dS_tr, dSs_nil, dSs_cons, go_nx, go_rt, go_exc, fl_ok, fl_exc, bind_ok, bind_exc, of_some, calm_ok, flof_some, look_0, look_s, lookB_im, lookB_ow, lookB_s, frzL_nil, frzL_cons, frz1_im, frz1_un, frz1_ow, frz1_s, tg_nm, tg_tp, tg_tpl, tgs_nil, tgs_cons, obind, set_0, set_s, lp_nx, lp_ct, lp_bk, lp_rt, lp_exc, out_rt, out_nx, out_exc, ownList, isFr, Bool.and_true, Bool.and_false, Bool.true_and, Bool.false_and, Bool.not_true, Bool.not_false, truD, if_true, if_false, Bool.false_eq_true, ↓reduceIte, startE_nil, startE_cons, reduceCtorEq, decide_true, decide_false, tyD, mn, mx, List.length_cons, List.length_nil, (by decide : (0 + 1 + 1 + 1 + 1 ≤ lim) = True)]
  rw [foO_num, foN_num xs lt]
  rfl
theorem run_hull_of (k w : Nat) (h0 : 0 < w) (h16 : w ≤ 16) (xs : List Nat) (l h : Nat) (e : Ends xs l h) (lt : ∀ x ∈ xs, x < 2 ^ w) (ll : xs.length < 1000) : run txt (k + 3) 16 [.int (w : Nat), .tup (xs.map nD)] = .ok (spT (hullN w xs l h)) := by
  rw [run_s (d := d16) rfl rfl]
  show (dSs _ _ b16 [.im (.int (w : Nat)), .im (.tup (xs.map nD)), .un]).out = _
  have hp := run_power (k + 1) w (by omega)
  have f1 := sub_one (a := 2 ^ w) (p_pos w)
  have ne : xs.length ≠ 0 := fun z => by
    have := e.1
    rw [List.length_eq_zero_iff.mp z] at this
    cases this
  have l0 : cmpD .eq (.int ((xs.length : Nat) : Int)) (.int 0) = some false := by
    rw [eq_zero]
    congr 1
    simpa using ne
  have comp := all_whole (k + 1) w xs lt (tg := fun d => dTg (.nm 2) d (wipeE [.im (.int (w : Nat)), .im (.tup (xs.map nD)), .un] [2])) (c := dT (run txt (k + 2)) (.cst (.bl true))) (e := dE (run txt (k + 2)) (.call 0 (.cons (.var 2) (.cons (.cst (.int 0)) (.cons (.bin .sub (.call 1 (.cons (.var 0) .nil)) (.cst (.int 1))) .nil))))) fun x hx => ⟨[.im (.int (w : Nat)), .im (.tup (xs.map nD)), .im (.int (x : Nat))], rfl, rfl, by simp only [dE_cst, dE_glb, dE_var, dE_bin, dE_neg, dE_cmp, dE_chn, dE_and, dE_or, dE_not, dE_ite, dE_tup, dE_lst, dE_call, dE_blt, dE_mkb, dE_isi, dE_ix, dE_sl, dE_rev, dE_comp, dT_cst, dT_var, dT_bin, dT_cmp, dT_chn, dT_call, dT_blt, dT_isi, dT_ix, dT_ite, dT_and, dT_or, dT_not, dO_own, dO_ev, dBd_no, dBd_to, dBs_nil, dBs_cons, dEs_nil, dEs_cons, dIt_seq, dIt_rng1, dIt_rng2, dIt_enm, dIt_zip, dS_set, dS_unp, dS_par, dS_aug, dS_ret, dS_retN, dS_ite, dS_fo, dS_pass, dS_rai, dS_exp, dS_tr, dSs_nil, dSs_cons, go_nx, go_rt, go_exc, fl_ok, fl_exc, bind_ok, bind_exc, of_some, calm_ok, flof_some, look_0, look_s, lookB_im, lookB_ow, lookB_s, frzL_nil, frzL_cons, frz1_im, frz1_un, frz1_ow, frz1_s, tg_nm, tg_tp, tg_tpl, tgs_nil, tgs_cons, obind, set_0, set_s, lp_nx, lp_ct, lp_bk, lp_rt, lp_exc, out_rt, out_nx, out_exc, ownList, isFr, Bool.and_true, Bool.and_false, Bool.true_and, Bool.false_and, Bool.not_true, Bool.not_false, truD, if_true, if_false, Bool.false_eq_true, ↓reduceIte, startE_nil, startE_cons, reduceCtorEq, decide_true, decide_false, tyD, hp, f1]⟩
  have comp : compL (fun d => dTg (.nm 2) d (wipeE [.im (.int (w : Nat)), .im (.tup (xs.map nD)), .un] [2])) (dT (run txt (k + 2)) (.cst (.bl true))) (dE (run txt (k + 2)) (.call 0 (.cons (.var 2) (.cons (.cst (.int 0)) (.cons (.bin .sub (.call 1 (.cons (.var 0) .nil)) (.cst (.int 1))) .nil))))) (xs.map nD) = _ := comp
  simp only [tg_nm] at comp
  simp only [b16, dE_cst, dE_glb, dE_var, dE_bin, dE_neg, dE_cmp, dE_chn, dE_and, dE_or, dE_not, dE_ite, dE_tup, dE_lst, dE_call, dE_blt, dE_mkb, dE_isi, dE_ix, dE_sl, dE_rev, dE_comp, dT_cst, dT_var, dT_bin, dT_cmp, dT_chn, dT_call, dT_blt, dT_isi, dT_ix, dT_ite, dT_and, dT_or, dT_not, dO_own, dO_ev, dBd_no, dBd_to, dBs_nil, dBs_cons, dEs_nil, dEs_cons, dIt_seq, dIt_rng1, dIt_rng2, dIt_enm, dIt_zip, dS_set, dS_unp, dS_par, dS_aug, dS_ret, dS_retN, dS_ite, dS_fo, dS_pass, dS_rai, dS_exp, dS_tr, dSs_nil, dSs_cons, go_nx, go_rt, go_exc, fl_ok, fl_exc, bind_ok, bind_exc, of_some, calm_ok, flof_some, look_0, look_s, lookB_im, lookB_ow, lookB_s, frzL_nil, frzL_cons, frz1_im, frz1_un, frz1_ow, frz1_s, tg_nm, tg_tp, tg_tpl, tgs_nil, tgs_cons, obind, set_0, set_s, lp_nx, lp_ct, lp_bk, lp_rt, lp_exc, out_rt, out_nx, out_exc, ownList, isFr, Bool.and_true, Bool.and_false, Bool.true_and, Bool.false_and, Bool.not_true, Bool.not_false, truD, if_true, if_false, Bool.false_eq_true, ↓reduceIte, startE_nil, startE_cons, reduceCtorEq, decide_true, decide_false, tyD, run_check k w h0 h16, len_tup, List.length_map, l0, itemsD, (show (xs.length < lim) = True from eq_true (by show xs.length < 16777216; omega)), comp, all_true xs, run_hull k w h16 xs l h e lt]
end Law
namespace Law
open PySem PySem.Spec PyProof.Rows L2 Z
def lE (w : Nat) (s : Span) (m : Nat) (acc : List Nat) (v : Option Nat) : Env' := [.im (.int (w : Nat)), .im (spT s), .im (.int (m : Nat)), .ow (.lst (acc.map nD)), .im (oD v), .im (.int (s.o : Nat)), .im (.int (s.n : Nat)), .im (.int (s.lo : Nat)), .im (.int (s.hi : Nat))]
theorem app_list {T : Nat → List D → R D} {sub} {w : Nat} {s : Span} {m : Nat} {acc : List Nat} {a : Nat} (h : acc.length < 2 ^ 20) : dS T sub (.app [] 3 (.var 4)) (lE w s m acc (some a)) = .nx (lE w s m (acc ++ [a]) (some a)) := by
  have e : dS T sub (.app [] 3 (.var 4)) (lE w s m acc (some a)) = if (acc.map nD).length < lim then .nx ((lE w s m acc (some a)).set 3 (.ow (.lst (acc.map nD ++ [.int (a : Nat)])))) else .bad := rfl
  rw [e, if_pos (by rw [List.length_map]; show acc.length < 16777216; omega)]
  unfold lE
  rw [List.map_append]
  rfl
def condL : E := (.and_ (.cmp .isn (.own 4) (.ev (.cst .non))) (.cmp .le (.own 4) (.own 8)))
def bodyL : Sms := (.cons (.app [] 3 (.var 4)) <|
    (.cons (.ite [] (.cmp .gt (.ev (.blt .len (.cons (.own 3) .nil))) (.own 2))
      (.cons (.ret [] (.cst .non)) .nil)
      .nil) <|
    (.cons (.set [] 4 false (.ite (.cmp .lt (.ev (.bin .add (.var 4) (.cst (.int 1)))) (.ev (.call 1 (.cons (.var 0) .nil)))) (.call 3 (.cons (.var 0) (.cons (.var 5) (.cons (.var 6) (.cons (.bin .add (.var 4) (.cst (.int 1))) .nil))))) (.cst .non))) .nil)))
theorem loop_list {T : Nat → List D → R D} {sub} {w : Nat} {s : Span} {m : Nat} (h16 : w ≤ 16) (ok : s.Ok w) (hc : s.o &&& s.n = 0) (hp : T 1 [.int (w : Nat)] = .ok (.int ((2 ^ w : Nat) : Int)))
    (hn : ∀ v : Nat, v < 2 ^ w → T 3 [.int (w : Nat), .int (s.o : Nat), .int (s.n : Nat), .int (v : Nat)] = .ok (oD (next w s.o s.n v))) : ∀ (rem : List Nat) (fu : Nat) (acc : List Nat) (v : Nat), rem.length < fu → s.lo ≤ v → from_ w s v = rem → acc.length ≤ m → acc.length + rem.length < 2 ^ 20 → ∃ v', whL (dT T condL) [] (dSs T sub bodyL) fu (lE w s m acc (nextN w s v)) = if acc.length + rem.length ≤ m then .nx (lE w s m (acc ++ rem) v') else .rt .non
  | rem, 0, acc, v, hf, _, _, _, _ => by omega
  | rem, fu + 1, acc, v, hf, hv, hr, ha, hlen => by
    have fn := from_next ok hc hv
    rw [hr] at fn
    cases q : nextN w s v with
    | none =>
      rw [q] at fn
      refine ⟨none, ?_⟩
      rw [fn, List.length_nil, if_pos (by omega), List.append_nil, whL_s]
      have ct : dT T condL (lE w s m acc none) = .ok false := by
        unfold condL lE
        simp only [dE_cst, dE_glb, dE_var, dE_bin, dE_neg, dE_cmp, dE_chn, dE_and, dE_or, dE_not, dE_ite, dE_tup, dE_lst, dE_call, dE_blt, dE_mkb, dE_isi, dE_ix, dE_sl, dE_rev, dE_comp, dT_cst, dT_var, dT_bin, dT_cmp, dT_chn, dT_call, dT_blt, dT_isi, dT_ix, dT_ite, dT_and, dT_or, dT_not, dO_own, dO_ev, dBd_no, dBd_to, dBs_nil, dBs_cons, dEs_nil, dEs_cons, dIt_seq, dIt_rng1, dIt_rng2, dIt_enm, dIt_zip, dS_set, dS_unp, dS_par, dS_aug, dS_ret, dS_retN, dS_ite, dS_fo, dS_pass, dS_rai, dS_exp, dS_tr, dSs_nil, dSs_cons, go_nx, go_rt, go_exc, fl_ok, fl_exc, bind_ok, bind_exc, of_some, calm_ok, flof_some, look_0, look_s, lookB_im, lookB_ow, lookB_s, frzL_nil, frzL_cons, frz1_im, frz1_un, frz1_ow, frz1_s, tg_nm, tg_tp, tg_tpl, tgs_nil, tgs_cons, obind, set_0, set_s, lp_nx, lp_ct, lp_bk, lp_rt, lp_exc, out_rt, out_nx, out_exc, ownList, isFr, Bool.and_true, Bool.and_false, Bool.true_and, Bool.false_and, Bool.not_true, Bool.not_false, truD, if_true, if_false, Bool.false_eq_true, ↓reduceIte, startE_nil, startE_cons, reduceCtorEq, decide_true, decide_false, tyD, oD, isn_non]
      rw [frzL_nil, ct]
      rfl
    | some a =>
      rw [q] at fn
      have fn : rem = if a ≤ s.hi then a :: from_ w s (a + 1) else [] := fn
      by_cases g : a ≤ s.hi
      · rw [if_pos g] at fn
        have ct : dT T condL (lE w s m acc (some a)) = .ok true := by
          unfold condL lE
          simp only [dE_cst, dE_glb, dE_var, dE_bin, dE_neg, dE_cmp, dE_chn, dE_and, dE_or, dE_not, dE_ite, dE_tup, dE_lst, dE_call, dE_blt, dE_mkb, dE_isi, dE_ix, dE_sl, dE_rev, dE_comp, dT_cst, dT_var, dT_bin, dT_cmp, dT_chn, dT_call, dT_blt, dT_isi, dT_ix, dT_ite, dT_and, dT_or, dT_not, dO_own, dO_ev, dBd_no, dBd_to, dBs_nil, dBs_cons, dEs_nil, dEs_cons, dIt_seq, dIt_rng1, dIt_rng2, dIt_enm, dIt_zip, dS_set, dS_unp, dS_par, dS_aug, dS_ret, dS_retN, dS_ite, dS_fo, dS_pass, dS_rai, dS_exp, dS_tr, dSs_nil, dSs_cons, go_nx, go_rt, go_exc, fl_ok, fl_exc, bind_ok, bind_exc, of_some, calm_ok, flof_some, look_0, look_s, lookB_im, lookB_ow, lookB_s, frzL_nil, frzL_cons, frz1_im, frz1_un, frz1_ow, frz1_s, tg_nm, tg_tp, tg_tpl, tgs_nil, tgs_cons, obind, set_0, set_s, lp_nx, lp_ct, lp_bk, lp_rt, lp_exc, out_rt, out_nx, out_exc, ownList, isFr, Bool.and_true, Bool.and_false, Bool.true_and, Bool.false_and, Bool.not_true, Bool.not_false, truD, if_true, if_false, Bool.false_eq_true, ↓reduceIte, startE_nil, startE_cons, reduceCtorEq, decide_true, decide_false, tyD, oD, isn_int, le_nat, g]
        have rl : rem.length = (from_ w s (a + 1)).length + 1 := by rw [fn, List.length_cons]
        have gt : dT T (.cmp .gt (.ev (.blt .len (.cons (.own 3) .nil))) (.own 2)) (lE w s m (acc ++ [a]) (some a)) = .ok (decide (m < (acc ++ [a]).length)) := by
          unfold lE
          simp only [dE_cst, dE_glb, dE_var, dE_bin, dE_neg, dE_cmp, dE_chn, dE_and, dE_or, dE_not, dE_ite, dE_tup, dE_lst, dE_call, dE_blt, dE_mkb, dE_isi, dE_ix, dE_sl, dE_rev, dE_comp, dT_cst, dT_var, dT_bin, dT_cmp, dT_chn, dT_call, dT_blt, dT_isi, dT_ix, dT_ite, dT_and, dT_or, dT_not, dO_own, dO_ev, dBd_no, dBd_to, dBs_nil, dBs_cons, dEs_nil, dEs_cons, dIt_seq, dIt_rng1, dIt_rng2, dIt_enm, dIt_zip, dS_set, dS_unp, dS_par, dS_aug, dS_ret, dS_retN, dS_ite, dS_fo, dS_pass, dS_rai, dS_exp, dS_tr, dSs_nil, dSs_cons, go_nx, go_rt, go_exc, fl_ok, fl_exc, bind_ok, bind_exc, of_some, calm_ok, flof_some, look_0, look_s, lookB_im, lookB_ow, lookB_s, frzL_nil, frzL_cons, frz1_im, frz1_un, frz1_ow, frz1_s, tg_nm, tg_tp, tg_tpl, tgs_nil, tgs_cons, obind, set_0, set_s, lp_nx, lp_ct, lp_bk, lp_rt, lp_exc, out_rt, out_nx, out_exc, ownList, isFr, Bool.and_true, Bool.and_false, Bool.true_and, Bool.false_and, Bool.not_true, Bool.not_false, truD, if_true, if_false, Bool.false_eq_true, ↓reduceIte, startE_nil, startE_cons, reduceCtorEq, decide_true, decide_false, tyD, len_lst, List.length_map, gt_nat]
        rw [List.length_append, List.length_singleton] at gt
        by_cases c : m < acc.length + 1
        · refine ⟨none, ?_⟩
          rw [if_neg (by omega), whL_s, frzL_nil, ct, fl_ok, if_pos rfl]
          simp only [bodyL, dSs_cons, app_list (by omega : acc.length < 2 ^ 20), go_nx, dS_ite, frzL_nil, gt, c, decide_true, fl_ok, if_true, dS_ret, dE_cst, go_rt, lp_rt]
        · have an : next w s.o s.n v = some a ∧ v < 2 ^ w := by
            unfold nextN at q
            split at q
            · rename_i z; exact ⟨q, z⟩
            · cases q
          have nx := next_ok ok.o ok.n an.2 hc
          rw [an.1] at nx
          obtain ⟨⟨a1, a2, _⟩, _⟩ := nx
          have st : dS T sub (.set [] 4 false (.ite (.cmp .lt (.ev (.bin .add (.var 4) (.cst (.int 1)))) (.ev (.call 1 (.cons (.var 0) .nil)))) (.call 3 (.cons (.var 0) (.cons (.var 5) (.cons (.var 6) (.cons (.bin .add (.var 4) (.cst (.int 1))) .nil))))) (.cst .non))) (lE w s m (acc ++ [a]) (some a)) = .nx (lE w s m (acc ++ [a]) (nextN w s (a + 1))) := by
            unfold nextN
            by_cases z : a + 1 < 2 ^ w
            · rw [if_pos z]
              unfold lE
              have e := hn (a + 1) z
              cases y : next w s.o s.n (a + 1) with
              | none =>
                rw [y] at e
                simp only [oD] at e
                simp only [dE_cst, dE_glb, dE_var, dE_bin, dE_neg, dE_cmp, dE_chn, dE_and, dE_or, dE_not, dE_ite, dE_tup, dE_lst, dE_call, dE_blt, dE_mkb, dE_isi, dE_ix, dE_sl, dE_rev, dE_comp, dT_cst, dT_var, dT_bin, dT_cmp, dT_chn, dT_call, dT_blt, dT_isi, dT_ix, dT_ite, dT_and, dT_or, dT_not, dO_own, dO_ev, dBd_no, dBd_to, dBs_nil, dBs_cons, dEs_nil, dEs_cons, dIt_seq, dIt_rng1, dIt_rng2, dIt_enm, dIt_zip, dS_set, dS_unp, dS_par, dS_aug, dS_ret, dS_retN, dS_ite, dS_fo, dS_pass, dS_rai, dS_exp, dS_tr, dSs_nil, dSs_cons, go_nx, go_rt, go_exc, fl_ok, fl_exc, bind_ok, bind_exc, of_some, calm_ok, flof_some, look_0, look_s, lookB_im, lookB_ow, lookB_s, frzL_nil, frzL_cons, frz1_im, frz1_un, frz1_ow, frz1_s, tg_nm, tg_tp, tg_tpl, tgs_nil, tgs_cons, obind, set_0, set_s, lp_nx, lp_ct, lp_bk, lp_rt, lp_exc, out_rt, out_nx, out_exc, ownList, isFr, Bool.and_true, Bool.and_false, Bool.true_and, Bool.false_and, Bool.not_true, Bool.not_false, truD, if_true, if_false, Bool.false_eq_true, ↓reduceIte, startE_nil, startE_cons, reduceCtorEq, decide_true, decide_false, tyD, oD, add_one, hp, lt_nat, z, e]
              | some b =>
                rw [y] at e
                simp only [oD] at e
                simp only [dE_cst, dE_glb, dE_var, dE_bin, dE_neg, dE_cmp, dE_chn, dE_and, dE_or, dE_not, dE_ite, dE_tup, dE_lst, dE_call, dE_blt, dE_mkb, dE_isi, dE_ix, dE_sl, dE_rev, dE_comp, dT_cst, dT_var, dT_bin, dT_cmp, dT_chn, dT_call, dT_blt, dT_isi, dT_ix, dT_ite, dT_and, dT_or, dT_not, dO_own, dO_ev, dBd_no, dBd_to, dBs_nil, dBs_cons, dEs_nil, dEs_cons, dIt_seq, dIt_rng1, dIt_rng2, dIt_enm, dIt_zip, dS_set, dS_unp, dS_par, dS_aug, dS_ret, dS_retN, dS_ite, dS_fo, dS_pass, dS_rai, dS_exp, dS_tr, dSs_nil, dSs_cons, go_nx, go_rt, go_exc, fl_ok, fl_exc, bind_ok, bind_exc, of_some, calm_ok, flof_some, look_0, look_s, lookB_im, lookB_ow, lookB_s, frzL_nil, frzL_cons, frz1_im, frz1_un, frz1_ow, frz1_s, tg_nm, tg_tp, tg_tpl, tgs_nil, tgs_cons, obind, set_0, set_s, lp_nx, lp_ct, lp_bk, lp_rt, lp_exc, out_rt, out_nx, out_exc, ownList, isFr, Bool.and_true, Bool.and_false, Bool.true_and, Bool.false_and, Bool.not_true, Bool.not_false, truD, if_true, if_false, Bool.false_eq_true, ↓reduceIte, startE_nil, startE_cons, reduceCtorEq, decide_true, decide_false, tyD, oD, add_one, hp, lt_nat, z, e]
            · rw [if_neg z]
              unfold lE
              simp only [dE_cst, dE_glb, dE_var, dE_bin, dE_neg, dE_cmp, dE_chn, dE_and, dE_or, dE_not, dE_ite, dE_tup, dE_lst, dE_call, dE_blt, dE_mkb, dE_isi, dE_ix, dE_sl, dE_rev, dE_comp, dT_cst, dT_var, dT_bin, dT_cmp, dT_chn, dT_call, dT_blt, dT_isi, dT_ix, dT_ite, dT_and, dT_or, dT_not, dO_own, dO_ev, dBd_no, dBd_to, dBs_nil, dBs_cons, dEs_nil, dEs_cons, dIt_seq, dIt_rng1, dIt_rng2, dIt_enm, dIt_zip, dS_set, dS_unp, dS_par, dS_aug, dS_ret, dS_retN, dS_ite, dS_fo, dS_pass, dS_rai, dS_exp, dS_tr, dSs_nil, dSs_cons, go_nx, go_rt, go_exc, fl_ok, fl_exc, bind_ok, bind_exc, of_some, calm_ok, flof_some, look_0, look_s, lookB_im, lookB_ow, lookB_s, frzL_nil, frzL_cons, frz1_im, frz1_un, frz1_ow, frz1_s, tg_nm, tg_tp, tg_tpl, tgs_nil, tgs_cons, obind, set_0, set_s, lp_nx, lp_ct, lp_bk, lp_rt, lp_exc, out_rt, out_nx, out_exc, ownList, isFr, Bool.and_true, Bool.and_false, Bool.true_and, Bool.false_and, Bool.not_true, Bool.not_false, truD, if_true, if_false, Bool.false_eq_true, ↓reduceIte, startE_nil, startE_cons, reduceCtorEq, decide_true, decide_false, tyD, oD, add_one, hp, lt_nat, z]
          obtain ⟨v', ih⟩ := loop_list (T := T) (sub := sub) (m := m) h16 ok hc hp hn (from_ w s (a + 1)) fu (acc ++ [a]) (a + 1) (by omega) (by omega) rfl (by rw [List.length_append, List.length_singleton]; omega) (by rw [List.length_append, List.length_singleton]; omega)
          refine ⟨v', ?_⟩
          rw [whL_s, frzL_nil, ct, fl_ok, if_pos rfl]
          simp only [bodyL, dSs_cons, app_list (by omega : acc.length < 2 ^ 20), go_nx, dS_ite, frzL_nil, gt, c, decide_false, fl_ok, Bool.false_eq_true, if_false, st, dSs_nil, lp_nx]
          unfold bodyL at ih
          rw [ih, List.length_append, List.length_singleton, rl, List.append_assoc, fn]
          have e : acc.length + 1 + (from_ w s (a + 1)).length = acc.length + ((from_ w s (a + 1)).length + 1) := by omega
          rw [e]
          rfl
      · rw [if_neg g] at fn
        refine ⟨some a, ?_⟩
        rw [fn, List.length_nil, if_pos (by omega), List.append_nil, whL_s]
        have ct : dT T condL (lE w s m acc (some a)) = .ok false := by
          unfold condL lE
          simp only [dE_cst, dE_glb, dE_var, dE_bin, dE_neg, dE_cmp, dE_chn, dE_and, dE_or, dE_not, dE_ite, dE_tup, dE_lst, dE_call, dE_blt, dE_mkb, dE_isi, dE_ix, dE_sl, dE_rev, dE_comp, dT_cst, dT_var, dT_bin, dT_cmp, dT_chn, dT_call, dT_blt, dT_isi, dT_ix, dT_ite, dT_and, dT_or, dT_not, dO_own, dO_ev, dBd_no, dBd_to, dBs_nil, dBs_cons, dEs_nil, dEs_cons, dIt_seq, dIt_rng1, dIt_rng2, dIt_enm, dIt_zip, dS_set, dS_unp, dS_par, dS_aug, dS_ret, dS_retN, dS_ite, dS_fo, dS_pass, dS_rai, dS_exp, dS_tr, dSs_nil, dSs_cons, go_nx, go_rt, go_exc, fl_ok, fl_exc, bind_ok, bind_exc, of_some, calm_ok, flof_some, look_0, look_s, lookB_im, lookB_ow, lookB_s, frzL_nil, frzL_cons, frz1_im, frz1_un, frz1_ow, frz1_s, tg_nm, tg_tp, tg_tpl, tgs_nil, tgs_cons, obind, set_0, set_s, lp_nx, lp_ct, lp_bk, lp_rt, lp_exc, out_rt, out_nx, out_exc, ownList, isFr, Bool.and_true, Bool.and_false, Bool.true_and, Bool.false_and, Bool.not_true, Bool.not_false, truD, if_true, if_false, Bool.false_eq_true, ↓reduceIte, startE_nil, startE_cons, reduceCtorEq, decide_true, decide_false, tyD, oD, isn_int, le_nat, g]
        rw [frzL_nil, ct]
        rfl
theorem run_list (k w : Nat) (h16 : w ≤ 16) (s : Span) (ok : s.Ok w) (hc : s.o &&& s.n = 0) (hl : s.lo ∈ within w s) (m : Nat) : run txt (k + 3) 9 [.int (w : Nat), spT s, .int (m : Nat)] = .ok (if (within w s).length ≤ m then .lst ((within w s).map nD) else .non) := by
  rw [run_s (d := d9) rfl rfl]
  show (dSs _ _ b9 [.im (.int (w : Nat)), .im (spT s), .im (.int (m : Nat)), .un, .un, .un, .un, .un, .un]).out = _
  have hp := run_power (k + 1) w (by omega)
  have w17 := pw16 h16
  have wl : (within w s).length < 2 ^ 17 := by
    unfold within
    have := List.length_filter_le s.has (List.range (2 ^ w))
    rw [List.length_range] at this
    omega
  obtain ⟨l1, l2⟩ := mem_within.mp hl
  have nx : nextN w s s.lo = some s.lo := by
    unfold nextN next
    rw [if_pos l1, if_pos (has_iff.mp l2).1]
  obtain ⟨v', e⟩ := loop_list (T := run txt (k + 2)) (sub := subL txt.sub) (m := m) h16 ok hc hp (fun v hv => run_next k w s.o s.n v h16 ok.o ok.n hv) (within w s) fuel [] s.lo (by show _ < 1000000; omega) (Nat.le_refl _) from_lo (by rw [List.length_nil]; omega) (by rw [List.length_nil]; omega)
  rw [nx, List.length_nil, Nat.zero_add, List.nil_append] at e
  have e0 : dSs (run txt (k + 2)) (subL txt.sub) b9 [.im (.int (w : Nat)), .im (spT s), .im (.int (m : Nat)), .un, .un, .un, .un, .un, .un] = (whL (dT (run txt (k + 2)) condL) [] (dSs (run txt (k + 2)) (subL txt.sub) bodyL) fuel (lE w s m [] (some s.lo))).go (dSs (run txt (k + 2)) (subL txt.sub) (.cons (.ret [3] (.var 3)) .nil)) := rfl
  rw [e0, e]
  by_cases c : (within w s).length ≤ m
  · rw [if_pos c, if_pos c, go_nx]
    unfold lE
    simp only [dE_cst, dE_glb, dE_var, dE_bin, dE_neg, dE_cmp, dE_chn, dE_and, dE_or, dE_not, dE_ite, dE_tup, dE_lst, dE_call, dE_blt, dE_mkb, dE_isi, dE_ix, dE_sl, dE_rev, dE_comp, dT_cst, dT_var, dT_bin, dT_cmp, dT_chn, dT_call, dT_blt, dT_isi, dT_ix, dT_ite, dT_and, dT_or, dT_not, dO_own, dO_ev, dBd_no, dBd_to, dBs_nil, dBs_cons, dEs_nil, dEs_cons, dIt_seq, dIt_rng1, dIt_rng2, dIt_enm, dIt_zip, dS_set, dS_unp, dS_par, dS_aug, dS_ret, dS_retN, dS_ite, dS_fo, dS_pass, dS_rai, dS_exp, dS_tr, dSs_nil, dSs_cons, go_nx, go_rt, go_exc, fl_ok, fl_exc, bind_ok, bind_exc, of_some, calm_ok, flof_some, look_0, look_s, lookB_im, lookB_ow, lookB_s, frzL_nil, frzL_cons, frz1_im, frz1_un, frz1_ow, frz1_s, tg_nm, tg_tp, tg_tpl, tgs_nil, tgs_cons, obind, set_0, set_s, lp_nx, lp_ct, lp_bk, lp_rt, lp_exc, out_rt, out_nx, out_exc, ownList, isFr, Bool.and_true, Bool.and_false, Bool.true_and, Bool.false_and, Bool.not_true, Bool.not_false, truD, if_true, if_false, Bool.false_eq_true, ↓reduceIte, startE_nil, startE_cons, reduceCtorEq, decide_true, decide_false, tyD]
  · rw [if_neg c, if_neg c]
    rfl
theorem run_listed (k w : Nat) (h0 : 0 < w) (h16 : w ≤ 16) (s : Span) (ok : s.Ok w) (m : Nat) (hm : m ≤ 4096) : run txt (k + 5) 17 [.int (w : Nat), spT s, .int (m : Nat)] = .ok (if (within w s).length ≤ m then .tup ((within w s).map nD) else .non) := by
  rw [run_s (d := d17) rfl rfl]
  show (dSs _ _ b17 [.im (.int (w : Nat)), .im (spT s), .im (.int (m : Nat)), .un, .un]).out = _
  have tk := tight_ok ok
  have rt := run_tight k w s h16 ok
  cases q : tightN w s with
  | none =>
    rw [q] at tk rt
    simp only [oS] at rt
    have tk : within w s = [] := tk
    rw [tk, List.length_nil, if_pos (Nat.zero_le _)]
    simp only [b17, dE_cst, dE_glb, dE_var, dE_bin, dE_neg, dE_cmp, dE_chn, dE_and, dE_or, dE_not, dE_ite, dE_tup, dE_lst, dE_call, dE_blt, dE_mkb, dE_isi, dE_ix, dE_sl, dE_rev, dE_comp, dT_cst, dT_var, dT_bin, dT_cmp, dT_chn, dT_call, dT_blt, dT_isi, dT_ix, dT_ite, dT_and, dT_or, dT_not, dO_own, dO_ev, dBd_no, dBd_to, dBs_nil, dBs_cons, dEs_nil, dEs_cons, dIt_seq, dIt_rng1, dIt_rng2, dIt_enm, dIt_zip, dS_set, dS_unp, dS_par, dS_aug, dS_ret, dS_retN, dS_ite, dS_fo, dS_pass, dS_rai, dS_exp, dS_tr, dSs_nil, dSs_cons, go_nx, go_rt, go_exc, fl_ok, fl_exc, bind_ok, bind_exc, of_some, calm_ok, flof_some, look_0, look_s, lookB_im, lookB_ow, lookB_s, frzL_nil, frzL_cons, frz1_im, frz1_un, frz1_ow, frz1_s, tg_nm, tg_tp, tg_tpl, tgs_nil, tgs_cons, obind, set_0, set_s, lp_nx, lp_ct, lp_bk, lp_rt, lp_exc, out_rt, out_nx, out_exc, ownList, isFr, Bool.and_true, Bool.and_false, Bool.true_and, Bool.false_and, Bool.not_true, Bool.not_false, truD, if_true, if_false, Bool.false_eq_true, ↓reduceIte, startE_nil, startE_cons, reduceCtorEq, decide_true, decide_false, tyD, run_check (k + 2) w h0 h16, run_check_span (k + 1) w h16 s ok, run_whole, decide_eq_true (by omega : (0 : Int) ≤ (m : Int)), decide_eq_true (by omega : (m : Int) ≤ 4096), rt, is_non, List.length_nil, (by decide : (0 ≤ lim) = True)]
    rfl
  | some t =>
    rw [q] at rt
    simp only [oS] at rt
    obtain ⟨tok, tw, te⟩ := within_tight ok q
    have tlo : t.lo ∈ within w t := by rw [tw]; exact te.1
    have hc : t.o &&& t.n = 0 := by
      apply Nat.eq_of_testBit_eq
      intro i
      have f := fit_iff.mp (has_iff.mp (mem_within.mp tlo).2).1 i
      rw [Nat.testBit_and, Nat.zero_testBit]
      cases a : t.o.testBit i with
      | false => rfl
      | true =>
        cases b : t.n.testBit i with
        | false => rfl
        | true => have := f.1 a; rw [f.2 b] at this; cases this
    have rl := run_list (k + 1) w h16 t tok hc tlo m
    rw [tw] at rl
    by_cases c : (within w s).length ≤ m
    · rw [if_pos c] at rl ⊢
      have il : cmpD .is (.lst ((within w s).map nD)) .non = some false := nrfl rfl
      have mk_ : mkbD .tuple [.lst ((within w s).map nD)] = some (.tup ((within w s).map nD)) := nrfl rfl
      simp only [b17, dE_cst, dE_glb, dE_var, dE_bin, dE_neg, dE_cmp, dE_chn, dE_and, dE_or, dE_not, dE_ite, dE_tup, dE_lst, dE_call, dE_blt, dE_mkb, dE_isi, dE_ix, dE_sl, dE_rev, dE_comp, dT_cst, dT_var, dT_bin, dT_cmp, dT_chn, dT_call, dT_blt, dT_isi, dT_ix, dT_ite, dT_and, dT_or, dT_not, dO_own, dO_ev, dBd_no, dBd_to, dBs_nil, dBs_cons, dEs_nil, dEs_cons, dIt_seq, dIt_rng1, dIt_rng2, dIt_enm, dIt_zip, dS_set, dS_unp, dS_par, dS_aug, dS_ret, dS_retN, dS_ite, dS_fo, dS_pass, dS_rai, dS_exp, dS_tr, dSs_nil, dSs_cons, go_nx, go_rt, go_exc, fl_ok, fl_exc, bind_ok, bind_exc, of_some, calm_ok, flof_some, look_0, look_s, lookB_im, lookB_ow, lookB_s, frzL_nil, frzL_cons, frz1_im, frz1_un, frz1_ow, frz1_s, tg_nm, tg_tp, tg_tpl, tgs_nil, tgs_cons, obind, set_0, set_s, lp_nx, lp_ct, lp_bk, lp_rt, lp_exc, out_rt, out_nx, out_exc, ownList, isFr, Bool.and_true, Bool.and_false, Bool.true_and, Bool.false_and, Bool.not_true, Bool.not_false, truD, if_true, if_false, Bool.false_eq_true, ↓reduceIte, startE_nil, startE_cons, reduceCtorEq, decide_true, decide_false, tyD, run_check (k + 2) w h0 h16, run_check_span (k + 1) w h16 s ok, run_whole, decide_eq_true (by omega : (0 : Int) ≤ (m : Int)), decide_eq_true (by omega : (m : Int) ≤ 4096), rt, is_sp, rl, il, mk_]
    · rw [if_neg c] at rl ⊢
      simp only [b17, dE_cst, dE_glb, dE_var, dE_bin, dE_neg, dE_cmp, dE_chn, dE_and, dE_or, dE_not, dE_ite, dE_tup, dE_lst, dE_call, dE_blt, dE_mkb, dE_isi, dE_ix, dE_sl, dE_rev, dE_comp, dT_cst, dT_var, dT_bin, dT_cmp, dT_chn, dT_call, dT_blt, dT_isi, dT_ix, dT_ite, dT_and, dT_or, dT_not, dO_own, dO_ev, dBd_no, dBd_to, dBs_nil, dBs_cons, dEs_nil, dEs_cons, dIt_seq, dIt_rng1, dIt_rng2, dIt_enm, dIt_zip, dS_set, dS_unp, dS_par, dS_aug, dS_ret, dS_retN, dS_ite, dS_fo, dS_pass, dS_rai, dS_exp, dS_tr, dSs_nil, dSs_cons, go_nx, go_rt, go_exc, fl_ok, fl_exc, bind_ok, bind_exc, of_some, calm_ok, flof_some, look_0, look_s, lookB_im, lookB_ow, lookB_s, frzL_nil, frzL_cons, frz1_im, frz1_un, frz1_ow, frz1_s, tg_nm, tg_tp, tg_tpl, tgs_nil, tgs_cons, obind, set_0, set_s, lp_nx, lp_ct, lp_bk, lp_rt, lp_exc, out_rt, out_nx, out_exc, ownList, isFr, Bool.and_true, Bool.and_false, Bool.true_and, Bool.false_and, Bool.not_true, Bool.not_false, truD, if_true, if_false, Bool.false_eq_true, ↓reduceIte, startE_nil, startE_cons, reduceCtorEq, decide_true, decide_false, tyD, run_check (k + 2) w h0 h16, run_check_span (k + 1) w h16 s ok, run_whole, decide_eq_true (by omega : (0 : Int) ≤ (m : Int)), decide_eq_true (by omega : (m : Int) ≤ 4096), rt, is_sp, rl, is_non]
end Law
namespace Law
open PySem PySem.Spec PyProof.Rows L2 Z
/-! ### the law's own bits -/
def bt (v k : Nat) : Nat := v / 2 ^ k % 2
theorem bt_bit (v k : Nat) : bt v k = if v.testBit k = true then 1 else 0 := by
  unfold bt
  rw [Nat.testBit_eq_decide_div_mod_eq]
  by_cases h : v / 2 ^ k % 2 = 1
  · rw [h]; rfl
  · have : v / 2 ^ k % 2 = 0 := by omega
    rw [this]; rfl
def pows : List D := [.int 1, .int 2, .int 4, .int 8, .int 16, .int 32, .int 64, .int 128, .int 256, .int 512, .int 1024, .int 2048, .int 4096, .int 8192, .int 16384, .int 32768]
theorem ix_pows (k : Nat) (h : k < 16) : ixD (.lst pows) (.int (k : Nat)) = some (.int ((2 ^ k : Nat) : Int)) := EachN.get (n := 16) (p := fun k => ixD (.lst pows) (.int (k : Nat)) = some (.int ((2 ^ k : Nat) : Int))) ⟨⟨⟨⟨⟨⟨⟨⟨⟨⟨⟨⟨⟨⟨⟨⟨trivial, rfl⟩, rfl⟩, rfl⟩, rfl⟩, rfl⟩, rfl⟩, rfl⟩, rfl⟩, rfl⟩, rfl⟩, rfl⟩, rfl⟩, rfl⟩, rfl⟩, rfl⟩, rfl⟩ h
theorem div_nat {a b : Nat} (h : 0 < b) (h2 : b < 1073741824) : binD .div (.int (a : Nat)) (.int (b : Nat)) = some (.int ((a / b : Nat) : Int)) := by
  show (if 0 < ((b : Nat) : Int) ∧ ((b : Nat) : Int) < 1073741824 then some (D.int ((a : Nat) / (b : Nat))) else none) = _
  rw [if_pos ⟨by omega, by omega⟩]
  rfl
theorem mod_two {a : Nat} : binD .mod (.int (a : Nat)) (.int 2) = some (.int ((a % 2 : Nat) : Int)) := by
  show (if (0 : Int) < 2 then some (D.int ((a : Nat) % 2)) else none) = _
  rw [if_pos (by decide)]
  rfl
theorem mod_nat {a b : Nat} (h : 0 < b) : binD .mod (.int (a : Nat)) (.int (b : Nat)) = some (.int ((a % b : Nat) : Int)) := by
  show (if 0 < ((b : Nat) : Int) then some (D.int ((a : Nat) % (b : Nat))) else none) = _
  rw [if_pos (by omega)]
  rfl
theorem rng_compN {m : Nat} {f : Nat → Nat} {tg : D → Option Env'} {c : Env' → R Bool} {x : Env' → R D} (h : ∀ k : Nat, k < m → ∃ ρ, tg (.int (k : Nat)) = some ρ ∧ c ρ = .ok true ∧ x ρ = .ok (nD (f k))) : compL tg c x (rngL 0 m) = .ok (((List.range m).map f).map nD) := by
  have := rng_comp (T := fun _ _ => .bad) (f := fun k => ((f k : Nat) : Int)) (m := m) h
  rw [this, List.map_map, List.map_map]
  rfl
theorem run_bits (k w v : Nat) (h : w ≤ 16) : run txt (k + 1) 19 [.int (v : Nat), .int (w : Nat)] = .ok (.lst (((List.range w).map (bt v)).map nD)) := by
  rw [run_s (d := d19) rfl rfl]
  show (dSs _ _ b19 [.im (.int (v : Nat)), .im (.int (w : Nat)), .un]).out = _
  have comp := rng_compN (m := w) (f := bt v) (tg := fun d => dTg (.nm 2) d (wipeE [.im (.int (v : Nat)), .im (.int (w : Nat)), .un] [2])) (c := dT (run txt k) (.cst (.bl true))) (x := dE (run txt k) (.bin .mod (.bin .div (.var 0) (.ix (.ev (.lst (.cons (.cst (.int 1)) (.cons (.cst (.int 2)) (.cons (.cst (.int 4)) (.cons (.cst (.int 8)) (.cons (.cst (.int 16)) (.cons (.cst (.int 32)) (.cons (.cst (.int 64)) (.cons (.cst (.int 128)) (.cons (.cst (.int 256)) (.cons (.cst (.int 512)) (.cons (.cst (.int 1024)) (.cons (.cst (.int 2048)) (.cons (.cst (.int 4096)) (.cons (.cst (.int 8192)) (.cons (.cst (.int 16384)) (.cons (.cst (.int 32768)) .nil)))))))))))))))))) (.var 2))) (.cst (.int 2)))) fun j hj => by
    refine ⟨[.im (.int (v : Nat)), .im (.int (w : Nat)), .im (.int (j : Nat))], rfl, rfl, ?_⟩
    have ip := ix_pows j (by omega)
    unfold pows at ip
    have p17 := Nat.pow_lt_pow_right (a := 2) (by decide) (by omega : j < 17)
    have dv := div_nat (a := v) (b := 2 ^ j) (p_pos j) (by omega)
    simp only [dE_cst, dE_glb, dE_var, dE_bin, dE_neg, dE_cmp, dE_chn, dE_and, dE_or, dE_not, dE_ite, dE_tup, dE_lst, dE_call, dE_blt, dE_mkb, dE_isi, dE_ix, dE_sl, dE_rev, dE_comp, dT_cst, dT_var, dT_bin, dT_cmp, dT_chn, dT_call, dT_blt, dT_isi, dT_ix, dT_ite, dT_and, dT_or, dT_not, dO_own, dO_ev, dBd_no, dBd_to, dBs_nil, dBs_cons, dEs_nil, dEs_cons, dIt_seq, dIt_rng1, dIt_rng2, dIt_enm, dIt_zip, dS_set, dS_unp, dS_par, dS_aug, dS_ret, dS_retN, dS_ite, dS_fo, dS_pass, dS_rai, dS_exp, dS_tr, dSs_nil, dSs_cons, go_nx, go_rt, go_exc, fl_ok, fl_exc, bind_ok, bind_exc, of_some, calm_ok, flof_some, look_0, look_s, lookB_im, lookB_ow, lookB_s, frzL_nil, frzL_cons, frz1_im, frz1_un, frz1_ow, frz1_s, tg_nm, tg_tp, tg_tpl, tgs_nil, tgs_cons, obind, set_0, set_s, lp_nx, lp_ct, lp_bk, lp_rt, lp_exc, out_rt, out_nx, out_exc, ownList, isFr, Bool.and_true, Bool.and_false, Bool.true_and, Bool.false_and, Bool.not_true, Bool.not_false, truD, if_true, if_false, Bool.false_eq_true, ↓reduceIte, startE_nil, startE_cons, reduceCtorEq, decide_true, decide_false, tyD, List.length_cons, List.length_nil, (by decide : (0 + 1 + 1 + 1 + 1 + 1 + 1 + 1 + 1 + 1 + 1 + 1 + 1 + 1 + 1 + 1 + 1 ≤ lim) = True), ip, dv, mod_two]
    rfl
  simp only [tg_nm] at comp
  simp only [b19, dE_cst, dE_glb, dE_var, dE_bin, dE_neg, dE_cmp, dE_chn, dE_and, dE_or, dE_not, dE_ite, dE_tup, dE_lst, dE_call, dE_blt, dE_mkb, dE_isi, dE_ix, dE_sl, dE_rev, dE_comp, dT_cst, dT_var, dT_bin, dT_cmp, dT_chn, dT_call, dT_blt, dT_isi, dT_ix, dT_ite, dT_and, dT_or, dT_not, dO_own, dO_ev, dBd_no, dBd_to, dBs_nil, dBs_cons, dEs_nil, dEs_cons, dIt_seq, dIt_rng1, dIt_rng2, dIt_enm, dIt_zip, dS_set, dS_unp, dS_par, dS_aug, dS_ret, dS_retN, dS_ite, dS_fo, dS_pass, dS_rai, dS_exp, dS_tr, dSs_nil, dSs_cons, go_nx, go_rt, go_exc, fl_ok, fl_exc, bind_ok, bind_exc, of_some, calm_ok, flof_some, look_0, look_s, lookB_im, lookB_ow, lookB_s, frzL_nil, frzL_cons, frz1_im, frz1_un, frz1_ow, frz1_s, tg_nm, tg_tp, tg_tpl, tgs_nil, tgs_cons, obind, set_0, set_s, lp_nx, lp_ct, lp_bk, lp_rt, lp_exc, out_rt, out_nx, out_exc, ownList, isFr, Bool.and_true, Bool.and_false, Bool.true_and, Bool.false_and, Bool.not_true, Bool.not_false, truD, if_true, if_false, Bool.false_eq_true, ↓reduceIte, startE_nil, startE_cons, reduceCtorEq, decide_true, decide_false, tyD, inRng_nat (by omega : w < 2 ^ 60), toNat_nat, rngL_len, (show (w < lim) = True from eq_true (by show w < 16777216; omega)), comp]
def ofL : List Nat → Nat
  | [] => 0
  | b :: r => b + 2 * ofL r
theorem ofL_ofB (l : List Bool) : ofL (l.map fun b => if b = true then 1 else 0) = ofB l := by
  induction l with
  | nil => rfl
  | cons b r ih => rw [List.map_cons, ofL, ofB, ih]
theorem ofL_app : ∀ (l : List Nat) (b t : Nat), ofL (l ++ [b]) = ofL l + 2 ^ l.length * b
  | [], b, t => by simp [ofL]
  | a :: l, b, t => by
    rw [List.cons_append, ofL, ofL, ofL_app l b t, List.length_cons, Nat.pow_succ, Nat.mul_add, Nat.mul_comm (2 ^ l.length) 2, Nat.mul_assoc]
    omega
theorem loop_number {T : Nat → List D → R D} {sub} (a : D) : ∀ (l : List Nat) (t : Nat) (s : Slot), (∀ b ∈ l, b < 2) → ∃ s', forL (dTg (.nm 2)) (dSs T sub (.cons (.set [] 1 false (.bin .add (.bin .mul (.cst (.int 2)) (.var 1)) (.var 2))) .nil)) (l.map nD) [.im a, .im (.int (t : Nat)), s] = .nx [.im a, .im (nD (l.foldl (fun t b => 2 * t + b) t)), s']
  | [], t, s, _ => ⟨s, rfl⟩
  | b :: l, t, s, h => by
    obtain ⟨s', ih⟩ := loop_number (T := T) (sub := sub) a l (2 * t + b) (.im (.int (b : Nat))) fun c hc => h c (List.mem_cons_of_mem _ hc)
    refine ⟨s', ?_⟩
    have m2 : binD .mul (.int 2) (.int (t : Nat)) = some (.int ((2 * t : Nat) : Int)) := by
      show mulD (.int 2) (.int (t : Nat)) = _
      rw [mul_l (by decide)]
      simp
    rw [List.map_cons, forL_cons (ρ1 := [.im a, .im (.int (t : Nat)), .im (.int (b : Nat))]) rfl]
    simp only [dE_cst, dE_glb, dE_var, dE_bin, dE_neg, dE_cmp, dE_chn, dE_and, dE_or, dE_not, dE_ite, dE_tup, dE_lst, dE_call, dE_blt, dE_mkb, dE_isi, dE_ix, dE_sl, dE_rev, dE_comp, dT_cst, dT_var, dT_bin, dT_cmp, dT_chn, dT_call, dT_blt, dT_isi, dT_ix, dT_ite, dT_and, dT_or, dT_not, dO_own, dO_ev, dBd_no, dBd_to, dBs_nil, dBs_cons, dEs_nil, dEs_cons, dIt_seq, dIt_rng1, dIt_rng2, dIt_enm, dIt_zip, dS_set, dS_unp, dS_par, dS_aug, dS_ret, dS_retN, dS_ite, dS_fo, dS_pass, dS_rai, dS_exp, dS_tr, dSs_nil, dSs_cons, go_nx, go_rt, go_exc, fl_ok, fl_exc, bind_ok, bind_exc, of_some, calm_ok, flof_some, look_0, look_s, lookB_im, lookB_ow, lookB_s, frzL_nil, frzL_cons, frz1_im, frz1_un, frz1_ow, frz1_s, tg_nm, tg_tp, tg_tpl, tgs_nil, tgs_cons, obind, set_0, set_s, lp_nx, lp_ct, lp_bk, lp_rt, lp_exc, out_rt, out_nx, out_exc, ownList, isFr, Bool.and_true, Bool.and_false, Bool.true_and, Bool.false_and, Bool.not_true, Bool.not_false, truD, if_true, if_false, Bool.false_eq_true, ↓reduceIte, startE_nil, startE_cons, reduceCtorEq, decide_true, decide_false, tyD, m2, add_nat]
    exact ih
theorem foldl_rev (l : List Nat) : l.reverse.foldl (fun t b => 2 * t + b) 0 = ofL l := by
  rw [List.foldl_reverse]
  induction l with
  | nil => rfl
  | cons b l ih => rw [List.foldr_cons, ofL, ih]; omega
theorem run_number (k : Nat) (l : List Nat) (h : ∀ b ∈ l, b < 2) : run txt (k + 1) 20 [.lst (l.map nD)] = .ok (nD (ofL l)) := by
  rw [run_s (d := d20) rfl rfl]
  show (dSs _ _ b20 [.im (.lst (l.map nD)), .un, .un]).out = _
  have rv : revD (.lst (l.map nD)) = some (.lst (l.reverse.map nD)) := by
    show some (D.lst (l.map nD).reverse) = _
    rw [List.map_reverse]
  obtain ⟨s', e⟩ := loop_number (T := run txt k) (sub := subL txt.sub) (.lst (l.map nD)) l.reverse 0 .un fun b hb => h b (List.mem_reverse.mp hb)
  rw [show ((0 : Nat) : Int) = 0 from rfl] at e
  simp only [b20, dE_cst, dE_glb, dE_var, dE_bin, dE_neg, dE_cmp, dE_chn, dE_and, dE_or, dE_not, dE_ite, dE_tup, dE_lst, dE_call, dE_blt, dE_mkb, dE_isi, dE_ix, dE_sl, dE_rev, dE_comp, dT_cst, dT_var, dT_bin, dT_cmp, dT_chn, dT_call, dT_blt, dT_isi, dT_ix, dT_ite, dT_and, dT_or, dT_not, dO_own, dO_ev, dBd_no, dBd_to, dBs_nil, dBs_cons, dEs_nil, dEs_cons, dIt_seq, dIt_rng1, dIt_rng2, dIt_enm, dIt_zip, dS_set, dS_unp, dS_par, dS_aug, dS_ret, dS_retN, dS_ite, dS_fo, dS_pass, dS_rai, dS_exp, dS_tr, dSs_nil, dSs_cons, go_nx, go_rt, go_exc, fl_ok, fl_exc, bind_ok, bind_exc, of_some, calm_ok, flof_some, look_0, look_s, lookB_im, lookB_ow, lookB_s, frzL_nil, frzL_cons, frz1_im, frz1_un, frz1_ow, frz1_s, tg_nm, tg_tp, tg_tpl, tgs_nil, tgs_cons, obind, set_0, set_s, lp_nx, lp_ct, lp_bk, lp_rt, lp_exc, out_rt, out_nx, out_exc, ownList, isFr, Bool.and_true, Bool.and_false, Bool.true_and, Bool.false_and, Bool.not_true, Bool.not_false, truD, if_true, if_false, Bool.false_eq_true, ↓reduceIte, startE_nil, startE_cons, reduceCtorEq, decide_true, decide_false, tyD, rv, itemsD]
  rw [e]
  simp only [dE_cst, dE_glb, dE_var, dE_bin, dE_neg, dE_cmp, dE_chn, dE_and, dE_or, dE_not, dE_ite, dE_tup, dE_lst, dE_call, dE_blt, dE_mkb, dE_isi, dE_ix, dE_sl, dE_rev, dE_comp, dT_cst, dT_var, dT_bin, dT_cmp, dT_chn, dT_call, dT_blt, dT_isi, dT_ix, dT_ite, dT_and, dT_or, dT_not, dO_own, dO_ev, dBd_no, dBd_to, dBs_nil, dBs_cons, dEs_nil, dEs_cons, dIt_seq, dIt_rng1, dIt_rng2, dIt_enm, dIt_zip, dS_set, dS_unp, dS_par, dS_aug, dS_ret, dS_retN, dS_ite, dS_fo, dS_pass, dS_rai, dS_exp, dS_tr, dSs_nil, dSs_cons, go_nx, go_rt, go_exc, fl_ok, fl_exc, bind_ok, bind_exc, of_some, calm_ok, flof_some, look_0, look_s, lookB_im, lookB_ow, lookB_s, frzL_nil, frzL_cons, frz1_im, frz1_un, frz1_ow, frz1_s, tg_nm, tg_tp, tg_tpl, tgs_nil, tgs_cons, obind, set_0, set_s, lp_nx, lp_ct, lp_bk, lp_rt, lp_exc, out_rt, out_nx, out_exc, ownList, isFr, Bool.and_true, Bool.and_false, Bool.true_and, Bool.false_and, Bool.not_true, Bool.not_false, truD, if_true, if_false, Bool.false_eq_true, ↓reduceIte, startE_nil, startE_cons, reduceCtorEq, decide_true, decide_false, tyD, foldl_rev]
end Law
namespace Law
open PySem PySem.Spec PyProof.Rows L2 Z
theorem rng_compB {m : Nat} {f : Nat → Bool} {tg : D → Option Env'} {c : Env' → R Bool} {x : Env' → R D} (h : ∀ k : Nat, k < m → ∃ ρ, tg (.int (k : Nat)) = some ρ ∧ c ρ = .ok true ∧ x ρ = .ok (.bl (f k))) : compL tg c x (rngL 0 m) = .ok (((List.range m).map f).map .bl) := by
  have e := compL_map (tg := tg) (c := c) (x := x) (fun d => match d with
    | .int i => D.bl (f i.toNat)
    | _ => .non) (rngL 0 m) (fun d hd => by
      rw [rngL_map, List.map_map] at hd
      obtain ⟨k, hk, rfl⟩ := List.mem_map.mp hd
      obtain ⟨ρ, h1, h2, h3⟩ := h k (List.mem_range.mp hk)
      exact ⟨ρ, h1, h2, by rw [h3]; show _ = R.ok (D.bl (f ((k : Nat) : Int).toNat)); rw [toNat_nat]⟩)
  rw [e, rngL_map, List.map_map, List.map_map, List.map_map]
  congr 1
theorem ix_nat {l : List Nat} {k : Nat} (h : k < l.length) : ixD (.lst (l.map nD)) (.int (k : Nat)) = some (.int ((l[k] : Nat) : Int)) := by
  show atI _ _ = _
  rw [atI_nat (by rw [List.length_map]; exact h), List.getElem?_map, List.getElem?_eq_getElem h]
  rfl
theorem ix_bits {w v k : Nat} (h : k < w) : ixD (.lst (((List.range w).map (bt v)).map nD)) (.int (k : Nat)) = some (.int ((bt v k : Nat) : Int)) := by
  rw [ix_nat (by rw [List.length_map, List.length_range]; exact h)]
  simp
theorem any_bls (l : List Bool) : bltD .any [.lst (l.map .bl)] = some (.bl (l.any id)) := by
  show (blsOf (l.map D.bl)).map (fun bs => D.bl (bs.any id)) = _
  rw [blsOf_bls]; rfl
theorem all_bls (l : List Bool) : bltD .all [.lst (l.map .bl)] = some (.bl (l.all id)) := by
  show (blsOf (l.map D.bl)).map (fun bs => D.bl (bs.all id)) = _
  rw [blsOf_bls]; rfl
theorem mul_nat {a b : Nat} (h : a < 2 ^ 60) : binD .mul (.int (a : Nat)) (.int (b : Nat)) = some (.int ((a * b : Nat) : Int)) := by
  show mulD (.int (a : Nat)) (.int (b : Nat)) = _
  rw [mul_l (by omega)]
  simp
theorem bt_lt (v k : Nat) : bt v k < 2 := Nat.mod_lt _ (by decide)
def bad (o n v k : Nat) : Bool := decide (bt v k < bt o k) || decide (0 < bt n k * bt v k)
theorem bad_fit {w o n v : Nat} (ho : o < 2 ^ w) (hn : n < 2 ^ w) : (!((List.range w).map (bad o n v)).any id) = decide (fits o n v) := by
  rw [Bool.eq_iff_iff, decide_eq_true_eq, fit_iff, Bool.not_eq_true', List.any_eq_false]
  constructor
  · intro h i
    by_cases hi : i < w
    · have := h (bad o n v i) (List.mem_map.mpr ⟨i, List.mem_range.mpr hi, rfl⟩)
      simp only [id, bad, Bool.or_eq_true, decide_eq_true_eq, not_or, Nat.not_lt, bt_bit] at this
      obtain ⟨h1, h2⟩ := this
      refine ⟨fun q => ?_, fun q => ?_⟩
      · rw [q, if_pos rfl] at h1
        cases z : v.testBit i with
        | true => rfl
        | false => rw [z] at h1; simp at h1
      · rw [q, if_pos rfl] at h2
        cases z : v.testBit i with
        | false => rfl
        | true => rw [z] at h2; simp at h2
    · exact ⟨fun q => absurd (bit_lt ho q) hi, fun q => absurd (bit_lt hn q) hi⟩
  · intro h b hb
    obtain ⟨i, _, rfl⟩ := List.mem_map.mp hb
    simp only [id, bad, Bool.or_eq_true, decide_eq_true_eq, not_or, Nat.not_lt, bt_bit]
    refine ⟨?_, ?_⟩
    · cases q : o.testBit i with
      | false => simp
      | true => rw [(h i).1 q]; simp
    · cases q : n.testBit i with
      | false => simp
      | true => rw [(h i).2 q]; simp
def wE (w : Nat) (s : Span) (acc : List Nat) (s3 s6 : Slot) : Env' := [.im (.int (w : Nat)), .im (spT s), .ow (.lst (acc.map nD)), s3, .im (.lst (((List.range w).map (bt s.o)).map nD)), .im (.lst (((List.range w).map (bt s.n)).map nD)), s6, .un]
def bodyW : Sms := (.cons (.set [] 6 false (.ite (.chn .le .le (.ix (.own 1) (.cst (.int 2))) (.var 3) (.ix (.own 1) (.cst (.int 3)))) (.call 19 (.cons (.var 3) (.cons (.var 0) .nil))) (.cst .non))) <|
    (.cons (.ite [] (.and_ (.cmp .isn (.own 6) (.ev (.cst .non))) (.not_ (.blt .any (.cons (.ev (.comp (.or_ (.cmp .gt (.ev (.ix (.own 4) (.var 7))) (.ev (.ix (.own 6) (.var 7)))) (.cmp .gt (.ev (.bin .mul (.ix (.own 5) (.var 7)) (.ix (.own 6) (.var 7)))) (.ev (.cst (.int 0))))) [7] (.nm 7) (.rng1 (.var 0)) (.cst (.bl true)))) .nil))))
      (.cons (.app [] 2 (.var 3)) .nil)
      .nil) .nil))
theorem app_within {T : Nat → List D → R D} {sub} {w : Nat} {s : Span} {acc : List Nat} {v : Nat} {s6 : Slot} (h : acc.length < 2 ^ 20) : dS T sub (.app [] 2 (.var 3)) (wE w s acc (.im (nD v)) s6) = .nx (wE w s (acc ++ [v]) (.im (nD v)) s6) := by
  have e : dS T sub (.app [] 2 (.var 3)) (wE w s acc (.im (nD v)) s6) = if (acc.map nD).length < lim then .nx ((wE w s acc (.im (nD v)) s6).set 2 (.ow (.lst (acc.map nD ++ [nD v])))) else .bad := rfl
  rw [e, if_pos (by rw [List.length_map]; show acc.length < 16777216; omega)]
  unfold wE
  rw [List.map_append]
  rfl
theorem one_within (k w : Nat) {sub} (h16 : w ≤ 16) (s : Span) (ok : s.Ok w) (acc : List Nat) (v : Nat) (hv : v < 2 ^ w) (h : acc.length < 2 ^ 20) (s6 : Slot) : ∃ s6', dSs (run txt (k + 1)) sub bodyW (wE w s acc (.im (nD v)) s6) = .nx (wE w s (if s.has v = true then acc ++ [v] else acc) (.im (nD v)) s6') := by
  have rb := run_bits k w v h16
  by_cases c : s.lo ≤ v ∧ v ≤ s.hi
  · have e1 : dS (run txt (k + 1)) sub (.set [] 6 false (.ite (.chn .le .le (.ix (.own 1) (.cst (.int 2))) (.var 3) (.ix (.own 1) (.cst (.int 3)))) (.call 19 (.cons (.var 3) (.cons (.var 0) .nil))) (.cst .non))) (wE w s acc (.im (nD v)) s6) = .nx (wE w s acc (.im (nD v)) (.im (.lst (((List.range w).map (bt v)).map nD)))) := by
      unfold wE nD
      simp only [dE_cst, dE_glb, dE_var, dE_bin, dE_neg, dE_cmp, dE_chn, dE_and, dE_or, dE_not, dE_ite, dE_tup, dE_lst, dE_call, dE_blt, dE_mkb, dE_isi, dE_ix, dE_sl, dE_rev, dE_comp, dT_cst, dT_var, dT_bin, dT_cmp, dT_chn, dT_call, dT_blt, dT_isi, dT_ix, dT_ite, dT_and, dT_or, dT_not, dO_own, dO_ev, dBd_no, dBd_to, dBs_nil, dBs_cons, dEs_nil, dEs_cons, dIt_seq, dIt_rng1, dIt_rng2, dIt_enm, dIt_zip, dS_set, dS_unp, dS_par, dS_aug, dS_ret, dS_retN, dS_ite, dS_fo, dS_pass, dS_rai, dS_exp, dS_tr, dSs_nil, dSs_cons, go_nx, go_rt, go_exc, fl_ok, fl_exc, bind_ok, bind_exc, of_some, calm_ok, flof_some, look_0, look_s, lookB_im, lookB_ow, lookB_s, frzL_nil, frzL_cons, frz1_im, frz1_un, frz1_ow, frz1_s, tg_nm, tg_tp, tg_tpl, tgs_nil, tgs_cons, obind, set_0, set_s, lp_nx, lp_ct, lp_bk, lp_rt, lp_exc, out_rt, out_nx, out_exc, ownList, isFr, Bool.and_true, Bool.and_false, Bool.true_and, Bool.false_and, Bool.not_true, Bool.not_false, truD, if_true, if_false, Bool.false_eq_true, ↓reduceIte, startE_nil, startE_cons, reduceCtorEq, decide_true, decide_false, tyD, sp2, sp3, le_nat, c.1, c.2]
      have rb : run txt (k + 1) 19 [.int (v : Nat), .int (w : Nat)] = _ := rb
      simp only [rb, fl_ok, ownList, set_0, set_s]
      rfl
    have comp := rng_compB (m := w) (f := bad s.o s.n v) (tg := fun d => dTg (.nm 7) d (wipeE (wE w s acc (.im (nD v)) (.im (.lst (((List.range w).map (bt v)).map nD)))) [7])) (c := dT (run txt (k + 1)) (.cst (.bl true))) (x := dE (run txt (k + 1)) (.or_ (.cmp .gt (.ev (.ix (.own 4) (.var 7))) (.ev (.ix (.own 6) (.var 7)))) (.cmp .gt (.ev (.bin .mul (.ix (.own 5) (.var 7)) (.ix (.own 6) (.var 7)))) (.ev (.cst (.int 0)))))) fun j hj => by
      refine ⟨[.im (.int (w : Nat)), .im (spT s), .ow (.lst (acc.map nD)), .im (nD v), .im (.lst (((List.range w).map (bt s.o)).map nD)), .im (.lst (((List.range w).map (bt s.n)).map nD)), .im (.lst (((List.range w).map (bt v)).map nD)), .im (.int (j : Nat))], rfl, rfl, ?_⟩
      have b2 := bt_lt s.n j
      have mm := mul_nat (a := bt s.n j) (b := bt v j) (by omega)
      unfold bad
      by_cases z : bt v j < bt s.o j
      · simp only [dE_cst, dE_glb, dE_var, dE_bin, dE_neg, dE_cmp, dE_chn, dE_and, dE_or, dE_not, dE_ite, dE_tup, dE_lst, dE_call, dE_blt, dE_mkb, dE_isi, dE_ix, dE_sl, dE_rev, dE_comp, dT_cst, dT_var, dT_bin, dT_cmp, dT_chn, dT_call, dT_blt, dT_isi, dT_ix, dT_ite, dT_and, dT_or, dT_not, dO_own, dO_ev, dBd_no, dBd_to, dBs_nil, dBs_cons, dEs_nil, dEs_cons, dIt_seq, dIt_rng1, dIt_rng2, dIt_enm, dIt_zip, dS_set, dS_unp, dS_par, dS_aug, dS_ret, dS_retN, dS_ite, dS_fo, dS_pass, dS_rai, dS_exp, dS_tr, dSs_nil, dSs_cons, go_nx, go_rt, go_exc, fl_ok, fl_exc, bind_ok, bind_exc, of_some, calm_ok, flof_some, look_0, look_s, lookB_im, lookB_ow, lookB_s, frzL_nil, frzL_cons, frz1_im, frz1_un, frz1_ow, frz1_s, tg_nm, tg_tp, tg_tpl, tgs_nil, tgs_cons, obind, set_0, set_s, lp_nx, lp_ct, lp_bk, lp_rt, lp_exc, out_rt, out_nx, out_exc, ownList, isFr, Bool.and_true, Bool.and_false, Bool.true_and, Bool.false_and, Bool.not_true, Bool.not_false, truD, if_true, if_false, Bool.false_eq_true, ↓reduceIte, startE_nil, startE_cons, reduceCtorEq, decide_true, decide_false, tyD, ix_bits hj, gt_nat, z, Bool.true_or]
      · simp only [dE_cst, dE_glb, dE_var, dE_bin, dE_neg, dE_cmp, dE_chn, dE_and, dE_or, dE_not, dE_ite, dE_tup, dE_lst, dE_call, dE_blt, dE_mkb, dE_isi, dE_ix, dE_sl, dE_rev, dE_comp, dT_cst, dT_var, dT_bin, dT_cmp, dT_chn, dT_call, dT_blt, dT_isi, dT_ix, dT_ite, dT_and, dT_or, dT_not, dO_own, dO_ev, dBd_no, dBd_to, dBs_nil, dBs_cons, dEs_nil, dEs_cons, dIt_seq, dIt_rng1, dIt_rng2, dIt_enm, dIt_zip, dS_set, dS_unp, dS_par, dS_aug, dS_ret, dS_retN, dS_ite, dS_fo, dS_pass, dS_rai, dS_exp, dS_tr, dSs_nil, dSs_cons, go_nx, go_rt, go_exc, fl_ok, fl_exc, bind_ok, bind_exc, of_some, calm_ok, flof_some, look_0, look_s, lookB_im, lookB_ow, lookB_s, frzL_nil, frzL_cons, frz1_im, frz1_un, frz1_ow, frz1_s, tg_nm, tg_tp, tg_tpl, tgs_nil, tgs_cons, obind, set_0, set_s, lp_nx, lp_ct, lp_bk, lp_rt, lp_exc, out_rt, out_nx, out_exc, ownList, isFr, Bool.and_true, Bool.and_false, Bool.true_and, Bool.false_and, Bool.not_true, Bool.not_false, truD, if_true, if_false, Bool.false_eq_true, ↓reduceIte, startE_nil, startE_cons, reduceCtorEq, decide_true, decide_false, tyD, ix_bits hj, gt_nat, z, mm, gt_zero, Bool.false_or]
    simp only [tg_nm] at comp
    have ct : dT (run txt (k + 1)) (.and_ (.cmp .isn (.own 6) (.ev (.cst .non))) (.not_ (.blt .any (.cons (.ev (.comp (.or_ (.cmp .gt (.ev (.ix (.own 4) (.var 7))) (.ev (.ix (.own 6) (.var 7)))) (.cmp .gt (.ev (.bin .mul (.ix (.own 5) (.var 7)) (.ix (.own 6) (.var 7)))) (.ev (.cst (.int 0))))) [7] (.nm 7) (.rng1 (.var 0)) (.cst (.bl true)))) .nil)))) (wE w s acc (.im (nD v)) (.im (.lst (((List.range w).map (bt v)).map nD)))) = .ok (decide (fits s.o s.n v)) := by
      have il : ∀ l, cmpD .isn (.lst l) .non = some true := fun l => nrfl rfl
      unfold wE at comp ⊢
      simp only [dE_cst, dE_glb, dE_var, dE_bin, dE_neg, dE_cmp, dE_chn, dE_and, dE_or, dE_not, dE_ite, dE_tup, dE_lst, dE_call, dE_blt, dE_mkb, dE_isi, dE_ix, dE_sl, dE_rev, dE_comp, dT_cst, dT_var, dT_bin, dT_cmp, dT_chn, dT_call, dT_blt, dT_isi, dT_ix, dT_ite, dT_and, dT_or, dT_not, dO_own, dO_ev, dBd_no, dBd_to, dBs_nil, dBs_cons, dEs_nil, dEs_cons, dIt_seq, dIt_rng1, dIt_rng2, dIt_enm, dIt_zip, dS_set, dS_unp, dS_par, dS_aug, dS_ret, dS_retN, dS_ite, dS_fo, dS_pass, dS_rai, dS_exp, dS_tr, dSs_nil, dSs_cons, go_nx, go_rt, go_exc, fl_ok, fl_exc, bind_ok, bind_exc, of_some, calm_ok, flof_some, look_0, look_s, lookB_im, lookB_ow, lookB_s, frzL_nil, frzL_cons, frz1_im, frz1_un, frz1_ow, frz1_s, tg_nm, tg_tp, tg_tpl, tgs_nil, tgs_cons, obind, set_0, set_s, lp_nx, lp_ct, lp_bk, lp_rt, lp_exc, out_rt, out_nx, out_exc, ownList, isFr, Bool.and_true, Bool.and_false, Bool.true_and, Bool.false_and, Bool.not_true, Bool.not_false, truD, if_true, if_false, Bool.false_eq_true, ↓reduceIte, startE_nil, startE_cons, reduceCtorEq, decide_true, decide_false, tyD, il, inRng_nat (by omega : w < 2 ^ 60), toNat_nat, rngL_len, (show (w < lim) = True from eq_true (by show w < 16777216; omega)), comp, any_bls, bad_fit ok.o ok.n]
    have hs : s.has v = decide (fits s.o s.n v) := by
      unfold Span.has
      rw [decide_eq_true c.1, decide_eq_true c.2, Bool.true_and, Bool.and_true]
    refine ⟨.im (.lst (((List.range w).map (bt v)).map nD)), ?_⟩
    rw [hs]
    unfold bodyW
    rw [dSs_cons, e1, go_nx, dSs_cons, dS_ite, frzL_nil, ct, fl_ok]
    by_cases f : fits s.o s.n v
    · rw [decide_eq_true f, if_pos rfl, if_pos rfl, dSs_cons, app_within h, go_nx, dSs_nil, go_nx, dSs_nil]
    · rw [decide_eq_false f, if_neg (by decide), if_neg (by decide), dSs_nil, go_nx, dSs_nil]
  · have hs : s.has v = false := by
      cases q : s.has v with
      | false => rfl
      | true => exact absurd (has_iff.mp q).2 c
    refine ⟨.im .non, ?_⟩
    rw [hs, if_neg (by decide)]
    unfold bodyW wE nD
    by_cases c1 : s.lo ≤ v
    · have c2 : ¬ v ≤ s.hi := fun z => c ⟨c1, z⟩
      simp only [dE_cst, dE_glb, dE_var, dE_bin, dE_neg, dE_cmp, dE_chn, dE_and, dE_or, dE_not, dE_ite, dE_tup, dE_lst, dE_call, dE_blt, dE_mkb, dE_isi, dE_ix, dE_sl, dE_rev, dE_comp, dT_cst, dT_var, dT_bin, dT_cmp, dT_chn, dT_call, dT_blt, dT_isi, dT_ix, dT_ite, dT_and, dT_or, dT_not, dO_own, dO_ev, dBd_no, dBd_to, dBs_nil, dBs_cons, dEs_nil, dEs_cons, dIt_seq, dIt_rng1, dIt_rng2, dIt_enm, dIt_zip, dS_set, dS_unp, dS_par, dS_aug, dS_ret, dS_retN, dS_ite, dS_fo, dS_pass, dS_rai, dS_exp, dS_tr, dSs_nil, dSs_cons, go_nx, go_rt, go_exc, fl_ok, fl_exc, bind_ok, bind_exc, of_some, calm_ok, flof_some, look_0, look_s, lookB_im, lookB_ow, lookB_s, frzL_nil, frzL_cons, frz1_im, frz1_un, frz1_ow, frz1_s, tg_nm, tg_tp, tg_tpl, tgs_nil, tgs_cons, obind, set_0, set_s, lp_nx, lp_ct, lp_bk, lp_rt, lp_exc, out_rt, out_nx, out_exc, ownList, isFr, Bool.and_true, Bool.and_false, Bool.true_and, Bool.false_and, Bool.not_true, Bool.not_false, truD, if_true, if_false, Bool.false_eq_true, ↓reduceIte, startE_nil, startE_cons, reduceCtorEq, decide_true, decide_false, tyD, sp2, sp3, le_nat, c1, c2, isn_non]
    · simp only [dE_cst, dE_glb, dE_var, dE_bin, dE_neg, dE_cmp, dE_chn, dE_and, dE_or, dE_not, dE_ite, dE_tup, dE_lst, dE_call, dE_blt, dE_mkb, dE_isi, dE_ix, dE_sl, dE_rev, dE_comp, dT_cst, dT_var, dT_bin, dT_cmp, dT_chn, dT_call, dT_blt, dT_isi, dT_ix, dT_ite, dT_and, dT_or, dT_not, dO_own, dO_ev, dBd_no, dBd_to, dBs_nil, dBs_cons, dEs_nil, dEs_cons, dIt_seq, dIt_rng1, dIt_rng2, dIt_enm, dIt_zip, dS_set, dS_unp, dS_par, dS_aug, dS_ret, dS_retN, dS_ite, dS_fo, dS_pass, dS_rai, dS_exp, dS_tr, dSs_nil, dSs_cons, go_nx, go_rt, go_exc, fl_ok, fl_exc, bind_ok, bind_exc, of_some, calm_ok, flof_some, look_0, look_s, lookB_im, lookB_ow, lookB_s, frzL_nil, frzL_cons, frz1_im, frz1_un, frz1_ow, frz1_s, tg_nm, tg_tp, tg_tpl, tgs_nil, tgs_cons, obind, set_0, set_s, lp_nx, lp_ct, lp_bk, lp_rt, lp_exc, out_rt, out_nx, out_exc, ownList, isFr, Bool.and_true, Bool.and_false, Bool.true_and, Bool.false_and, Bool.not_true, Bool.not_false, truD, if_true, if_false, Bool.false_eq_true, ↓reduceIte, startE_nil, startE_cons, reduceCtorEq, decide_true, decide_false, tyD, sp2, sp3, le_nat, c1, isn_non]
theorem loop_within (k w : Nat) {sub} (h16 : w ≤ 16) (s : Span) (ok : s.Ok w) : ∀ (m p : Nat) (acc : List Nat) (s3 s6 : Slot), p + m = 2 ^ w → acc.length + m < 2 ^ 20 → ∃ s3' s6', forL (dTg (.nm 3)) (dSs (run txt (k + 1)) sub bodyW) (rngL (p : Nat) m) (wE w s acc s3 s6) = .nx (wE w s (acc ++ (List.range' p m).filter s.has) s3' s6')
  | 0, p, acc, s3, s6, _, _ => ⟨s3, s6, by rw [rngL_nil, forL_nil, List.range'_zero, List.filter_nil, List.append_nil]⟩
  | m + 1, p, acc, s3, s6, h, hl => by
    obtain ⟨t6, e⟩ := one_within k w (sub := sub) h16 s ok acc p (by omega) (by omega) s6
    obtain ⟨r3, r6, ih⟩ := loop_within k w (sub := sub) h16 s ok m (p + 1) (if s.has p = true then acc ++ [p] else acc) (.im (nD p)) t6 (by omega) (by
      split
      · rw [List.length_append, List.length_singleton]; omega
      · omega)
    refine ⟨r3, r6, ?_⟩
    rw [rngL_cons, forL_cons (ρ1 := wE w s acc (.im (nD p)) s6) rfl, e, lp_nx]
    rw [show (((p + 1 : Nat)) : Int) = (p : Int) + 1 from by omega] at ih
    rw [ih, List.range'_succ]
    congr 2
    cases q : s.has p with
    | true => rw [if_pos rfl, List.filter_cons_of_pos q, List.append_assoc]; rfl
    | false => rw [if_neg (by decide), List.filter_cons_of_neg (by rw [q]; decide)]
theorem ix_pow9 (w : Nat) (h : w < 9) : ixD (.lst [.int 1, .int 2, .int 4, .int 8, .int 16, .int 32, .int 64, .int 128, .int 256]) (.int (w : Nat)) = some (.int ((2 ^ w : Nat) : Int)) := EachN.get (n := 9) (p := fun w => ixD (.lst [.int 1, .int 2, .int 4, .int 8, .int 16, .int 32, .int 64, .int 128, .int 256]) (.int (w : Nat)) = some (.int ((2 ^ w : Nat) : Int))) ⟨⟨⟨⟨⟨⟨⟨⟨⟨trivial, rfl⟩, rfl⟩, rfl⟩, rfl⟩, rfl⟩, rfl⟩, rfl⟩, rfl⟩, rfl⟩ h
theorem run_lwithin (k w : Nat) (h : w < 9) (s : Span) (ok : s.Ok w) : run txt (k + 2) 21 [.int (w : Nat), spT s] = .ok (.lst ((within w s).map nD)) := by
  rw [run_s (d := d21) rfl rfl]
  show (dSs _ _ b21 [.im (.int (w : Nat)), .im (spT s), .un, .un, .un, .un, .un, .un]).out = _
  have r1 := run_bits k w s.o (by omega)
  have r2 := run_bits k w s.n (by omega)
  have p9 : 2 ^ w < 2 ^ 9 := Nat.pow_lt_pow_right (by decide) h
  obtain ⟨s3', s6', e⟩ := loop_within k w (sub := subL txt.sub) (by omega) s ok (2 ^ w) 0 [] .un .un (Nat.zero_add _) (by rw [List.length_nil]; omega)
  rw [show ((0 : Nat) : Int) = 0 from rfl, List.nil_append, ← List.range_eq_range'] at e
  have e : forL (dTg (.nm 3)) (dSs (run txt (k + 1)) (subL txt.sub) bodyW) (rngL 0 (2 ^ w)) [.im (.int (w : Nat)), .im (spT s), .ow (.lst []), .un, .im (.lst (((List.range w).map (bt s.o)).map nD)), .im (.lst (((List.range w).map (bt s.n)).map nD)), .un, .un] = .nx (wE w s (within w s) s3' s6') := e
  unfold bodyW at e
  simp only [b21, dE_cst, dE_glb, dE_var, dE_bin, dE_neg, dE_cmp, dE_chn, dE_and, dE_or, dE_not, dE_ite, dE_tup, dE_lst, dE_call, dE_blt, dE_mkb, dE_isi, dE_ix, dE_sl, dE_rev, dE_comp, dT_cst, dT_var, dT_bin, dT_cmp, dT_chn, dT_call, dT_blt, dT_isi, dT_ix, dT_ite, dT_and, dT_or, dT_not, dO_own, dO_ev, dBd_no, dBd_to, dBs_nil, dBs_cons, dEs_nil, dEs_cons, dIt_seq, dIt_rng1, dIt_rng2, dIt_enm, dIt_zip, dS_set, dS_unp, dS_par, dS_aug, dS_ret, dS_retN, dS_ite, dS_fo, dS_pass, dS_rai, dS_exp, dS_tr, dSs_nil, dSs_cons, go_nx, go_rt, go_exc, fl_ok, fl_exc, bind_ok, bind_exc, of_some, calm_ok, flof_some, look_0, look_s, lookB_im, lookB_ow, lookB_s, frzL_nil, frzL_cons, frz1_im, frz1_un, frz1_ow, frz1_s, tg_nm, tg_tp, tg_tpl, tgs_nil, tgs_cons, obind, set_0, set_s, lp_nx, lp_ct, lp_bk, lp_rt, lp_exc, out_rt, out_nx, out_exc, ownList, isFr, Bool.and_true, Bool.and_false, Bool.true_and, Bool.false_and, Bool.not_true, Bool.not_false, truD, if_true, if_false, Bool.false_eq_true, ↓reduceIte, startE_nil, startE_cons, reduceCtorEq, decide_true, decide_false, tyD, List.length_cons, List.length_nil, (by decide : (0 ≤ lim) = True), (by decide : (0 + 1 + 1 ≤ lim) = True), (by decide : (0 + 1 + 1 + 1 + 1 + 1 + 1 + 1 + 1 + 1 ≤ lim) = True), sp0, sp1, r1, r2, ix_pow9 w h, inRng_nat (by omega : 2 ^ w < 2 ^ 60), toNat_nat]
  rw [e]
  unfold wE
  simp only [dE_cst, dE_glb, dE_var, dE_bin, dE_neg, dE_cmp, dE_chn, dE_and, dE_or, dE_not, dE_ite, dE_tup, dE_lst, dE_call, dE_blt, dE_mkb, dE_isi, dE_ix, dE_sl, dE_rev, dE_comp, dT_cst, dT_var, dT_bin, dT_cmp, dT_chn, dT_call, dT_blt, dT_isi, dT_ix, dT_ite, dT_and, dT_or, dT_not, dO_own, dO_ev, dBd_no, dBd_to, dBs_nil, dBs_cons, dEs_nil, dEs_cons, dIt_seq, dIt_rng1, dIt_rng2, dIt_enm, dIt_zip, dS_set, dS_unp, dS_par, dS_aug, dS_ret, dS_retN, dS_ite, dS_fo, dS_pass, dS_rai, dS_exp, dS_tr, dSs_nil, dSs_cons, go_nx, go_rt, go_exc, fl_ok, fl_exc, bind_ok, bind_exc, of_some, calm_ok, flof_some, look_0, look_s, lookB_im, lookB_ow, lookB_s, frzL_nil, frzL_cons, frz1_im, frz1_un, frz1_ow, frz1_s, tg_nm, tg_tp, tg_tpl, tgs_nil, tgs_cons, obind, set_0, set_s, lp_nx, lp_ct, lp_bk, lp_rt, lp_exc, out_rt, out_nx, out_exc, ownList, isFr, Bool.and_true, Bool.and_false, Bool.true_and, Bool.false_and, Bool.not_true, Bool.not_false, truD, if_true, if_false, Bool.false_eq_true, ↓reduceIte, startE_nil, startE_cons, reduceCtorEq, decide_true, decide_false, tyD]
end Law
namespace Law
open PySem PySem.Spec PyProof.Rows L2 Z
def bitsD (w x : Nat) : D := .lst (((List.range w).map (bt x)).map nD)
theorem int_bl {b : Bool} : bltD .int [.bl b] = some (nD (if b = true then 1 else 0)) := by
  show some (D.int (if b = true then 1 else 0)) = _
  cases b <;> rfl
theorem col_comp {w k : Nat} (hk : k < w) (xs : List Nat) (c : Nat) (g : Nat → Bool) (hg : ∀ x, g x = (bt x k == c)) {tg : D → Option Env'} {cc : Env' → R Bool} {e : Env' → R D} (h : ∀ x, ∃ ρ, tg (bitsD w x) = some ρ ∧ cc ρ = .ok true ∧ e ρ = .ok (.bl (bt x k == c))) : compL tg cc e (xs.map (bitsD w)) = .ok ((xs.map g).map .bl) := by
  have := compL_map (tg := tg) (c := cc) (x := e) (fun d => match ixD d (.int (k : Nat)) with
    | some (.int i) => D.bl (i == (c : Int))
    | _ => .non) (xs.map (bitsD w)) fun d hd => by
    obtain ⟨x, _, rfl⟩ := List.mem_map.mp hd
    obtain ⟨ρ, h1, h2, h3⟩ := h x
    refine ⟨ρ, h1, h2, ?_⟩
    rw [h3]
    unfold bitsD
    rw [ix_bits hk]
    congr 2
    rw [Bool.eq_iff_iff, beq_iff_eq, beq_iff_eq]
    omega
  rw [this, List.map_map, List.map_map]
  congr 1
  apply List.map_congr_left
  intro x _
  show (match ixD (bitsD w x) (.int (k : Nat)) with
    | some (.int i) => D.bl (i == (c : Int))
    | _ => .non) = D.bl (g x)
  unfold bitsD
  rw [ix_bits hk, hg]
  show D.bl (((bt x k : Nat) : Int) == (c : Int)) = _
  congr 1
  rw [Bool.eq_iff_iff, beq_iff_eq, beq_iff_eq]
  omega
theorem run_lhull_nil (k w : Nat) : run txt (k + 2) 22 [.int (w : Nat), .lst []] = .ok .non := by
  rw [run_s (d := d22) rfl rfl]
  show (dSs _ _ b22 [.im (.int (w : Nat)), .im (.lst []), .un, .un, .un, .un, .un, .un]).out = _
  have l0 : cmpD .eq (.int ((([] : List D).length : Nat) : Int)) (.int 0) = some true := by kernel_rfl
  simp only [b22, dE_cst, dE_glb, dE_var, dE_bin, dE_neg, dE_cmp, dE_chn, dE_and, dE_or, dE_not, dE_ite, dE_tup, dE_lst, dE_call, dE_blt, dE_mkb, dE_isi, dE_ix, dE_sl, dE_rev, dE_comp, dT_cst, dT_var, dT_bin, dT_cmp, dT_chn, dT_call, dT_blt, dT_isi, dT_ix, dT_ite, dT_and, dT_or, dT_not, dO_own, dO_ev, dBd_no, dBd_to, dBs_nil, dBs_cons, dEs_nil, dEs_cons, dIt_seq, dIt_rng1, dIt_rng2, dIt_enm, dIt_zip, dS_set, dS_unp, dS_par, dS_aug, dS_ret, dS_retN, dS_ite, dS_fo, dS_pass, dS_rai, dS_exp, dS_tr, dSs_nil, dSs_cons, go_nx, go_rt, go_exc, fl_ok, fl_exc, bind_ok, bind_exc, of_some, calm_ok, flof_some, look_0, look_s, lookB_im, lookB_ow, lookB_s, frzL_nil, frzL_cons, frz1_im, frz1_un, frz1_ow, frz1_s, tg_nm, tg_tp, tg_tpl, tgs_nil, tgs_cons, obind, set_0, set_s, lp_nx, lp_ct, lp_bk, lp_rt, lp_exc, out_rt, out_nx, out_exc, ownList, isFr, Bool.and_true, Bool.and_false, Bool.true_and, Bool.false_and, Bool.not_true, Bool.not_false, truD, if_true, if_false, Bool.false_eq_true, ↓reduceIte, startE_nil, startE_cons, reduceCtorEq, decide_true, decide_false, tyD, len_lst, l0]
theorem run_lhull (k w : Nat) (h16 : w ≤ 16) (xs : List Nat) (l h : Nat) (e : Ends xs l h) (ll : xs.length < 2 ^ 18) : run txt (k + 2) 22 [.int (w : Nat), .lst (xs.map nD)] = .ok (spT (hullN w xs l h)) := by
  rw [run_s (d := d22) rfl rfl]
  show (dSs _ _ b22 [.im (.int (w : Nat)), .im (.lst (xs.map nD)), .un, .un, .un, .un, .un, .un]).out = _
  have ne : xs.length ≠ 0 := fun z => by
    have := e.1
    rw [List.length_eq_zero_iff.mp z] at this
    cases this
  have l0 : cmpD .eq (.int ((xs.length : Nat) : Int)) (.int 0) = some false := by
    rw [eq_zero]
    congr 1
    simpa using ne
  have mn := minL_nat e.1 fun x hx => (e.2.2 x hx).1
  have mx := maxL_nat e.2.1 fun x hx => (e.2.2 x hx).2
  have cR : compL (fun d => dTg (.nm 5) d (wipeE [.im (.int (w : Nat)), .im (.lst (xs.map nD)), .un, .un, .un, .un, .un, .un] [5])) (dT (run txt (k + 1)) (.cst (.bl true))) (dE (run txt (k + 1)) (.call 19 (.cons (.var 5) (.cons (.var 0) .nil)))) (xs.map nD) = .ok (xs.map (bitsD w)) := by
    have := compL_map (tg := fun d => dTg (.nm 5) d (wipeE [.im (.int (w : Nat)), .im (.lst (xs.map nD)), .un, .un, .un, .un, .un, .un] [5])) (c := dT (run txt (k + 1)) (.cst (.bl true))) (x := dE (run txt (k + 1)) (.call 19 (.cons (.var 5) (.cons (.var 0) .nil)))) (fun d => match d with
      | .int i => bitsD w i.toNat
      | _ => .non) (xs.map nD) fun d hd => by
      obtain ⟨x, _, rfl⟩ := List.mem_map.mp hd
      refine ⟨[.im (.int (w : Nat)), .im (.lst (xs.map nD)), .un, .un, .un, .im (.int (x : Nat)), .un, .un], rfl, rfl, ?_⟩
      simp only [dE_cst, dE_glb, dE_var, dE_bin, dE_neg, dE_cmp, dE_chn, dE_and, dE_or, dE_not, dE_ite, dE_tup, dE_lst, dE_call, dE_blt, dE_mkb, dE_isi, dE_ix, dE_sl, dE_rev, dE_comp, dT_cst, dT_var, dT_bin, dT_cmp, dT_chn, dT_call, dT_blt, dT_isi, dT_ix, dT_ite, dT_and, dT_or, dT_not, dO_own, dO_ev, dBd_no, dBd_to, dBs_nil, dBs_cons, dEs_nil, dEs_cons, dIt_seq, dIt_rng1, dIt_rng2, dIt_enm, dIt_zip, dS_set, dS_unp, dS_par, dS_aug, dS_ret, dS_retN, dS_ite, dS_fo, dS_pass, dS_rai, dS_exp, dS_tr, dSs_nil, dSs_cons, go_nx, go_rt, go_exc, fl_ok, fl_exc, bind_ok, bind_exc, of_some, calm_ok, flof_some, look_0, look_s, lookB_im, lookB_ow, lookB_s, frzL_nil, frzL_cons, frz1_im, frz1_un, frz1_ow, frz1_s, tg_nm, tg_tp, tg_tpl, tgs_nil, tgs_cons, obind, set_0, set_s, lp_nx, lp_ct, lp_bk, lp_rt, lp_exc, out_rt, out_nx, out_exc, ownList, isFr, Bool.and_true, Bool.and_false, Bool.true_and, Bool.false_and, Bool.not_true, Bool.not_false, truD, if_true, if_false, Bool.false_eq_true, ↓reduceIte, startE_nil, startE_cons, reduceCtorEq, decide_true, decide_false, tyD, run_bits k w x h16]
      show R.ok (bitsD w x) = R.ok (bitsD w ((x : Nat) : Int).toNat)
      rw [toNat_nat]
    rw [this, List.map_map]
    congr 1
  simp only [tg_nm] at cR
  have col : ∀ (a3 : Slot) (c : Nat) (g : Nat → Nat → Bool), (∀ k x, g k x = (bt x k == c)) → compL (fun d => dTg (.nm 6) d (wipeE [.im (.int (w : Nat)), .im (.lst (xs.map nD)), .im (.lst (xs.map (bitsD w))), a3, .un, .un, .un, .un] [6])) (dT (run txt (k + 1)) (.cst (.bl true))) (dE (run txt (k + 1)) (.blt .int (.cons (.ev (.blt .all (.cons (.ev (.comp (.cmp .eq (.ev (.ix (.own 7) (.var 6))) (.ev (.cst (.int (c : Nat))))) [7] (.nm 7) (.seq (.var 2)) (.cst (.bl true)))) .nil))) .nil))) (rngL 0 w) = .ok (((List.range w).map fun k => if (xs.all fun x => g k x) = true then 1 else 0).map nD) := fun a3 c g hg => by
    refine rng_compN (f := fun k => if (xs.all fun x => g k x) = true then 1 else 0) fun j hj => ?_
    refine ⟨[.im (.int (w : Nat)), .im (.lst (xs.map nD)), .im (.lst (xs.map (bitsD w))), a3, .un, .un, .im (.int (j : Nat)), .un], rfl, rfl, ?_⟩
    have inner := col_comp (w := w) (k := j) hj xs c (g j) (hg j) (tg := fun d => dTg (.nm 7) d (wipeE [.im (.int (w : Nat)), .im (.lst (xs.map nD)), .im (.lst (xs.map (bitsD w))), a3, .un, .un, .im (.int (j : Nat)), .un] [7])) (cc := dT (run txt (k + 1)) (.cst (.bl true))) (e := dE (run txt (k + 1)) (.cmp .eq (.ev (.ix (.own 7) (.var 6))) (.ev (.cst (.int (c : Nat)))))) fun x => by
      refine ⟨[.im (.int (w : Nat)), .im (.lst (xs.map nD)), .im (.lst (xs.map (bitsD w))), a3, .un, .un, .im (.int (j : Nat)), .im (bitsD w x)], rfl, rfl, ?_⟩
      unfold bitsD
      simp only [dE_cst, dE_glb, dE_var, dE_bin, dE_neg, dE_cmp, dE_chn, dE_and, dE_or, dE_not, dE_ite, dE_tup, dE_lst, dE_call, dE_blt, dE_mkb, dE_isi, dE_ix, dE_sl, dE_rev, dE_comp, dT_cst, dT_var, dT_bin, dT_cmp, dT_chn, dT_call, dT_blt, dT_isi, dT_ix, dT_ite, dT_and, dT_or, dT_not, dO_own, dO_ev, dBd_no, dBd_to, dBs_nil, dBs_cons, dEs_nil, dEs_cons, dIt_seq, dIt_rng1, dIt_rng2, dIt_enm, dIt_zip, dS_set, dS_unp, dS_par, dS_aug, dS_ret, dS_retN, dS_ite, dS_fo, dS_pass, dS_rai, dS_exp, dS_tr, dSs_nil, dSs_cons, go_nx, go_rt, go_exc, fl_ok, fl_exc, bind_ok, bind_exc, of_some, calm_ok, flof_some, look_0, look_s, lookB_im, lookB_ow, lookB_s, frzL_nil, frzL_cons, frz1_im, frz1_un, frz1_ow, frz1_s, tg_nm, tg_tp, tg_tpl, tgs_nil, tgs_cons, obind, set_0, set_s, lp_nx, lp_ct, lp_bk, lp_rt, lp_exc, out_rt, out_nx, out_exc, ownList, isFr, Bool.and_true, Bool.and_false, Bool.true_and, Bool.false_and, Bool.not_true, Bool.not_false, truD, if_true, if_false, Bool.false_eq_true, ↓reduceIte, startE_nil, startE_cons, reduceCtorEq, decide_true, decide_false, tyD, ix_bits hj, eq_nat]
    simp only [tg_nm] at inner
    have al : ((xs.map (g j)).all id) = xs.all fun x => g j x := by rw [List.all_map]; rfl
    simp only [dE_cst, dE_glb, dE_var, dE_bin, dE_neg, dE_cmp, dE_chn, dE_and, dE_or, dE_not, dE_ite, dE_tup, dE_lst, dE_call, dE_blt, dE_mkb, dE_isi, dE_ix, dE_sl, dE_rev, dE_comp, dT_cst, dT_var, dT_bin, dT_cmp, dT_chn, dT_call, dT_blt, dT_isi, dT_ix, dT_ite, dT_and, dT_or, dT_not, dO_own, dO_ev, dBd_no, dBd_to, dBs_nil, dBs_cons, dEs_nil, dEs_cons, dIt_seq, dIt_rng1, dIt_rng2, dIt_enm, dIt_zip, dS_set, dS_unp, dS_par, dS_aug, dS_ret, dS_retN, dS_ite, dS_fo, dS_pass, dS_rai, dS_exp, dS_tr, dSs_nil, dSs_cons, go_nx, go_rt, go_exc, fl_ok, fl_exc, bind_ok, bind_exc, of_some, calm_ok, flof_some, look_0, look_s, lookB_im, lookB_ow, lookB_s, frzL_nil, frzL_cons, frz1_im, frz1_un, frz1_ow, frz1_s, tg_nm, tg_tp, tg_tpl, tgs_nil, tgs_cons, obind, set_0, set_s, lp_nx, lp_ct, lp_bk, lp_rt, lp_exc, out_rt, out_nx, out_exc, ownList, isFr, Bool.and_true, Bool.and_false, Bool.true_and, Bool.false_and, Bool.not_true, Bool.not_false, truD, if_true, if_false, Bool.false_eq_true, ↓reduceIte, startE_nil, startE_cons, reduceCtorEq, decide_true, decide_false, tyD, itemsD, List.length_map, (show (xs.length < lim) = True from eq_true (by show xs.length < 16777216; omega)), inner, all_bls, al, int_bl]
  have n2 : ∀ (g : Nat → Bool), ofL ((List.range w).map fun k => if g k = true then 1 else 0) = num w g := fun g => by
    unfold num
    rw [← ofL_ofB, List.map_map]
    rfl
  have b2 : ∀ (g : Nat → Bool), ∀ b ∈ ((List.range w).map fun k => if g k = true then 1 else 0), b < 2 := fun g b hb => by
    obtain ⟨k, _, rfl⟩ := List.mem_map.mp hb
    split <;> omega
  have g1 : ∀ k x : Nat, x.testBit k = (bt x k == 1) := fun k x => by rw [bt_bit]; cases x.testBit k <;> rfl
  have g0 : ∀ k x : Nat, (!x.testBit k) = (bt x k == 0) := fun k x => by rw [bt_bit]; cases x.testBit k <;> rfl
  have c1 := col .un 1 (fun k x => x.testBit k) g1
  have c0 := col (.im (nD (num w fun k => xs.all fun x => x.testBit k))) 0 (fun k x => !x.testBit k) g0
  rw [show ((1 : Nat) : Int) = 1 from rfl] at c1
  rw [show ((0 : Nat) : Int) = 0 from rfl] at c0
  simp only [tg_nm] at c1 c0
  have r1 := run_number k _ (b2 fun k => xs.all fun x => x.testBit k)
  have r0 := run_number k _ (b2 fun k => xs.all fun x => !x.testBit k)
  rw [n2] at r1 r0
  simp only [b22, dE_cst, dE_glb, dE_var, dE_bin, dE_neg, dE_cmp, dE_chn, dE_and, dE_or, dE_not, dE_ite, dE_tup, dE_lst, dE_call, dE_blt, dE_mkb, dE_isi, dE_ix, dE_sl, dE_rev, dE_comp, dT_cst, dT_var, dT_bin, dT_cmp, dT_chn, dT_call, dT_blt, dT_isi, dT_ix, dT_ite, dT_and, dT_or, dT_not, dO_own, dO_ev, dBd_no, dBd_to, dBs_nil, dBs_cons, dEs_nil, dEs_cons, dIt_seq, dIt_rng1, dIt_rng2, dIt_enm, dIt_zip, dS_set, dS_unp, dS_par, dS_aug, dS_ret, dS_retN, dS_ite, dS_fo, dS_pass, dS_rai, dS_exp, dS_tr, dSs_nil, dSs_cons, go_nx, go_rt, go_exc, fl_ok, fl_exc, bind_ok, bind_exc, of_some, calm_ok, flof_some, look_0, look_s, lookB_im, lookB_ow, lookB_s, frzL_nil, frzL_cons, frz1_im, frz1_un, frz1_ow, frz1_s, tg_nm, tg_tp, tg_tpl, tgs_nil, tgs_cons, obind, set_0, set_s, lp_nx, lp_ct, lp_bk, lp_rt, lp_exc, out_rt, out_nx, out_exc, ownList, isFr, Bool.and_true, Bool.and_false, Bool.true_and, Bool.false_and, Bool.not_true, Bool.not_false, truD, if_true, if_false, Bool.false_eq_true, ↓reduceIte, startE_nil, startE_cons, reduceCtorEq, decide_true, decide_false, tyD, len_lst, List.length_map, l0, itemsD, (show (xs.length < lim) = True from eq_true (by show xs.length < 16777216; omega)), cR, inRng_nat (by omega : w < 2 ^ 60), toNat_nat, rngL_len, (show (w < lim) = True from eq_true (by show w < 16777216; omega)), c1, r1, c0, r0, mn, mx, List.length_cons, List.length_nil, (by decide : (0 + 1 + 1 + 1 + 1 ≤ lim) = True)]
  rfl
end Law
namespace Law
open PySem PySem.Spec PyProof.Rows L2 Z
theorem run_span (k w at_ : Nat) (h16 : w ≤ 16) (L : List Int) (hL : Pos L) (hl : L.length = 200) : ∃ s : Span, s.Ok w ∧ run txt (k + 1) 23 [.lst (L.map .int), .int (at_ : Nat), .int (w : Nat), .int ((2 ^ w - 1 : Nat) : Int)] = .ok (spT s) := by
  have p1 := p_pos w
  have w17 := pw16 h16
  obtain ⟨g, hg⟩ : ∃ g : Nat → Nat, ∀ j, L.getD ((at_ + j) % 200) 0 % ((2 ^ w : Nat) : Int) = (g j : Nat) := ⟨fun j => (L.getD ((at_ + j) % 200) 0 % ((2 ^ w : Nat) : Int)).toNat, fun j => (Int.toNat_of_nonneg (Int.emod_nonneg _ (by omega))).symm⟩
  have glt : ∀ j, g j < 2 ^ w := fun j => by
    have := Int.emod_lt_of_pos (L.getD ((at_ + j) % 200) 0) (show (0 : Int) < ((2 ^ w : Nat) : Int) by omega)
    have := hg j
    omega
  have hw : ((2 ^ w - 1 : Nat) : Int) + 1 = ((2 ^ w : Nat) : Int) := by omega
  have addw : binD .add (.int ((2 ^ w - 1 : Nat) : Int)) (.int 1) = some (.int ((2 ^ w : Nat) : Int)) := by
    rw [add_one]
    congr 3
    omega
  have m200 : ∀ a : Nat, binD .mod (.int (a : Nat)) (.int (L.length : Nat)) = some (.int ((a % 200 : Nat) : Int)) := fun a => by rw [mod_nat (by omega), hl]
  have comp := rng_compN (m := 6) (f := g) (tg := fun d => dTg (.nm 9) d (wipeE [.im (.lst (L.map .int)), .im (.int (at_ : Nat)), .im (.int (w : Nat)), .im (.int ((2 ^ w - 1 : Nat) : Int)), .un, .un, .un, .un, .un, .un] [9])) (c := dT (run txt k) (.cst (.bl true))) (x := dE (run txt k) (.bin .mod (.blt .int (.cons (.ev (.ix (.own 0) (.bin .mod (.bin .add (.var 1) (.var 9)) (.blt .len (.cons (.own 0) .nil))))) .nil)) (.bin .add (.var 3) (.cst (.int 1))))) fun j hj => by
    refine ⟨[.im (.lst (L.map .int)), .im (.int (at_ : Nat)), .im (.int (w : Nat)), .im (.int ((2 ^ w - 1 : Nat) : Int)), .un, .un, .un, .un, .un, .im (.int (j : Nat))], rfl, rfl, ?_⟩
    have mm : binD .mod (.int (L.getD ((at_ + j) % 200) 0)) (.int ((2 ^ w : Nat) : Int)) = some (nD (g j)) := by
      show (if 0 < ((2 ^ w : Nat) : Int) then some (D.int (L.getD ((at_ + j) % 200) 0 % ((2 ^ w : Nat) : Int))) else none) = _
      rw [if_pos (by omega), hg]
      rfl
    simp only [dE_cst, dE_glb, dE_var, dE_bin, dE_neg, dE_cmp, dE_chn, dE_and, dE_or, dE_not, dE_ite, dE_tup, dE_lst, dE_call, dE_blt, dE_mkb, dE_isi, dE_ix, dE_sl, dE_rev, dE_comp, dT_cst, dT_var, dT_bin, dT_cmp, dT_chn, dT_call, dT_blt, dT_isi, dT_ix, dT_ite, dT_and, dT_or, dT_not, dO_own, dO_ev, dBd_no, dBd_to, dBs_nil, dBs_cons, dEs_nil, dEs_cons, dIt_seq, dIt_rng1, dIt_rng2, dIt_enm, dIt_zip, dS_set, dS_unp, dS_par, dS_aug, dS_ret, dS_retN, dS_ite, dS_fo, dS_pass, dS_rai, dS_exp, dS_tr, dSs_nil, dSs_cons, go_nx, go_rt, go_exc, fl_ok, fl_exc, bind_ok, bind_exc, of_some, calm_ok, flof_some, look_0, look_s, lookB_im, lookB_ow, lookB_s, frzL_nil, frzL_cons, frz1_im, frz1_un, frz1_ow, frz1_s, tg_nm, tg_tp, tg_tpl, tgs_nil, tgs_cons, obind, set_0, set_s, lp_nx, lp_ct, lp_bk, lp_rt, lp_exc, out_rt, out_nx, out_exc, ownList, isFr, Bool.and_true, Bool.and_false, Bool.true_and, Bool.false_and, Bool.not_true, Bool.not_false, truD, if_true, if_false, Bool.false_eq_true, ↓reduceIte, startE_nil, startE_cons, reduceCtorEq, decide_true, decide_false, tyD, add_nat, len_lst, List.length_map, m200, ix_lst (by omega : (at_ + j) % 200 < L.length), int_int, addw, mm]
  simp only [tg_nm] at comp
  have ls : ((List.range 6).map g).map nD = [nD (g 0), nD (g 1), nD (g 2), nD (g 3), nD (g 4), nD (g 5)] := rfl
  rw [ls] at comp
  obtain ⟨o, ho, eo⟩ : ∃ o, o < 2 ^ w ∧ ixD (.lst [.int 0, nD (g 0)]) (.int ((g 5 % 2 : Nat) : Int)) = some (.int (o : Nat)) := by
    have : g 5 % 2 = 0 ∨ g 5 % 2 = 1 := by omega
    rcases this with q | q <;> rw [q]
    · exact ⟨0, by omega, rfl⟩
    · exact ⟨g 0, glt 0, rfl⟩
  obtain ⟨n, hn, en⟩ : ∃ n, n < 2 ^ w ∧ ixD (.lst [.int 0, nD (g 1)]) (.int ((g 5 / 2 % 2 : Nat) : Int)) = some (.int (n : Nat)) := by
    have : g 5 / 2 % 2 = 0 ∨ g 5 / 2 % 2 = 1 := by omega
    rcases this with q | q <;> rw [q]
    · exact ⟨0, by omega, rfl⟩
    · exact ⟨g 1, glt 1, rfl⟩
  obtain ⟨lo, hi, hlo, hhi, elh⟩ : ∃ lo hi, lo < 2 ^ w ∧ hi < 2 ^ w ∧ ixD (.lst [.tup [.int ((min (g 2) (g 3) : Nat) : Int), .int ((max (g 2) (g 3) : Nat) : Int)], .tup [.int 0, .int ((2 ^ w - 1 : Nat) : Int)], .tup [nD (g 2), nD (g 3)]]) (.int ((g 4 % 3 : Nat) : Int)) = some (.tup [.int (lo : Nat), .int (hi : Nat)]) := by
    have : g 4 % 3 = 0 ∨ g 4 % 3 = 1 ∨ g 4 % 3 = 2 := by omega
    have a2 := glt 2
    have a3 := glt 3
    rcases this with q | q | q <;> rw [q]
    · exact ⟨_, _, by omega, by omega, rfl⟩
    · exact ⟨0, 2 ^ w - 1, by omega, by omega, rfl⟩
    · exact ⟨_, _, a2, a3, rfl⟩
  refine ⟨⟨o, n, lo, hi⟩, ⟨ho, hn, hlo, hhi⟩, ?_⟩
  rw [run_s (d := d23) rfl rfl]
  show (dSs _ _ b23 [.im (.lst (L.map .int)), .im (.int (at_ : Nat)), .im (.int (w : Nat)), .im (.int ((2 ^ w - 1 : Nat) : Int)), .un, .un, .un, .un, .un, .un]).out = _
  have r6 : inRng 6 = true := by kernel_rfl
  have l6 : (rngL 0 (6 : Int).toNat).length = 6 := rngL_len
  have t6 : (6 : Int).toNat = 6 := rfl
  have x0 : ixD (.lst [nD (g 0), nD (g 1), nD (g 2), nD (g 3), nD (g 4), nD (g 5)]) (.int 0) = some (nD (g 0)) := nrfl rfl
  have x1 : ixD (.lst [nD (g 0), nD (g 1), nD (g 2), nD (g 3), nD (g 4), nD (g 5)]) (.int 1) = some (nD (g 1)) := nrfl rfl
  have x2 : ixD (.lst [nD (g 0), nD (g 1), nD (g 2), nD (g 3), nD (g 4), nD (g 5)]) (.int 2) = some (nD (g 2)) := nrfl rfl
  have x3 : ixD (.lst [nD (g 0), nD (g 1), nD (g 2), nD (g 3), nD (g 4), nD (g 5)]) (.int 3) = some (nD (g 3)) := nrfl rfl
  have x4 : ixD (.lst [nD (g 0), nD (g 1), nD (g 2), nD (g 3), nD (g 4), nD (g 5)]) (.int 4) = some (nD (g 4)) := nrfl rfl
  have x5 : ixD (.lst [nD (g 0), nD (g 1), nD (g 2), nD (g 3), nD (g 4), nD (g 5)]) (.int 5) = some (nD (g 5)) := nrfl rfl
  have mn : bltD .min [nD (g 2), nD (g 3)] = some (.int ((min (g 2) (g 3) : Nat) : Int)) := min_nat
  have mx : bltD .max [nD (g 2), nD (g 3)] = some (.int ((max (g 2) (g 3) : Nat) : Int)) := max_nat
  have q1 : binD .mod (nD (g 5)) (.int 2) = some (.int ((g 5 % 2 : Nat) : Int)) := mod_two
  have q2 : binD .div (nD (g 5)) (.int 2) = some (.int ((g 5 / 2 : Nat) : Int)) := div_nat (b := 2) (by decide) (by decide)
  have q3 : binD .mod (nD (g 4)) (.int 3) = some (.int ((g 4 % 3 : Nat) : Int)) := mod_nat (b := 3) (by decide)
  simp only [b23, dE_cst, dE_glb, dE_var, dE_bin, dE_neg, dE_cmp, dE_chn, dE_and, dE_or, dE_not, dE_ite, dE_tup, dE_lst, dE_call, dE_blt, dE_mkb, dE_isi, dE_ix, dE_sl, dE_rev, dE_comp, dT_cst, dT_var, dT_bin, dT_cmp, dT_chn, dT_call, dT_blt, dT_isi, dT_ix, dT_ite, dT_and, dT_or, dT_not, dO_own, dO_ev, dBd_no, dBd_to, dBs_nil, dBs_cons, dEs_nil, dEs_cons, dIt_seq, dIt_rng1, dIt_rng2, dIt_enm, dIt_zip, dS_set, dS_unp, dS_par, dS_aug, dS_ret, dS_retN, dS_ite, dS_fo, dS_pass, dS_rai, dS_exp, dS_tr, dSs_nil, dSs_cons, go_nx, go_rt, go_exc, fl_ok, fl_exc, bind_ok, bind_exc, of_some, calm_ok, flof_some, look_0, look_s, lookB_im, lookB_ow, lookB_s, frzL_nil, frzL_cons, frz1_im, frz1_un, frz1_ow, frz1_s, tg_nm, tg_tp, tg_tpl, tgs_nil, tgs_cons, obind, set_0, set_s, lp_nx, lp_ct, lp_bk, lp_rt, lp_exc, out_rt, out_nx, out_exc, ownList, isFr, Bool.and_true, Bool.and_false, Bool.true_and, Bool.false_and, Bool.not_true, Bool.not_false, truD, if_true, if_false, Bool.false_eq_true, ↓reduceIte, startE_nil, startE_cons, reduceCtorEq, decide_true, decide_false, tyD, r6, t6, rngL_len, (by decide : (6 < lim) = True), comp, x0, x1, x2, x3, x4, x5, mn, mx, q1, q2, q3, mod_two, eo, en, elh, List.length_cons, List.length_nil, (by decide : (0 + 1 + 1 ≤ lim) = True), (by decide : (0 + 1 + 1 + 1 ≤ lim) = True), (by decide : (0 + 1 + 1 + 1 + 1 ≤ lim) = True)]
  rfl
end Law
namespace Law
open PySem PySem.Spec PyProof.Rows L2 Z
theorem flat_sp (s : Option Span) : flat 60 (oS s) = true := by cases s <;> rfl
theorem flat_nats (n : Nat) : ∀ xs : List Nat, flatL n (xs.map nD) = true
  | [] => rfl
  | x :: xs => by
    show (flat n (nD x) && flatL n (xs.map nD)) = true
    rw [flat_nats n xs]
    cases n <;> rfl
theorem run_lh (k w : Nat) (h : w ≤ 16) (s : Span) (ok : s.Ok w) : run txt (k + 2) 22 [.int (w : Nat), .lst ((within w s).map nD)] = .ok (oS (tightN w s)) := by
  have tk := tight_ok ok
  have w17 := pw16 h
  cases q : tightN w s with
  | none =>
    rw [q] at tk
    have tk : within w s = [] := tk
    rw [tk]
    exact run_lhull_nil k w
  | some t =>
    rw [q] at tk
    obtain ⟨e, tk⟩ := tk
    have wl : (within w s).length < 2 ^ 18 := by
      unfold within
      have := List.length_filter_le s.has (List.range (2 ^ w))
      rw [List.length_range] at this
      omega
    rw [run_lhull k w h _ _ _ e wl, ← tk]
    rfl
theorem in_nats {x : Nat} {xs : List Nat} : cmpD .in_ (nD x) (.lst (xs.map nD)) = some (xs.contains x) := by
  have lf : (xs.map nD).all leaf = true := by
    rw [List.all_eq_true]
    intro d hd
    obtain ⟨_, _, rfl⟩ := List.mem_map.mp hd
    rfl
  show (if leaf (nD x) && (xs.map nD).all leaf then some ((xs.map nD).any fun y => eqv y (nD x)) else none) = _
  rw [lf]
  show some ((xs.map nD).any fun y => eqv y (nD x)) = _
  congr 1
  rw [List.any_map, Bool.eq_iff_iff, List.any_eq_true, List.contains_iff_mem]
  constructor
  · rintro ⟨y, hy, e⟩
    have : ((y : Int) == (x : Int)) = true := e
    rw [beq_iff_eq] at this
    have : y = x := by omega
    rwa [← this]
  · intro hx
    exact ⟨x, hx, by show ((x : Int) == (x : Int)) = true; simp⟩
theorem ones_num (w : Nat) : ofL (List.replicate w 1) = 2 ^ w - 1 := by
  induction w with
  | zero => rfl
  | succ w ih => rw [List.replicate_succ, ofL, ih, Nat.pow_succ]; have := p_pos w; omega
theorem ones_mul (w : Nat) (h : w < 8) : mulD (.lst [.int 1]) (.int (w : Nat)) = some (.lst ((List.replicate w 1).map nD)) := EachN.get (n := 8) (p := fun w => mulD (.lst [.int 1]) (.int (w : Nat)) = some (.lst ((List.replicate w 1).map nD))) (by refine ⟨⟨⟨⟨⟨⟨⟨⟨trivial, ?_⟩, ?_⟩, ?_⟩, ?_⟩, ?_⟩, ?_⟩, ?_⟩, ?_⟩ <;> kernel_rfl) h
section
variable {n : Nat} {sub : Str → Str → Option Bool} {a0 : Slot} {L : List Int} (hL : Pos L) (hl : L.length = 200) {t : Nat} (ht : t < 30) {w : Nat} (h8 : w < 8) (h0 : 0 < w)
include hL hl ht h8 h0
theorem tu1 {a3 a4 a5 a6 a7 a8 a9 a10 a11 a12 a13 : Slot} (hw : 1 + L.getD t 0 % 7 = (w : Int)) : dS (run txt (n + 6)) sub (.set [] 3 false (.bin .add (.cst (.int 1)) (.bin .mod (.blt .int (.cons (.ev (.ix (.own 1) (.var 2))) .nil)) (.cst (.int 7))))) [a0, .im (.lst (L.map .int)), .im (.int (t : Nat)), a3, a4, a5, a6, a7, a8, a9, a10, a11, a12, a13, .un, .un] = .nx [a0, .im (.lst (L.map .int)), .im (.int (t : Nat)), .im (.int (w : Nat)), a4, a5, a6, a7, a8, a9, a10, a11, a12, a13, .un, .un] := by
  simp only [dE_cst, dE_glb, dE_var, dE_bin, dE_neg, dE_cmp, dE_chn, dE_and, dE_or, dE_not, dE_ite, dE_tup, dE_lst, dE_call, dE_blt, dE_mkb, dE_isi, dE_ix, dE_sl, dE_rev, dE_comp, dT_cst, dT_var, dT_bin, dT_cmp, dT_chn, dT_call, dT_blt, dT_isi, dT_ix, dT_ite, dT_and, dT_or, dT_not, dO_own, dO_ev, dBd_no, dBd_to, dBs_nil, dBs_cons, dEs_nil, dEs_cons, dIt_seq, dIt_rng1, dIt_rng2, dIt_enm, dIt_zip, dS_set, dS_unp, dS_par, dS_aug, dS_ret, dS_retN, dS_ite, dS_fo, dS_pass, dS_rai, dS_exp, dS_tr, dSs_nil, dSs_cons, go_nx, go_rt, go_exc, fl_ok, fl_exc, bind_ok, bind_exc, of_some, calm_ok, flof_some, look_0, look_s, lookB_im, lookB_ow, lookB_s, frzL_nil, frzL_cons, frz1_im, frz1_un, frz1_ow, frz1_s, tg_nm, tg_tp, tg_tpl, tgs_nil, tgs_cons, obind, set_0, set_s, lp_nx, lp_ct, lp_bk, lp_rt, lp_exc, out_rt, out_nx, out_exc, ownList, isFr, Bool.and_true, Bool.and_false, Bool.true_and, Bool.false_and, Bool.not_true, Bool.not_false, binD, addD, augD, truD, if_true, if_false, Bool.false_eq_true, ↓reduceIte, startE_nil, startE_cons, reduceCtorEq, decide_true, decide_false, tyD, ix_lst (by omega : t < L.length), int_int, (by decide : ((0 : Int) < 7) = True), hw]
theorem tu2 {a4 a5 a6 a7 a8 a9 a10 a11 a12 a13 : Slot} : dS (run txt (n + 6)) sub (.set [] 4 false (.call 20 (.cons (.bin .mul (.lst (.cons (.cst (.int 1)) .nil)) (.var 3)) .nil))) [a0, .im (.lst (L.map .int)), .im (.int (t : Nat)), .im (.int (w : Nat)), a4, a5, a6, a7, a8, a9, a10, a11, a12, a13, .un, .un] = .nx [a0, .im (.lst (L.map .int)), .im (.int (t : Nat)), .im (.int (w : Nat)), .im (.int ((2 ^ w - 1 : Nat) : Int)), a5, a6, a7, a8, a9, a10, a11, a12, a13, .un, .un] := by
  have e := ones_mul w h8
  have r := run_number (n + 5) (List.replicate w 1) (fun b hb => by rw [(List.mem_replicate.mp hb).2]; decide)
  rw [ones_num] at r
  simp only [dE_cst, dE_glb, dE_var, dE_bin, dE_neg, dE_cmp, dE_chn, dE_and, dE_or, dE_not, dE_ite, dE_tup, dE_lst, dE_call, dE_blt, dE_mkb, dE_isi, dE_ix, dE_sl, dE_rev, dE_comp, dT_cst, dT_var, dT_bin, dT_cmp, dT_chn, dT_call, dT_blt, dT_isi, dT_ix, dT_ite, dT_and, dT_or, dT_not, dO_own, dO_ev, dBd_no, dBd_to, dBs_nil, dBs_cons, dEs_nil, dEs_cons, dIt_seq, dIt_rng1, dIt_rng2, dIt_enm, dIt_zip, dS_set, dS_unp, dS_par, dS_aug, dS_ret, dS_retN, dS_ite, dS_fo, dS_pass, dS_rai, dS_exp, dS_tr, dSs_nil, dSs_cons, go_nx, go_rt, go_exc, fl_ok, fl_exc, bind_ok, bind_exc, of_some, calm_ok, flof_some, look_0, look_s, lookB_im, lookB_ow, lookB_s, frzL_nil, frzL_cons, frz1_im, frz1_un, frz1_ow, frz1_s, tg_nm, tg_tp, tg_tpl, tgs_nil, tgs_cons, obind, set_0, set_s, lp_nx, lp_ct, lp_bk, lp_rt, lp_exc, out_rt, out_nx, out_exc, ownList, isFr, Bool.and_true, Bool.and_false, Bool.true_and, Bool.false_and, Bool.not_true, Bool.not_false, binD, addD, augD, truD, if_true, if_false, Bool.false_eq_true, ↓reduceIte, startE_nil, startE_cons, reduceCtorEq, decide_true, decide_false, tyD, List.length_cons, List.length_nil, (by decide : (0 + 1 ≤ lim) = True), e, r]
  rfl
theorem tu3 {a5 a6 a7 a8 a9 a10 a11 a12 a13 : Slot} : ∃ S R : Span, S.Ok w ∧ R.Ok w ∧ dS (run txt (n + 6)) sub (.unp [] (.tp (.cons (.nm 10) (.cons (.nm 11) .nil))) (.tup (.cons (.call 23 (.cons (.var 1) (.cons (.bin .add (.cst (.int 30)) (.bin .mul (.cst (.int 7)) (.var 2))) (.cons (.var 3) (.cons (.var 4) .nil))))) (.cons (.call 23 (.cons (.var 1) (.cons (.bin .add (.cst (.int 33)) (.bin .mul (.cst (.int 5)) (.var 2))) (.cons (.var 3) (.cons (.var 4) .nil))))) .nil)))) [a0, .im (.lst (L.map .int)), .im (.int (t : Nat)), .im (.int (w : Nat)), .im (.int ((2 ^ w - 1 : Nat) : Int)), a5, a6, a7, a8, a9, a10, a11, a12, a13, .un, .un] = .nx [a0, .im (.lst (L.map .int)), .im (.int (t : Nat)), .im (.int (w : Nat)), .im (.int ((2 ^ w - 1 : Nat) : Int)), a5, a6, a7, a8, a9, .im (spT S), .im (spT R), a12, a13, .un, .un] := by
  obtain ⟨S, hS, eS⟩ := run_span (n + 5) w (30 + 7 * t) (by omega) L hL hl
  obtain ⟨R, hR, eR⟩ := run_span (n + 5) w (33 + 5 * t) (by omega) L hL hl
  refine ⟨S, R, hS, hR, ?_⟩
  have i1 : (30 : Int) + 7 * (t : Int) = ((30 + 7 * t : Nat) : Int) := by omega
  have i2 : (33 : Int) + 5 * (t : Int) = ((33 + 5 * t : Nat) : Int) := by omega
  simp only [dE_cst, dE_glb, dE_var, dE_bin, dE_neg, dE_cmp, dE_chn, dE_and, dE_or, dE_not, dE_ite, dE_tup, dE_lst, dE_call, dE_blt, dE_mkb, dE_isi, dE_ix, dE_sl, dE_rev, dE_comp, dT_cst, dT_var, dT_bin, dT_cmp, dT_chn, dT_call, dT_blt, dT_isi, dT_ix, dT_ite, dT_and, dT_or, dT_not, dO_own, dO_ev, dBd_no, dBd_to, dBs_nil, dBs_cons, dEs_nil, dEs_cons, dIt_seq, dIt_rng1, dIt_rng2, dIt_enm, dIt_zip, dS_set, dS_unp, dS_par, dS_aug, dS_ret, dS_retN, dS_ite, dS_fo, dS_pass, dS_rai, dS_exp, dS_tr, dSs_nil, dSs_cons, go_nx, go_rt, go_exc, fl_ok, fl_exc, bind_ok, bind_exc, of_some, calm_ok, flof_some, look_0, look_s, lookB_im, lookB_ow, lookB_s, frzL_nil, frzL_cons, frz1_im, frz1_un, frz1_ow, frz1_s, tg_nm, tg_tp, tg_tpl, tgs_nil, tgs_cons, obind, set_0, set_s, lp_nx, lp_ct, lp_bk, lp_rt, lp_exc, out_rt, out_nx, out_exc, ownList, isFr, Bool.and_true, Bool.and_false, Bool.true_and, Bool.false_and, Bool.not_true, Bool.not_false, binD, addD, augD, truD, if_true, if_false, Bool.false_eq_true, ↓reduceIte, startE_nil, startE_cons, reduceCtorEq, decide_true, decide_false, tyD, mul_l (by decide : -(2 ^ 64) < (7 : Int) ∧ (7 : Int) < 2 ^ 64), mul_l (by decide : -(2 ^ 64) < (5 : Int) ∧ (5 : Int) < 2 ^ 64), i1, i2, eS, eR, List.length_cons, List.length_nil, (by decide : (0 + 1 + 1 ≤ lim) = True)]
theorem tu4 {a5 a6 a7 a8 a9 a12 a13 : Slot} {S R : Span} (hS : S.Ok w) : ∃ S2 : Span, S2.Ok w ∧ dS (run txt (n + 6)) sub (.ite [] (.cmp .eq (.ev (.bin .mod (.var 2) (.cst (.int 3)))) (.ev (.cst (.int 0))))
      (.cons (.set [] 10 false (.tup (.cons (.ix (.own 10) (.cst (.int 0))) (.cons (.ite (.cmp .ge (.ev (.bin .sub (.bin .sub (.var 4) (.ix (.own 10) (.cst (.int 0)))) (.ix (.own 10) (.cst (.int 1))))) (.ev (.cst (.int 0)))) (.bin .sub (.bin .sub (.var 4) (.ix (.own 10) (.cst (.int 0)))) (.ix (.own 10) (.cst (.int 1)))) (.cst (.int 0))) (.cons (.ix (.own 10) (.cst (.int 2))) (.cons (.ix (.own 10) (.cst (.int 3))) .nil)))))) .nil)
      .nil) [a0, .im (.lst (L.map .int)), .im (.int (t : Nat)), .im (.int (w : Nat)), .im (.int ((2 ^ w - 1 : Nat) : Int)), a5, a6, a7, a8, a9, .im (spT S), .im (spT R), a12, a13, .un, .un] = .nx [a0, .im (.lst (L.map .int)), .im (.int (t : Nat)), .im (.int (w : Nat)), .im (.int ((2 ^ w - 1 : Nat) : Int)), a5, a6, a7, a8, a9, .im (spT S2), .im (spT R), a12, a13, .un, .un] := by
  have p1 := p_pos w
  by_cases c : t % 3 = 0
  · obtain ⟨m, hm, em⟩ : ∃ m : Nat, m < 2 ^ w ∧ (if (0 : Int) ≤ ((2 ^ w - 1 : Nat) : Int) - (S.o : Int) - (S.n : Int) then ((2 ^ w - 1 : Nat) : Int) - (S.o : Int) - (S.n : Int) else 0) = (m : Int) := by
      split
      · exact ⟨2 ^ w - 1 - S.o - S.n, by omega, by omega⟩
      · exact ⟨0, by omega, rfl⟩
    refine ⟨⟨S.o, m, S.lo, S.hi⟩, ⟨hS.o, hm, hS.lo, hS.hi⟩, ?_⟩
    have e0 : cmpD .eq (.int ((t : Int) % 3)) (.int 0) = some true := by rw [Z.eq_int]; congr 1; exact decide_eq_true (by omega)
    by_cases z : (0 : Int) ≤ ((2 ^ w - 1 : Nat) : Int) - (S.o : Int) - (S.n : Int)
    · rw [if_pos z] at em
      simp only [dE_cst, dE_glb, dE_var, dE_bin, dE_neg, dE_cmp, dE_chn, dE_and, dE_or, dE_not, dE_ite, dE_tup, dE_lst, dE_call, dE_blt, dE_mkb, dE_isi, dE_ix, dE_sl, dE_rev, dE_comp, dT_cst, dT_var, dT_bin, dT_cmp, dT_chn, dT_call, dT_blt, dT_isi, dT_ix, dT_ite, dT_and, dT_or, dT_not, dO_own, dO_ev, dBd_no, dBd_to, dBs_nil, dBs_cons, dEs_nil, dEs_cons, dIt_seq, dIt_rng1, dIt_rng2, dIt_enm, dIt_zip, dS_set, dS_unp, dS_par, dS_aug, dS_ret, dS_retN, dS_ite, dS_fo, dS_pass, dS_rai, dS_exp, dS_tr, dSs_nil, dSs_cons, go_nx, go_rt, go_exc, fl_ok, fl_exc, bind_ok, bind_exc, of_some, calm_ok, flof_some, look_0, look_s, lookB_im, lookB_ow, lookB_s, frzL_nil, frzL_cons, frz1_im, frz1_un, frz1_ow, frz1_s, tg_nm, tg_tp, tg_tpl, tgs_nil, tgs_cons, obind, set_0, set_s, lp_nx, lp_ct, lp_bk, lp_rt, lp_exc, out_rt, out_nx, out_exc, ownList, isFr, Bool.and_true, Bool.and_false, Bool.true_and, Bool.false_and, Bool.not_true, Bool.not_false, binD, addD, augD, truD, if_true, if_false, Bool.false_eq_true, ↓reduceIte, startE_nil, startE_cons, reduceCtorEq, decide_true, decide_false, tyD, (by decide : ((0 : Int) < 3) = True), e0, sp0, sp1, sp2, sp3, Z.ge_int, z, em, List.length_cons, List.length_nil, (by decide : (0 + 1 + 1 + 1 + 1 ≤ lim) = True)]
      rfl
    · rw [if_neg z] at em
      have em : m = 0 := by omega
      subst em
      simp only [dE_cst, dE_glb, dE_var, dE_bin, dE_neg, dE_cmp, dE_chn, dE_and, dE_or, dE_not, dE_ite, dE_tup, dE_lst, dE_call, dE_blt, dE_mkb, dE_isi, dE_ix, dE_sl, dE_rev, dE_comp, dT_cst, dT_var, dT_bin, dT_cmp, dT_chn, dT_call, dT_blt, dT_isi, dT_ix, dT_ite, dT_and, dT_or, dT_not, dO_own, dO_ev, dBd_no, dBd_to, dBs_nil, dBs_cons, dEs_nil, dEs_cons, dIt_seq, dIt_rng1, dIt_rng2, dIt_enm, dIt_zip, dS_set, dS_unp, dS_par, dS_aug, dS_ret, dS_retN, dS_ite, dS_fo, dS_pass, dS_rai, dS_exp, dS_tr, dSs_nil, dSs_cons, go_nx, go_rt, go_exc, fl_ok, fl_exc, bind_ok, bind_exc, of_some, calm_ok, flof_some, look_0, look_s, lookB_im, lookB_ow, lookB_s, frzL_nil, frzL_cons, frz1_im, frz1_un, frz1_ow, frz1_s, tg_nm, tg_tp, tg_tpl, tgs_nil, tgs_cons, obind, set_0, set_s, lp_nx, lp_ct, lp_bk, lp_rt, lp_exc, out_rt, out_nx, out_exc, ownList, isFr, Bool.and_true, Bool.and_false, Bool.true_and, Bool.false_and, Bool.not_true, Bool.not_false, binD, addD, augD, truD, if_true, if_false, Bool.false_eq_true, ↓reduceIte, startE_nil, startE_cons, reduceCtorEq, decide_true, decide_false, tyD, (by decide : ((0 : Int) < 3) = True), e0, sp0, sp1, sp2, sp3, Z.ge_int, z, List.length_cons, List.length_nil, (by decide : (0 + 1 + 1 + 1 + 1 ≤ lim) = True)]
      rfl
  · refine ⟨S, hS, ?_⟩
    have e0 : cmpD .eq (.int ((t : Int) % 3)) (.int 0) = some false := by rw [Z.eq_int]; congr 1; exact decide_eq_false (by omega)
    simp only [dE_cst, dE_glb, dE_var, dE_bin, dE_neg, dE_cmp, dE_chn, dE_and, dE_or, dE_not, dE_ite, dE_tup, dE_lst, dE_call, dE_blt, dE_mkb, dE_isi, dE_ix, dE_sl, dE_rev, dE_comp, dT_cst, dT_var, dT_bin, dT_cmp, dT_chn, dT_call, dT_blt, dT_isi, dT_ix, dT_ite, dT_and, dT_or, dT_not, dO_own, dO_ev, dBd_no, dBd_to, dBs_nil, dBs_cons, dEs_nil, dEs_cons, dIt_seq, dIt_rng1, dIt_rng2, dIt_enm, dIt_zip, dS_set, dS_unp, dS_par, dS_aug, dS_ret, dS_retN, dS_ite, dS_fo, dS_pass, dS_rai, dS_exp, dS_tr, dSs_nil, dSs_cons, go_nx, go_rt, go_exc, fl_ok, fl_exc, bind_ok, bind_exc, of_some, calm_ok, flof_some, look_0, look_s, lookB_im, lookB_ow, lookB_s, frzL_nil, frzL_cons, frz1_im, frz1_un, frz1_ow, frz1_s, tg_nm, tg_tp, tg_tpl, tgs_nil, tgs_cons, obind, set_0, set_s, lp_nx, lp_ct, lp_bk, lp_rt, lp_exc, out_rt, out_nx, out_exc, ownList, isFr, Bool.and_true, Bool.and_false, Bool.true_and, Bool.false_and, Bool.not_true, Bool.not_false, binD, addD, augD, truD, if_true, if_false, Bool.false_eq_true, ↓reduceIte, startE_nil, startE_cons, reduceCtorEq, decide_true, decide_false, tyD, (by decide : ((0 : Int) < 3) = True), e0]
theorem tu5 {a5 a6 a7 a8 a9 a12 a13 : Slot} {S R : Span} (hS : S.Ok w) (hR : R.Ok w) : dS (run txt (n + 6)) sub (.unp [] (.tp (.cons (.nm 12) (.cons (.nm 13) .nil))) (.tup (.cons (.call 21 (.cons (.var 3) (.cons (.var 10) .nil))) (.cons (.call 21 (.cons (.var 3) (.cons (.var 11) .nil))) .nil)))) [a0, .im (.lst (L.map .int)), .im (.int (t : Nat)), .im (.int (w : Nat)), .im (.int ((2 ^ w - 1 : Nat) : Int)), a5, a6, a7, a8, a9, .im (spT S), .im (spT R), a12, a13, .un, .un] = .nx [a0, .im (.lst (L.map .int)), .im (.int (t : Nat)), .im (.int (w : Nat)), .im (.int ((2 ^ w - 1 : Nat) : Int)), a5, a6, a7, a8, a9, .im (spT S), .im (spT R), .im (.lst ((within w S).map nD)), .im (.lst ((within w R).map nD)), .un, .un] := by
  simp only [dE_cst, dE_glb, dE_var, dE_bin, dE_neg, dE_cmp, dE_chn, dE_and, dE_or, dE_not, dE_ite, dE_tup, dE_lst, dE_call, dE_blt, dE_mkb, dE_isi, dE_ix, dE_sl, dE_rev, dE_comp, dT_cst, dT_var, dT_bin, dT_cmp, dT_chn, dT_call, dT_blt, dT_isi, dT_ix, dT_ite, dT_and, dT_or, dT_not, dO_own, dO_ev, dBd_no, dBd_to, dBs_nil, dBs_cons, dEs_nil, dEs_cons, dIt_seq, dIt_rng1, dIt_rng2, dIt_enm, dIt_zip, dS_set, dS_unp, dS_par, dS_aug, dS_ret, dS_retN, dS_ite, dS_fo, dS_pass, dS_rai, dS_exp, dS_tr, dSs_nil, dSs_cons, go_nx, go_rt, go_exc, fl_ok, fl_exc, bind_ok, bind_exc, of_some, calm_ok, flof_some, look_0, look_s, lookB_im, lookB_ow, lookB_s, frzL_nil, frzL_cons, frz1_im, frz1_un, frz1_ow, frz1_s, tg_nm, tg_tp, tg_tpl, tgs_nil, tgs_cons, obind, set_0, set_s, lp_nx, lp_ct, lp_bk, lp_rt, lp_exc, out_rt, out_nx, out_exc, ownList, isFr, Bool.and_true, Bool.and_false, Bool.true_and, Bool.false_and, Bool.not_true, Bool.not_false, binD, addD, augD, truD, if_true, if_false, Bool.false_eq_true, ↓reduceIte, startE_nil, startE_cons, reduceCtorEq, decide_true, decide_false, tyD, run_lwithin (n + 4) w (by omega) S hS, run_lwithin (n + 4) w (by omega) R hR, List.length_cons, List.length_nil, (by decide : (0 + 1 + 1 ≤ lim) = True)]
theorem tu6 {a5 a6 a7 a8 a9 : Slot} {S R : Span} (hS : S.Ok w) (hR : R.Ok w) : dS (run txt (n + 6)) sub (.ite [] (.or_ (.cmp .ne (.ev (.call 14 (.cons (.var 3) (.cons (.var 10) .nil)))) (.ev (.call 22 (.cons (.var 3) (.cons (.var 12) .nil))))) (.cmp .ne (.ev (.call 14 (.cons (.var 3) (.cons (.var 11) .nil)))) (.ev (.call 22 (.cons (.var 3) (.cons (.var 13) .nil))))))
      (.cons (.ret [] (.cst (.bl false))) .nil)
      .nil) [a0, .im (.lst (L.map .int)), .im (.int (t : Nat)), .im (.int (w : Nat)), .im (.int ((2 ^ w - 1 : Nat) : Int)), a5, a6, a7, a8, a9, .im (spT S), .im (spT R), .im (.lst ((within w S).map nD)), .im (.lst ((within w R).map nD)), .un, .un] = .nx [a0, .im (.lst (L.map .int)), .im (.int (t : Nat)), .im (.int (w : Nat)), .im (.int ((2 ^ w - 1 : Nat) : Int)), a5, a6, a7, a8, a9, .im (spT S), .im (spT R), .im (.lst ((within w S).map nD)), .im (.lst ((within w R).map nD)), .un, .un] := by
  simp only [dE_cst, dE_glb, dE_var, dE_bin, dE_neg, dE_cmp, dE_chn, dE_and, dE_or, dE_not, dE_ite, dE_tup, dE_lst, dE_call, dE_blt, dE_mkb, dE_isi, dE_ix, dE_sl, dE_rev, dE_comp, dT_cst, dT_var, dT_bin, dT_cmp, dT_chn, dT_call, dT_blt, dT_isi, dT_ix, dT_ite, dT_and, dT_or, dT_not, dO_own, dO_ev, dBd_no, dBd_to, dBs_nil, dBs_cons, dEs_nil, dEs_cons, dIt_seq, dIt_rng1, dIt_rng2, dIt_enm, dIt_zip, dS_set, dS_unp, dS_par, dS_aug, dS_ret, dS_retN, dS_ite, dS_fo, dS_pass, dS_rai, dS_exp, dS_tr, dSs_nil, dSs_cons, go_nx, go_rt, go_exc, fl_ok, fl_exc, bind_ok, bind_exc, of_some, calm_ok, flof_some, look_0, look_s, lookB_im, lookB_ow, lookB_s, frzL_nil, frzL_cons, frz1_im, frz1_un, frz1_ow, frz1_s, tg_nm, tg_tp, tg_tpl, tgs_nil, tgs_cons, obind, set_0, set_s, lp_nx, lp_ct, lp_bk, lp_rt, lp_exc, out_rt, out_nx, out_exc, ownList, isFr, Bool.and_true, Bool.and_false, Bool.true_and, Bool.false_and, Bool.not_true, Bool.not_false, binD, addD, augD, truD, if_true, if_false, Bool.false_eq_true, ↓reduceIte, startE_nil, startE_cons, reduceCtorEq, decide_true, decide_false, tyD, run_tightened (n + 1) w h0 (by omega) S hS, run_tightened (n + 1) w h0 (by omega) R hR, run_lh (n + 4) w (by omega) S hS, run_lh (n + 4) w (by omega) R hR, ne_self (flat_sp _)]
theorem tu7 {a5 a6 a7 a8 a9 : Slot} {S R : Span} (hS : S.Ok w) (hR : R.Ok w) : dS (run txt (n + 6)) sub (.set [] 5 false (.comp (.var 7) [7] (.nm 7) (.seq (.var 12)) (.cmp .in_ (.own 7) (.own 13)))) [a0, .im (.lst (L.map .int)), .im (.int (t : Nat)), .im (.int (w : Nat)), .im (.int ((2 ^ w - 1 : Nat) : Int)), a5, a6, a7, a8, a9, .im (spT S), .im (spT R), .im (.lst ((within w S).map nD)), .im (.lst ((within w R).map nD)), .un, .un] = .nx [a0, .im (.lst (L.map .int)), .im (.int (t : Nat)), .im (.int (w : Nat)), .im (.int ((2 ^ w - 1 : Nat) : Int)), .im (.lst ((within w (meetS S R)).map nD)), a6, a7, a8, a9, .im (spT S), .im (spT R), .im (.lst ((within w S).map nD)), .im (.lst ((within w R).map nD)), .un, .un] := by
  have wl : (within w S).length < 2 ^ 18 := by
    unfold within
    have := List.length_filter_le S.has (List.range (2 ^ w))
    have := pw16 (w := w) (by omega)
    rw [List.length_range] at *
    omega
  have comp := compL_filter (tg := fun d => dTg (.nm 7) d (wipeE [a0, .im (.lst (L.map .int)), .im (.int (t : Nat)), .im (.int (w : Nat)), .im (.int ((2 ^ w - 1 : Nat) : Int)), a5, a6, a7, a8, a9, .im (spT S), .im (spT R), .im (.lst ((within w S).map nD)), .im (.lst ((within w R).map nD)), .un, .un] [7])) (c := dT (run txt (n + 6)) (.cmp .in_ (.own 7) (.own 13))) (x := dE (run txt (n + 6)) (.var 7)) (fun d => match d with
    | .int i => (within w R).contains i.toNat
    | _ => false) (fun d => d) ((within w S).map nD) fun d hd => by
    obtain ⟨x, _, rfl⟩ := List.mem_map.mp hd
    refine ⟨[a0, .im (.lst (L.map .int)), .im (.int (t : Nat)), .im (.int (w : Nat)), .im (.int ((2 ^ w - 1 : Nat) : Int)), a5, a6, .im (nD x), a8, a9, .im (spT S), .im (spT R), .im (.lst ((within w S).map nD)), .im (.lst ((within w R).map nD)), .un, .un], rfl, ?_, fun _ => ?_⟩
    · simp only [dE_cst, dE_glb, dE_var, dE_bin, dE_neg, dE_cmp, dE_chn, dE_and, dE_or, dE_not, dE_ite, dE_tup, dE_lst, dE_call, dE_blt, dE_mkb, dE_isi, dE_ix, dE_sl, dE_rev, dE_comp, dT_cst, dT_var, dT_bin, dT_cmp, dT_chn, dT_call, dT_blt, dT_isi, dT_ix, dT_ite, dT_and, dT_or, dT_not, dO_own, dO_ev, dBd_no, dBd_to, dBs_nil, dBs_cons, dEs_nil, dEs_cons, dIt_seq, dIt_rng1, dIt_rng2, dIt_enm, dIt_zip, dS_set, dS_unp, dS_par, dS_aug, dS_ret, dS_retN, dS_ite, dS_fo, dS_pass, dS_rai, dS_exp, dS_tr, dSs_nil, dSs_cons, go_nx, go_rt, go_exc, fl_ok, fl_exc, bind_ok, bind_exc, of_some, calm_ok, flof_some, look_0, look_s, lookB_im, lookB_ow, lookB_s, frzL_nil, frzL_cons, frz1_im, frz1_un, frz1_ow, frz1_s, tg_nm, tg_tp, tg_tpl, tgs_nil, tgs_cons, obind, set_0, set_s, lp_nx, lp_ct, lp_bk, lp_rt, lp_exc, out_rt, out_nx, out_exc, ownList, isFr, Bool.and_true, Bool.and_false, Bool.true_and, Bool.false_and, Bool.not_true, Bool.not_false, binD, addD, augD, truD, if_true, if_false, Bool.false_eq_true, ↓reduceIte, startE_nil, startE_cons, reduceCtorEq, decide_true, decide_false, tyD, in_nats]
      show Z.R.ok _ = Z.R.ok ((within w R).contains ((x : Nat) : Int).toNat)
      rw [toNat_nat]
    · simp only [dE_cst, dE_glb, dE_var, dE_bin, dE_neg, dE_cmp, dE_chn, dE_and, dE_or, dE_not, dE_ite, dE_tup, dE_lst, dE_call, dE_blt, dE_mkb, dE_isi, dE_ix, dE_sl, dE_rev, dE_comp, dT_cst, dT_var, dT_bin, dT_cmp, dT_chn, dT_call, dT_blt, dT_isi, dT_ix, dT_ite, dT_and, dT_or, dT_not, dO_own, dO_ev, dBd_no, dBd_to, dBs_nil, dBs_cons, dEs_nil, dEs_cons, dIt_seq, dIt_rng1, dIt_rng2, dIt_enm, dIt_zip, dS_set, dS_unp, dS_par, dS_aug, dS_ret, dS_retN, dS_ite, dS_fo, dS_pass, dS_rai, dS_exp, dS_tr, dSs_nil, dSs_cons, go_nx, go_rt, go_exc, fl_ok, fl_exc, bind_ok, bind_exc, of_some, calm_ok, flof_some, look_0, look_s, lookB_im, lookB_ow, lookB_s, frzL_nil, frzL_cons, frz1_im, frz1_un, frz1_ow, frz1_s, tg_nm, tg_tp, tg_tpl, tgs_nil, tgs_cons, obind, set_0, set_s, lp_nx, lp_ct, lp_bk, lp_rt, lp_exc, out_rt, out_nx, out_exc, ownList, isFr, Bool.and_true, Bool.and_false, Bool.true_and, Bool.false_and, Bool.not_true, Bool.not_false, binD, addD, augD, truD, if_true, if_false, Bool.false_eq_true, ↓reduceIte, startE_nil, startE_cons, reduceCtorEq, decide_true, decide_false, tyD]
  simp only [tg_nm] at comp
  have e : (((within w S).map nD).filter (fun d => match d with
    | .int i => (within w R).contains i.toNat
    | _ => false)).map (fun d => d) = (within w (meetS S R)).map nD := by
    rw [List.map_id', List.filter_map, within_meet]
    congr 1
  rw [e] at comp
  simp only [dE_cst, dE_glb, dE_var, dE_bin, dE_neg, dE_cmp, dE_chn, dE_and, dE_or, dE_not, dE_ite, dE_tup, dE_lst, dE_call, dE_blt, dE_mkb, dE_isi, dE_ix, dE_sl, dE_rev, dE_comp, dT_cst, dT_var, dT_bin, dT_cmp, dT_chn, dT_call, dT_blt, dT_isi, dT_ix, dT_ite, dT_and, dT_or, dT_not, dO_own, dO_ev, dBd_no, dBd_to, dBs_nil, dBs_cons, dEs_nil, dEs_cons, dIt_seq, dIt_rng1, dIt_rng2, dIt_enm, dIt_zip, dS_set, dS_unp, dS_par, dS_aug, dS_ret, dS_retN, dS_ite, dS_fo, dS_pass, dS_rai, dS_exp, dS_tr, dSs_nil, dSs_cons, go_nx, go_rt, go_exc, fl_ok, fl_exc, bind_ok, bind_exc, of_some, calm_ok, flof_some, look_0, look_s, lookB_im, lookB_ow, lookB_s, frzL_nil, frzL_cons, frz1_im, frz1_un, frz1_ow, frz1_s, tg_nm, tg_tp, tg_tpl, tgs_nil, tgs_cons, obind, set_0, set_s, lp_nx, lp_ct, lp_bk, lp_rt, lp_exc, out_rt, out_nx, out_exc, ownList, isFr, Bool.and_true, Bool.and_false, Bool.true_and, Bool.false_and, Bool.not_true, Bool.not_false, binD, addD, augD, truD, if_true, if_false, Bool.false_eq_true, ↓reduceIte, startE_nil, startE_cons, reduceCtorEq, decide_true, decide_false, tyD, itemsD, List.length_map, (show ((within w S).length < lim) = True from eq_true (by show _ < 16777216; omega)), comp]
theorem tu8 {a6 a7 a8 a9 : Slot} {S R : Span} (hS : S.Ok w) (hR : R.Ok w) : dS (run txt (n + 6)) sub (.ite [] (.or_ (.cmp .ne (.ev (.call 15 (.cons (.var 3) (.cons (.var 10) (.cons (.var 11) .nil))))) (.ev (.call 22 (.cons (.var 3) (.cons (.var 5) .nil))))) (.cmp .ne (.ev (.call 15 (.cons (.var 3) (.cons (.var 10) (.cons (.var 10) .nil))))) (.ev (.call 14 (.cons (.var 3) (.cons (.var 10) .nil))))))
      (.cons (.ret [] (.cst (.bl false))) .nil)
      .nil) [a0, .im (.lst (L.map .int)), .im (.int (t : Nat)), .im (.int (w : Nat)), .im (.int ((2 ^ w - 1 : Nat) : Int)), .im (.lst ((within w (meetS S R)).map nD)), a6, a7, a8, a9, .im (spT S), .im (spT R), .im (.lst ((within w S).map nD)), .im (.lst ((within w R).map nD)), .un, .un] = .nx [a0, .im (.lst (L.map .int)), .im (.int (t : Nat)), .im (.int (w : Nat)), .im (.int ((2 ^ w - 1 : Nat) : Int)), .im (.lst ((within w (meetS S R)).map nD)), a6, a7, a8, a9, .im (spT S), .im (spT R), .im (.lst ((within w S).map nD)), .im (.lst ((within w R).map nD)), .un, .un] := by
  have m1 := run_met n w h0 (by omega) S R hS hR
  have m2 := run_met n w h0 (by omega) S S hS hS
  rw [meet_self] at m2
  simp only [dE_cst, dE_glb, dE_var, dE_bin, dE_neg, dE_cmp, dE_chn, dE_and, dE_or, dE_not, dE_ite, dE_tup, dE_lst, dE_call, dE_blt, dE_mkb, dE_isi, dE_ix, dE_sl, dE_rev, dE_comp, dT_cst, dT_var, dT_bin, dT_cmp, dT_chn, dT_call, dT_blt, dT_isi, dT_ix, dT_ite, dT_and, dT_or, dT_not, dO_own, dO_ev, dBd_no, dBd_to, dBs_nil, dBs_cons, dEs_nil, dEs_cons, dIt_seq, dIt_rng1, dIt_rng2, dIt_enm, dIt_zip, dS_set, dS_unp, dS_par, dS_aug, dS_ret, dS_retN, dS_ite, dS_fo, dS_pass, dS_rai, dS_exp, dS_tr, dSs_nil, dSs_cons, go_nx, go_rt, go_exc, fl_ok, fl_exc, bind_ok, bind_exc, of_some, calm_ok, flof_some, look_0, look_s, lookB_im, lookB_ow, lookB_s, frzL_nil, frzL_cons, frz1_im, frz1_un, frz1_ow, frz1_s, tg_nm, tg_tp, tg_tpl, tgs_nil, tgs_cons, obind, set_0, set_s, lp_nx, lp_ct, lp_bk, lp_rt, lp_exc, out_rt, out_nx, out_exc, ownList, isFr, Bool.and_true, Bool.and_false, Bool.true_and, Bool.false_and, Bool.not_true, Bool.not_false, binD, addD, augD, truD, if_true, if_false, Bool.false_eq_true, ↓reduceIte, startE_nil, startE_cons, reduceCtorEq, decide_true, decide_false, tyD, m1, m2, run_lh (n + 4) w (by omega) _ (meet_ok hS hR), run_tightened (n + 1) w h0 (by omega) S hS, ne_self (flat_sp _)]
theorem lp8 {a7 a8 a9 : Slot} {S R : Span} (hS : S.Ok w) : ∀ (ms : List Nat) (a6 : Slot), (∀ m ∈ ms, m ≤ 4096) → ∃ s6, forL (dTg (.nm 6)) (dSs (run txt (n + 6)) sub (.cons (.ite [] (.cmp .ne (.ev (.call 17 (.cons (.var 3) (.cons (.var 10) (.cons (.var 6) .nil))))) (.ev (.ite (.cmp .le (.ev (.blt .len (.cons (.own 12) .nil))) (.own 6)) (.mkb .tuple (.cons (.var 12) .nil)) (.cst .non))))
        (.cons (.ret [] (.cst (.bl false))) .nil)
        .nil) .nil)) (ms.map nD) [a0, .im (.lst (L.map .int)), .im (.int (t : Nat)), .im (.int (w : Nat)), .im (.int ((2 ^ w - 1 : Nat) : Int)), .im (.lst ((within w (meetS S R)).map nD)), a6, a7, a8, a9, .im (spT S), .im (spT R), .im (.lst ((within w S).map nD)), .im (.lst ((within w R).map nD)), .un, .un] = .nx [a0, .im (.lst (L.map .int)), .im (.int (t : Nat)), .im (.int (w : Nat)), .im (.int ((2 ^ w - 1 : Nat) : Int)), .im (.lst ((within w (meetS S R)).map nD)), s6, a7, a8, a9, .im (spT S), .im (spT R), .im (.lst ((within w S).map nD)), .im (.lst ((within w R).map nD)), .un, .un]
  | [], a6, _ => ⟨a6, rfl⟩
  | m :: ms, a6, h => by
    obtain ⟨s6, ih⟩ := lp8 (a7 := a7) (a8 := a8) (a9 := a9) (S := S) (R := R) hS ms (.im (nD m)) fun x hx => h x (List.mem_cons_of_mem _ hx)
    refine ⟨s6, ?_⟩
    have r := run_listed (n + 1) w h0 (by omega) S hS m (h m List.mem_cons_self)
    have ft : flat 60 (.tup ((within w S).map nD)) = true := flat_nats 59 _
    have mk_ : mkbD .tuple [.lst ((within w S).map nD)] = some (.tup ((within w S).map nD)) := nrfl rfl
    rw [List.map_cons, forL_cons (ρ1 := [a0, .im (.lst (L.map .int)), .im (.int (t : Nat)), .im (.int (w : Nat)), .im (.int ((2 ^ w - 1 : Nat) : Int)), .im (.lst ((within w (meetS S R)).map nD)), .im (nD m), a7, a8, a9, .im (spT S), .im (spT R), .im (.lst ((within w S).map nD)), .im (.lst ((within w R).map nD)), .un, .un]) rfl]
    have r : run txt (n + 6) 17 [.int (w : Nat), spT S, nD m] = _ := r
    have le : cmpD .le (.int ((within w S).length : Nat)) (nD m) = some (decide ((within w S).length ≤ m)) := le_nat
    by_cases c : (within w S).length ≤ m
    · rw [if_pos c] at r
      simp only [dE_cst, dE_glb, dE_var, dE_bin, dE_neg, dE_cmp, dE_chn, dE_and, dE_or, dE_not, dE_ite, dE_tup, dE_lst, dE_call, dE_blt, dE_mkb, dE_isi, dE_ix, dE_sl, dE_rev, dE_comp, dT_cst, dT_var, dT_bin, dT_cmp, dT_chn, dT_call, dT_blt, dT_isi, dT_ix, dT_ite, dT_and, dT_or, dT_not, dO_own, dO_ev, dBd_no, dBd_to, dBs_nil, dBs_cons, dEs_nil, dEs_cons, dIt_seq, dIt_rng1, dIt_rng2, dIt_enm, dIt_zip, dS_set, dS_unp, dS_par, dS_aug, dS_ret, dS_retN, dS_ite, dS_fo, dS_pass, dS_rai, dS_exp, dS_tr, dSs_nil, dSs_cons, go_nx, go_rt, go_exc, fl_ok, fl_exc, bind_ok, bind_exc, of_some, calm_ok, flof_some, look_0, look_s, lookB_im, lookB_ow, lookB_s, frzL_nil, frzL_cons, frz1_im, frz1_un, frz1_ow, frz1_s, tg_nm, tg_tp, tg_tpl, tgs_nil, tgs_cons, obind, set_0, set_s, lp_nx, lp_ct, lp_bk, lp_rt, lp_exc, out_rt, out_nx, out_exc, ownList, isFr, Bool.and_true, Bool.and_false, Bool.true_and, Bool.false_and, Bool.not_true, Bool.not_false, binD, addD, augD, truD, if_true, if_false, Bool.false_eq_true, ↓reduceIte, startE_nil, startE_cons, reduceCtorEq, decide_true, decide_false, tyD, r, len_lst, List.length_map, le, c, mk_, ne_self ft]
      exact ih
    · rw [if_neg c] at r
      simp only [dE_cst, dE_glb, dE_var, dE_bin, dE_neg, dE_cmp, dE_chn, dE_and, dE_or, dE_not, dE_ite, dE_tup, dE_lst, dE_call, dE_blt, dE_mkb, dE_isi, dE_ix, dE_sl, dE_rev, dE_comp, dT_cst, dT_var, dT_bin, dT_cmp, dT_chn, dT_call, dT_blt, dT_isi, dT_ix, dT_ite, dT_and, dT_or, dT_not, dO_own, dO_ev, dBd_no, dBd_to, dBs_nil, dBs_cons, dEs_nil, dEs_cons, dIt_seq, dIt_rng1, dIt_rng2, dIt_enm, dIt_zip, dS_set, dS_unp, dS_par, dS_aug, dS_ret, dS_retN, dS_ite, dS_fo, dS_pass, dS_rai, dS_exp, dS_tr, dSs_nil, dSs_cons, go_nx, go_rt, go_exc, fl_ok, fl_exc, bind_ok, bind_exc, of_some, calm_ok, flof_some, look_0, look_s, lookB_im, lookB_ow, lookB_s, frzL_nil, frzL_cons, frz1_im, frz1_un, frz1_ow, frz1_s, tg_nm, tg_tp, tg_tpl, tgs_nil, tgs_cons, obind, set_0, set_s, lp_nx, lp_ct, lp_bk, lp_rt, lp_exc, out_rt, out_nx, out_exc, ownList, isFr, Bool.and_true, Bool.and_false, Bool.true_and, Bool.false_and, Bool.not_true, Bool.not_false, binD, addD, augD, truD, if_true, if_false, Bool.false_eq_true, ↓reduceIte, startE_nil, startE_cons, reduceCtorEq, decide_true, decide_false, tyD, r, len_lst, List.length_map, le, c, ne_self (d := .non) rfl]
      exact ih
theorem lp9 {a6 a8 a9 : Slot} {S R : Span} (hS : S.Ok w) : ∀ (ms : List Nat) (a7 : Slot), (∀ m ∈ ms, m < 2 ^ w) → ∃ s7, forL (dTg (.nm 7)) (dSs (run txt (n + 6)) sub (.cons (.ite [] (.or_ (.cmp .ne (.ev (.call 13 (.cons (.var 3) (.cons (.var 10) (.cons (.var 7) .nil))))) (.ev (.cmp .in_ (.own 7) (.own 12)))) (.not_ (.isi (.call 13 (.cons (.var 3) (.cons (.var 10) (.cons (.var 7) .nil)))) .bool)))
        (.cons (.ret [] (.cst (.bl false))) .nil)
        .nil) .nil)) (ms.map nD) [a0, .im (.lst (L.map .int)), .im (.int (t : Nat)), .im (.int (w : Nat)), .im (.int ((2 ^ w - 1 : Nat) : Int)), .im (.lst ((within w (meetS S R)).map nD)), a6, a7, a8, a9, .im (spT S), .im (spT R), .im (.lst ((within w S).map nD)), .im (.lst ((within w R).map nD)), .un, .un] = .nx [a0, .im (.lst (L.map .int)), .im (.int (t : Nat)), .im (.int (w : Nat)), .im (.int ((2 ^ w - 1 : Nat) : Int)), .im (.lst ((within w (meetS S R)).map nD)), a6, s7, a8, a9, .im (spT S), .im (spT R), .im (.lst ((within w S).map nD)), .im (.lst ((within w R).map nD)), .un, .un]
  | [], a7, _ => ⟨a7, rfl⟩
  | m :: ms, a7, h => by
    obtain ⟨s7, ih⟩ := lp9 (a6 := a6) (a8 := a8) (a9 := a9) (S := S) (R := R) hS ms (.im (nD m)) fun x hx => h x (List.mem_cons_of_mem _ hx)
    refine ⟨s7, ?_⟩
    have hm := h m List.mem_cons_self
    have r := run_is_within (n + 2) w h0 (by omega) S hS m hm
    have e : (within w S).contains m = S.has m := by
      rw [Bool.eq_iff_iff, List.contains_iff_mem, mem_within]
      exact ⟨fun z => z.2, fun z => ⟨hm, z⟩⟩
    have r : run txt (n + 6) 13 [.int (w : Nat), spT S, nD m] = _ := r
    rw [List.map_cons, forL_cons (ρ1 := [a0, .im (.lst (L.map .int)), .im (.int (t : Nat)), .im (.int (w : Nat)), .im (.int ((2 ^ w - 1 : Nat) : Int)), .im (.lst ((within w (meetS S R)).map nD)), a6, .im (nD m), a8, a9, .im (spT S), .im (spT R), .im (.lst ((within w S).map nD)), .im (.lst ((within w R).map nD)), .un, .un]) rfl]
    simp only [dE_cst, dE_glb, dE_var, dE_bin, dE_neg, dE_cmp, dE_chn, dE_and, dE_or, dE_not, dE_ite, dE_tup, dE_lst, dE_call, dE_blt, dE_mkb, dE_isi, dE_ix, dE_sl, dE_rev, dE_comp, dT_cst, dT_var, dT_bin, dT_cmp, dT_chn, dT_call, dT_blt, dT_isi, dT_ix, dT_ite, dT_and, dT_or, dT_not, dO_own, dO_ev, dBd_no, dBd_to, dBs_nil, dBs_cons, dEs_nil, dEs_cons, dIt_seq, dIt_rng1, dIt_rng2, dIt_enm, dIt_zip, dS_set, dS_unp, dS_par, dS_aug, dS_ret, dS_retN, dS_ite, dS_fo, dS_pass, dS_rai, dS_exp, dS_tr, dSs_nil, dSs_cons, go_nx, go_rt, go_exc, fl_ok, fl_exc, bind_ok, bind_exc, of_some, calm_ok, flof_some, look_0, look_s, lookB_im, lookB_ow, lookB_s, frzL_nil, frzL_cons, frz1_im, frz1_un, frz1_ow, frz1_s, tg_nm, tg_tp, tg_tpl, tgs_nil, tgs_cons, obind, set_0, set_s, lp_nx, lp_ct, lp_bk, lp_rt, lp_exc, out_rt, out_nx, out_exc, ownList, isFr, Bool.and_true, Bool.and_false, Bool.true_and, Bool.false_and, Bool.not_true, Bool.not_false, binD, addD, augD, truD, if_true, if_false, Bool.false_eq_true, ↓reduceIte, startE_nil, startE_cons, reduceCtorEq, decide_true, decide_false, tyD, r, in_nats, e, ne_self (d := .bl (S.has m)) rfl]
    exact ih
theorem tu9 {a6 a7 a8 a9 : Slot} {S R : Span} (hS : S.Ok w) : ∃ s6, dS (run txt (n + 6)) sub (.fo [] (.nm 6) (.seq (.lst (.cons (.cst (.int 0)) (.cons (.cst (.int 1)) (.cons (.blt .len (.cons (.own 12) .nil)) (.cons (.blt .max (.cons (.ev (.cst (.int 0))) (.cons (.ev (.bin .sub (.blt .len (.cons (.own 12) .nil)) (.cst (.int 1)))) .nil))) (.cons (.cst (.int 4096)) .nil)))))))
      (.cons (.ite [] (.cmp .ne (.ev (.call 17 (.cons (.var 3) (.cons (.var 10) (.cons (.var 6) .nil))))) (.ev (.ite (.cmp .le (.ev (.blt .len (.cons (.own 12) .nil))) (.own 6)) (.mkb .tuple (.cons (.var 12) .nil)) (.cst .non))))
        (.cons (.ret [] (.cst (.bl false))) .nil)
        .nil) .nil)) [a0, .im (.lst (L.map .int)), .im (.int (t : Nat)), .im (.int (w : Nat)), .im (.int ((2 ^ w - 1 : Nat) : Int)), .im (.lst ((within w (meetS S R)).map nD)), a6, a7, a8, a9, .im (spT S), .im (spT R), .im (.lst ((within w S).map nD)), .im (.lst ((within w R).map nD)), .un, .un] = .nx [a0, .im (.lst (L.map .int)), .im (.int (t : Nat)), .im (.int (w : Nat)), .im (.int ((2 ^ w - 1 : Nat) : Int)), .im (.lst ((within w (meetS S R)).map nD)), s6, a7, a8, a9, .im (spT S), .im (spT R), .im (.lst ((within w S).map nD)), .im (.lst ((within w R).map nD)), .un, .un] := by
  have wl : (within w S).length ≤ 2 ^ 7 := by
    unfold within
    have := List.length_filter_le S.has (List.range (2 ^ w))
    have := Nat.pow_le_pow_right (n := 2) (by decide) (by omega : w ≤ 7)
    rw [List.length_range] at *
    omega
  obtain ⟨s6, e⟩ := lp8 (n := n) (sub := sub) (a0 := a0) hL hl ht h8 h0 (a7 := a7) (a8 := a8) (a9 := a9) (R := R) hS [0, 1, (within w S).length, (within w S).length - 1, 4096] a6 (fun m hm => by
    simp only [List.mem_cons, List.not_mem_nil, or_false] at hm
    omega)
  have mx : bltD .max [.int 0, .int (((within w S).length : Nat) - 1 : Int)] = some (nD ((within w S).length - 1)) := by
    show some (D.int (if (((within w S).length : Nat) - 1 : Int) > 0 then (((within w S).length : Nat) - 1 : Int) else 0)) = some (D.int ((((within w S).length - 1 : Nat)) : Int))
    congr 2
    split <;> omega
  refine ⟨s6, ?_⟩
  simp only [dE_cst, dE_glb, dE_var, dE_bin, dE_neg, dE_cmp, dE_chn, dE_and, dE_or, dE_not, dE_ite, dE_tup, dE_lst, dE_call, dE_blt, dE_mkb, dE_isi, dE_ix, dE_sl, dE_rev, dE_comp, dT_cst, dT_var, dT_bin, dT_cmp, dT_chn, dT_call, dT_blt, dT_isi, dT_ix, dT_ite, dT_and, dT_or, dT_not, dO_own, dO_ev, dBd_no, dBd_to, dBs_nil, dBs_cons, dEs_nil, dEs_cons, dIt_seq, dIt_rng1, dIt_rng2, dIt_enm, dIt_zip, dS_set, dS_unp, dS_par, dS_aug, dS_ret, dS_retN, dS_ite, dS_fo, dS_pass, dS_rai, dS_exp, dS_tr, dSs_nil, dSs_cons, go_nx, go_rt, go_exc, fl_ok, fl_exc, bind_ok, bind_exc, of_some, calm_ok, flof_some, look_0, look_s, lookB_im, lookB_ow, lookB_s, frzL_nil, frzL_cons, frz1_im, frz1_un, frz1_ow, frz1_s, tg_nm, tg_tp, tg_tpl, tgs_nil, tgs_cons, obind, set_0, set_s, lp_nx, lp_ct, lp_bk, lp_rt, lp_exc, out_rt, out_nx, out_exc, ownList, isFr, Bool.and_true, Bool.and_false, Bool.true_and, Bool.false_and, Bool.not_true, Bool.not_false, binD, addD, augD, truD, if_true, if_false, Bool.false_eq_true, ↓reduceIte, startE_nil, startE_cons, reduceCtorEq, decide_true, decide_false, tyD, len_lst, List.length_map, mx, List.length_cons, List.length_nil, (by decide : (0 + 1 + 1 + 1 + 1 + 1 ≤ lim) = True), itemsD]
  exact e
theorem tu10 {a6 a7 a8 a9 : Slot} {S R : Span} (hS : S.Ok w) : ∃ s7, dS (run txt (n + 6)) sub (.fo [] (.nm 7) (.seq (.lst (.cons (.cst (.int 0)) (.cons (.var 4) (.cons (.ix (.own 10) (.cst (.int 2))) (.cons (.ix (.own 10) (.cst (.int 3))) (.cons (.ite (.cmp .gt (.ev (.blt .len (.cons (.own 12) .nil))) (.ev (.cst (.int 0)))) (.ix (.own 12) (.cst (.int 0))) (.cst (.int 1))) (.cons (.bin .mod (.blt .int (.cons (.ev (.ix (.own 1) (.bin .add (.var 2) (.cst (.int 30))))) .nil)) (.bin .add (.var 4) (.cst (.int 1)))) .nil))))))))
      (.cons (.ite [] (.or_ (.cmp .ne (.ev (.call 13 (.cons (.var 3) (.cons (.var 10) (.cons (.var 7) .nil))))) (.ev (.cmp .in_ (.own 7) (.own 12)))) (.not_ (.isi (.call 13 (.cons (.var 3) (.cons (.var 10) (.cons (.var 7) .nil)))) .bool)))
        (.cons (.ret [] (.cst (.bl false))) .nil)
        .nil) .nil)) [a0, .im (.lst (L.map .int)), .im (.int (t : Nat)), .im (.int (w : Nat)), .im (.int ((2 ^ w - 1 : Nat) : Int)), .im (.lst ((within w (meetS S R)).map nD)), a6, a7, a8, a9, .im (spT S), .im (spT R), .im (.lst ((within w S).map nD)), .im (.lst ((within w R).map nD)), .un, .un] = .nx [a0, .im (.lst (L.map .int)), .im (.int (t : Nat)), .im (.int (w : Nat)), .im (.int ((2 ^ w - 1 : Nat) : Int)), .im (.lst ((within w (meetS S R)).map nD)), a6, s7, a8, a9, .im (spT S), .im (spT R), .im (.lst ((within w S).map nD)), .im (.lst ((within w R).map nD)), .un, .un] := by
  have p1 := p_pos w
  obtain ⟨f, hf, ef⟩ : ∃ f : Nat, f < 2 ^ w ∧ dE (run txt (n + 6)) (.ite (.cmp .gt (.ev (.blt .len (.cons (.own 12) .nil))) (.ev (.cst (.int 0)))) (.ix (.own 12) (.cst (.int 0))) (.cst (.int 1))) [a0, .im (.lst (L.map .int)), .im (.int (t : Nat)), .im (.int (w : Nat)), .im (.int ((2 ^ w - 1 : Nat) : Int)), .im (.lst ((within w (meetS S R)).map nD)), a6, a7, a8, a9, .im (spT S), .im (spT R), .im (.lst ((within w S).map nD)), .im (.lst ((within w R).map nD)), .un, .un] = .ok (nD f) := by
    cases q : within w S with
    | nil =>
      refine ⟨1, ?_, ?_⟩
      · have := Nat.pow_le_pow_right (n := 2) (by decide) (by omega : 1 ≤ w); omega
      · have l0 : cmpD .gt (.int (0 : Nat)) (.int 0) = some false := by kernel_rfl
        simp only [dE_cst, dE_glb, dE_var, dE_bin, dE_neg, dE_cmp, dE_chn, dE_and, dE_or, dE_not, dE_ite, dE_tup, dE_lst, dE_call, dE_blt, dE_mkb, dE_isi, dE_ix, dE_sl, dE_rev, dE_comp, dT_cst, dT_var, dT_bin, dT_cmp, dT_chn, dT_call, dT_blt, dT_isi, dT_ix, dT_ite, dT_and, dT_or, dT_not, dO_own, dO_ev, dBd_no, dBd_to, dBs_nil, dBs_cons, dEs_nil, dEs_cons, dIt_seq, dIt_rng1, dIt_rng2, dIt_enm, dIt_zip, dS_set, dS_unp, dS_par, dS_aug, dS_ret, dS_retN, dS_ite, dS_fo, dS_pass, dS_rai, dS_exp, dS_tr, dSs_nil, dSs_cons, go_nx, go_rt, go_exc, fl_ok, fl_exc, bind_ok, bind_exc, of_some, calm_ok, flof_some, look_0, look_s, lookB_im, lookB_ow, lookB_s, frzL_nil, frzL_cons, frz1_im, frz1_un, frz1_ow, frz1_s, tg_nm, tg_tp, tg_tpl, tgs_nil, tgs_cons, obind, set_0, set_s, lp_nx, lp_ct, lp_bk, lp_rt, lp_exc, out_rt, out_nx, out_exc, ownList, isFr, Bool.and_true, Bool.and_false, Bool.true_and, Bool.false_and, Bool.not_true, Bool.not_false, binD, addD, augD, truD, if_true, if_false, Bool.false_eq_true, ↓reduceIte, startE_nil, startE_cons, reduceCtorEq, decide_true, decide_false, tyD, List.map_nil, len_lst, List.length_nil, l0]
        rfl
    | cons x xs =>
      refine ⟨x, ?_, ?_⟩
      · exact (mem_within (s := S).mp (by rw [q]; exact List.mem_cons_self)).1
      · have l0 : cmpD .gt (.int ((xs.length + 1 : Nat) : Int)) (.int 0) = some true := by rw [gt_zero, decide_eq_true (by omega : 0 < xs.length + 1)]
        have x0 : ixD (.lst (nD x :: xs.map nD)) (.int 0) = some (nD x) := by
          have := ix_nat (l := x :: xs) (k := 0) (by simp)
          exact this
        simp only [dE_cst, dE_glb, dE_var, dE_bin, dE_neg, dE_cmp, dE_chn, dE_and, dE_or, dE_not, dE_ite, dE_tup, dE_lst, dE_call, dE_blt, dE_mkb, dE_isi, dE_ix, dE_sl, dE_rev, dE_comp, dT_cst, dT_var, dT_bin, dT_cmp, dT_chn, dT_call, dT_blt, dT_isi, dT_ix, dT_ite, dT_and, dT_or, dT_not, dO_own, dO_ev, dBd_no, dBd_to, dBs_nil, dBs_cons, dEs_nil, dEs_cons, dIt_seq, dIt_rng1, dIt_rng2, dIt_enm, dIt_zip, dS_set, dS_unp, dS_par, dS_aug, dS_ret, dS_retN, dS_ite, dS_fo, dS_pass, dS_rai, dS_exp, dS_tr, dSs_nil, dSs_cons, go_nx, go_rt, go_exc, fl_ok, fl_exc, bind_ok, bind_exc, of_some, calm_ok, flof_some, look_0, look_s, lookB_im, lookB_ow, lookB_s, frzL_nil, frzL_cons, frz1_im, frz1_un, frz1_ow, frz1_s, tg_nm, tg_tp, tg_tpl, tgs_nil, tgs_cons, obind, set_0, set_s, lp_nx, lp_ct, lp_bk, lp_rt, lp_exc, out_rt, out_nx, out_exc, ownList, isFr, Bool.and_true, Bool.and_false, Bool.true_and, Bool.false_and, Bool.not_true, Bool.not_false, binD, addD, augD, truD, if_true, if_false, Bool.false_eq_true, ↓reduceIte, startE_nil, startE_cons, reduceCtorEq, decide_true, decide_false, tyD, List.map_cons, len_lst, List.length_cons, List.length_map, l0, x0]
  obtain ⟨g, hg, eg⟩ : ∃ g : Nat, g < 2 ^ w ∧ L.getD (t + 30) 0 % ((2 ^ w : Nat) : Int) = (g : Int) := ⟨(L.getD (t + 30) 0 % ((2 ^ w : Nat) : Int)).toNat, by
    have := Int.emod_nonneg (L.getD (t + 30) 0) (show ((2 ^ w : Nat) : Int) ≠ 0 by omega)
    have := Int.emod_lt_of_pos (L.getD (t + 30) 0) (show (0 : Int) < ((2 ^ w : Nat) : Int) by omega)
    omega, (Int.toNat_of_nonneg (Int.emod_nonneg _ (by omega))).symm⟩
  have hw : ((2 ^ w - 1 : Nat) : Int) + 1 = ((2 ^ w : Nat) : Int) := by omega
  have W0 : ((0 : Int) < ((2 ^ w : Nat) : Int)) = True := eq_true (by omega)
  have i30 : (t : Int) + 30 = ((t + 30 : Nat) : Int) := by omega
  obtain ⟨s7, e⟩ := lp9 (n := n) (sub := sub) (a0 := a0) hL hl ht h8 h0 (a6 := a6) (a8 := a8) (a9 := a9) (R := R) hS [0, 2 ^ w - 1, S.lo, S.hi, f, g] a7 (fun m hm => by
    simp only [List.mem_cons, List.not_mem_nil, or_false] at hm
    have := hS.lo
    have := hS.hi
    omega)
  refine ⟨s7, ?_⟩
  rw [dS_fo, frzL_nil, dIt_seq, dE_lst]
  simp only [dEs_cons, dEs_nil, ef]
  simp only [dE_cst, dE_glb, dE_var, dE_bin, dE_neg, dE_cmp, dE_chn, dE_and, dE_or, dE_not, dE_ite, dE_tup, dE_lst, dE_call, dE_blt, dE_mkb, dE_isi, dE_ix, dE_sl, dE_rev, dE_comp, dT_cst, dT_var, dT_bin, dT_cmp, dT_chn, dT_call, dT_blt, dT_isi, dT_ix, dT_ite, dT_and, dT_or, dT_not, dO_own, dO_ev, dBd_no, dBd_to, dBs_nil, dBs_cons, dEs_nil, dEs_cons, dIt_seq, dIt_rng1, dIt_rng2, dIt_enm, dIt_zip, dS_set, dS_unp, dS_par, dS_aug, dS_ret, dS_retN, dS_ite, dS_fo, dS_pass, dS_rai, dS_exp, dS_tr, dSs_nil, dSs_cons, go_nx, go_rt, go_exc, fl_ok, fl_exc, bind_ok, bind_exc, of_some, calm_ok, flof_some, look_0, look_s, lookB_im, lookB_ow, lookB_s, frzL_nil, frzL_cons, frz1_im, frz1_un, frz1_ow, frz1_s, tg_nm, tg_tp, tg_tpl, tgs_nil, tgs_cons, obind, set_0, set_s, lp_nx, lp_ct, lp_bk, lp_rt, lp_exc, out_rt, out_nx, out_exc, ownList, isFr, Bool.and_true, Bool.and_false, Bool.true_and, Bool.false_and, Bool.not_true, Bool.not_false, binD, addD, augD, truD, if_true, if_false, Bool.false_eq_true, ↓reduceIte, startE_nil, startE_cons, reduceCtorEq, decide_true, decide_false, tyD, sp2, sp3, i30, ix_lst (by omega : t + 30 < L.length), int_int, hw, W0, eg, List.length_cons, List.length_nil, (by decide : (0 + 1 + 1 + 1 + 1 + 1 + 1 ≤ lim) = True), itemsD]
  exact e
theorem tu11 {a6 a7 a8 a9 : Slot} {S R : Span} (hS : S.Ok w) : dS (run txt (n + 6)) sub (.ite [] (.blt .any (.cons (.ev (.comp (.call 13 (.cons (.var 3) (.cons (.var 10) (.cons (.var 15) .nil)))) [15] (.nm 15) (.seq (.lst (.cons (.cst .non) (.cons (.cst (.bl true)) (.cons (.neg (.cst (.int 1))) (.cons (.bin .add (.var 4) (.cst (.int 1))) (.cons (.cst (.str "0")) .nil))))))) (.cst (.bl true)))) .nil))
      (.cons (.ret [] (.cst (.bl false))) .nil)
      .nil) [a0, .im (.lst (L.map .int)), .im (.int (t : Nat)), .im (.int (w : Nat)), .im (.int ((2 ^ w - 1 : Nat) : Int)), .im (.lst ((within w (meetS S R)).map nD)), a6, a7, a8, a9, .im (spT S), .im (spT R), .im (.lst ((within w S).map nD)), .im (.lst ((within w R).map nD)), .un, .un] = .nx [a0, .im (.lst (L.map .int)), .im (.int (t : Nat)), .im (.int (w : Nat)), .im (.int ((2 ^ w - 1 : Nat) : Int)), .im (.lst ((within w (meetS S R)).map nD)), a6, a7, a8, a9, .im (spT S), .im (spT R), .im (.lst ((within w S).map nD)), .im (.lst ((within w R).map nD)), .un, .un] := by
  have p1 := p_pos w
  have nw : ∀ d : D, run txt (n + 5) 0 [d, .int 0, .int ((2 ^ w - 1 : Nat) : Int)] = .ok (.bl false) → run txt (n + 6) 13 [.int (w : Nat), spT S, d] = .ok (.bl false) := fun d h => run_not_within (n + 2) w h0 (by omega) S hS d h
  have d1 := nw .non (by
    rw [run_s (d := d0) rfl rfl]
    show (dSs _ _ b0 [.im .non, .im (.int 0), .im (.int ((2 ^ w - 1 : Nat) : Int))]).out = _
    simp only [b0, dE_cst, dE_glb, dE_var, dE_bin, dE_neg, dE_cmp, dE_chn, dE_and, dE_or, dE_not, dE_ite, dE_tup, dE_lst, dE_call, dE_blt, dE_mkb, dE_isi, dE_ix, dE_sl, dE_rev, dE_comp, dT_cst, dT_var, dT_bin, dT_cmp, dT_chn, dT_call, dT_blt, dT_isi, dT_ix, dT_ite, dT_and, dT_or, dT_not, dO_own, dO_ev, dBd_no, dBd_to, dBs_nil, dBs_cons, dEs_nil, dEs_cons, dIt_seq, dIt_rng1, dIt_rng2, dIt_enm, dIt_zip, dS_set, dS_unp, dS_par, dS_aug, dS_ret, dS_retN, dS_ite, dS_fo, dS_pass, dS_rai, dS_exp, dS_tr, dSs_nil, dSs_cons, go_nx, go_rt, go_exc, fl_ok, fl_exc, bind_ok, bind_exc, of_some, calm_ok, flof_some, look_0, look_s, lookB_im, lookB_ow, lookB_s, frzL_nil, frzL_cons, frz1_im, frz1_un, frz1_ow, frz1_s, tg_nm, tg_tp, tg_tpl, tgs_nil, tgs_cons, obind, set_0, set_s, lp_nx, lp_ct, lp_bk, lp_rt, lp_exc, out_rt, out_nx, out_exc, ownList, isFr, Bool.and_true, Bool.and_false, Bool.true_and, Bool.false_and, Bool.not_true, Bool.not_false, binD, addD, augD, truD, if_true, if_false, Bool.false_eq_true, ↓reduceIte, startE_nil, startE_cons, reduceCtorEq, decide_true, decide_false, tyD])
  have d2 := nw (.bl true) (by
    rw [run_s (d := d0) rfl rfl]
    show (dSs _ _ b0 [.im (.bl true), .im (.int 0), .im (.int ((2 ^ w - 1 : Nat) : Int))]).out = _
    simp only [b0, dE_cst, dE_glb, dE_var, dE_bin, dE_neg, dE_cmp, dE_chn, dE_and, dE_or, dE_not, dE_ite, dE_tup, dE_lst, dE_call, dE_blt, dE_mkb, dE_isi, dE_ix, dE_sl, dE_rev, dE_comp, dT_cst, dT_var, dT_bin, dT_cmp, dT_chn, dT_call, dT_blt, dT_isi, dT_ix, dT_ite, dT_and, dT_or, dT_not, dO_own, dO_ev, dBd_no, dBd_to, dBs_nil, dBs_cons, dEs_nil, dEs_cons, dIt_seq, dIt_rng1, dIt_rng2, dIt_enm, dIt_zip, dS_set, dS_unp, dS_par, dS_aug, dS_ret, dS_retN, dS_ite, dS_fo, dS_pass, dS_rai, dS_exp, dS_tr, dSs_nil, dSs_cons, go_nx, go_rt, go_exc, fl_ok, fl_exc, bind_ok, bind_exc, of_some, calm_ok, flof_some, look_0, look_s, lookB_im, lookB_ow, lookB_s, frzL_nil, frzL_cons, frz1_im, frz1_un, frz1_ow, frz1_s, tg_nm, tg_tp, tg_tpl, tgs_nil, tgs_cons, obind, set_0, set_s, lp_nx, lp_ct, lp_bk, lp_rt, lp_exc, out_rt, out_nx, out_exc, ownList, isFr, Bool.and_true, Bool.and_false, Bool.true_and, Bool.false_and, Bool.not_true, Bool.not_false, binD, addD, augD, truD, if_true, if_false, Bool.false_eq_true, ↓reduceIte, startE_nil, startE_cons, reduceCtorEq, decide_true, decide_false, tyD])
  have d3 := nw (.int (-1)) (by rw [run_whole, decide_eq_false (p := (0 : Int) ≤ -1) (by omega), Bool.false_and])
  have d4 := nw (.int (((2 ^ w - 1 : Nat) : Int) + 1)) (by rw [run_whole, decide_eq_false (p := ((2 ^ w - 1 : Nat) : Int) + 1 ≤ ((2 ^ w - 1 : Nat) : Int)) (by omega), Bool.and_false])
  have d5 := nw (.str "0") (by
    rw [run_s (d := d0) rfl rfl]
    show (dSs _ _ b0 [.im (.str "0"), .im (.int 0), .im (.int ((2 ^ w - 1 : Nat) : Int))]).out = _
    simp only [b0, dE_cst, dE_glb, dE_var, dE_bin, dE_neg, dE_cmp, dE_chn, dE_and, dE_or, dE_not, dE_ite, dE_tup, dE_lst, dE_call, dE_blt, dE_mkb, dE_isi, dE_ix, dE_sl, dE_rev, dE_comp, dT_cst, dT_var, dT_bin, dT_cmp, dT_chn, dT_call, dT_blt, dT_isi, dT_ix, dT_ite, dT_and, dT_or, dT_not, dO_own, dO_ev, dBd_no, dBd_to, dBs_nil, dBs_cons, dEs_nil, dEs_cons, dIt_seq, dIt_rng1, dIt_rng2, dIt_enm, dIt_zip, dS_set, dS_unp, dS_par, dS_aug, dS_ret, dS_retN, dS_ite, dS_fo, dS_pass, dS_rai, dS_exp, dS_tr, dSs_nil, dSs_cons, go_nx, go_rt, go_exc, fl_ok, fl_exc, bind_ok, bind_exc, of_some, calm_ok, flof_some, look_0, look_s, lookB_im, lookB_ow, lookB_s, frzL_nil, frzL_cons, frz1_im, frz1_un, frz1_ow, frz1_s, tg_nm, tg_tp, tg_tpl, tgs_nil, tgs_cons, obind, set_0, set_s, lp_nx, lp_ct, lp_bk, lp_rt, lp_exc, out_rt, out_nx, out_exc, ownList, isFr, Bool.and_true, Bool.and_false, Bool.true_and, Bool.false_and, Bool.not_true, Bool.not_false, binD, addD, augD, truD, if_true, if_false, Bool.false_eq_true, ↓reduceIte, startE_nil, startE_cons, reduceCtorEq, decide_true, decide_false, tyD])
  have comp := compL_map (tg := fun d => dTg (.nm 15) d (wipeE [a0, .im (.lst (L.map .int)), .im (.int (t : Nat)), .im (.int (w : Nat)), .im (.int ((2 ^ w - 1 : Nat) : Int)), .im (.lst ((within w (meetS S R)).map nD)), a6, a7, a8, a9, .im (spT S), .im (spT R), .im (.lst ((within w S).map nD)), .im (.lst ((within w R).map nD)), .un, .un] [15])) (c := dT (run txt (n + 6)) (.cst (.bl true))) (x := dE (run txt (n + 6)) (.call 13 (.cons (.var 3) (.cons (.var 10) (.cons (.var 15) .nil))))) (fun _ => D.bl false) [.non, .bl true, .int (-1), .int (((2 ^ w - 1 : Nat) : Int) + 1), .str "0"] fun d hd => by
    refine ⟨[a0, .im (.lst (L.map .int)), .im (.int (t : Nat)), .im (.int (w : Nat)), .im (.int ((2 ^ w - 1 : Nat) : Int)), .im (.lst ((within w (meetS S R)).map nD)), a6, a7, a8, a9, .im (spT S), .im (spT R), .im (.lst ((within w S).map nD)), .im (.lst ((within w R).map nD)), .un, .im d], rfl, rfl, ?_⟩
    simp only [List.mem_cons, List.not_mem_nil, or_false] at hd
    rcases hd with rfl | rfl | rfl | rfl | rfl <;> simp only [dE_cst, dE_glb, dE_var, dE_bin, dE_neg, dE_cmp, dE_chn, dE_and, dE_or, dE_not, dE_ite, dE_tup, dE_lst, dE_call, dE_blt, dE_mkb, dE_isi, dE_ix, dE_sl, dE_rev, dE_comp, dT_cst, dT_var, dT_bin, dT_cmp, dT_chn, dT_call, dT_blt, dT_isi, dT_ix, dT_ite, dT_and, dT_or, dT_not, dO_own, dO_ev, dBd_no, dBd_to, dBs_nil, dBs_cons, dEs_nil, dEs_cons, dIt_seq, dIt_rng1, dIt_rng2, dIt_enm, dIt_zip, dS_set, dS_unp, dS_par, dS_aug, dS_ret, dS_retN, dS_ite, dS_fo, dS_pass, dS_rai, dS_exp, dS_tr, dSs_nil, dSs_cons, go_nx, go_rt, go_exc, fl_ok, fl_exc, bind_ok, bind_exc, of_some, calm_ok, flof_some, look_0, look_s, lookB_im, lookB_ow, lookB_s, frzL_nil, frzL_cons, frz1_im, frz1_un, frz1_ow, frz1_s, tg_nm, tg_tp, tg_tpl, tgs_nil, tgs_cons, obind, set_0, set_s, lp_nx, lp_ct, lp_bk, lp_rt, lp_exc, out_rt, out_nx, out_exc, ownList, isFr, Bool.and_true, Bool.and_false, Bool.true_and, Bool.false_and, Bool.not_true, Bool.not_false, binD, addD, augD, truD, if_true, if_false, Bool.false_eq_true, ↓reduceIte, startE_nil, startE_cons, reduceCtorEq, decide_true, decide_false, tyD, d1, d2, d3, d4, d5]
  simp only [tg_nm, List.map_cons, List.map_nil] at comp
  have an : bltD .any [.lst [.bl false, .bl false, .bl false, .bl false, .bl false]] = some (.bl false) := nrfl rfl
  simp only [dE_cst, dE_glb, dE_var, dE_bin, dE_neg, dE_cmp, dE_chn, dE_and, dE_or, dE_not, dE_ite, dE_tup, dE_lst, dE_call, dE_blt, dE_mkb, dE_isi, dE_ix, dE_sl, dE_rev, dE_comp, dT_cst, dT_var, dT_bin, dT_cmp, dT_chn, dT_call, dT_blt, dT_isi, dT_ix, dT_ite, dT_and, dT_or, dT_not, dO_own, dO_ev, dBd_no, dBd_to, dBs_nil, dBs_cons, dEs_nil, dEs_cons, dIt_seq, dIt_rng1, dIt_rng2, dIt_enm, dIt_zip, dS_set, dS_unp, dS_par, dS_aug, dS_ret, dS_retN, dS_ite, dS_fo, dS_pass, dS_rai, dS_exp, dS_tr, dSs_nil, dSs_cons, go_nx, go_rt, go_exc, fl_ok, fl_exc, bind_ok, bind_exc, of_some, calm_ok, flof_some, look_0, look_s, lookB_im, lookB_ow, lookB_s, frzL_nil, frzL_cons, frz1_im, frz1_un, frz1_ow, frz1_s, tg_nm, tg_tp, tg_tpl, tgs_nil, tgs_cons, obind, set_0, set_s, lp_nx, lp_ct, lp_bk, lp_rt, lp_exc, out_rt, out_nx, out_exc, ownList, isFr, Bool.and_true, Bool.and_false, Bool.true_and, Bool.false_and, Bool.not_true, Bool.not_false, binD, addD, augD, truD, if_true, if_false, Bool.false_eq_true, ↓reduceIte, startE_nil, startE_cons, reduceCtorEq, decide_true, decide_false, tyD, List.length_cons, List.length_nil, (by decide : (0 + 1 + 1 + 1 + 1 + 1 ≤ lim) = True), (by decide : (0 + 1 + 1 + 1 + 1 + 1 < lim) = True), itemsD, comp, an]
theorem tu12 {a6 a7 a8 a9 : Slot} {S R : Span} : ∃ X : List Nat, X.length = 1 + t % 4 ∧ (∀ x ∈ X, x < 2 ^ w) ∧ dS (run txt (n + 6)) sub (.set [] 8 false (.comp (.bin .mod (.blt .int (.cons (.ev (.ix (.own 1) (.bin .mod (.bin .add (.bin .add (.cst (.int 50)) (.var 2)) (.var 14)) (.cst (.int 200))))) .nil)) (.bin .add (.var 4) (.cst (.int 1)))) [14] (.nm 14) (.rng1 (.bin .add (.cst (.int 1)) (.bin .mod (.var 2) (.cst (.int 4))))) (.cst (.bl true)))) [a0, .im (.lst (L.map .int)), .im (.int (t : Nat)), .im (.int (w : Nat)), .im (.int ((2 ^ w - 1 : Nat) : Int)), .im (.lst ((within w (meetS S R)).map nD)), a6, a7, a8, a9, .im (spT S), .im (spT R), .im (.lst ((within w S).map nD)), .im (.lst ((within w R).map nD)), .un, .un] = .nx [a0, .im (.lst (L.map .int)), .im (.int (t : Nat)), .im (.int (w : Nat)), .im (.int ((2 ^ w - 1 : Nat) : Int)), .im (.lst ((within w (meetS S R)).map nD)), a6, a7, .im (.lst (X.map nD)), a9, .im (spT S), .im (spT R), .im (.lst ((within w S).map nD)), .im (.lst ((within w R).map nD)), .un, .un] := by
  have p1 := p_pos w
  obtain ⟨g, hg⟩ : ∃ g : Nat → Nat, ∀ j, L.getD ((50 + t + j) % 200) 0 % ((2 ^ w : Nat) : Int) = (g j : Nat) := ⟨fun j => (L.getD ((50 + t + j) % 200) 0 % ((2 ^ w : Nat) : Int)).toNat, fun j => (Int.toNat_of_nonneg (Int.emod_nonneg _ (by omega))).symm⟩
  have glt : ∀ j, g j < 2 ^ w := fun j => by
    have := Int.emod_lt_of_pos (L.getD ((50 + t + j) % 200) 0) (show (0 : Int) < ((2 ^ w : Nat) : Int) by omega)
    have := hg j
    omega
  have hw : ((2 ^ w - 1 : Nat) : Int) + 1 = ((2 ^ w : Nat) : Int) := by omega
  have W0 : ((0 : Int) < ((2 ^ w : Nat) : Int)) = True := eq_true (by omega)
  refine ⟨(List.range (1 + t % 4)).map g, by rw [List.length_map, List.length_range], fun x hx => by
    obtain ⟨j, _, rfl⟩ := List.mem_map.mp hx
    exact glt j, ?_⟩
  have comp := rng_compN (m := 1 + t % 4) (f := g) (tg := fun d => dTg (.nm 14) d (wipeE [a0, .im (.lst (L.map .int)), .im (.int (t : Nat)), .im (.int (w : Nat)), .im (.int ((2 ^ w - 1 : Nat) : Int)), .im (.lst ((within w (meetS S R)).map nD)), a6, a7, a8, a9, .im (spT S), .im (spT R), .im (.lst ((within w S).map nD)), .im (.lst ((within w R).map nD)), .un, .un] [14])) (c := dT (run txt (n + 6)) (.cst (.bl true))) (x := dE (run txt (n + 6)) (.bin .mod (.blt .int (.cons (.ev (.ix (.own 1) (.bin .mod (.bin .add (.bin .add (.cst (.int 50)) (.var 2)) (.var 14)) (.cst (.int 200))))) .nil)) (.bin .add (.var 4) (.cst (.int 1))))) fun j hj => by
    refine ⟨[a0, .im (.lst (L.map .int)), .im (.int (t : Nat)), .im (.int (w : Nat)), .im (.int ((2 ^ w - 1 : Nat) : Int)), .im (.lst ((within w (meetS S R)).map nD)), a6, a7, a8, a9, .im (spT S), .im (spT R), .im (.lst ((within w S).map nD)), .im (.lst ((within w R).map nD)), .im (.int (j : Nat)), .un], rfl, rfl, ?_⟩
    have i : ((50 : Int) + (t : Int) + (j : Int)) % 200 = (((50 + t + j) % 200 : Nat) : Int) := by omega
    simp only [dE_cst, dE_glb, dE_var, dE_bin, dE_neg, dE_cmp, dE_chn, dE_and, dE_or, dE_not, dE_ite, dE_tup, dE_lst, dE_call, dE_blt, dE_mkb, dE_isi, dE_ix, dE_sl, dE_rev, dE_comp, dT_cst, dT_var, dT_bin, dT_cmp, dT_chn, dT_call, dT_blt, dT_isi, dT_ix, dT_ite, dT_and, dT_or, dT_not, dO_own, dO_ev, dBd_no, dBd_to, dBs_nil, dBs_cons, dEs_nil, dEs_cons, dIt_seq, dIt_rng1, dIt_rng2, dIt_enm, dIt_zip, dS_set, dS_unp, dS_par, dS_aug, dS_ret, dS_retN, dS_ite, dS_fo, dS_pass, dS_rai, dS_exp, dS_tr, dSs_nil, dSs_cons, go_nx, go_rt, go_exc, fl_ok, fl_exc, bind_ok, bind_exc, of_some, calm_ok, flof_some, look_0, look_s, lookB_im, lookB_ow, lookB_s, frzL_nil, frzL_cons, frz1_im, frz1_un, frz1_ow, frz1_s, tg_nm, tg_tp, tg_tpl, tgs_nil, tgs_cons, obind, set_0, set_s, lp_nx, lp_ct, lp_bk, lp_rt, lp_exc, out_rt, out_nx, out_exc, ownList, isFr, Bool.and_true, Bool.and_false, Bool.true_and, Bool.false_and, Bool.not_true, Bool.not_false, binD, addD, augD, truD, if_true, if_false, Bool.false_eq_true, ↓reduceIte, startE_nil, startE_cons, reduceCtorEq, decide_true, decide_false, tyD, (by decide : ((0 : Int) < 200) = True), i, ix_lst (by omega : (50 + t + j) % 200 < L.length), int_int, hw, W0, hg]
    rfl
  simp only [tg_nm] at comp
  have i4 : (1 : Int) + (t : Int) % 4 = ((1 + t % 4 : Nat) : Int) := by omega
  simp only [dE_cst, dE_glb, dE_var, dE_bin, dE_neg, dE_cmp, dE_chn, dE_and, dE_or, dE_not, dE_ite, dE_tup, dE_lst, dE_call, dE_blt, dE_mkb, dE_isi, dE_ix, dE_sl, dE_rev, dE_comp, dT_cst, dT_var, dT_bin, dT_cmp, dT_chn, dT_call, dT_blt, dT_isi, dT_ix, dT_ite, dT_and, dT_or, dT_not, dO_own, dO_ev, dBd_no, dBd_to, dBs_nil, dBs_cons, dEs_nil, dEs_cons, dIt_seq, dIt_rng1, dIt_rng2, dIt_enm, dIt_zip, dS_set, dS_unp, dS_par, dS_aug, dS_ret, dS_retN, dS_ite, dS_fo, dS_pass, dS_rai, dS_exp, dS_tr, dSs_nil, dSs_cons, go_nx, go_rt, go_exc, fl_ok, fl_exc, bind_ok, bind_exc, of_some, calm_ok, flof_some, look_0, look_s, lookB_im, lookB_ow, lookB_s, frzL_nil, frzL_cons, frz1_im, frz1_un, frz1_ow, frz1_s, tg_nm, tg_tp, tg_tpl, tgs_nil, tgs_cons, obind, set_0, set_s, lp_nx, lp_ct, lp_bk, lp_rt, lp_exc, out_rt, out_nx, out_exc, ownList, isFr, Bool.and_true, Bool.and_false, Bool.true_and, Bool.false_and, Bool.not_true, Bool.not_false, binD, addD, augD, truD, if_true, if_false, Bool.false_eq_true, ↓reduceIte, startE_nil, startE_cons, reduceCtorEq, decide_true, decide_false, tyD, (by decide : ((0 : Int) < 4) = True), i4, inRng_nat (by omega : 1 + t % 4 < 2 ^ 60), toNat_nat, rngL_len, (show (1 + t % 4 < lim) = True from eq_true (by show _ < 16777216; omega)), comp]
theorem tu13 {a6 a7 a9 : Slot} {S R : Span} {X : List Nat} {l h : Nat} (e : Ends X l h) (lt : ∀ x ∈ X, x < 2 ^ w) (ll : X.length < 1000) : dS (run txt (n + 6)) sub (.set [] 9 false (.call 16 (.cons (.var 3) (.cons (.mkb .tuple (.cons (.var 8) .nil)) .nil)))) [a0, .im (.lst (L.map .int)), .im (.int (t : Nat)), .im (.int (w : Nat)), .im (.int ((2 ^ w - 1 : Nat) : Int)), .im (.lst ((within w (meetS S R)).map nD)), a6, a7, .im (.lst (X.map nD)), a9, .im (spT S), .im (spT R), .im (.lst ((within w S).map nD)), .im (.lst ((within w R).map nD)), .un, .un] = .nx [a0, .im (.lst (L.map .int)), .im (.int (t : Nat)), .im (.int (w : Nat)), .im (.int ((2 ^ w - 1 : Nat) : Int)), .im (.lst ((within w (meetS S R)).map nD)), a6, a7, .im (.lst (X.map nD)), .im (spT (hullN w X l h)), .im (spT S), .im (spT R), .im (.lst ((within w S).map nD)), .im (.lst ((within w R).map nD)), .un, .un] := by
  have mk_ : mkbD .tuple [.lst (X.map nD)] = some (.tup (X.map nD)) := nrfl rfl
  simp only [dE_cst, dE_glb, dE_var, dE_bin, dE_neg, dE_cmp, dE_chn, dE_and, dE_or, dE_not, dE_ite, dE_tup, dE_lst, dE_call, dE_blt, dE_mkb, dE_isi, dE_ix, dE_sl, dE_rev, dE_comp, dT_cst, dT_var, dT_bin, dT_cmp, dT_chn, dT_call, dT_blt, dT_isi, dT_ix, dT_ite, dT_and, dT_or, dT_not, dO_own, dO_ev, dBd_no, dBd_to, dBs_nil, dBs_cons, dEs_nil, dEs_cons, dIt_seq, dIt_rng1, dIt_rng2, dIt_enm, dIt_zip, dS_set, dS_unp, dS_par, dS_aug, dS_ret, dS_retN, dS_ite, dS_fo, dS_pass, dS_rai, dS_exp, dS_tr, dSs_nil, dSs_cons, go_nx, go_rt, go_exc, fl_ok, fl_exc, bind_ok, bind_exc, of_some, calm_ok, flof_some, look_0, look_s, lookB_im, lookB_ow, lookB_s, frzL_nil, frzL_cons, frz1_im, frz1_un, frz1_ow, frz1_s, tg_nm, tg_tp, tg_tpl, tgs_nil, tgs_cons, obind, set_0, set_s, lp_nx, lp_ct, lp_bk, lp_rt, lp_exc, out_rt, out_nx, out_exc, ownList, isFr, Bool.and_true, Bool.and_false, Bool.true_and, Bool.false_and, Bool.not_true, Bool.not_false, binD, addD, augD, truD, if_true, if_false, Bool.false_eq_true, ↓reduceIte, startE_nil, startE_cons, reduceCtorEq, decide_true, decide_false, tyD, mk_, run_hull_of (n + 3) w h0 (by omega) X l h e lt ll]
theorem tu14 {a6 a7 : Slot} {S R : Span} {X : List Nat} {l h : Nat} (e : Ends X l h) (lt : ∀ x ∈ X, x < 2 ^ w) (ll : X.length < 1000) : dS (run txt (n + 6)) sub (.ite [] (.or_ (.cmp .ne (.own 9) (.ev (.call 22 (.cons (.var 3) (.cons (.var 8) .nil))))) (.or_ (.cmp .ne (.ev (.call 14 (.cons (.var 3) (.cons (.var 9) .nil)))) (.own 9)) (.not_ (.blt .all (.cons (.ev (.comp (.call 13 (.cons (.var 3) (.cons (.var 9) (.cons (.var 7) .nil)))) [7] (.nm 7) (.seq (.var 8)) (.cst (.bl true)))) .nil)))))
      (.cons (.ret [] (.cst (.bl false))) .nil)
      .nil) [a0, .im (.lst (L.map .int)), .im (.int (t : Nat)), .im (.int (w : Nat)), .im (.int ((2 ^ w - 1 : Nat) : Int)), .im (.lst ((within w (meetS S R)).map nD)), a6, a7, .im (.lst (X.map nD)), .im (spT (hullN w X l h)), .im (spT S), .im (spT R), .im (.lst ((within w S).map nD)), .im (.lst ((within w R).map nD)), .un, .un] = .nx [a0, .im (.lst (L.map .int)), .im (.int (t : Nat)), .im (.int (w : Nat)), .im (.int ((2 ^ w - 1 : Nat) : Int)), .im (.lst ((within w (meetS S R)).map nD)), a6, a7, .im (.lst (X.map nD)), .im (spT (hullN w X l h)), .im (spT S), .im (spT R), .im (.lst ((within w S).map nD)), .im (.lst ((within w R).map nD)), .un, .un] := by
  have ok : (hullN w X l h).Ok w := hull_ok (lt _ e.1) (lt _ e.2.1)
  have r1 := run_lhull (n + 4) w (by omega) X l h e (by omega)
  have r2 := run_tightened (n + 1) w h0 (by omega) _ ok
  rw [tight_hull lt e] at r2
  have r2 : run txt (n + 6) 14 [.int (w : Nat), spT (hullN w X l h)] = .ok (spT (hullN w X l h)) := r2
  have fl := flat_sp (some (hullN w X l h))
  have fl : flat 60 (spT (hullN w X l h)) = true := fl
  have comp := compL_map (tg := fun d => dTg (.nm 7) d (wipeE [a0, .im (.lst (L.map .int)), .im (.int (t : Nat)), .im (.int (w : Nat)), .im (.int ((2 ^ w - 1 : Nat) : Int)), .im (.lst ((within w (meetS S R)).map nD)), a6, a7, .im (.lst (X.map nD)), .im (spT (hullN w X l h)), .im (spT S), .im (spT R), .im (.lst ((within w S).map nD)), .im (.lst ((within w R).map nD)), .un, .un] [7])) (c := dT (run txt (n + 6)) (.cst (.bl true))) (x := dE (run txt (n + 6)) (.call 13 (.cons (.var 3) (.cons (.var 9) (.cons (.var 7) .nil))))) (fun _ => D.bl true) (X.map nD) fun d hd => by
    obtain ⟨x, hx, rfl⟩ := List.mem_map.mp hd
    refine ⟨[a0, .im (.lst (L.map .int)), .im (.int (t : Nat)), .im (.int (w : Nat)), .im (.int ((2 ^ w - 1 : Nat) : Int)), .im (.lst ((within w (meetS S R)).map nD)), a6, .im (nD x), .im (.lst (X.map nD)), .im (spT (hullN w X l h)), .im (spT S), .im (spT R), .im (.lst ((within w S).map nD)), .im (.lst ((within w R).map nD)), .un, .un], rfl, rfl, ?_⟩
    have r := run_is_within (n + 2) w h0 (by omega) _ ok x (lt x hx)
    rw [has_iff.mpr ⟨hull_fit hx (lt x hx), e.2.2 x hx⟩] at r
    have r : run txt (n + 6) 13 [.int (w : Nat), spT (hullN w X l h), nD x] = _ := r
    simp only [dE_cst, dE_glb, dE_var, dE_bin, dE_neg, dE_cmp, dE_chn, dE_and, dE_or, dE_not, dE_ite, dE_tup, dE_lst, dE_call, dE_blt, dE_mkb, dE_isi, dE_ix, dE_sl, dE_rev, dE_comp, dT_cst, dT_var, dT_bin, dT_cmp, dT_chn, dT_call, dT_blt, dT_isi, dT_ix, dT_ite, dT_and, dT_or, dT_not, dO_own, dO_ev, dBd_no, dBd_to, dBs_nil, dBs_cons, dEs_nil, dEs_cons, dIt_seq, dIt_rng1, dIt_rng2, dIt_enm, dIt_zip, dS_set, dS_unp, dS_par, dS_aug, dS_ret, dS_retN, dS_ite, dS_fo, dS_pass, dS_rai, dS_exp, dS_tr, dSs_nil, dSs_cons, go_nx, go_rt, go_exc, fl_ok, fl_exc, bind_ok, bind_exc, of_some, calm_ok, flof_some, look_0, look_s, lookB_im, lookB_ow, lookB_s, frzL_nil, frzL_cons, frz1_im, frz1_un, frz1_ow, frz1_s, tg_nm, tg_tp, tg_tpl, tgs_nil, tgs_cons, obind, set_0, set_s, lp_nx, lp_ct, lp_bk, lp_rt, lp_exc, out_rt, out_nx, out_exc, ownList, isFr, Bool.and_true, Bool.and_false, Bool.true_and, Bool.false_and, Bool.not_true, Bool.not_false, binD, addD, augD, truD, if_true, if_false, Bool.false_eq_true, ↓reduceIte, startE_nil, startE_cons, reduceCtorEq, decide_true, decide_false, tyD, r]
  simp only [tg_nm] at comp
  have at_ := all_true (X.map nD)
  simp only [dE_cst, dE_glb, dE_var, dE_bin, dE_neg, dE_cmp, dE_chn, dE_and, dE_or, dE_not, dE_ite, dE_tup, dE_lst, dE_call, dE_blt, dE_mkb, dE_isi, dE_ix, dE_sl, dE_rev, dE_comp, dT_cst, dT_var, dT_bin, dT_cmp, dT_chn, dT_call, dT_blt, dT_isi, dT_ix, dT_ite, dT_and, dT_or, dT_not, dO_own, dO_ev, dBd_no, dBd_to, dBs_nil, dBs_cons, dEs_nil, dEs_cons, dIt_seq, dIt_rng1, dIt_rng2, dIt_enm, dIt_zip, dS_set, dS_unp, dS_par, dS_aug, dS_ret, dS_retN, dS_ite, dS_fo, dS_pass, dS_rai, dS_exp, dS_tr, dSs_nil, dSs_cons, go_nx, go_rt, go_exc, fl_ok, fl_exc, bind_ok, bind_exc, of_some, calm_ok, flof_some, look_0, look_s, lookB_im, lookB_ow, lookB_s, frzL_nil, frzL_cons, frz1_im, frz1_un, frz1_ow, frz1_s, tg_nm, tg_tp, tg_tpl, tgs_nil, tgs_cons, obind, set_0, set_s, lp_nx, lp_ct, lp_bk, lp_rt, lp_exc, out_rt, out_nx, out_exc, ownList, isFr, Bool.and_true, Bool.and_false, Bool.true_and, Bool.false_and, Bool.not_true, Bool.not_false, binD, addD, augD, truD, if_true, if_false, Bool.false_eq_true, ↓reduceIte, startE_nil, startE_cons, reduceCtorEq, decide_true, decide_false, tyD, r1, r2, ne_self fl, itemsD, List.length_map, (show (X.length < lim) = True from eq_true (by show _ < 16777216; omega)), comp, at_]
end
end Law
namespace Law
open PySem PySem.Spec PyProof.Rows L2 Z
theorem ends_ex : ∀ X : List Nat, X ≠ [] → ∃ l h, Ends X l h
  | [], h => absurd rfl h
  | [x], _ => ⟨x, x, by simp, by simp, fun y hy => by rw [List.mem_singleton.mp hy]; exact ⟨Nat.le_refl _, Nat.le_refl _⟩⟩
  | x :: y :: r, _ => by
    obtain ⟨l, h, h1, h2, h3⟩ := ends_ex (y :: r) (by simp)
    refine ⟨min x l, max x h, ?_, ?_, fun z hz => ?_⟩
    · rcases Nat.le_total x l with q | q
      · rw [Nat.min_eq_left q]; exact List.mem_cons_self
      · rw [Nat.min_eq_right q]; exact List.mem_cons_of_mem _ h1
    · rcases Nat.le_total x h with q | q
      · rw [Nat.max_eq_right q]; exact List.mem_cons_of_mem _ h2
      · rw [Nat.max_eq_left q]; exact List.mem_cons_self
    · rcases List.mem_cons.mp hz with rfl | hz
      · exact ⟨Nat.min_le_left _ _, Nat.le_max_left _ _⟩
      · obtain ⟨a, b⟩ := h3 z hz
        exact ⟨Nat.le_trans (Nat.min_le_right _ _) a, Nat.le_trans b (Nat.le_max_right _ _)⟩
def bodyT : Sms := (.cons (.set [] 3 false (.bin .add (.cst (.int 1)) (.bin .mod (.blt .int (.cons (.ev (.ix (.own 1) (.var 2))) .nil)) (.cst (.int 7))))) (.cons (.set [] 4 false (.call 20 (.cons (.bin .mul (.lst (.cons (.cst (.int 1)) .nil)) (.var 3)) .nil))) (.cons (.unp [] (.tp (.cons (.nm 10) (.cons (.nm 11) .nil))) (.tup (.cons (.call 23 (.cons (.var 1) (.cons (.bin .add (.cst (.int 30)) (.bin .mul (.cst (.int 7)) (.var 2))) (.cons (.var 3) (.cons (.var 4) .nil))))) (.cons (.call 23 (.cons (.var 1) (.cons (.bin .add (.cst (.int 33)) (.bin .mul (.cst (.int 5)) (.var 2))) (.cons (.var 3) (.cons (.var 4) .nil))))) .nil)))) (.cons (.ite [] (.cmp .eq (.ev (.bin .mod (.var 2) (.cst (.int 3)))) (.ev (.cst (.int 0))))
      (.cons (.set [] 10 false (.tup (.cons (.ix (.own 10) (.cst (.int 0))) (.cons (.ite (.cmp .ge (.ev (.bin .sub (.bin .sub (.var 4) (.ix (.own 10) (.cst (.int 0)))) (.ix (.own 10) (.cst (.int 1))))) (.ev (.cst (.int 0)))) (.bin .sub (.bin .sub (.var 4) (.ix (.own 10) (.cst (.int 0)))) (.ix (.own 10) (.cst (.int 1)))) (.cst (.int 0))) (.cons (.ix (.own 10) (.cst (.int 2))) (.cons (.ix (.own 10) (.cst (.int 3))) .nil)))))) .nil)
      .nil) (.cons (.unp [] (.tp (.cons (.nm 12) (.cons (.nm 13) .nil))) (.tup (.cons (.call 21 (.cons (.var 3) (.cons (.var 10) .nil))) (.cons (.call 21 (.cons (.var 3) (.cons (.var 11) .nil))) .nil)))) (.cons (.ite [] (.or_ (.cmp .ne (.ev (.call 14 (.cons (.var 3) (.cons (.var 10) .nil)))) (.ev (.call 22 (.cons (.var 3) (.cons (.var 12) .nil))))) (.cmp .ne (.ev (.call 14 (.cons (.var 3) (.cons (.var 11) .nil)))) (.ev (.call 22 (.cons (.var 3) (.cons (.var 13) .nil))))))
      (.cons (.ret [] (.cst (.bl false))) .nil)
      .nil) (.cons (.set [] 5 false (.comp (.var 7) [7] (.nm 7) (.seq (.var 12)) (.cmp .in_ (.own 7) (.own 13)))) (.cons (.ite [] (.or_ (.cmp .ne (.ev (.call 15 (.cons (.var 3) (.cons (.var 10) (.cons (.var 11) .nil))))) (.ev (.call 22 (.cons (.var 3) (.cons (.var 5) .nil))))) (.cmp .ne (.ev (.call 15 (.cons (.var 3) (.cons (.var 10) (.cons (.var 10) .nil))))) (.ev (.call 14 (.cons (.var 3) (.cons (.var 10) .nil))))))
      (.cons (.ret [] (.cst (.bl false))) .nil)
      .nil) (.cons (.fo [] (.nm 6) (.seq (.lst (.cons (.cst (.int 0)) (.cons (.cst (.int 1)) (.cons (.blt .len (.cons (.own 12) .nil)) (.cons (.blt .max (.cons (.ev (.cst (.int 0))) (.cons (.ev (.bin .sub (.blt .len (.cons (.own 12) .nil)) (.cst (.int 1)))) .nil))) (.cons (.cst (.int 4096)) .nil)))))))
      (.cons (.ite [] (.cmp .ne (.ev (.call 17 (.cons (.var 3) (.cons (.var 10) (.cons (.var 6) .nil))))) (.ev (.ite (.cmp .le (.ev (.blt .len (.cons (.own 12) .nil))) (.own 6)) (.mkb .tuple (.cons (.var 12) .nil)) (.cst .non))))
        (.cons (.ret [] (.cst (.bl false))) .nil)
        .nil) .nil)) (.cons (.fo [] (.nm 7) (.seq (.lst (.cons (.cst (.int 0)) (.cons (.var 4) (.cons (.ix (.own 10) (.cst (.int 2))) (.cons (.ix (.own 10) (.cst (.int 3))) (.cons (.ite (.cmp .gt (.ev (.blt .len (.cons (.own 12) .nil))) (.ev (.cst (.int 0)))) (.ix (.own 12) (.cst (.int 0))) (.cst (.int 1))) (.cons (.bin .mod (.blt .int (.cons (.ev (.ix (.own 1) (.bin .add (.var 2) (.cst (.int 30))))) .nil)) (.bin .add (.var 4) (.cst (.int 1)))) .nil))))))))
      (.cons (.ite [] (.or_ (.cmp .ne (.ev (.call 13 (.cons (.var 3) (.cons (.var 10) (.cons (.var 7) .nil))))) (.ev (.cmp .in_ (.own 7) (.own 12)))) (.not_ (.isi (.call 13 (.cons (.var 3) (.cons (.var 10) (.cons (.var 7) .nil)))) .bool)))
        (.cons (.ret [] (.cst (.bl false))) .nil)
        .nil) .nil)) (.cons (.ite [] (.blt .any (.cons (.ev (.comp (.call 13 (.cons (.var 3) (.cons (.var 10) (.cons (.var 15) .nil)))) [15] (.nm 15) (.seq (.lst (.cons (.cst .non) (.cons (.cst (.bl true)) (.cons (.neg (.cst (.int 1))) (.cons (.bin .add (.var 4) (.cst (.int 1))) (.cons (.cst (.str "0")) .nil))))))) (.cst (.bl true)))) .nil))
      (.cons (.ret [] (.cst (.bl false))) .nil)
      .nil) (.cons (.set [] 8 false (.comp (.bin .mod (.blt .int (.cons (.ev (.ix (.own 1) (.bin .mod (.bin .add (.bin .add (.cst (.int 50)) (.var 2)) (.var 14)) (.cst (.int 200))))) .nil)) (.bin .add (.var 4) (.cst (.int 1)))) [14] (.nm 14) (.rng1 (.bin .add (.cst (.int 1)) (.bin .mod (.var 2) (.cst (.int 4))))) (.cst (.bl true)))) (.cons (.set [] 9 false (.call 16 (.cons (.var 3) (.cons (.mkb .tuple (.cons (.var 8) .nil)) .nil)))) (.cons (.ite [] (.or_ (.cmp .ne (.own 9) (.ev (.call 22 (.cons (.var 3) (.cons (.var 8) .nil))))) (.or_ (.cmp .ne (.ev (.call 14 (.cons (.var 3) (.cons (.var 9) .nil)))) (.own 9)) (.not_ (.blt .all (.cons (.ev (.comp (.call 13 (.cons (.var 3) (.cons (.var 9) (.cons (.var 7) .nil)))) [7] (.nm 7) (.seq (.var 8)) (.cst (.bl true)))) .nil)))))
      (.cons (.ret [] (.cst (.bl false))) .nil)
      .nil) .nil))))))))))))))
def EnvT (a0 : Slot) (L : List Int) (ρ : Env') : Prop := ∃ a2 a3 a4 a5 a6 a7 a8 a9 a10 a11 a12 a13 : Slot, ρ = [a0, .im (.lst (L.map .int)), a2, a3, a4, a5, a6, a7, a8, a9, a10, a11, a12, a13, .un, .un]
theorem one_turn {n : Nat} {sub : Str → Str → Option Bool} {a0 : Slot} {L : List Int} (hL : Pos L) (hl : L.length = 200) {t : Nat} (ht : t < 30) {ρ : Env'} (h : EnvT a0 L ρ) : ∃ ρ1, dTg (.nm 2) (.int (t : Nat)) ρ = some ρ1 ∧ ∃ ρ2, dSs (run txt (n + 6)) sub bodyT ρ1 = .nx ρ2 ∧ EnvT a0 L ρ2 := by
  obtain ⟨a2, a3, a4, a5, a6, a7, a8, a9, a10, a11, a12, a13, rfl⟩ := h
  refine ⟨[a0, .im (.lst (L.map .int)), .im (.int (t : Nat)), a3, a4, a5, a6, a7, a8, a9, a10, a11, a12, a13, .un, .un], rfl, ?_⟩
  have g0 := getD_pos hL t
  obtain ⟨w, hw, h8, h0⟩ : ∃ w : Nat, 1 + L.getD t 0 % 7 = (w : Int) ∧ w < 8 ∧ 0 < w := ⟨(1 + L.getD t 0 % 7).toNat, by omega, by omega, by omega⟩
  obtain ⟨S0, R, hS0, hR, e3⟩ := tu3 (n := n) (sub := sub) (a0 := a0) hL hl ht h8 h0 (a5 := a5) (a6 := a6) (a7 := a7) (a8 := a8) (a9 := a9) (a10 := a10) (a11 := a11) (a12 := a12) (a13 := a13)
  obtain ⟨S, hS, e4⟩ := tu4 (n := n) (sub := sub) (a0 := a0) hL hl ht h8 h0 (a5 := a5) (a6 := a6) (a7 := a7) (a8 := a8) (a9 := a9) (a12 := a12) (a13 := a13) (R := R) hS0
  obtain ⟨s6, e9⟩ := tu9 (n := n) (sub := sub) (a0 := a0) hL hl ht h8 h0 (a6 := a6) (a7 := a7) (a8 := a8) (a9 := a9) (R := R) hS
  obtain ⟨s7, e10⟩ := tu10 (n := n) (sub := sub) (a0 := a0) hL hl ht h8 h0 (a6 := s6) (a7 := a7) (a8 := a8) (a9 := a9) (R := R) hS
  obtain ⟨X, hX, lt, e12⟩ := tu12 (n := n) (sub := sub) (a0 := a0) hL hl ht h8 h0 (a6 := s6) (a7 := s7) (a8 := a8) (a9 := a9) (S := S) (R := R)
  obtain ⟨l, h, e⟩ := ends_ex X (fun z => by rw [z] at hX; simp at hX; omega)
  have ll : X.length < 1000 := by omega
  have key : dSs (run txt (n + 6)) sub bodyT [a0, .im (.lst (L.map .int)), .im (.int (t : Nat)), a3, a4, a5, a6, a7, a8, a9, a10, a11, a12, a13, .un, .un] = .nx [a0, .im (.lst (L.map .int)), .im (.int (t : Nat)), .im (.int (w : Nat)), .im (.int ((2 ^ w - 1 : Nat) : Int)), .im (.lst ((within w (meetS S R)).map nD)), s6, s7, .im (.lst (X.map nD)), .im (spT (hullN w X l h)), .im (spT S), .im (spT R), .im (.lst ((within w S).map nD)), .im (.lst ((within w R).map nD)), .un, .un] := by
    unfold bodyT
    rw [dSs_cons, tu1 hL hl ht h8 h0 hw, go_nx, dSs_cons, tu2 hL hl ht h8 h0, go_nx, dSs_cons, e3, go_nx, dSs_cons, e4, go_nx, dSs_cons, tu5 hL hl ht h8 h0 hS hR, go_nx, dSs_cons, tu6 hL hl ht h8 h0 hS hR, go_nx, dSs_cons, tu7 hL hl ht h8 h0 hS hR, go_nx, dSs_cons, tu8 hL hl ht h8 h0 hS hR, go_nx, dSs_cons, e9, go_nx, dSs_cons, e10, go_nx, dSs_cons, tu11 hL hl ht h8 h0 hS, go_nx, dSs_cons, e12, go_nx, dSs_cons, tu13 hL hl ht h8 h0 e lt ll, go_nx, dSs_cons, tu14 hL hl ht h8 h0 e lt ll, go_nx, dSs_nil]
  exact ⟨_, key, _, _, _, _, _, _, _, _, _, _, _, _, rfl⟩
def level : Nat := 20
abbrev TT : Nat → List D → Z.R D := run txt 19
theorem close1 (sub : Str → Str → Option Bool) (a0 a1 a2 a3 a4 a5 a6 a7 a8 a9 a10 a11 a12 a13 a14 a15 : Slot) : dS TT sub (.ite [] (.or_ (.cmp .ne (.ev (.call 14 (.cons (.cst (.int 16)) (.cons (.tup (.cons (.cst (.int 0)) (.cons (.cst (.int 1)) (.cons (.cst (.int 3)) (.cons (.cst (.int 9)) .nil))))) .nil)))) (.ev (.tup (.cons (.cst (.int 0)) (.cons (.cst (.int 65521)) (.cons (.cst (.int 4)) (.cons (.cst (.int 8)) .nil))))))) (.cmp .ne (.ev (.call 14 (.cons (.cst (.int 4)) (.cons (.tup (.cons (.cst (.int 8)) (.cons (.cst (.int 1)) (.cons (.cst (.int 0)) (.cons (.cst (.int 15)) .nil))))) .nil)))) (.ev (.tup (.cons (.cst (.int 8)) (.cons (.cst (.int 1)) (.cons (.cst (.int 8)) (.cons (.cst (.int 14)) .nil))))))))
    (.cons (.ret [] (.cst (.bl false))) .nil)
    .nil) [a0, a1, a2, a3, a4, a5, a6, a7, a8, a9, a10, a11, a12, a13, a14, a15] = .nx [a0, a1, a2, a3, a4, a5, a6, a7, a8, a9, a10, a11, a12, a13, a14, a15] := by kernel_rfl
theorem close2 (sub : Str → Str → Option Bool) (a0 a1 a2 a3 a4 a5 a6 a7 a8 a9 a10 a11 a12 a13 a14 a15 : Slot) : dS TT sub (.ret [] (.and_ (.cmp .eq (.ev (.call 16 (.cons (.cst (.int 16)) (.cons (.tup (.cons (.cst (.int 65535)) .nil)) .nil)))) (.ev (.tup (.cons (.cst (.int 65535)) (.cons (.cst (.int 0)) (.cons (.cst (.int 65535)) (.cons (.cst (.int 65535)) .nil))))))) (.cmp .eq (.ev (.call 17 (.cons (.cst (.int 16)) (.cons (.tup (.cons (.cst (.int 0)) (.cons (.cst (.int 65534)) (.cons (.cst (.int 0)) (.cons (.cst (.int 65535)) .nil))))) (.cons (.cst (.int 2)) .nil))))) (.ev (.tup (.cons (.cst (.int 0)) (.cons (.cst (.int 1)) .nil))))))) [a0, a1, a2, a3, a4, a5, a6, a7, a8, a9, a10, a11, a12, a13, a14, a15] = .rt (.bl true) := by kernel_rfl
theorem law_true (ns : List Int) (h : ns.length ≤ 63) : run txt level 24 [.scr ns] = .ok (.bl true) := by
  show run txt (19 + 1) 24 [.scr ns] = _
  rw [run_s (d := d24) rfl rfl]
  obtain ⟨L, hL, hl, hd⟩ := run_draws (t := txt) (i := 18) (d := d18) rfl rfl rfl rfl 18 ns 200 (by decide)
  have hd : TT 18 [.scr ns, .int 200] = .ok (.lst (L.map .int)) := hd
  show (dSs TT (subL txt.sub) b24 [.im (.scr ns), .un, .un, .un, .un, .un, .un, .un, .un, .un, .un, .un, .un, .un, .un, .un]).out = _
  have e1 : dS TT (subL txt.sub) (.set [] 1 false (.call 18 (.cons (.var 0) (.cons (.cst (.int 200)) .nil)))) [.im (.scr ns), .un, .un, .un, .un, .un, .un, .un, .un, .un, .un, .un, .un, .un, .un, .un] = .nx [.im (.scr ns), .im (.lst (L.map .int)), .un, .un, .un, .un, .un, .un, .un, .un, .un, .un, .un, .un, .un, .un] := by
    simp only [dE_cst, dE_glb, dE_var, dE_bin, dE_neg, dE_cmp, dE_chn, dE_and, dE_or, dE_not, dE_ite, dE_tup, dE_lst, dE_call, dE_blt, dE_mkb, dE_isi, dE_ix, dE_sl, dE_rev, dE_comp, dT_cst, dT_var, dT_bin, dT_cmp, dT_chn, dT_call, dT_blt, dT_isi, dT_ix, dT_ite, dT_and, dT_or, dT_not, dO_own, dO_ev, dBd_no, dBd_to, dBs_nil, dBs_cons, dEs_nil, dEs_cons, dIt_seq, dIt_rng1, dIt_rng2, dIt_enm, dIt_zip, dS_set, dS_unp, dS_par, dS_aug, dS_ret, dS_retN, dS_ite, dS_fo, dS_pass, dS_rai, dS_exp, dS_tr, dSs_nil, dSs_cons, go_nx, go_rt, go_exc, fl_ok, fl_exc, bind_ok, bind_exc, of_some, calm_ok, flof_some, look_0, look_s, lookB_im, lookB_ow, lookB_s, frzL_nil, frzL_cons, frz1_im, frz1_un, frz1_ow, frz1_s, tg_nm, tg_tp, tg_tpl, tgs_nil, tgs_cons, obind, set_0, set_s, lp_nx, lp_ct, lp_bk, lp_rt, lp_exc, out_rt, out_nx, out_exc, ownList, isFr, Bool.and_true, Bool.and_false, Bool.true_and, Bool.false_and, Bool.not_true, Bool.not_false, binD, addD, augD, truD, if_true, if_false, Bool.false_eq_true, ↓reduceIte, startE_nil, startE_cons, reduceCtorEq, decide_true, decide_false, tyD, hd]
  obtain ⟨ρ1, f1, E⟩ := forL_inv (tg := dTg (.nm 2)) (b := dSs TT (subL txt.sub) bodyT) (fun _ ρ => EnvT (.im (.scr ns)) L ρ) (rngL 0 30) 0 [.im (.scr ns), .im (.lst (L.map .int)), .un, .un, .un, .un, .un, .un, .un, .un, .un, .un, .un, .un, .un, .un] ⟨_, _, _, _, _, _, _, _, _, _, _, _, rfl⟩ (fun i d ρ hi hP => by
    have i6 : i < 30 := by
      rcases Nat.lt_or_ge i 30 with q | q
      · exact q
      · rw [List.getElem?_eq_none (by rw [rngL_len]; exact q)] at hi; cases hi
    rw [rngL_get i6, Int.zero_add] at hi
    cases hi
    obtain ⟨ρ1, q1, ρ2, q2, q3⟩ := one_turn (n := 13) (sub := subL txt.sub) hL hl i6 hP
    exact ⟨ρ1, q1, ρ2, .inl q2, q3⟩)
  obtain ⟨a2, a3, a4, a5, a6, a7, a8, a9, a10, a11, a12, a13, rfl⟩ := E
  have i30 : ∀ ρ, dIt TT (.rng1 (.cst (.int 30))) ρ = .ok (rngL 0 30) := fun ρ => rfl
  have f1 : forL (dTg (.nm 2)) (dSs TT (subL txt.sub) bodyT) (rngL 0 30) _ = _ := f1
  have sp : b24 = .cons (.set [] 1 false (.call 18 (.cons (.var 0) (.cons (.cst (.int 200)) .nil)))) (.cons (.fo [] (.nm 2) (.rng1 (.cst (.int 30))) bodyT) (.cons (.ite [] (.or_ (.cmp .ne (.ev (.call 14 (.cons (.cst (.int 16)) (.cons (.tup (.cons (.cst (.int 0)) (.cons (.cst (.int 1)) (.cons (.cst (.int 3)) (.cons (.cst (.int 9)) .nil))))) .nil)))) (.ev (.tup (.cons (.cst (.int 0)) (.cons (.cst (.int 65521)) (.cons (.cst (.int 4)) (.cons (.cst (.int 8)) .nil))))))) (.cmp .ne (.ev (.call 14 (.cons (.cst (.int 4)) (.cons (.tup (.cons (.cst (.int 8)) (.cons (.cst (.int 1)) (.cons (.cst (.int 0)) (.cons (.cst (.int 15)) .nil))))) .nil)))) (.ev (.tup (.cons (.cst (.int 8)) (.cons (.cst (.int 1)) (.cons (.cst (.int 8)) (.cons (.cst (.int 14)) .nil))))))))
    (.cons (.ret [] (.cst (.bl false))) .nil)
    .nil) (.cons (.ret [] (.and_ (.cmp .eq (.ev (.call 16 (.cons (.cst (.int 16)) (.cons (.tup (.cons (.cst (.int 65535)) .nil)) .nil)))) (.ev (.tup (.cons (.cst (.int 65535)) (.cons (.cst (.int 0)) (.cons (.cst (.int 65535)) (.cons (.cst (.int 65535)) .nil))))))) (.cmp .eq (.ev (.call 17 (.cons (.cst (.int 16)) (.cons (.tup (.cons (.cst (.int 0)) (.cons (.cst (.int 65534)) (.cons (.cst (.int 0)) (.cons (.cst (.int 65535)) .nil))))) (.cons (.cst (.int 2)) .nil))))) (.ev (.tup (.cons (.cst (.int 0)) (.cons (.cst (.int 1)) .nil))))))) .nil))) := rfl
  rw [sp, dSs_cons, e1, go_nx, dSs_cons, dS_fo, frzL_nil, i30, fl_ok, f1, go_nx, dSs_cons, close1, go_nx, dSs_cons, close2, go_rt, out_rt]
end Law
namespace Law
open PySem PySem.Spec PyProof.Rows L2 Z
def loose : List Str := (["is_whole", "power", "fits_span", "next_within", "last_within", "_same_ahead", "tight", "meet", "hull", "list_within", "check_width", "is_span", "check_span", "is_within", "tightened", "met", "hull_of", "listed", "_law_draws", "_law_words", "_law_leaf", "_law_expression", "_law_assertion", "_law_text", "_law_bits", "_law_number", "_law_high", "_law_value", "_law_sum", "_law_is_so"] : List Str) ++ (["_law_known", "_law_rows", "_law_fitting", "_law_within", "_law_hull", "_law_span", "BlastError", "BadNumber", "BadWidth", "BadSpan", "MOST_WIDE", "MOST_LISTED"] : List Str)
abbrev R : PySem.W.OpenRow := PySem.W.OpenLaw.row PySem.Challenge.rw_wordsblasted_k58_whole_spans
abbrev hk : PySem.W.Hook := He.hookD 5 txt.fa txt.fn
def ob (s : PySem.W.SharedT) : He.AlD := He.obsDG 5 txt.fa txt.fn (HandSHeadRun.getT s)
theorem ob_eq (s : PySem.W.SharedT) : ob s = hk.obs s.abs := He.obsDG_eq (HandSHeadRun.getT_eq s)
theorem hrun (w : World) : HandSHeadRun.RunEq R (PySem.W.view R.prog [46]) hk ob 4000 loose w := by
  intro os
  kernel_rfl
end Law
open PySem PySem.W PySem.Calls PyProof.Rows
theorem PySem.Challenge.cw_wordsblasted_k58_whole_spans_holds : PySem.Challenge.rw_wordsblasted_k58_whole_spans.Holds := by
  w_on; o_law
  refine HandSHeadRun.head_any (r := OpenLaw.row PySem.Challenge.rw_wordsblasted_k58_whole_spans) (q := view (OpenLaw.row PySem.Challenge.rw_wordsblasted_k58_whole_spans).prog [46]) (H := Law.hk) (ob := Law.ob) (M := 4000) (loose := Law.loose) (d := HandSHeadRun.topDef (OpenLaw.row PySem.Challenge.rw_wordsblasted_k58_whole_spans).prog 46) (kwd := []) Law.ob_eq
    (by kernel_rfl) (fun s => by kernel_rfl) Law.hrun (by kernel_rfl) (by kernel_rfl) (by kernel_rfl) (by rfl) (by first | assumption | decide +kernel) (by decide +kernel) ⟨rfl, rfl, rfl, rfl, rfl, by decide +kernel⟩ ?hw ?hc
  case hw => w_witness2
  case hc =>
    refine L2.walk_ofE (l := PySem.Challenge.rw_wordsblasted_k58_whole_spans) (n := 63) (k := Law.level) (x := "script") (CX := Z.CXw) rfl (by decide) (by kernel_rfl) ⟨rfl, by decide, by decide⟩ ?F (fun _ _ _ _ z => Z.CXw.no z)
    intro w mg fa h Y G hmg0
    obtain ⟨K, KX, c⟩ := Y
    have hmg : mg ("law" : PySem.Str) = some (.ref fa) := by
      have e : (HandSHeadRun.topDef (OpenLaw.row PySem.Challenge.rw_wordsblasted_k58_whole_spans).prog 46).name = ("law" : PySem.Str) := by kernel_rfl
      rw [← e]
      exact hmg0
    obtain ⟨fd, sp, hb, hs, hF⟩ := Z.law_facts (P := (PySem.Challenge.rw_wordsblasted_k58_whole_spans).prog) (w := w) Law.tok Law.fit (i := 24) (d := Law.d24) rfl rfl rfl (LV := Law.level) Law.law_true KX G c hmg
    exact ⟨K, fd, sp, KX, hb, hs, hF⟩
