import PyProof.Rows.All
import Wide.All
import OpenK.AllK
import Wide.FinOn
import HandS.ForMost
import HandS.Flow
import HandS.SortInts
import HandS.TupAny
import HandS.Style
import HandS.Conv
import HandS.NoneIn
import HandS.Wide
import HandS.IsInst
import HandS.Deep
import KE.SortData
import HandS.More
import KE.KDictPairs
import HandS.Iter
import PySem.Challenge.RW_knotpapers_k75_whole_tables_of_circles
set_option Elab.async false
set_option linter.all false
set_option maxRecDepth 100000
set_option maxHeartbeats 4000000
/-! PT1: values as plain trees, how the abstract heap bears them, the state of a def's body. -/
namespace PT
open PySem PySem.Spec PyProof.Rows L2

/-- a value, a plain tree -/
inductive PV where
  | non | bl (b : Bool) | int (i : Int) | str (x : Str) | tup (xs : List PV) | lst (xs : List PV) | dct (kvs : List (PV × PV))
  | obj (c : Nat) (fs : List PV)

abbrev Env := List (Option PV)
abbrev EF := Env → Option (PV × Env)
abbrev TF := Env → Option (Bool × Env)
abbrev AF := Env → Option (List PV × Env)
inductive Fl where
  | nx | bk | ct | rt (v : PV)
abbrev SF := Env → Option (Fl × Env)

def keyK : PV → Option Key
  | .int i => some (.inl i)
  | .str s => some (.inr s)
  | _ => none
def keysK : List PV → Option (List Key)
  | [] => some []
  | x :: xs => match keyK x, keysK xs with
    | some k, some ks => some (k :: ks)
    | _, _ => none
def keyT : PV → Option (List Key)
  | .tup xs => keysK xs
  | _ => none

/-- a tuple, its own object known -/
def TupAt (K : PySem.W.Frag) (H : Hp) (a : Addr) (vs : List V) : Prop := (∃ o, H a = some (.frz o (.tup vs)) ∧ o.dict = none) ∨
  (∃ (o : Obj) (its : Array Value) (n : Nat), K.lookup a = some o ∧ o.cls = .type "tuple" ∧ o.dict = none ∧ o.data = .seq its n ∧ its.size ≤ sizeLine ∧ Vals vs its.toList)
theorem TupAt.sq {K : PySem.W.Frag} {H : Hp} {a : Addr} {vs : List V} (t : TupAt K H a vs) : SqT K H a vs := by
  rcases t with ⟨o, h, _⟩ | ⟨o, its, n, h1, h2, h3, h4, h5, h6⟩
  · exact .inl (.inr ⟨o, h⟩)
  · exact .inr ⟨o, its, n, h1, h2, h4, h5, h6⟩
mutual
def Rep (K : PySem.W.Frag) (H : Hp) : PV → V → Prop
  | .non, x => x = .non
  | .bl b, x => x = .bl b
  | .int i, x => x = .int i
  | .str s, x => x = .str s
  | .tup xs, x => ∃ a vs, x = .ref a ∧ TupAt K H a vs ∧ RepL K H xs vs
  | .lst xs, x => ∃ a vs, x = .ref a ∧ Rd H a (.lst vs) ∧ RepL K H xs vs
  | .dct ks, x => ∃ a kv, x = .ref a ∧ Rd H a (.dK kv) ∧ RepK K H ks kv
  | .obj c xs, x => c = 0 ∧ ∃ a vs, x = .ref a ∧ SqL K H a vs ∧ RepL K H xs vs
def RepL (K : PySem.W.Frag) (H : Hp) : List PV → List V → Prop
  | [], vs => vs = []
  | x :: xs, vs => ∃ v r, vs = v :: r ∧ Rep K H x v ∧ RepL K H xs r
def RepK (K : PySem.W.Frag) (H : Hp) : List (PV × PV) → List (Key × V) → Prop
  | [], kv => kv = []
  | (k, v) :: ks, kv => ∃ k' x r, kv = (k', x) :: r ∧ keyK k = some k' ∧ Rep K H v x ∧ RepK K H ks r
end

/-- what may be read stays so -/
structure LeR (H H' : Hp) : Prop where
  rd : ∀ a u, Rd H a u → Rd H' a u
  tp : ∀ a o vs, H a = some (.frz o (.tup vs)) → H' a = some (.frz o (.tup vs))
theorem LeR.refl (H : Hp) : LeR H H := ⟨fun _ _ h => h, fun _ _ _ h => h⟩
theorem LeR.trans {H H1 H2 : Hp} (a : LeR H H1) (b : LeR H1 H2) : LeR H H2 := ⟨fun c o h => b.rd c o (a.rd c o h), fun c o vs h => b.tp c o vs (a.tp c o vs h)⟩
/-- a part -/
def Sub (H H' : Hp) : Prop := ∀ b o, H b = some o → H' b = some o
theorem Sub.refl (H : Hp) : Sub H H := fun _ _ h => h
theorem Sub.trans {H H1 H2 : Hp} (a : Sub H H1) (b : Sub H1 H2) : Sub H H2 := fun c o h => b c o (a c o h)
theorem Sub.le {H H' : Hp} (s : Sub H H') : LeR H H' := ⟨fun a u h => by
  rcases h with h | ⟨o, h⟩
  · exact .inl (s _ _ h)
  · exact .inr ⟨o, s _ _ h⟩, fun a o vs h => s _ _ h⟩
theorem Sub.free {H H' : Hp} (e : Sub H H') {l : Addr} (h : H' l = none) : H l = none := by
  cases q : H l with
  | none => rfl
  | some o => rw [e l o q] at h; cases h

section
variable {K : PySem.W.Frag} {H H' : Hp}
theorem LeR.sqL (le : LeR H H') {a : Addr} {vs : List V} (h : SqL K H a vs) : SqL K H' a vs := by
  rcases h with h | h
  · exact .inl (le.rd _ _ h)
  · exact .inr h
theorem LeR.sqT (le : LeR H H') {a : Addr} {vs : List V} (h : SqT K H a vs) : SqT K H' a vs := by
  rcases h with h | h
  · exact .inl (le.rd _ _ h)
  · exact .inr h
theorem LeR.tup (le : LeR H H') {a : Addr} {vs : List V} (h : TupAt K H a vs) : TupAt K H' a vs := by
  rcases h with ⟨o, h, d⟩ | h
  · exact .inl ⟨o, le.tp _ _ _ h, d⟩
  · exact .inr h
mutual
theorem Rep.mono (le : LeR H H') : ∀ (p : PV) (x : V), Rep K H p x → Rep K H' p x
  | .non, _, h => by simpa [Rep] using h
  | .bl _, _, h => by simpa [Rep] using h
  | .int _, _, h => by simpa [Rep] using h
  | .str _, _, h => by simpa [Rep] using h
  | .tup xs, x, h => by
    simp only [Rep] at h ⊢
    obtain ⟨a, vs, e, q, r⟩ := h
    exact ⟨a, vs, e, le.tup q, RepL.mono le xs vs r⟩
  | .lst xs, x, h => by
    simp only [Rep] at h ⊢
    obtain ⟨a, vs, e, q, r⟩ := h
    exact ⟨a, vs, e, le.rd _ _ q, RepL.mono le xs vs r⟩
  | .dct ks, x, h => by
    simp only [Rep] at h ⊢
    obtain ⟨a, kv, e, q, r⟩ := h
    exact ⟨a, kv, e, le.rd _ _ q, RepK.mono le ks kv r⟩
  | .obj _ xs, x, h => by
    simp only [Rep] at h ⊢
    obtain ⟨c, a, vs, e, q, r⟩ := h
    exact ⟨c, a, vs, e, le.sqL q, RepL.mono le xs vs r⟩
theorem RepL.mono (le : LeR H H') : ∀ (p : List PV) (x : List V), RepL K H p x → RepL K H' p x
  | [], _, h => by simpa [RepL] using h
  | p :: ps, x, h => by
    simp only [RepL] at h ⊢
    obtain ⟨v, r, e, a, b⟩ := h
    exact ⟨v, r, e, Rep.mono le p v a, RepL.mono le ps r b⟩
theorem RepK.mono (le : LeR H H') : ∀ (p : List (PV × PV)) (x : List (Key × V)), RepK K H p x → RepK K H' p x
  | [], _, h => by simpa [RepK] using h
  | (k, p) :: ps, x, h => by
    simp only [RepK] at h ⊢
    obtain ⟨k', v, r, e, ek, a, b⟩ := h
    exact ⟨k', v, r, e, ek, Rep.mono le p v a, RepK.mono le ps r b⟩
end
end

end PT

set_option Elab.async false
set_option linter.all false
set_option autoImplicit false
set_option maxRecDepth 100000
set_option maxHeartbeats 4000000
/-! PT2: lists of values, a readable top, the state of a body. -/
namespace PT
open PySem PySem.Spec PyProof.Rows L2

section
variable {K : PySem.W.Frag} {H H' : Hp}
theorem RepL.cons_iff {p : PV} {ps : List PV} {vs : List V} : RepL K H (p :: ps) vs ↔ ∃ v r, vs = v :: r ∧ Rep K H p v ∧ RepL K H ps r := by simp only [RepL]
theorem RepL.nil_iff {vs : List V} : RepL K H [] vs ↔ vs = [] := by simp only [RepL]
theorem RepL.nil : RepL K H [] [] := by simp only [RepL]
theorem RepL.cons {p : PV} {ps : List PV} {v : V} {vs : List V} (a : Rep K H p v) (b : RepL K H ps vs) : RepL K H (p :: ps) (v :: vs) := by
  simp only [RepL]; exact ⟨v, vs, rfl, a, b⟩
theorem RepL.length : ∀ {ps : List PV} {vs : List V}, RepL K H ps vs → vs.length = ps.length
  | [], _, h => by rw [RepL.nil_iff.mp h]; rfl
  | p :: ps, _, h => by
    obtain ⟨v, r, rfl, _, b⟩ := RepL.cons_iff.mp h
    simp [RepL.length b]
theorem RepL.get : ∀ {ps : List PV} {vs : List V} {i : Nat} {p : PV}, RepL K H ps vs → ps[i]? = some p → ∃ v, vs[i]? = some v ∧ Rep K H p v
  | [], _, _, _, _, e => by simp at e
  | q :: ps, _, i, p, h, e => by
    obtain ⟨v, r, rfl, a, b⟩ := RepL.cons_iff.mp h
    cases i with
    | zero => simp at e; subst e; exact ⟨v, by simp, a⟩
    | succ i =>
      obtain ⟨x, h1, h2⟩ := RepL.get (i := i) b (by simpa using e)
      exact ⟨x, by simpa using h1, h2⟩
theorem RepL.get' {ps : List PV} {vs : List V} {i : Nat} {v : V} (h : RepL K H ps vs) (e : vs[i]? = some v) : ∃ p, ps[i]? = some p ∧ Rep K H p v := by
  have hl := h.length
  obtain ⟨hi, _⟩ := List.getElem?_eq_some_iff.mp e
  have : ps[i]? = some (ps[i]'(by omega)) := List.getElem?_eq_getElem (by omega)
  obtain ⟨x, h1, h2⟩ := h.get this
  rw [e] at h1; cases h1
  exact ⟨_, this, h2⟩
theorem RepL.append : ∀ {ps qs : List PV} {vs ws : List V}, RepL K H ps vs → RepL K H qs ws → RepL K H (ps ++ qs) (vs ++ ws)
  | [], _, _, _, h, q => by rw [RepL.nil_iff.mp h]; exact q
  | p :: ps, _, _, _, h, q => by
    obtain ⟨v, r, rfl, a, b⟩ := RepL.cons_iff.mp h
    exact RepL.cons a (RepL.append b q)
theorem RepL.take : ∀ {ps : List PV} {vs : List V} (n : Nat), RepL K H ps vs → RepL K H (ps.take n) (vs.take n)
  | _, _, 0, _ => by simp [RepL.nil]
  | [], _, n + 1, h => by rw [RepL.nil_iff.mp h]; simp [RepL.nil]
  | p :: ps, _, n + 1, h => by
    obtain ⟨v, r, rfl, a, b⟩ := RepL.cons_iff.mp h
    exact RepL.cons a (RepL.take n b)
theorem RepL.drop : ∀ {ps : List PV} {vs : List V} (n : Nat), RepL K H ps vs → RepL K H (ps.drop n) (vs.drop n)
  | _, _, 0, h => h
  | [], _, n + 1, h => by rw [RepL.nil_iff.mp h]; simp [RepL.nil]
  | p :: ps, _, n + 1, h => by
    obtain ⟨v, r, rfl, a, b⟩ := RepL.cons_iff.mp h
    exact RepL.drop n b
theorem RepL.set : ∀ {ps : List PV} {vs : List V} {p : PV} {v : V} (n : Nat), RepL K H ps vs → Rep K H p v → RepL K H (ps.set n p) (vs.set n v)
  | [], _, _, _, n, h, _ => by rw [RepL.nil_iff.mp h]; simp [RepL.nil]
  | q :: ps, _, p, v, n, h, r => by
    obtain ⟨w, t, rfl, a, b⟩ := RepL.cons_iff.mp h
    cases n with
    | zero => exact RepL.cons r b
    | succ n => exact RepL.cons a (RepL.set n b r)
theorem RepL.dropLast {ps : List PV} {vs : List V} (h : RepL K H ps vs) : RepL K H ps.dropLast vs.dropLast := by
  rw [List.dropLast_eq_take, List.dropLast_eq_take, h.length]
  exact h.take _
theorem RepL.reverse : ∀ {ps : List PV} {vs : List V}, RepL K H ps vs → RepL K H ps.reverse vs.reverse
  | [], _, h => by rw [RepL.nil_iff.mp h]; simp [RepL.nil]
  | p :: ps, _, h => by
    obtain ⟨v, r, rfl, a, b⟩ := RepL.cons_iff.mp h
    simp only [List.reverse_cons]
    exact RepL.append (RepL.reverse b) (RepL.cons a RepL.nil)
theorem RepL.replicate {p : PV} {v : V} (r : Rep K H p v) : ∀ n : Nat, RepL K H (List.replicate n p) (List.replicate n v)
  | 0 => RepL.nil
  | n + 1 => RepL.cons r (RepL.replicate r n)
end

/-- a value whose top may be read in H, what stands in it in H1 -/
def RT (K : PySem.W.Frag) (H1 H : Hp) : PV → V → Prop
  | .lst xs, x => ∃ a vs, x = .ref a ∧ Rd H a (.lst vs) ∧ RepL K H1 xs vs
  | .dct ks, x => ∃ a kv, x = .ref a ∧ Rd H a (.dK kv) ∧ RepK K H1 ks kv
  | p, x => Rep K H1 p x
theorem Rep.rt {K : PySem.W.Frag} {H1 H : Hp} (le : LeR H1 H) {p : PV} {x : V} (h : Rep K H1 p x) : RT K H1 H p x := by
  cases p with
  | lst xs => simp only [Rep] at h; obtain ⟨a, vs, e, q, r⟩ := h; exact ⟨a, vs, e, le.rd _ _ q, r⟩
  | dct ks =>
    simp only [Rep] at h
    obtain ⟨a, kv, e, q, r⟩ := h
    exact ⟨a, kv, e, le.rd _ _ q, r⟩
  | _ => exact h
theorem RT.scal {K : PySem.W.Frag} {H1 H : Hp} {p : PV} {x : V} (h : RT K H1 H p x) : match p with | .non => x = .non | .bl b => x = .bl b | .int i => x = .int i | .str s => x = .str s | _ => True := by
  cases p <;> first | exact True.intro | (have h' := h; simpa only [RT, Rep] using h')
/-- a value as a whole readable in the wide heap -/
theorem RT.rep {K : PySem.W.Frag} {H1 H : Hp} (s : LeR H1 H) {p : PV} {x : V} (h : RT K H1 H p x) : Rep K H p x := by
  cases p with
  | lst xs => obtain ⟨a, vs, e, q, r⟩ := h; simp only [Rep]; exact ⟨a, vs, e, q, r.mono s _ _⟩
  | dct ks =>
    simp only [Rep]
    obtain ⟨a, kv, e, q, r⟩ := h
    exact ⟨a, kv, e, q, r.mono s _ _⟩
  | _ => exact Rep.mono s _ _ h

/-- an owned thing: its top stands in H, unlocked, what stands in it in H1 -/
def ORep (K : PySem.W.Frag) (H1 H : Hp) (a : Addr) : PV → Prop
  | .lst xs => ∃ vs, H a = some (.lst vs) ∧ RepL K H1 xs vs
  | .dct ks => ∃ kv, H a = some (.dK kv) ∧ RepK K H1 ks kv
  | _ => False
theorem ORep.rt {K : PySem.W.Frag} {H1 H : Hp} {a : Addr} {p : PV} (h : ORep K H1 H a p) : RT K H1 H p (.ref a) := by
  cases p with
  | lst xs => obtain ⟨vs, q, r⟩ := h; exact ⟨a, vs, rfl, .inl q, r⟩
  | dct ks =>
    obtain ⟨kv, q, r⟩ := h
    exact ⟨a, kv, rfl, .inl q, r⟩
  | _ => exact h.elim
theorem ORep.some {K : PySem.W.Frag} {H1 H : Hp} {a : Addr} {p : PV} (h : ORep K H1 H a p) : ∃ o, H a = some o := by
  cases p with
  | lst xs => obtain ⟨vs, q, r⟩ := h; exact ⟨_, q⟩
  | dct ks =>
    obtain ⟨kv, q, r⟩ := h
    exact ⟨_, q⟩
  | _ => exact h.elim
theorem ORep.move {K : PySem.W.Frag} {H1 H H1' H' : Hp} (le : LeR H1 H1') {a : Addr} {p : PV} (h : ORep K H1 H a p) (e : H' a = H a) : ORep K H1' H' a p := by
  cases p with
  | lst xs => obtain ⟨vs, q, r⟩ := h; exact ⟨vs, by rw [e]; exact q, r.mono le _ _⟩
  | dct ks =>
    obtain ⟨kv, q, r⟩ := h
    exact ⟨kv, by rw [e]; exact q, r.mono le _ _⟩
  | _ => exact h.elim

/-- a pure step: what stood stands, the new part is shared -/
structure Ext (H1 H H1' H' : Hp) : Prop where
  le : LeR H1 H1'
  sub : Sub H1' H'
  fr : ∀ b o, H b = some o → H' b = some o ∧ H1' b = H1 b
theorem Ext.refl {H1 H : Hp} (s : Sub H1 H) : Ext H1 H H1 H := ⟨LeR.refl _, s, fun _ _ h => ⟨h, rfl⟩⟩
theorem Ext.trans {H1 H H1' H' H1'' H'' : Hp} (a : Ext H1 H H1' H') (b : Ext H1' H' H1'' H'') : Ext H1 H H1'' H'' :=
  ⟨a.le.trans b.le, b.sub, fun c o h => by
    obtain ⟨h1, h2⟩ := a.fr c o h
    obtain ⟨h3, h4⟩ := b.fr c o h1
    exact ⟨h3, h4.trans h2⟩⟩
theorem LeR.upd {H : Hp} {p : Addr} {o : HO} (n : H p = none) : LeR H (upd H p o) := ⟨fun a u h => by
  rcases h with h | ⟨ob, h⟩
  · exact .inl (by rw [upd_ne (ne_of_none h n)]; exact h)
  · exact .inr ⟨ob, by rw [upd_ne (ne_of_none h n)]; exact h⟩, fun a ob vs h => by rw [upd_ne (ne_of_none h n)]; exact h⟩
theorem Sub.upd {H1 H : Hp} (s : Sub H1 H) {p : Addr} {o : HO} : Sub (L2.upd H1 p o) (L2.upd H p o) := fun b u h => by
  by_cases e : b = p
  · subst e; rw [upd_same] at h ⊢; exact h
  · rw [upd_ne e] at h ⊢; exact s _ _ h
/-- a new shared object -/
theorem Ext.alloc {H1 H : Hp} (s : Sub H1 H) {p : Addr} {o : HO} (n : H p = none) : Ext H1 H (upd H1 p o) (upd H p o) :=
  ⟨LeR.upd (s.free n), s.upd, fun b u h => by
    have e := ne_of_none h n
    exact ⟨by rw [upd_ne e]; exact h, by rw [upd_ne e]⟩⟩

structure Base where
  H0 : Hp
  H1 : Hp
  io : List (Nat × Addr)

/-- the state of a body: ρ the slots' values, σ their words; own: the slots that hold things of the body's own; H1: what is shared -/
structure SR (K : PySem.W.Frag) (B : Base) (own : List Nat) (ρ : Env) (σ : L2.St) (H1 H : Hp) : Prop where
  len : σ.length = ρ.length
  sub : Sub H1 H
  fr : ∀ b o, B.H0 b = some o → H b = some o ∧ H1 b = B.H1 b
  sh : ∀ (i : Nat) v, i ∉ own → ρ[i]? = some (some v) → ∃ x, σ[i]? = some (some x) ∧ Rep K H1 v x
  ow : ∀ (i : Nat) v, i ∈ own → ρ[i]? = some (some v) → ∃ a, σ[i]? = some (some (.ref a)) ∧ B.H0 a = none ∧ H1 a = none ∧ ORep K H1 H a v
  ds : ∀ (i j : Nat) v w a, i ∈ own → j ∈ own → ρ[i]? = some (some v) → ρ[j]? = some (some w) → σ[i]? = some (some (.ref a)) → σ[j]? = some (some (.ref a)) → i = j
  io : ∀ p ∈ B.io, σ[p.1]? = some (some (.ref p.2)) ∧ p.1 ∈ own ∧ ∃ v, ρ[p.1]? = some (some v)

section
variable {K : PySem.W.Frag} {B : Base} {own : List Nat} {ρ : Env} {σ : L2.St} {H1 H H1' H' : Hp}
theorem SR.ext (S : SR K B own ρ σ H1 H) (e : Ext H1 H H1' H') : SR K B own ρ σ H1' H' where
  len := S.len
  sub := e.sub
  fr := fun b o h => by
    obtain ⟨h1, h2⟩ := S.fr b o h
    obtain ⟨h3, h4⟩ := e.fr b o h1
    exact ⟨h3, h4.trans h2⟩
  sh := fun i v hi hv => by
    obtain ⟨x, h1, h2⟩ := S.sh i v hi hv
    exact ⟨x, h1, h2.mono e.le _ _⟩
  ow := fun i v hi hv => by
    obtain ⟨a, h1, h2, h3, h4⟩ := S.ow i v hi hv
    obtain ⟨o, ho⟩ := h4.some
    obtain ⟨e1, e2⟩ := e.fr a o ho
    exact ⟨a, h1, h2, by rw [e2]; exact h3, h4.move e.le (by rw [e1, ho])⟩
  ds := S.ds
  io := S.io
theorem SR.name (S : SR K B own ρ σ H1 H) {i : Nat} {v : PV} (hi : i ∉ own) (hv : ρ[i]? = some (some v)) : ∃ x, σ[i]? = some (some x) ∧ Rep K H1 v x := S.sh i v hi hv
/-- a shared slot gets a value -/
theorem SR.set (S : SR K B own ρ σ H1 H) {i : Nat} {v : PV} {x : V} (hi : i ∉ own) (r : Rep K H1 v x) : SR K B own (ρ.set i (some v)) (σ.set i (some x)) H1 H where
  len := by simpa using S.len
  sub := S.sub
  fr := S.fr
  sh := fun j w hj hw => by
    by_cases e : j = i
    · subst e
      have hlt : j < ρ.length := by
        have := (List.getElem?_eq_some_iff.mp hw).1
        simpa using this
      rw [List.getElem?_set_self hlt] at hw
      cases hw
      exact ⟨x, List.getElem?_set_self (by rw [S.len]; exact hlt), r⟩
    · rw [List.getElem?_set_ne (Ne.symm e)] at hw
      obtain ⟨y, h1, h2⟩ := S.sh j w hj hw
      exact ⟨y, by rw [List.getElem?_set_ne (Ne.symm e)]; exact h1, h2⟩
  ow := fun j w hj hw => by
    have e : j ≠ i := fun e => hi (e ▸ hj)
    rw [List.getElem?_set_ne (Ne.symm e)] at hw ⊢
    exact S.ow j w hj hw
  ds := fun j k v w a hj hk h1 h2 h3 h4 => by
    have e : j ≠ i := fun e => hi (e ▸ hj)
    have e' : k ≠ i := fun e => hi (e ▸ hk)
    rw [List.getElem?_set_ne (Ne.symm e)] at h1 h3
    rw [List.getElem?_set_ne (Ne.symm e')] at h2 h4
    exact S.ds j k v w a hj hk h1 h2 h3 h4
  io := fun p hp => by
    obtain ⟨h1, h2, h3⟩ := S.io p hp
    have e : p.1 ≠ i := fun e => hi (e ▸ h2)
    rw [List.getElem?_set_ne (Ne.symm e), List.getElem?_set_ne (Ne.symm e)]
    exact ⟨h1, h2, h3⟩
/-- a slot gets a thing of its own -/
theorem SR.setO {own' : List Nat} (S : SR K B own ρ σ H1 H) {i : Nat} {v : PV} {a : Addr} (hio : ∀ p ∈ B.io, p.1 ≠ i) (hown : ∀ j, j ∈ own' ↔ j = i ∨ j ∈ own) (h0 : B.H0 a = none) (h1 : H1 a = none) (r : ORep K H1 H a v)
    (hd : ∀ (j : Nat) w, j ∈ own → ρ[j]? = some (some w) → σ[j]? ≠ some (some (.ref a))) : SR K B own' (ρ.set i (some v)) (σ.set i (some (.ref a))) H1 H where
  len := by simpa using S.len
  sub := S.sub
  fr := S.fr
  sh := fun j w hj hw => by
    have e : j ≠ i := fun e => hj ((hown j).mpr (.inl e))
    rw [List.getElem?_set_ne (Ne.symm e)] at hw ⊢
    exact S.sh j w (fun z => hj ((hown j).mpr (.inr z))) hw
  ow := fun j w hj hw => by
    by_cases e : j = i
    · subst e
      have hlt : j < ρ.length := by
        have := (List.getElem?_eq_some_iff.mp hw).1
        simpa using this
      rw [List.getElem?_set_self hlt] at hw
      cases hw
      exact ⟨a, List.getElem?_set_self (by rw [S.len]; exact hlt), h0, h1, r⟩
    · rw [List.getElem?_set_ne (Ne.symm e)] at hw ⊢
      exact S.ow j w (((hown j).mp hj).resolve_left e) hw
  ds := fun j k v' w b hj hk e1 e2 e3 e4 => by
    by_cases ej : j = i
    · by_cases ek : k = i
      · rw [ej, ek]
      · rw [List.getElem?_set_ne (Ne.symm ek)] at e2 e4
        have hlt : i < σ.length := by
          have := (List.getElem?_eq_some_iff.mp e3).1
          rw [ej] at this
          simpa using this
        rw [ej, List.getElem?_set_self hlt] at e3
        cases e3
        exact absurd e4 (hd k w (((hown k).mp hk).resolve_left ek) e2)
    · by_cases ek : k = i
      · rw [List.getElem?_set_ne (Ne.symm ej)] at e1 e3
        have hlt : i < σ.length := by
          have := (List.getElem?_eq_some_iff.mp e4).1
          rw [ek] at this
          simpa using this
        rw [ek, List.getElem?_set_self hlt] at e4
        cases e4
        exact absurd e3 (hd j v' (((hown j).mp hj).resolve_left ej) e1)
      · rw [List.getElem?_set_ne (Ne.symm ej)] at e1 e3
        rw [List.getElem?_set_ne (Ne.symm ek)] at e2 e4
        exact S.ds j k v' w b (((hown j).mp hj).resolve_left ej) (((hown k).mp hk).resolve_left ek) e1 e2 e3 e4
  io := fun p hp => by
    obtain ⟨e1, e2, e3⟩ := S.io p hp
    have e := hio p hp
    rw [List.getElem?_set_ne (Ne.symm e), List.getElem?_set_ne (Ne.symm e)]
    exact ⟨e1, (hown _).mpr (.inr e2), e3⟩
/-- an own thing is changed -/
theorem SR.write (S : SR K B own ρ σ H1 H) {i : Nat} {v v' : PV} {a : Addr} {o : HO} (hi : i ∈ own) (hv : ρ[i]? = some (some v)) (hx : σ[i]? = some (some (.ref a)))
    (r : ORep K H1 (upd H a o) a v') : SR K B own (ρ.set i (some v')) σ H1 (upd H a o) := by
  obtain ⟨a', ha', h0, h1, r0⟩ := S.ow i v hi hv
  rw [hx] at ha'
  obtain rfl : a = a' := by injection ha' with q; injection q with q; injection q
  refine ⟨by simpa using S.len, fun b u h => ?_, fun b u h => ?_, fun j w hj hw => ?_, fun j w hj hw => ?_, fun j k v1 w b hj hk e1 e2 e3 e4 => ?_, fun p hp => ?_⟩
  · have : b ≠ a := fun e => by rw [e, h1] at h; cases h
    rw [upd_ne this]; exact S.sub b u h
  · obtain ⟨q1, q2⟩ := S.fr b u h
    have : b ≠ a := fun e => by rw [e, h0] at h; cases h
    exact ⟨by rw [upd_ne this]; exact q1, q2⟩
  · have e : j ≠ i := fun e => hj (e ▸ hi)
    rw [List.getElem?_set_ne (Ne.symm e)] at hw
    exact S.sh j w hj hw
  · by_cases e : j = i
    · subst e
      have hlt : j < ρ.length := by
        have := (List.getElem?_eq_some_iff.mp hw).1
        simpa using this
      rw [List.getElem?_set_self hlt] at hw
      cases hw
      exact ⟨a, hx, h0, h1, r⟩
    · rw [List.getElem?_set_ne (Ne.symm e)] at hw
      obtain ⟨b, q1, q2, q3, q4⟩ := S.ow j w hj hw
      have nb : b ≠ a := fun z => by
        subst z
        exact e (S.ds j i w v b hj hi hw hv q1 hx)
      exact ⟨b, q1, q2, q3, q4.move (LeR.refl _) (upd_ne nb)⟩
  · have back : ∀ (j : Nat) (w : PV), (ρ.set i (some v'))[j]? = some (some w) → ∃ w', ρ[j]? = some (some w') := fun j w h => by
      by_cases e : j = i
      · rw [e]; exact ⟨v, hv⟩
      · rw [List.getElem?_set_ne (Ne.symm e)] at h; exact ⟨w, h⟩
    obtain ⟨v2, e1'⟩ := back j v1 e1
    obtain ⟨w1, e2'⟩ := back k w e2
    exact S.ds j k v2 w1 b hj hk e1' e2' e3 e4
  · obtain ⟨q1, q2, w, q3⟩ := S.io p hp
    refine ⟨q1, q2, ?_⟩
    by_cases e : p.1 = i
    · refine ⟨v', ?_⟩
      rw [e]
      exact List.getElem?_set_self (List.getElem?_eq_some_iff.mp hv).1
    · exact ⟨w, by rw [List.getElem?_set_ne (Ne.symm e)]; exact q3⟩
/-- an own thing becomes a shared one -/
theorem SR.freeze {own' : List Nat} (S : SR K B own ρ σ H1 H) {i : Nat} (hio : ∀ p ∈ B.io, p.1 ≠ i) (hown : ∀ j, j ∈ own ↔ j = i ∨ j ∈ own') (hni : i ∉ own') :
    ∃ H1', LeR H1 H1' ∧ SR K B own' ρ σ H1' H := by
  have hi : i ∈ own := (hown i).mpr (.inl rfl)
  by_cases hq : ∃ v, ρ[i]? = some (some v)
  · obtain ⟨v, hv⟩ := hq
    obtain ⟨a, hx, h0, h1, r⟩ := S.ow i v hi hv
    obtain ⟨o, ho⟩ := r.some
    have le : LeR H1 (upd H1 a o) := LeR.upd h1
    have sub : Sub (upd H1 a o) H := fun b u h => by
      by_cases e : b = a
      · rw [e, upd_same] at h; cases h; rw [e]; exact ho
      · rw [upd_ne e] at h; exact S.sub b u h
    refine ⟨upd H1 a o, le, S.len, sub, fun b u h => ?_, fun j w hj hw => ?_, fun j w hj hw => ?_, fun j k v w b hj hk => S.ds j k v w b ((hown j).mpr (.inr hj)) ((hown k).mpr (.inr hk)), fun p hp => ?_⟩
    · obtain ⟨q1, q2⟩ := S.fr b u h
      have : b ≠ a := fun e => by rw [e, h0] at h; cases h
      exact ⟨q1, by rw [upd_ne this]; exact q2⟩
    · by_cases e : j = i
      · subst e
        rw [hv] at hw; cases hw
        refine ⟨.ref a, hx, ?_⟩
        have r2 : RT K (upd H1 a o) (upd H1 a o) v (.ref a) := by
          have : ORep K (upd H1 a o) (upd H1 a o) a v := r.move le (by rw [upd_same, ho])
          exact this.rt
        exact r2.rep (LeR.refl _)
      · obtain ⟨x, q1, q2⟩ := S.sh j w (fun z => ((hown j).mp z).elim e hj) hw
        exact ⟨x, q1, q2.mono le _ _⟩
    · have e : j ≠ i := fun e => hni (e ▸ hj)
      obtain ⟨b, q1, q2, q3, q4⟩ := S.ow j w ((hown j).mpr (.inr hj)) hw
      have nb : b ≠ a := fun z => by
        subst z
        exact e (S.ds j i w v b ((hown j).mpr (.inr hj)) hi hw hv q1 hx)
      exact ⟨b, q1, q2, by rw [upd_ne nb]; exact q3, q4.move le rfl⟩
    · obtain ⟨q1, q2, q3⟩ := S.io p hp
      exact ⟨q1, ((hown _).mp q2).resolve_left (hio p hp), q3⟩
  · refine ⟨H1, LeR.refl _, S.len, S.sub, S.fr, fun j w hj hw => ?_, fun j w hj hw => S.ow j w ((hown j).mpr (.inr hj)) hw, fun j k v w b hj hk => S.ds j k v w b ((hown j).mpr (.inr hj)) ((hown k).mpr (.inr hk)), fun p hp => ?_⟩
    · have e : j ≠ i := fun e => hq ⟨w, e ▸ hw⟩
      exact S.sh j w (fun z => ((hown j).mp z).elim e hj) hw
    · obtain ⟨q1, q2, q3⟩ := S.io p hp
      exact ⟨q1, ((hown _).mp q2).resolve_left (hio p hp), q3⟩
end
end PT

set_option Elab.async false
set_option linter.all false
set_option autoImplicit false
set_option maxRecDepth 100000
set_option maxHeartbeats 4000000
/-! PT3: what is said of expressions, tests, arguments; rules by values; the rules of expressions. -/
namespace PT
open PySem PySem.Spec PyProof.Rows L2

/-! ### new tuples, their own objects known -/
section
variable {X : Cx}
theorem Inv.tnew {pins : List (Addr × Obj)} {σ : L2.St} {H : Hp} {s : Shared} {xs : List V} {us : List Value} (t' : Nat) (I : Inv X pins σ H s) (r : Vals xs us) (z : xs.length ≤ sizeLine) {ob : Obj} (hob : ob = { cls := .type "tuple", data := .seq us.toArray }) :
    Inv X pins σ (upd H s.heap.objs.size (.frz ob (.tup xs))) { s with heap := s.heap.push ob, toks := t' } := by
  subst hob
  exact I.laid (t' := t') (o := .frz _ (.tup xs)) (fun b o q => Heap.get?_push_of_some _ q) (Nat.le_refl _) ⟨Heap.get?_push_size _ rfl, z, us, r, IsTup.new _ _⟩
def kTup' (xs : List V) (H : Hp) (Q : VK) : Prop := ∀ p o, H p = none → o.dict = none → Q (.ref p) (upd H p (.frz o (.tup xs)))
def tTupF (t : TA) : TE := fun σ H Q => t σ H fun xs H1 => xs.length ≤ sizeLine ∧ kTup' xs H1 Q
theorem pe_tupF {es : List Expr} {t : TA} {pos : Pos} {x1} (h : L2.PA X es t) : PE X (.Tuple es x1 pos) (tTupF t) := by
  refine ⟨fun pins s σ H Q I hq => ?_⟩
  refine wpAny_Tuple_spliced (L2.thn (h.run pos pins s σ H _ I hq) fun us s1 ⟨xs, H1, I1, r, z, q⟩ => ⟨by rw [← r.length]; exact z, ?_⟩)
  exact ⟨.ref s1.heap.objs.size, _, Inv.tnew s1.toks I1 r z rfl, rfl, q _ _ (I1.hok.fresh (Nat.le_refl _)) rfl⟩
theorem call_tuple_ofF : CallR X (.type "tuple") (fun xs H Q => ∃ p ys, xs = [.ref p] ∧ ((SqL X.K H p ys ∧ kTup' ys H Q) ∨ (SqT X.K H p ys ∧ Q (.ref p) H))) := by
  intro pins s σ H xs us Q I r h
  obtain ⟨p, ys, rfl, h⟩ := h
  obtain ⟨u, rfl, rx⟩ := vals1 r
  cases rx
  rcases h with ⟨hq, q⟩ | ⟨hq, q⟩
  · obtain ⟨its, r', pl, hz⟩ := I.list hq
    have hlen := r'.length
    refine call_tuple_list pl.isList (fun h' kp => ?_) (by simp only [List.size_toArray] <;> omega)
    have I1 : Inv X pins σ H { s with heap := h' } := I.kept (t' := s.toks) kp
    exact ⟨.ref h'.objs.size, _, Inv.tnew s.toks I1 r' hz rfl, rfl, q _ _ (I1.hok.fresh (Nat.le_refl _)) rfl⟩
  · obtain ⟨its, r', pl, hz⟩ := I.tuple hq
    exact call_tuple_same pl ⟨.ref p, H, I, rfl, q⟩
def rCatF (K : PySem.W.Frag) : R2 := fun x y H Q => ∃ a b xs ys, x = .ref a ∧ y = .ref b ∧ SqT K H a xs ∧ SqT K H b ys ∧ xs.length + ys.length ≤ sizeLine ∧
  (xs = [] → Q (.ref b) H) ∧ (xs ≠ [] → ys = [] → Q (.ref a) H) ∧ (xs ≠ [] → ys ≠ [] → kTup' (xs ++ ys) H Q)
theorem op_catF : OpR X (binaryOp .Add) (rCatF X.K) := by
  intro pins s σ H x y v u Q I rx ry h
  obtain ⟨a, b, xs, ys, rfl, rfl, ha, hb, hz, q0, q1, q2⟩ := h
  cases rx
  cases ry
  obtain ⟨its, r1, p1, _⟩ := I.tuple ha
  obtain ⟨its2, r2, p2, _⟩ := I.tuple hb
  by_cases hx : xs = []
  · subst hx
    cases r1
    exact cat_tup0 p1 p2 ⟨.ref b, H, I, rfl, q0 rfl⟩
  · refine HT.cat_tup p1 p2 (fun z => hx (r1.nil_iff.mp z)) (fun z => ⟨.ref a, H, I, rfl, q1 hx (r2.nil_iff.mp z)⟩) (fun z => ?_) (by rw [← r1.length, ← r2.length]; exact hz)
    exact ⟨.ref s.heap.objs.size, _, Inv.tnew s.toks I (r1.append r2) (by rw [List.length_append]; exact hz) rfl, rfl, q2 hx (fun w => z (r2.nil_iff.mpr w)) _ _ (I.hok.fresh (Nat.le_refl _)) rfl⟩
def rSlF (K : PySem.W.Frag) : V → Option Int → Option Int → Hp → VK → Prop := fun x lo hi H Q => ∃ a xs, x = .ref a ∧ SqT K H a xs ∧
  (HT.sIx xs.length 0 lo = 0 ∧ HT.sIx xs.length xs.length hi = xs.length → Q (.ref a) H) ∧ (¬ (HT.sIx xs.length 0 lo = 0 ∧ HT.sIx xs.length xs.length hi = xs.length) → kTup' (cutV xs lo hi) H Q)
theorem sl_tupF : SlR X (rSlF X.K) := by
  intro pins s σ H x v vl vu lo hi sl Q I rx hs pl pu h
  obtain ⟨a, xs, rfl, hx, q1, q2⟩ := h
  cases rx
  obtain ⟨its, r, ht, hz⟩ := I.tuple hx
  have hlen : its.toArray.size = xs.length := by rw [List.size_toArray]; exact r.length.symm
  refine ⟨"tuple", _, PyProof.Rows.slot_tuple_getitem.lookup, ht.typeIs, ?_⟩
  by_cases hw : HT.sIx xs.length 0 lo = 0 ∧ HT.sIx xs.length xs.length hi = xs.length
  · exact getItem_tuple_whole ht hs pl pu (by rw [hlen]; exact hw) ⟨.ref a, H, I, rfl, q1 hw⟩
  · refine HT.getItem_tuple_cut ht hs pl pu (by rw [hlen]; exact hw) ?_ (by rw [hlen]; exact hz)
    rw [hlen]
    exact ⟨.ref s.heap.objs.size, _, Inv.tnew s.toks I ((r.drop (HT.sIx xs.length 0 lo)).take (HT.sIx xs.length xs.length hi - HT.sIx xs.length 0 lo)) (Nat.le_trans (cutV_length xs lo hi) hz) rfl, rfl, q2 hw _ _ (I.hok.fresh (Nat.le_refl _)) rfl⟩
theorem TupAt.new {K : PySem.W.Frag} {H : Hp} {p : Addr} {o : Obj} {vs : List V} (h : o.dict = none) : TupAt K (upd H p (.frz o (.tup vs))) p vs := .inl ⟨o, upd_same, h⟩
end

/-! ### readings -/
section
variable (K : PySem.W.Frag) (own : List Nat)
def tE (f : EF) : TE := fun σ H Q => ∃ B ρ v ρ' H1, SR K B own ρ σ H1 H ∧ f ρ = some (v, ρ') ∧ ∀ x H' H1', LeR H1 H1' → SR K B own ρ' σ H1' H' → Rep K H1' v x → Q x H'
/-- the top may be read (it may be a thing of the body's own) -/
def tP (f : EF) : TE := fun σ H Q => ∃ B ρ v ρ' H1, SR K B own ρ σ H1 H ∧ f ρ = some (v, ρ') ∧ ∀ x H' H1', LeR H1 H1' → SR K B own ρ' σ H1' H' → RT K H1' H' v x → Q x H'
/-- a new thing of the body's own, not yet in a slot -/
structure FR (B : Base) (ρ : Env) (σ : L2.St) (H1 H : Hp) (a : Addr) (v : PV) : Prop where
  sr : SR K B own ρ σ H1 H
  n0 : B.H0 a = none
  n1 : H1 a = none
  rep : ORep K H1 H a v
  ne : ∀ (j : Nat) w, j ∈ own → ρ[j]? = some (some w) → σ[j]? ≠ some (some (.ref a))
def tF (f : EF) : TE := fun σ H Q => ∃ B ρ v ρ' H1, SR K B own ρ σ H1 H ∧ f ρ = some (v, ρ') ∧ ∀ a H' H1', LeR H1 H1' → FR K own B ρ' σ H1' H' a v → Q (.ref a) H'
def tT (f : TF) : TT := fun σ H Q => ∃ B ρ b ρ' H1, SR K B own ρ σ H1 H ∧ f ρ = some (b, ρ') ∧ ∀ H' H1', LeR H1 H1' → SR K B own ρ' σ H1' H' → Q b H'
def tAr (f : AF) : TA := fun σ H Q => ∃ B ρ vs ρ' H1, SR K B own ρ σ H1 H ∧ f ρ = some (vs, ρ') ∧ ∀ xs H' H1', LeR H1 H1' → SR K B own ρ' σ H1' H' → RepL K H1' vs xs → Q xs H'
end
structure EX (X : Cx) (own : List Nat) (e : Expr) (f : EF) : Prop where run : PE X e (tE X.K own f)
structure EP' (X : Cx) (own : List Nat) (e : Expr) (f : EF) : Prop where run : PE X e (tP X.K own f)
structure EN (X : Cx) (own : List Nat) (e : Expr) (f : EF) : Prop where run : PE X e (tF X.K own f)
structure TX (X : Cx) (own : List Nat) (e : Expr) (f : TF) : Prop where run : PT X e (tT X.K own f)
structure AX (X : Cx) (own : List Nat) (es : List Expr) (f : AF) : Prop where run : PA X es (tAr X.K own f)

theorem PE.ent {X : Cx} {e : Expr} {t t' : TE} (h : PE X e t) (en : ∀ σ H Q, t' σ H Q → t σ H Q) : PE X e t' := ⟨fun pins s σ H Q I q => h.run pins s σ H Q I (en _ _ _ q)⟩
theorem PT.ent {X : Cx} {e : Expr} {t t' : TT} (h : L2.PT X e t) (en : ∀ σ H Q, t' σ H Q → t σ H Q) : L2.PT X e t' := ⟨fun pins s σ H Q I q => h.run pins s σ H Q I (en _ _ _ q)⟩
theorem PW.ent {X : Cx} {e : Expr} {t t' : TT} (h : L2.PW X e t) (en : ∀ σ H Q, t' σ H Q → t σ H Q) : L2.PW X e t' := ⟨fun wh pins s σ H Q I q => h.run wh pins s σ H Q I (en _ _ _ q)⟩
theorem PA.ent {X : Cx} {e : List Expr} {t t' : TA} (h : L2.PA X e t) (en : ∀ σ H Q, t' σ H Q → t σ H Q) : L2.PA X e t' := ⟨fun wh pins s σ H Q I q => h.run wh pins s σ H Q I (en _ _ _ q)⟩

section
variable {K : PySem.W.Frag} {B : Base} {own : List Nat} {ρ : Env} {σ : L2.St} {H1 H : Hp} {a : Addr} {v : PV}
/-- a new own thing becomes a shared value -/
theorem FR.share (F : FR K own B ρ σ H1 H a v) : ∃ H1', LeR H1 H1' ∧ SR K B own ρ σ H1' H ∧ Rep K H1' v (.ref a) := by
  obtain ⟨o, ho⟩ := F.rep.some
  have S := F.sr
  have le : LeR H1 (upd H1 a o) := LeR.upd F.n1
  have sub : Sub (upd H1 a o) H := fun b u h => by
    by_cases e : b = a
    · rw [e, upd_same] at h; cases h; rw [e]; exact ho
    · rw [upd_ne e] at h; exact S.sub b u h
  refine ⟨upd H1 a o, le, ⟨S.len, sub, fun b u h => ?_, fun j w hj hw => ?_, fun j w hj hw => ?_, S.ds, S.io⟩, ?_⟩
  · obtain ⟨q1, q2⟩ := S.fr b u h
    have : b ≠ a := fun e => by rw [e, F.n0] at h; cases h
    exact ⟨q1, by rw [upd_ne this]; exact q2⟩
  · obtain ⟨x, q1, q2⟩ := S.sh j w hj hw
    exact ⟨x, q1, q2.mono le _ _⟩
  · obtain ⟨b, q1, q2, q3, q4⟩ := S.ow j w hj hw
    have nb : b ≠ a := fun z => F.ne j w hj hw (by rw [← z]; exact q1)
    exact ⟨b, q1, q2, by rw [upd_ne nb]; exact q3, q4.move le rfl⟩
  · have : ORep K (upd H1 a o) (upd H1 a o) a v := F.rep.move le (by rw [upd_same, ho])
    exact this.rt.rep (LeR.refl _)
/-- a new thing at a free place -/
theorem FR.mk' {H' : Hp} (S : SR K B own ρ σ H1 H) (s : Sub H H') (n : H a = none) (r : ORep K H1 H' a v) : FR K own B ρ σ H1 H' a v where
  sr := S.ext ⟨LeR.refl _, S.sub.trans s, fun b o h => ⟨s b o h, rfl⟩⟩
  n0 := by
    cases q : B.H0 a with
    | none => rfl
    | some o => rw [(S.fr a o q).1] at n; cases n
  n1 := S.sub.free n
  rep := r
  ne := fun j w hj hw e => by
    obtain ⟨b, q1, q2, q3, q4⟩ := S.ow j w hj hw
    rw [e] at q1
    obtain rfl : a = b := by injection q1 with q; injection q with q; injection q
    obtain ⟨o, ho⟩ := q4.some
    rw [n] at ho; cases ho
end
theorem EX.peek {X : Cx} {own : List Nat} {e : Expr} {f : EF} (h : EX X own e f) : EP' X own e f := ⟨PE.ent h.run fun σ H Q ⟨B, ρ, v, ρ', H1, S, e, k⟩ =>
  ⟨B, ρ, v, ρ', H1, S, e, fun x H' H1' le S' r => k x H' H1' le S' (r.rt S'.sub.le)⟩⟩
theorem EN.ex {X : Cx} {own : List Nat} {e : Expr} {f : EF} (h : EN X own e f) : EX X own e f := ⟨PE.ent h.run fun σ H Q ⟨B, ρ, v, ρ', H1, S, e, k⟩ =>
  ⟨B, ρ, v, ρ', H1, S, e, fun a H' H1' le F => by
    obtain ⟨H1'', le', S', r⟩ := F.share
    exact k _ H' H1'' (le.trans le') S' r⟩⟩
theorem EN.peek {X : Cx} {own : List Nat} {e : Expr} {f : EF} (h : EN X own e f) : EP' X own e f := h.ex.peek

/-! ### rules by values -/
/-- what is wanted behind a value -/
def kV' (K : PySem.W.Frag) (v : PV) (H1 H : Hp) (Q : VK) : Prop := ∀ z H' H1', Ext H1 H H1' H' → Rep K H1' v z → Q z H'
/-- .. behind a new thing -/
def kF (K : PySem.W.Frag) (v : PV) (H1 H : Hp) (Q : VK) : Prop := ∀ a H', Sub H H' → H a = none → ORep K H1 H' a v → Q (.ref a) H'
theorem kF_of {K : PySem.W.Frag} {v : PV} {H1 H : Hp} {Q : VK} (s : Sub H1 H) (h : kV' K v H1 H Q) : kF K v H1 H Q := fun a H' s' n r => by
  obtain ⟨o, ho⟩ := r.some
  have n1 : H1 a = none := s.free n
  refine h _ H' (upd H1 a o) ⟨LeR.upd n1, fun b u q => ?_, fun b u q => ?_⟩ ?_
  · by_cases e : b = a
    · rw [e, upd_same] at q; cases q; rw [e]; exact ho
    · rw [upd_ne e] at q; exact s' _ _ (s _ _ q)
  · have e : b ≠ a := fun e => by rw [e, n] at q; cases q
    exact ⟨s' _ _ q, by rw [upd_ne e]⟩
  · have : ORep K (upd H1 a o) (upd H1 a o) a v := r.move (LeR.upd n1) (by rw [upd_same, ho])
    exact this.rt.rep (LeR.refl _)
abbrev G2 := PV → PV → Option PV
abbrev GL := List PV → Option PV
def r2V (K : PySem.W.Frag) (g : G2) : R2 := fun x y H Q => ∃ p q v H1, Sub H1 H ∧ RT K H1 H p x ∧ RT K H1 H q y ∧ g p q = some v ∧ kV' K v H1 H Q
def r2F (K : PySem.W.Frag) (g : G2) : R2 := fun x y H Q => ∃ p q v H1, Sub H1 H ∧ RT K H1 H p x ∧ RT K H1 H q y ∧ g p q = some v ∧ kF K v H1 H Q
def OpV (X : Cx) (f : Value → Value → Sem Value) (g : G2) : Prop := OpR X f (r2V X.K g)
def OpF (X : Cx) (f : Value → Value → Sem Value) (g : G2) : Prop := OpR X f (r2F X.K g)
theorem OpR.imp {X : Cx} {f : Value → Value → Sem Value} {r r' : R2} (h : OpR X f r) (i : ∀ x y H Q, r' x y H Q → r x y H Q) : OpR X f r' :=
  fun pins s σ H x y v u Q I rx ry q => h pins s σ H x y v u Q I rx ry (i _ _ _ _ q)
theorem OpF.v {X : Cx} {f : Value → Value → Sem Value} {g : G2} (h : OpF X f g) : OpV X f g := OpR.imp h fun _ _ _ _ ⟨p, q, v, H1, s, a, b, e, k⟩ => ⟨p, q, v, H1, s, a, b, e, kF_of s k⟩
def orG (g g' : G2) : G2 := fun p q => match g p q with | some v => some v | none => g' p q
theorem OpV.or {X : Cx} {f : Value → Value → Sem Value} {g g' : G2} (h : OpV X f g) (h' : OpV X f g') : OpV X f (orG g g') := OpR.imp (OpR.or h h') fun x y H Q ⟨p, q, v, H1, s, a, b, e, k⟩ => by
  unfold orG at e
  split at e
  · rename_i v' e'
    cases e
    exact .inl ⟨p, q, _, H1, s, a, b, e', k⟩
  · exact .inr ⟨p, q, v, H1, s, a, b, e, k⟩
/-- a list of tops -/
def RTL (K : PySem.W.Frag) (H1 H : Hp) : List PV → List V → Prop
  | [], xs => xs = []
  | p :: ps, xs => ∃ x r, xs = x :: r ∧ RT K H1 H p x ∧ RTL K H1 H ps r
theorem RepL.rtl {K : PySem.W.Frag} {H1 H : Hp} (le : LeR H1 H) : ∀ {ps : List PV} {xs : List V}, RepL K H1 ps xs → RTL K H1 H ps xs
  | [], _, h => RepL.nil_iff.mp h
  | p :: ps, _, h => by
    obtain ⟨v, r, rfl, a, b⟩ := RepL.cons_iff.mp h
    exact ⟨v, r, rfl, a.rt le, RepL.rtl le b⟩
def rlV (K : PySem.W.Frag) (g : GL) : List V → Hp → VK → Prop := fun xs H Q => ∃ ps v H1, Sub H1 H ∧ RTL K H1 H ps xs ∧ g ps = some v ∧ kV' K v H1 H Q
def rlF (K : PySem.W.Frag) (g : GL) : List V → Hp → VK → Prop := fun xs H Q => ∃ ps v H1, Sub H1 H ∧ RTL K H1 H ps xs ∧ g ps = some v ∧ kF K v H1 H Q
def CallV (X : Cx) (f : Value) (g : GL) : Prop := CallR X f (rlV X.K g)
def CallF (X : Cx) (f : Value) (g : GL) : Prop := CallR X f (rlF X.K g)
theorem CallR.imp {X : Cx} {f : Value} {r r' : List V → Hp → VK → Prop} (h : CallR X f r) (i : ∀ xs H Q, r' xs H Q → r xs H Q) : CallR X f r' := fun pins s σ H xs us Q I rs q => h pins s σ H xs us Q I rs (i _ _ _ q)
theorem CallF.v {X : Cx} {f : Value} {g : GL} (h : CallF X f g) : CallV X f g := CallR.imp h fun _ _ _ ⟨ps, v, H1, s, a, e, k⟩ => ⟨ps, v, H1, s, a, e, kF_of s k⟩
def orL (g g' : GL) : GL := fun p => match g p with | some v => some v | none => g' p
theorem CallV.or {X : Cx} {f : Value} {g g' : GL} (h : CallV X f g) (h' : CallV X f g') : CallV X f (orL g g') := CallR.imp (CallR.or h h') fun xs H Q ⟨p, v, H1, s, a, e, k⟩ => by
  unfold orL at e
  split at e
  · rename_i v' e'
    cases e
    exact .inl ⟨p, _, H1, s, a, e', k⟩
  · exact .inr ⟨p, v, H1, s, a, e, k⟩
theorem CallF.or {X : Cx} {f : Value} {g g' : GL} (h : CallF X f g) (h' : CallF X f g') : CallF X f (orL g g') := CallR.imp (CallR.or h h') fun xs H Q ⟨p, v, H1, s, a, e, k⟩ => by
  unfold orL at e
  split at e
  · rename_i v' e'
    cases e
    exact .inl ⟨p, _, H1, s, a, e', k⟩
  · exact .inr ⟨p, v, H1, s, a, e, k⟩
def IxV (X : Cx) (g : G2) : Prop := IxR X (r2V X.K g)
theorem IxR.imp {X : Cx} {r r' : R2} (h : IxR X r) (i : ∀ x y H Q, r' x y H Q → r x y H Q) : IxR X r' := fun va sl pins s σ H x y v u Q I rx ry q hs => h va sl pins s σ H x y v u Q I rx ry (i _ _ _ _ q) hs
theorem IxV.or {X : Cx} {g g' : G2} (h : IxV X g) (h' : IxV X g') : IxV X (orG g g') := IxR.imp (IxR.or h h') fun x y H Q ⟨p, q, v, H1, s, a, b, e, k⟩ => by
  unfold orG at e
  split at e
  · rename_i v' e'
    cases e
    exact .inl ⟨p, q, _, H1, s, a, b, e', k⟩
  · exact .inr ⟨p, q, v, H1, s, a, b, e, k⟩

/-! ### the functions of expressions -/
def look (ρ : Env) (i : Nat) : Option PV := match ρ[i]? with | some (some v) => some v | _ => none
theorem look_iff {ρ : Env} {i : Nat} {v : PV} : look ρ i = some v ↔ ρ[i]? = some (some v) := by
  unfold look
  split
  · rename_i w e; rw [e]; simp
  · rename_i h
    constructor
    · intro q; cases q
    · intro q; exact absurd q (h v)
def fVar (i : Nat) : EF := fun ρ => (look ρ i).map fun v => (v, ρ)
def fC (v : PV) : EF := fun ρ => some (v, ρ)
def fOp (g : G2) (fa fb : EF) : EF := fun ρ => (fa ρ).bind fun r => (fb r.2).bind fun s => (g r.1 s.1).map fun v => (v, s.2)
/-- the left one a slot of the body's own: read behind the right one -/
def fOpO (g : G2) (i : Nat) (fb : EF) : EF := fun ρ => (look ρ i).bind fun _ => (fb ρ).bind fun s => (look s.2 i).bind fun p => (g p s.1).map fun v => (v, s.2)
def fUn (g : PV → Option PV) (fa : EF) : EF := fun ρ => (fa ρ).bind fun r => (g r.1).map fun v => (v, r.2)
def fTest (f : EF) : TF := fun ρ => (f ρ).bind fun r => match r.1 with | .bl b => some (b, r.2) | _ => none
def aNil : AF := fun ρ => some ([], ρ)
def aCons (f : EF) (g : AF) : AF := fun ρ => (f ρ).bind fun r => (g r.2).bind fun s => some (r.1 :: s.1, s.2)
def fList (g : GL) (f : AF) : EF := fun ρ => (f ρ).bind fun r => (g r.1).map fun v => (v, r.2)

section
variable {X : Cx} {own : List Nat} {e a b c : Expr} {es : List Expr} {f fa fb fc : EF} {pos p : Pos}
theorem ex_var {i : Nat} (h : PE X e (tVar i)) (hi : i ∉ own) : EX X own e (fVar i) := ⟨PE.ent h fun σ H Q ⟨B, ρ, v, ρ', H1, S, e, k⟩ => by
  obtain ⟨w, hw, e2⟩ := Option.map_eq_some_iff.mp e
  cases e2
  obtain ⟨x, h1, h2⟩ := S.sh i v hi (look_iff.mp hw)
  exact ⟨x, h1, k x H H1 (LeR.refl _) S h2⟩⟩
theorem ep_own {i : Nat} (h : PE X e (tVar i)) (hi : i ∈ own) : EP' X own e (fVar i) := ⟨PE.ent h fun σ H Q ⟨B, ρ, v, ρ', H1, S, e, k⟩ => by
  obtain ⟨w, hw, e2⟩ := Option.map_eq_some_iff.mp e
  cases e2
  obtain ⟨a, h1, h2, h3, h4⟩ := S.ow i v hi (look_iff.mp hw)
  exact ⟨_, h1, k _ H H1 (LeR.refl _) S h4.rt⟩⟩
theorem ex_c {x : V} {v : PV} (h : PE X e (tC x)) (r : ∀ H, Rep X.K H v x) : EX X own e (fC v) := ⟨PE.ent h fun σ H Q ⟨B, ρ, w, ρ', H1, S, e, k⟩ => by
  cases e
  exact k x H H1 (LeR.refl _) S (r _)⟩
theorem rep_int {K : PySem.W.Frag} {H : Hp} {i : Int} : Rep K H (.int i) (.int i) := by simp only [Rep]
theorem rep_bl {K : PySem.W.Frag} {H : Hp} {i : Bool} : Rep K H (.bl i) (.bl i) := by simp only [Rep]
theorem rep_str {K : PySem.W.Frag} {H : Hp} {i : Str} : Rep K H (.str i) (.str i) := by simp only [Rep]
theorem rep_non {K : PySem.W.Frag} {H : Hp} : Rep K H .non .non := by simp only [Rep]
theorem ex_int {i : Int} {j} : EX X own (.Constant (.int i) j pos) (fC (.int i)) := ex_c pe_int fun _ => rep_int
theorem ex_bl {i : Bool} {j} : EX X own (.Constant (.bool i) j pos) (fC (.bl i)) := ex_c pe_bl fun _ => rep_bl
theorem ex_non {j} : EX X own (.Constant .none j pos) (fC .non) := ex_c pe_non fun _ => rep_non
theorem ex_str {x : Str} {j} : EX X own (.Constant (.str x) j pos) (fC (.str x)) := ex_c pe_str fun _ => rep_str

theorem inv_op {g : G2} {ρ ρ' : Env} {v : PV} (e : fOp g fa fb ρ = some (v, ρ')) : ∃ va ρ1 vb, fa ρ = some (va, ρ1) ∧ fb ρ1 = some (vb, ρ') ∧ g va vb = some v := by
  unfold fOp at e
  obtain ⟨⟨va, ρ1⟩, ea, e⟩ := Option.bind_eq_some_iff.mp e
  obtain ⟨⟨vb, ρ2⟩, eb, e⟩ := Option.bind_eq_some_iff.mp e
  obtain ⟨w, ew, e⟩ := Option.map_eq_some_iff.mp e
  cases e
  exact ⟨va, ρ1, vb, ea, eb, ew⟩
theorem inv_opO {g : G2} {i : Nat} {ρ ρ' : Env} {v : PV} (e : fOpO g i fb ρ = some (v, ρ')) : ∃ w vb va, look ρ i = some w ∧ fb ρ = some (vb, ρ') ∧ look ρ' i = some va ∧ g va vb = some v := by
  unfold fOpO at e
  obtain ⟨w, el, e⟩ := Option.bind_eq_some_iff.mp e
  obtain ⟨⟨vb, ρ2⟩, eb, e⟩ := Option.bind_eq_some_iff.mp e
  obtain ⟨va, ea, e⟩ := Option.bind_eq_some_iff.mp e
  obtain ⟨u, ew, e⟩ := Option.map_eq_some_iff.mp e
  cases e
  exact ⟨w, vb, va, el, eb, ea, ew⟩
theorem inv_un {g : PV → Option PV} {ρ ρ' : Env} {v : PV} (e : fUn g fa ρ = some (v, ρ')) : ∃ va, fa ρ = some (va, ρ') ∧ g va = some v := by
  unfold fUn at e
  obtain ⟨⟨va, ρ1⟩, ea, e⟩ := Option.bind_eq_some_iff.mp e
  obtain ⟨w, ew, e⟩ := Option.map_eq_some_iff.mp e
  cases e
  exact ⟨va, ea, ew⟩
theorem inv_list {g : GL} {f : AF} {ρ ρ' : Env} {v : PV} (e : fList g f ρ = some (v, ρ')) : ∃ vs, f ρ = some (vs, ρ') ∧ g vs = some v := by
  unfold fList at e
  obtain ⟨⟨va, ρ1⟩, ea, e⟩ := Option.bind_eq_some_iff.mp e
  obtain ⟨w, ew, e⟩ := Option.map_eq_some_iff.mp e
  cases e
  exact ⟨va, ea, ew⟩
theorem inv_test {ρ ρ' : Env} {b : Bool} (e : fTest f ρ = some (b, ρ')) : f ρ = some (.bl b, ρ') := by
  unfold fTest at e
  obtain ⟨⟨va, ρ1⟩, ea, e⟩ := Option.bind_eq_some_iff.mp e
  cases va <;> simp at e
  obtain ⟨rfl, rfl⟩ := e
  exact ea
theorem inv_cons {g : AF} {ρ ρ' : Env} {vs : List PV} (e : aCons f g ρ = some (vs, ρ')) : ∃ v ρ1 ws, f ρ = some (v, ρ1) ∧ g ρ1 = some (ws, ρ') ∧ vs = v :: ws := by
  unfold aCons at e
  obtain ⟨⟨va, ρ1⟩, ea, e⟩ := Option.bind_eq_some_iff.mp e
  obtain ⟨⟨vb, ρ2⟩, eb, e⟩ := Option.bind_eq_some_iff.mp e
  cases e
  exact ⟨va, ρ1, vb, ea, eb, rfl⟩

theorem ent_op {K : PySem.W.Frag} {g : G2} : ∀ σ H Q, tE K own (fOp g fa fb) σ H Q → tOp (r2V K g) (tE K own fa) (tE K own fb) σ H Q := fun σ H Q ⟨B, ρ, v, ρ', H1, S, e, k⟩ => by
  obtain ⟨va, ρ1, vb, ea, eb, ew⟩ := inv_op e
  refine ⟨B, ρ, va, ρ1, H1, S, ea, fun x H' H1' le S' rx => ?_⟩
  refine ⟨B, ρ1, vb, _, H1', S', eb, fun y H2 H12 le2 S2 ry => ?_⟩
  refine ⟨va, vb, v, H12, S2.sub, (rx.mono le2 _ _).rt S2.sub.le, ry.rt S2.sub.le, ew, fun z H3 H13 ex rz => ?_⟩
  exact k z H3 H13 ((le.trans le2).trans ex.le) (S2.ext ex) rz
theorem ent_opF {K : PySem.W.Frag} {g : G2} : ∀ σ H Q, tF K own (fOp g fa fb) σ H Q → tOp (r2F K g) (tE K own fa) (tE K own fb) σ H Q := fun σ H Q ⟨B, ρ, v, ρ', H1, S, e, k⟩ => by
  obtain ⟨va, ρ1, vb, ea, eb, ew⟩ := inv_op e
  refine ⟨B, ρ, va, ρ1, H1, S, ea, fun x H' H1' le S' rx => ?_⟩
  refine ⟨B, ρ1, vb, _, H1', S', eb, fun y H2 H12 le2 S2 ry => ?_⟩
  refine ⟨va, vb, v, H12, S2.sub, (rx.mono le2 _ _).rt S2.sub.le, ry.rt S2.sub.le, ew, fun a H3 s n r => ?_⟩
  exact k a H3 H12 (le.trans le2) (FR.mk' S2 s n r)
/-- the right one a peek -/
theorem ent_opP {K : PySem.W.Frag} {g : G2} : ∀ σ H Q, tE K own (fOp g fa fb) σ H Q → tOp (r2V K g) (tE K own fa) (tP K own fb) σ H Q := fun σ H Q ⟨B, ρ, v, ρ', H1, S, e, k⟩ => by
  obtain ⟨va, ρ1, vb, ea, eb, ew⟩ := inv_op e
  refine ⟨B, ρ, va, ρ1, H1, S, ea, fun x H' H1' le S' rx => ?_⟩
  refine ⟨B, ρ1, vb, _, H1', S', eb, fun y H2 H12 le2 S2 ry => ?_⟩
  refine ⟨va, vb, v, H12, S2.sub, (rx.mono le2 _ _).rt S2.sub.le, ry, ew, fun z H3 H13 ex rz => ?_⟩
  exact k z H3 H13 ((le.trans le2).trans ex.le) (S2.ext ex) rz
/-- the left one an own slot -/
theorem ent_opO {K : PySem.W.Frag} {g : G2} {i : Nat} (hi : i ∈ own) : ∀ σ H Q, tE K own (fOpO g i fb) σ H Q → tOp (r2V K g) (tVar i) (tE K own fb) σ H Q := fun σ H Q ⟨B, ρ, v, ρ', H1, S, e, k⟩ => by
  obtain ⟨w, vb, va, el, eb, ea, ew⟩ := inv_opO e
  obtain ⟨a, h1, _⟩ := S.ow i w hi (look_iff.mp el)
  refine ⟨_, h1, B, ρ, vb, ρ', H1, S, eb, fun y H2 H12 le S2 ry => ?_⟩
  obtain ⟨a', g1, g2, g3, g4⟩ := S2.ow i va hi (look_iff.mp ea)
  rw [h1] at g1
  obtain rfl : a = a' := by injection g1 with q; injection q with q; injection q
  exact ⟨va, vb, v, H12, S2.sub, g4.rt, ry.rt S2.sub.le, ew, fun z H3 H13 ex rz => k z H3 H13 (le.trans ex.le) (S2.ext ex) rz⟩
theorem ent_opOF {K : PySem.W.Frag} {g : G2} {i : Nat} (hi : i ∈ own) : ∀ σ H Q, tF K own (fOpO g i fb) σ H Q → tOp (r2F K g) (tVar i) (tE K own fb) σ H Q := fun σ H Q ⟨B, ρ, v, ρ', H1, S, e, k⟩ => by
  obtain ⟨w, vb, va, el, eb, ea, ew⟩ := inv_opO e
  obtain ⟨a, h1, _⟩ := S.ow i w hi (look_iff.mp el)
  refine ⟨_, h1, B, ρ, vb, ρ', H1, S, eb, fun y H2 H12 le S2 ry => ?_⟩
  obtain ⟨a', g1, g2, g3, g4⟩ := S2.ow i va hi (look_iff.mp ea)
  rw [h1] at g1
  obtain rfl : a = a' := by injection g1 with q; injection q with q; injection q
  exact ⟨va, vb, v, H12, S2.sub, g4.rt, ry.rt S2.sub.le, ew, fun b H3 s n r => k b H3 H12 le (FR.mk' S2 s n r)⟩
theorem ent_test {K : PySem.W.Frag} {t : TE} (h : ∀ σ H Q, tE K own f σ H Q → t σ H Q) : ∀ σ H Q, tT K own (fTest f) σ H Q → tTest t σ H Q := fun σ H Q ⟨B, ρ, b, ρ', H1, S, e, k⟩ => by
  refine h σ H _ ⟨B, ρ, .bl b, ρ', H1, S, inv_test e, fun x H' H1' le S' r => ?_⟩
  simp only [Rep] at r
  exact ⟨b, r, k H' H1' le S'⟩

/-! a op b -/
theorem ex_op {op : Operator} {g : G2} (ho : OpV X (binaryOp op) g) (ha : EX X own a fa) (hb : EX X own b fb) : EX X own (.BinOp a op b pos) (fOp g fa fb) := ⟨PE.ent (pe_op ho ha.run hb.run) ent_op⟩
theorem en_op {op : Operator} {g : G2} (ho : OpF X (binaryOp op) g) (ha : EX X own a fa) (hb : EX X own b fb) : EN X own (.BinOp a op b pos) (fOp g fa fb) := ⟨PE.ent (pe_op ho ha.run hb.run) ent_opF⟩
/-! comparisons -/
theorem ex_cmp {op : CmpOp} {g : G2} (ho : OpV X (compareOp op) g) (ha : EX X own a fa) (hb : EX X own b fb) (hm : behindInMarks op b = false) : EX X own (.Compare a [op] [b] pos) (fOp g fa fb) := ⟨PE.ent (pe_cmpR ho ha.run hb.run hm) ent_op⟩
theorem ex_cmpP {op : CmpOp} {g : G2} (ho : OpV X (compareOp op) g) (ha : EX X own a fa) (hb : EP' X own b fb) (hm : behindInMarks op b = false) : EX X own (.Compare a [op] [b] pos) (fOp g fa fb) := ⟨PE.ent (pe_cmpR ho ha.run hb.run hm) ent_opP⟩
theorem ex_cmpO {op : CmpOp} {g : G2} {i : Nat} (ho : OpV X (compareOp op) g) (ha : PE X a (tVar i)) (hi : i ∈ own) (hb : EX X own b fb) (hm : behindInMarks op b = false) : EX X own (.Compare a [op] [b] pos) (fOpO g i fb) := ⟨PE.ent (pe_cmpR ho ha hb.run hm) (ent_opO hi)⟩
theorem tx_cmp {op : CmpOp} {g : G2} (ho : OpV X (compareOp op) g) (ha : EX X own a fa) (hb : EX X own b fb) (hm : behindInMarks op b = false) : TX X own (.Compare a [op] [b] pos) (fTest (fOp g fa fb)) := ⟨PT.ent (pt_cmpR ho ha.run hb.run hm) (ent_test ent_op)⟩
theorem tx_cmpP {op : CmpOp} {g : G2} (ho : OpV X (compareOp op) g) (ha : EX X own a fa) (hb : EP' X own b fb) (hm : behindInMarks op b = false) : TX X own (.Compare a [op] [b] pos) (fTest (fOp g fa fb)) := ⟨PT.ent (pt_cmpR ho ha.run hb.run hm) (ent_test ent_opP)⟩
theorem tx_cmpO {op : CmpOp} {g : G2} {i : Nat} (ho : OpV X (compareOp op) g) (ha : PE X a (tVar i)) (hi : i ∈ own) (hb : EX X own b fb) (hm : behindInMarks op b = false) : TX X own (.Compare a [op] [b] pos) (fTest (fOpO g i fb)) := ⟨PT.ent (pt_cmpR ho ha hb.run hm) (ent_test (ent_opO hi))⟩
/-! a[b] -/
theorem ex_ix {g : G2} (ho : IxV X g) (ha : EX X own a fa) (hb : EX X own b fb) (hs : PlainIx b) : EX X own (.Subscript a b pos) (fOp g fa fb) := ⟨PE.ent (pe_ix ho ha.run hb.run hs) ent_op⟩
theorem ex_ixO {g : G2} {i : Nat} (ho : IxV X g) (ha : PE X a (tVar i)) (hi : i ∈ own) (hb : EX X own b fb) (hs : PlainIx b) : EX X own (.Subscript a b pos) (fOpO g i fb) := ⟨PE.ent (pe_ix ho ha hb.run hs) (ent_opO hi)⟩
/-! arguments -/
theorem ax_nil : AX X own [] aNil := ⟨PA.ent pa_nil fun σ H Q ⟨B, ρ, vs, ρ', H1, S, e, k⟩ => by
  cases e
  exact k [] H H1 (LeR.refl _) S RepL.nil⟩
theorem ax_cons {g : AF} (ha : EX X own e f) (hr : AX X own es g) (hs : starEach (e :: es) X.env = (false, eval e X.env) :: starEach es X.env := by rfl) : AX X own (e :: es) (aCons f g) := ⟨PA.ent (pa_cons ha.run hr.run hs) fun σ H Q ⟨B, ρ, vs, ρ', H1, S, e, k⟩ => by
  obtain ⟨v, ρ1, ws, e1, e2, rfl⟩ := inv_cons e
  refine ⟨B, ρ, v, ρ1, H1, S, e1, fun x H' H1' le S' rx => ⟨B, ρ1, ws, ρ', H1', S', e2, fun xs H2 H12 le2 S2 rs => ?_⟩⟩
  exact k _ H2 H12 (le.trans le2) S2 (RepL.cons (rx.mono le2 _ _) rs)⟩
theorem ent_call {K : PySem.W.Frag} {g : GL} {ff : AF} : ∀ σ H Q, tE K own (fList g ff) σ H Q → tCB (rlV K g) (tAr K own ff) σ H Q := fun σ H Q ⟨B, ρ, v, ρ', H1, S, e, k⟩ => by
  obtain ⟨vs, e1, e2⟩ := inv_list e
  exact ⟨B, ρ, vs, ρ', H1, S, e1, fun xs H' H1' le S' rs => ⟨vs, v, H1', S'.sub, rs.rtl S'.sub.le, e2, fun z H3 H13 ex rz => k z H3 H13 (le.trans ex.le) (S'.ext ex) rz⟩⟩
theorem ent_callF {K : PySem.W.Frag} {g : GL} {ff : AF} : ∀ σ H Q, tF K own (fList g ff) σ H Q → tCB (rlF K g) (tAr K own ff) σ H Q := fun σ H Q ⟨B, ρ, v, ρ', H1, S, e, k⟩ => by
  obtain ⟨vs, e1, e2⟩ := inv_list e
  exact ⟨B, ρ, vs, ρ', H1, S, e1, fun xs H' H1' le S' rs => ⟨vs, v, H1', S'.sub, rs.rtl S'.sub.le, e2, fun a H3 s n r => k a H3 H1' le (FR.mk' S' s n r)⟩⟩
def a1 (f : EF) : AF := fun ρ => (f ρ).bind fun r => some ([r.1], r.2)
theorem inv_a1 {ρ ρ' : Env} {vs : List PV} (e : a1 f ρ = some (vs, ρ')) : ∃ v, f ρ = some (v, ρ') ∧ vs = [v] := by
  unfold a1 at e
  obtain ⟨⟨va, ρ1⟩, ea, e⟩ := Option.bind_eq_some_iff.mp e
  cases e
  exact ⟨va, ea, rfl⟩
theorem ent_call1 {K : PySem.W.Frag} {g : GL} : ∀ σ H Q, tE K own (fList g (a1 f)) σ H Q → tCB (rlV K g) (tCons (tP K own f) tNil) σ H Q := fun σ H Q ⟨B, ρ, v, ρ', H1, S, e, k⟩ => by
  obtain ⟨vs, e1, e2⟩ := inv_list e
  obtain ⟨w, e3, rfl⟩ := inv_a1 e1
  exact ⟨B, ρ, w, ρ', H1, S, e3, fun x H' H1' le S' rx => ⟨[w], v, H1', S'.sub, ⟨x, [], rfl, rx, rfl⟩, e2, fun z H3 H13 ex rz => k z H3 H13 (le.trans ex.le) (S'.ext ex) rz⟩⟩
theorem ent_call1F {K : PySem.W.Frag} {g : GL} : ∀ σ H Q, tF K own (fList g (a1 f)) σ H Q → tCB (rlF K g) (tCons (tP K own f) tNil) σ H Q := fun σ H Q ⟨B, ρ, v, ρ', H1, S, e, k⟩ => by
  obtain ⟨vs, e1, e2⟩ := inv_list e
  obtain ⟨w, e3, rfl⟩ := inv_a1 e1
  exact ⟨B, ρ, w, ρ', H1, S, e3, fun x H' H1' le S' rx => ⟨[w], v, H1', S'.sub, ⟨x, [], rfl, rx, rfl⟩, e2, fun a H3 s n r => k a H3 H1' le (FR.mk' S' s n r)⟩⟩
/-! built-ins: x(e) one argument, a peek; x(e, ..) -/
section
variable {x : Str} {id T : String} {g : GL}
theorem ex_b1 (hc : CallV X (.builtin id) g) (ha : EP' X own e f) (hg : Gl X x) (hm : X.mg x = none) (hv : bootBuiltins x = some (.builtin id)) (hs : starEach [e] X.env = (false, eval e X.env) :: starEach [] X.env := by rfl) (hn : x ≠ "__name__" := by decide) (hdb : (x == ("__debug__" : Str)) = false := by decide)
    (hpl : (backTo pos (starEach [] X.env)).any (·.1) = false := by rfl) : EX X own (.Call (.Name x p) [e] [] pos) (fList g (a1 f)) := ⟨PE.ent (pe_callB hc hg hm hv (pa_cons ha.run pa_nil hs) hn hdb hs hpl) ent_call1⟩
theorem en_b1 (hc : CallF X (.builtin id) g) (ha : EP' X own e f) (hg : Gl X x) (hm : X.mg x = none) (hv : bootBuiltins x = some (.builtin id)) (hs : starEach [e] X.env = (false, eval e X.env) :: starEach [] X.env := by rfl) (hn : x ≠ "__name__" := by decide) (hdb : (x == ("__debug__" : Str)) = false := by decide)
    (hpl : (backTo pos (starEach [] X.env)).any (·.1) = false := by rfl) : EN X own (.Call (.Name x p) [e] [] pos) (fList g (a1 f)) := ⟨PE.ent (pe_callB hc hg hm hv (pa_cons ha.run pa_nil hs) hn hdb hs hpl) ent_call1F⟩
theorem ex_t1 (hc : CallV X (.type T) g) (ha : EP' X own e f) (hg : Gl X x) (hm : X.mg x = none) (hv : bootBuiltins x = some (.type T)) (hs : starEach [e] X.env = (false, eval e X.env) :: starEach [] X.env := by rfl) (hn : x ≠ "__name__" := by decide) (hdb : (x == ("__debug__" : Str)) = false := by decide)
    (hpl : (backTo pos (starEach [] X.env)).any (·.1) = false := by rfl) : EX X own (.Call (.Name x p) [e] [] pos) (fList g (a1 f)) := ⟨PE.ent (pe_callTy hc hg hm hv (pa_cons ha.run pa_nil hs) hn hdb hs hpl) ent_call1⟩
theorem en_t1 (hc : CallF X (.type T) g) (ha : EP' X own e f) (hg : Gl X x) (hm : X.mg x = none) (hv : bootBuiltins x = some (.type T)) (hs : starEach [e] X.env = (false, eval e X.env) :: starEach [] X.env := by rfl) (hn : x ≠ "__name__" := by decide) (hdb : (x == ("__debug__" : Str)) = false := by decide)
    (hpl : (backTo pos (starEach [] X.env)).any (·.1) = false := by rfl) : EN X own (.Call (.Name x p) [e] [] pos) (fList g (a1 f)) := ⟨PE.ent (pe_callTy hc hg hm hv (pa_cons ha.run pa_nil hs) hn hdb hs hpl) ent_call1F⟩
theorem ex_b (hc : CallV X (.builtin id) g) {ff : AF} (ha : AX X own (e :: es) ff) (hg : Gl X x) (hm : X.mg x = none) (hv : bootBuiltins x = some (.builtin id)) (hs : starEach (e :: es) X.env = (false, eval e X.env) :: starEach es X.env := by rfl) (hn : x ≠ "__name__" := by decide) (hdb : (x == ("__debug__" : Str)) = false := by decide)
    (hpl : (backTo pos (starEach es X.env)).any (·.1) = false := by rfl) : EX X own (.Call (.Name x p) (e :: es) [] pos) (fList g ff) := ⟨PE.ent (pe_callB hc hg hm hv ha.run hn hdb hs hpl) ent_call⟩
end
/-! displays -/
def gTuple : GL := fun vs => if vs.length ≤ 1000000 then some (.tup vs) else none
def gListD : GL := fun vs => if vs.length ≤ 1000000 then some (.lst vs) else none
theorem ex_tup {ff : AF} {x1} (h : AX X own es ff) : EX X own (.Tuple es x1 pos) (fList gTuple ff) := ⟨PE.ent (pe_tupF h.run) fun σ H Q ⟨B, ρ, v, ρ', H1, S, e, k⟩ => by
  obtain ⟨vs, e1, e2⟩ := inv_list e
  refine ⟨B, ρ, vs, ρ', H1, S, e1, fun xs H' H1' le S' rs => ?_⟩
  unfold gTuple at e2
  split at e2
  · rename_i hl
    cases e2
    refine ⟨by rw [rs.length, sizeLine_eq]; omega, fun p ob hp hd => ?_⟩
    have ex := Ext.alloc (o := .frz ob (.tup xs)) S'.sub hp
    refine k _ _ _ (le.trans ex.le) (S'.ext ex) ?_
    simp only [Rep]
    exact ⟨p, xs, rfl, TupAt.new hd, rs.mono ex.le _ _⟩
  · cases e2⟩
theorem en_lst {ff : AF} (h : AX X own es ff) : EN X own (.List es pos) (fList gListD ff) := ⟨PE.ent (pe_lst h.run) fun σ H Q ⟨B, ρ, v, ρ', H1, S, e, k⟩ => by
  obtain ⟨vs, e1, e2⟩ := inv_list e
  refine ⟨B, ρ, vs, ρ', H1, S, e1, fun xs H' H1' le S' rs => ?_⟩
  unfold gListD at e2
  split at e2
  · rename_i hl
    cases e2
    refine ⟨by rw [rs.length, sizeLine_eq]; omega, fun p hp => ?_⟩
    exact k _ _ _ le (FR.mk' S' (fun b o q => by rw [upd_ne (ne_of_none q hp)]; exact q) hp ⟨xs, upd_same, rs⟩)
  · cases e2⟩
/-! unary, not, and, or, if -/
def UnV (X : Cx) (f : Value → Sem Value) (g : PV → Option PV) : Prop := UnR X f (fun x H Q => ∃ p v H1, Sub H1 H ∧ RT X.K H1 H p x ∧ g p = some v ∧ kV' X.K v H1 H Q)
theorem ex_un {op : UnaryOp} {g : PV → Option PV} (ho : UnV X (unaryOp op) g) (ha : EX X own a fa) : EX X own (.UnaryOp op a pos) (fUn g fa) := ⟨PE.ent (pe_un ho ha.run) fun σ H Q ⟨B, ρ, v, ρ', H1, S, e, k⟩ => by
  obtain ⟨w, e1, e2⟩ := inv_un e
  exact ⟨B, ρ, w, ρ', H1, S, e1, fun x H' H1' le S' rx => ⟨w, v, H1', S'.sub, rx.rt S'.sub.le, e2, fun z H3 H13 ex rz => k z H3 H13 (le.trans ex.le) (S'.ext ex) rz⟩⟩⟩
def fNotT (f : TF) : TF := fun ρ => (f ρ).bind fun r => some (!r.1, r.2)
def fAndT (f g : TF) : TF := fun ρ => (f ρ).bind fun r => if r.1 = true then g r.2 else some (false, r.2)
def fOrT (f g : TF) : TF := fun ρ => (f ρ).bind fun r => if r.1 = true then some (true, r.2) else g r.2
def fIf {α : Type} (c : TF) (f g : Env → Option (α × Env)) : Env → Option (α × Env) := fun ρ => (c ρ).bind fun r => if r.1 = true then f r.2 else g r.2
/-- a test as a value -/
def fB (f : TF) : EF := fun ρ => (f ρ).bind fun r => some (.bl r.1, r.2)
theorem inv_b1 {α β : Type} {f : Env → Option (α × Env)} {k : α × Env → Option β} {ρ : Env} {r : β} (e : (f ρ).bind k = some r) : ∃ a ρ1, f ρ = some (a, ρ1) ∧ k (a, ρ1) = some r := by
  obtain ⟨⟨va, ρ1⟩, ea, e⟩ := Option.bind_eq_some_iff.mp e
  exact ⟨va, ρ1, ea, e⟩
theorem tx_not {f : TF} (h : TX X own a f) : TX X own (.UnaryOp .Not a pos) (fNotT f) := ⟨PT.ent (pt_not h.run) fun σ H Q ⟨B, ρ, v, ρ', H1, S, e, k⟩ => by
  obtain ⟨b, ρ1, e1, e2⟩ := inv_b1 e
  cases e2
  exact ⟨B, ρ, b, ρ1, H1, S, e1, fun H' H1' le S' => k H' H1' le S'⟩⟩
structure WX (X : Cx) (own : List Nat) (e : Expr) (f : TF) : Prop where run : L2.PW X e (tT X.K own f)
theorem WX.t {f : TF} (h : WX X own e f) : TX X own e f := ⟨h.run.pt⟩
theorem wx_and1 {f : TF} (h : TX X own a f) : WX X own (.BoolOp .And [a] pos) f := ⟨pw_and1 h.run⟩
theorem wx_or1 {f : TF} (h : TX X own a f) : WX X own (.BoolOp .Or [a] pos) f := ⟨pw_or1 h.run⟩
theorem wx_and {f g : TF} (h : TX X own a f) (h2 : WX X own (.BoolOp .And (b :: es) pos) g) : WX X own (.BoolOp .And (a :: b :: es) pos) (fAndT f g) := ⟨PW.ent (pw_and h.run h2.run) fun σ H Q ⟨B, ρ, v, ρ', H1, S, e, k⟩ => by
  obtain ⟨b, ρ1, e1, e2⟩ := inv_b1 e
  refine ⟨B, ρ, b, ρ1, H1, S, e1, fun H' H1' le S' => ?_⟩
  cases b with
  | true => exact iteT ⟨B, ρ1, v, ρ', H1', S', e2, fun H2 H12 le2 S2 => k H2 H12 (le.trans le2) S2⟩
  | false => cases e2; exact iteF (k H' H1' le S')⟩
theorem wx_or {f g : TF} (h : TX X own a f) (h2 : WX X own (.BoolOp .Or (b :: es) pos) g) : WX X own (.BoolOp .Or (a :: b :: es) pos) (fOrT f g) := ⟨PW.ent (pw_or h.run h2.run) fun σ H Q ⟨B, ρ, v, ρ', H1, S, e, k⟩ => by
  obtain ⟨b, ρ1, e1, e2⟩ := inv_b1 e
  refine ⟨B, ρ, b, ρ1, H1, S, e1, fun H' H1' le S' => ?_⟩
  cases b with
  | false => exact iteF ⟨B, ρ1, v, ρ', H1', S', e2, fun H2 H12 le2 S2 => k H2 H12 (le.trans le2) S2⟩
  | true => cases e2; exact iteT (k H' H1' le S')⟩
theorem ex_ifExp {f : TF} (hc : TX X own c f) (ha : EX X own a fa) (hb : EX X own b fb) : EX X own (.IfExp c a b pos) (fIf f fa fb) := ⟨PE.ent (pe_ifExp hc.run ha.run hb.run) fun σ H Q ⟨B, ρ, v, ρ', H1, S, e, k⟩ => by
  obtain ⟨b, ρ1, e1, e2⟩ := inv_b1 e
  refine ⟨B, ρ, b, ρ1, H1, S, e1, fun H' H1' le S' => ?_⟩
  cases b with
  | true => exact iteT ⟨B, ρ1, v, ρ', H1', S', e2, fun x H2 H12 le2 S2 => k x H2 H12 (le.trans le2) S2⟩
  | false => exact iteF ⟨B, ρ1, v, ρ', H1', S', e2, fun x H2 H12 le2 S2 => k x H2 H12 (le.trans le2) S2⟩⟩
/-! not, and, or of bools as values -/
def fNotV (f : EF) : EF := fUn (fun p => match p with | .bl b => some (.bl (!b)) | _ => none) f
def fAndV (f g : EF) : EF := fun ρ => (f ρ).bind fun r => match r.1 with | .bl true => g r.2 | .bl false => some (.bl false, r.2) | _ => none
def fOrV (f g : EF) : EF := fun ρ => (f ρ).bind fun r => match r.1 with | .bl false => g r.2 | .bl true => some (.bl true, r.2) | _ => none
theorem ex_one {op} (h : EX X own a f) : EX X own (.BoolOp op [a] pos) f := ⟨pe_one h.run⟩
theorem ex_not (h : EX X own a f) : EX X own (.UnaryOp .Not a pos) (fNotV f) := ⟨PE.ent (pe_not h.run) fun σ H Q ⟨B, ρ, v, ρ', H1, S, e, k⟩ => by
  obtain ⟨w, e1, e2⟩ := inv_un e
  refine ⟨B, ρ, w, ρ', H1, S, e1, fun x H' H1' le S' rx => ?_⟩
  cases w with
  | bl b =>
    cases e2
    simp only [Rep] at rx
    exact ⟨b, rx, k _ H' H1' le S' rep_bl⟩
  | _ => cases e2⟩
theorem ex_and (h : EX X own a fa) (h2 : EX X own (.BoolOp .And (b :: es) pos) fb) : EX X own (.BoolOp .And (a :: b :: es) pos) (fAndV fa fb) := ⟨PE.ent (pe_and h.run h2.run) fun σ H Q ⟨B, ρ, v, ρ', H1, S, e, k⟩ => by
  obtain ⟨w, ρ1, e1, e2⟩ := inv_b1 e
  refine ⟨B, ρ, w, ρ1, H1, S, e1, fun x H' H1' le S' rx => ?_⟩
  cases w with
  | bl b =>
    simp only [Rep] at rx
    refine ⟨b, rx, ?_⟩
    cases b with
    | true => exact iteT ⟨B, ρ1, v, ρ', H1', S', e2, fun x H2 H12 le2 S2 => k x H2 H12 (le.trans le2) S2⟩
    | false => cases e2; exact iteF (k _ H' H1' le S' rep_bl)
  | _ => cases e2⟩
theorem ex_or (h : EX X own a fa) (h2 : EX X own (.BoolOp .Or (b :: es) pos) fb) : EX X own (.BoolOp .Or (a :: b :: es) pos) (fOrV fa fb) := ⟨PE.ent (pe_or h.run h2.run) fun σ H Q ⟨B, ρ, v, ρ', H1, S, e, k⟩ => by
  obtain ⟨w, ρ1, e1, e2⟩ := inv_b1 e
  refine ⟨B, ρ, w, ρ1, H1, S, e1, fun x H' H1' le S' rx => ?_⟩
  cases w with
  | bl b =>
    simp only [Rep] at rx
    refine ⟨b, rx, ?_⟩
    cases b with
    | false => exact iteF ⟨B, ρ1, v, ρ', H1', S', e2, fun x H2 H12 le2 S2 => k x H2 H12 (le.trans le2) S2⟩
    | true => cases e2; exact iteT (k _ H' H1' le S' rep_bl)
  | _ => cases e2⟩
/-! truth -/
def gTru : PV → Option Bool
  | .non => some false
  | .bl b => some b
  | .int i => some (i != 0)
  | .str y => if y.length ≤ 1000000 then some ((y.length : Int) != 0) else none
  | .tup xs => some (!xs.isEmpty)
  | .lst xs => some (!xs.isEmpty)
  | _ => none
def fTru (f : EF) : TF := fun ρ => (f ρ).bind fun r => (gTru r.1).map fun b => (b, r.2)
theorem isEmpty_rep {K : PySem.W.Frag} {H : Hp} : ∀ {ps : List PV} {vs : List V}, RepL K H ps vs → vs.isEmpty = ps.isEmpty
  | [], _, h => by rw [RepL.nil_iff.mp h]; rfl
  | p :: ps, _, h => by obtain ⟨v, r, rfl, a, b⟩ := RepL.cons_iff.mp h; rfl
theorem rt_tup {K : PySem.W.Frag} {H1 H : Hp} {xs : List PV} {x : V} (r : RT K H1 H (.tup xs) x) : ∃ a vs, x = .ref a ∧ TupAt K H1 a vs ∧ RepL K H1 xs vs := by
  have h : Rep K H1 (.tup xs) x := r
  simpa only [Rep] using h
theorem tru_rt {K : PySem.W.Frag} {H1 H : Hp} {p : PV} {x : V} {b : Bool} (le : LeR H1 H) (r : RT K H1 H p x) (e : gTru p = some b) : TruV K x H b := by
  cases p with
  | non => cases e; have := r.scal; simp only at this; subst this; rfl
  | bl c => cases e; have := r.scal; simp only at this; subst this; rfl
  | int c => cases e; have := r.scal; simp only at this; subst this; rfl
  | str c =>
    have := r.scal; simp only at this; subst this
    simp only [gTru] at e
    split at e
    · rename_i hl
      cases e
      exact ⟨by rw [sizeLine_eq]; omega, rfl⟩
    · cases e
  | tup xs => cases e; obtain ⟨a, vs, rfl, q, rl⟩ := rt_tup r; exact .inr (.inl ⟨vs, le.sqT q.sq, by rw [isEmpty_rep rl]⟩)
  | lst xs => cases e; obtain ⟨a, vs, rfl, q, rl⟩ := r; exact .inl ⟨vs, .inl q, by rw [isEmpty_rep rl]⟩
  | _ => cases e
theorem tx_tru (h : EP' X own a f) (he : ∀ whole, isTrue a X.env whole = (do let v ← whole; standAt a.pos; holding [v] (truthy v)) := by intro _; rfl) : TX X own a (fTru f) := ⟨PT.ent (pt_truth h.run he) fun σ H Q ⟨B, ρ, v, ρ', H1, S, e, k⟩ => by
  obtain ⟨w, ρ1, e1, e2⟩ := inv_b1 e
  obtain ⟨b, e3, e4⟩ := Option.map_eq_some_iff.mp e2
  cases e4
  exact ⟨B, ρ, w, ρ1, H1, S, e1, fun x H' H1' le S' rx => ⟨v, tru_rt S'.sub.le rx e3, k H' H1' le S'⟩⟩⟩
end
end PT

set_option Elab.async false
set_option linter.all false
set_option autoImplicit false
set_option maxRecDepth 100000
set_option maxHeartbeats 4000000
/-! PT4: statements, loops, defs and their calls. -/
namespace PT
open PySem PySem.Spec PyProof.Rows L2

/-- what is asked behind a statement -/
def Post (K : PySem.W.Frag) (B : Base) (lm own' : List Nat) (D : Ends) (fl : Fl) (ρ' : Env) (H1 : Hp) : Prop := match fl with
  | .nx => ∀ σ' H' H1', LeR H1 H1' → SR K B own' ρ' σ' H1' H' → D.nx σ' H'
  | .bk => ∀ σ' H' H1', LeR H1 H1' → SR K B lm ρ' σ' H1' H' → D.bk σ' H'
  | .ct => ∀ σ' H' H1', LeR H1 H1' → SR K B lm ρ' σ' H1' H' → D.ct σ' H'
  | .rt v => ∀ x ow σ' H' H1', LeR H1 H1' → SR K B ow ρ' σ' H1' H' → Rep K H1' v x → D.rt x H'
theorem Post.mono {K : PySem.W.Frag} {B : Base} {lm own' : List Nat} {D : Ends} {fl : Fl} {ρ' : Env} {H1 H2 : Hp} (le : LeR H1 H2) (h : Post K B lm own' D fl ρ' H1) : Post K B lm own' D fl ρ' H2 := by
  cases fl with
  | nx => exact fun σ' H' H1' l S => h σ' H' H1' (le.trans l) S
  | bk => exact fun σ' H' H1' l S => h σ' H' H1' (le.trans l) S
  | ct => exact fun σ' H' H1' l S => h σ' H' H1' (le.trans l) S
  | rt v => exact fun x ow σ' H' H1' l S r => h x ow σ' H' H1' (le.trans l) S r
def tS (K : PySem.W.Frag) (io lm own own' : List Nat) (f : SF) : TS := fun D σ H => ∃ B ρ fl ρ' H1, (∀ p ∈ B.io, p.1 ∈ io) ∧ SR K B own ρ σ H1 H ∧ f ρ = some (fl, ρ') ∧ Post K B lm own' D fl ρ' H1
structure SX (X : Cx) (io lm own own' : List Nat) (st : Stmt) (f : SF) : Prop where run : PS X st (tS X.K io lm own own' f)
structure SsX (X : Cx) (io lm own own' : List Nat) (st : List Stmt) (f : SF) : Prop where run : PSs X st (tS X.K io lm own own' f)
theorem PS.ent {X : Cx} {e : Stmt} {t t' : TS} (h : PS X e t) (en : ∀ D σ H, t' D σ H → t D σ H) : PS X e t' := ⟨fun pins s σ H Q I q => h.run pins s σ H Q I (en _ _ _ q)⟩
theorem PSs.ent {X : Cx} {e : List Stmt} {t t' : TS} (h : PSs X e t) (en : ∀ D σ H, t' D σ H → t D σ H) : PSs X e t' := ⟨fun pins s σ H Q I q => h.run pins s σ H Q I (en _ _ _ q)⟩

def fNx : SF := fun ρ => some (.nx, ρ)
def fSeq (f g : SF) : SF := fun ρ => (f ρ).bind fun r => match r.1 with
  | .nx => g r.2
  | fl => some (fl, r.2)
def fRet (f : EF) : SF := fun ρ => (f ρ).bind fun r => some (.rt r.1, r.2)
def fDrop (f : EF) : SF := fun ρ => (f ρ).bind fun r => some (.nx, r.2)
def fSet (i : Nat) (f : EF) : SF := fun ρ => (f ρ).bind fun r => some (.nx, r.2.set i (some r.1))
section
variable {X : Cx} {io lm own own' own2 : List Nat} {st : Stmt} {rest : List Stmt} {f g : SF} {e : Expr} {fe : EF} {pos : Pos}
theorem ss_nil : SsX X io lm own own [] fNx := ⟨PSs.ent pss_nil fun D σ H ⟨B, ρ, fl, ρ', H1, hio, S, e, k⟩ => by
  cases e
  exact k σ H H1 (LeR.refl _) S⟩
theorem ss_one (h : SX X io lm own own' st f) : SsX X io lm own own' [st] f := ⟨pss_one h.run⟩
theorem ss_cons (h : SX X io lm own own' st f) (h2 : SsX X io lm own' own2 rest g) : SsX X io lm own own2 (st :: rest) (fSeq f g) := ⟨PSs.ent (pss_cons h.run h2.run) fun D σ H ⟨B, ρ, fl, ρ', H1, hio, S, e, k⟩ => by
  obtain ⟨fl1, ρ1, e1, e2⟩ := inv_b1 e
  refine ⟨B, ρ, fl1, ρ1, H1, hio, S, e1, ?_⟩
  cases fl1 with
  | nx => exact fun σ' H' H1' le S' => ⟨B, ρ1, fl, ρ', H1', hio, S', e2, k.mono le⟩
  | bk => cases e2; exact k
  | ct => cases e2; exact k
  | rt v => cases e2; exact k⟩
theorem sx_ret (h : EX X own e fe) : SX X io lm own own' (.Return (some e) pos) (fRet fe) := ⟨PS.ent (ps_ret h.run) fun D σ H ⟨B, ρ, fl, ρ', H1, hio, S, e, k⟩ => by
  obtain ⟨v, ρ1, e1, e2⟩ := inv_b1 e
  cases e2
  exact ⟨B, ρ, v, ρ1, H1, S, e1, fun x H' H1' le S' r => k x own σ H' H1' le S' r⟩⟩
theorem sx_retN : SX X io lm own own' (.Return none pos) (fRet (fC .non)) := ⟨PS.ent ps_retN fun D σ H ⟨B, ρ, fl, ρ', H1, hio, S, e, k⟩ => by
  cases e
  exact k .non own σ H H1 (LeR.refl _) S rep_non⟩
theorem sx_pass : SX X io lm own own (.Pass pos) fNx := ⟨PS.ent ps_pass fun D σ H ⟨B, ρ, fl, ρ', H1, hio, S, e, k⟩ => by
  cases e
  exact k σ H H1 (LeR.refl _) S⟩
theorem sx_break : SX X io lm lm own' (.Break pos) (fun ρ => some (.bk, ρ)) := ⟨PS.ent ps_break fun D σ H ⟨B, ρ, fl, ρ', H1, hio, S, e, k⟩ => by
  cases e
  exact k σ H H1 (LeR.refl _) S⟩
theorem sx_cont : SX X io lm lm own' (.Continue pos) (fun ρ => some (.ct, ρ)) := ⟨PS.ent ps_continue fun D σ H ⟨B, ρ, fl, ρ', H1, hio, S, e, k⟩ => by
  cases e
  exact k σ H H1 (LeR.refl _) S⟩
theorem sx_expr (h : EX X own e fe) (hs : swapsWith e none pos.line X.env = pure false := by rfl) : SX X io lm own own (.Expr e pos) (fDrop fe) := ⟨PS.ent (ps_expr h.run hs) fun D σ H ⟨B, ρ, fl, ρ', H1, hio, S, e, k⟩ => by
  obtain ⟨v, ρ1, e1, e2⟩ := inv_b1 e
  cases e2
  exact ⟨B, ρ, v, ρ1, H1, S, e1, fun x H' H1' le S' r => k σ H' H1' le S'⟩⟩
/-- code that is never reached -/
theorem sx_never : SX X io lm own own' st (fun _ => none) := ⟨PS.ent ps_never fun D σ H ⟨B, ρ, fl, ρ', H1, hio, S, e, k⟩ => by cases e⟩
/-- x = e -/
theorem sx_set {i : Nat} {x : Str} {pos' : Pos} (hN : X.N.Nodup) (hi : X.N[i]? = some x) (hx : Loc X.env.scope x) (hown : i ∉ own) (h : EX X own e fe) (hs : swapsWith e (some (.Name x pos')) pos.line X.env = pure false := by rfl)
    (hf : X.fn x = true ∨ X.env.scope.names.lookup x = some .local := by first | exact .inl rfl | exact .inr rfl | assumption) : SX X io lm own own (.Assign [.Name x pos'] e pos) (fSet i fe) := ⟨PS.ent (ps_set hN hi hx h.run hs hf) fun D σ H ⟨B, ρ, fl, ρ', H1, hio, S, e, k⟩ => by
  obtain ⟨v, ρ1, e1, e2⟩ := inv_b1 e
  cases e2
  exact ⟨B, ρ, v, ρ1, H1, S, e1, fun x H' H1' le S' r => k _ H' H1' le (S'.set hown r)⟩⟩
/-- .. a new thing of the body's own -/
theorem sx_setN {i : Nat} {x : Str} {pos' : Pos} (hN : X.N.Nodup) (hi : X.N[i]? = some x) (hx : Loc X.env.scope x) (hio : i ∉ io) (ho : ∀ j, j ∈ own' ↔ j = i ∨ j ∈ own) (h : EN X own e fe) (hs : swapsWith e (some (.Name x pos')) pos.line X.env = pure false := by rfl)
    (hf : X.fn x = true ∨ X.env.scope.names.lookup x = some .local := by first | exact .inl rfl | exact .inr rfl | assumption) : SX X io lm own own' (.Assign [.Name x pos'] e pos) (fSet i fe) := ⟨PS.ent (ps_set hN hi hx h.run hs hf) fun D σ H ⟨B, ρ, fl, ρ', H1, hi', S, e, k⟩ => by
  obtain ⟨v, ρ1, e1, e2⟩ := inv_b1 e
  cases e2
  exact ⟨B, ρ, v, ρ1, H1, S, e1, fun a H' H1' le F => k _ H' H1' le (F.sr.setO (fun p hp (e : p.1 = i) => hio (by rw [← e]; exact hi' p hp)) ho F.n0 F.n1 F.rep F.ne)⟩⟩
theorem sx_if {c : Expr} {a b : List Stmt} {fc : TF} (hc : TX X own c fc) (ha : SsX X io lm own own' a f) (hb : SsX X io lm own own' b g) : SX X io lm own own' (.If c a b pos) (fIf fc f g) := ⟨PS.ent (ps_if hc.run ha.run hb.run) fun D σ H ⟨B, ρ, fl, ρ', H1, hio, S, e, k⟩ => by
  obtain ⟨b, ρ1, e1, e2⟩ := inv_b1 e
  refine ⟨B, ρ, b, ρ1, H1, S, e1, fun H' H1' le S' => ?_⟩
  cases b with
  | true => exact iteT ⟨B, ρ1, fl, ρ', H1', hio, S', e2, k.mono le⟩
  | false => exact iteF ⟨B, ρ1, fl, ρ', H1', hio, S', e2, k.mono le⟩⟩
/-- an own thing becomes shared ahead of a statement -/
theorem sx_fz (i : Nat) (hio : i ∉ io) (ho : ∀ j, j ∈ own ↔ j = i ∨ j ∈ own2) (hn : i ∉ own2) (h : SX X io lm own2 own' st f) : SX X io lm own own' st f := ⟨PS.ent h.run fun D σ H ⟨B, ρ, fl, ρ', H1, hi, S, e, k⟩ => by
  obtain ⟨H1', le, S'⟩ := S.freeze (fun p hp (e : p.1 = i) => hio (by rw [← e]; exact hi p hp)) ho hn
  exact ⟨B, ρ, fl, ρ', H1', hi, S', e, k.mono le⟩⟩
/-- .. ahead of a block -/
theorem ss_fz (i : Nat) (hio : i ∉ io) (ho : ∀ j, j ∈ own ↔ j = i ∨ j ∈ own2) (hn : i ∉ own2) (h : SsX X io lm own2 own' rest f) : SsX X io lm own own' rest f := ⟨PSs.ent h.run fun D σ H ⟨B, ρ, fl, ρ', H1, hi, S, e, k⟩ => by
  obtain ⟨H1', le, S'⟩ := S.freeze (fun p hp (e : p.1 = i) => hio (by rw [← e]; exact hi p hp)) ho hn
  exact ⟨B, ρ, fl, ρ', H1', hi, S', e, k.mono le⟩⟩
/-- the same own slots, written otherwise -/
theorem SR.same {K : PySem.W.Frag} {B : Base} {own own' : List Nat} {ρ : Env} {σ : L2.St} {H1 H : Hp} (S : SR K B own ρ σ H1 H) (h : ∀ j, j ∈ own ↔ j ∈ own') : SR K B own' ρ σ H1 H :=
  ⟨S.len, S.sub, S.fr, fun i v hi => S.sh i v fun z => hi ((h i).mp z), fun i v hi => S.ow i v ((h i).mpr hi), fun i j v w a hi hj => S.ds i j v w a ((h i).mpr hi) ((h j).mpr hj), fun p hp => let ⟨a, b, c⟩ := S.io p hp; ⟨a, (h _).mp b, c⟩⟩
theorem ss_same (ho : ∀ j, j ∈ own ↔ j ∈ own2) (h : SsX X io lm own2 own' rest f) : SsX X io lm own own' rest f := ⟨PSs.ent h.run fun D σ H ⟨B, ρ, fl, ρ', H1, hi, S, e, k⟩ =>
  ⟨B, ρ, fl, ρ', H1, hi, S.same ho, e, k⟩⟩
end

/-! ### targets -/
def tG (K : PySem.W.Frag) (own : List Nat) (t : PV → Env → Option Env) : TG := fun x σ H Q => ∃ B ρ p ρ' H1, SR K B own ρ σ H1 H ∧ Rep K H1 p x ∧ t p ρ = some ρ' ∧ ∀ σ' H' H1', LeR H1 H1' → SR K B own ρ' σ' H1' H' → Q σ' H'
def tGs (K : PySem.W.Frag) (own : List Nat) (t : List PV → Env → Option Env) : TGs := fun xs σ H Q => ∃ B ρ ps ρ' H1, SR K B own ρ σ H1 H ∧ RepL K H1 ps xs ∧ t ps ρ = some ρ' ∧ ∀ σ' H' H1', LeR H1 H1' → SR K B own ρ' σ' H1' H' → Q σ' H'
structure GX (X : Cx) (own : List Nat) (tg : Expr) (t : PV → Env → Option Env) : Prop where run : PG X tg (tG X.K own t)
structure GsX (X : Cx) (own : List Nat) (tg : List Expr) (t : List PV → Env → Option Env) : Prop where run : PGs X tg (tGs X.K own t)
theorem PG.ent {X : Cx} {e : Expr} {t t' : TG} (h : PG X e t) (en : ∀ v σ H Q, t' v σ H Q → t v σ H Q) : PG X e t' := ⟨fun pins s σ H v u Q I r q => h.run pins s σ H v u Q I r (en _ _ _ _ q)⟩
theorem PGs.ent {X : Cx} {e : List Expr} {t t' : TGs} (h : PGs X e t) (en : ∀ v σ H Q, t' v σ H Q → t v σ H Q) : PGs X e t' := ⟨fun pins s σ H v u Q I r q => h.run pins s σ H v u Q I r (en _ _ _ _ q)⟩
def tName (i : Nat) : PV → Env → Option Env := fun p ρ => some (ρ.set i (some p))
def tsNil : List PV → Env → Option Env := fun ps ρ => match ps with | [] => some ρ | _ => none
def tsCons (t : PV → Env → Option Env) (u : List PV → Env → Option Env) : List PV → Env → Option Env := fun ps ρ => match ps with
  | [] => none
  | p :: ps => (t p ρ).bind fun ρ1 => u ps ρ1
def tTupG (n : Nat) (u : List PV → Env → Option Env) : PV → Env → Option Env := fun p ρ => match p with
  | .tup xs => if xs.length = n then u xs ρ else none
  | _ => none
section
variable {X : Cx} {own : List Nat} {tg : Expr} {tgs : List Expr} {t : PV → Env → Option Env} {u : List PV → Env → Option Env} {pos : Pos}
theorem gx_name {i : Nat} {x : Str} (hN : X.N.Nodup) (hi : X.N[i]? = some x) (hx : Loc X.env.scope x) (hown : i ∉ own) (hf : X.fn x = true ∨ X.env.scope.names.lookup x = some .local := by first | exact .inl rfl | exact .inr rfl | assumption) :
    GX X own (.Name x pos) (tName i) := ⟨PG.ent (pg_name hN hi hx hf) fun v σ H Q ⟨B, ρ, p, ρ', H1, S, r, e, k⟩ => by
  cases e
  exact k _ H H1 (LeR.refl _) (S.set hown r)⟩
theorem gs_nil : GsX X own [] tsNil := ⟨PGs.ent pgs_nil fun v σ H Q ⟨B, ρ, p, ρ', H1, S, r, e, k⟩ => by
  cases p with
  | nil => cases e; exact ⟨RepL.nil_iff.mp r, k σ H H1 (LeR.refl _) S⟩
  | cons p ps => cases e⟩
theorem gs_cons (h1 : GX X own tg t) (h2 : GsX X own tgs u) (hs : (assignEach (tg :: tgs) X.env).map (·.2) = assign tg X.env :: (assignEach tgs X.env).map (·.2) := by rfl) : GsX X own (tg :: tgs) (tsCons t u) := ⟨PGs.ent (pgs_cons h1.run h2.run hs) fun v σ H Q ⟨B, ρ, p, ρ', H1, S, r, e, k⟩ => by
  cases p with
  | nil => cases e
  | cons p ps =>
    obtain ⟨ρ1, e1, e2⟩ := Option.bind_eq_some_iff.mp e
    obtain ⟨w, ws, rfl, ra, rb⟩ := RepL.cons_iff.mp r
    refine ⟨w, ws, rfl, B, ρ, p, ρ1, H1, S, ra, e1, fun σ' H' H1' le S' => ?_⟩
    exact ⟨B, ρ1, ps, ρ', H1', S', rb.mono le _ _, e2, fun σ2 H2 H12 le2 S2 => k σ2 H2 H12 (le.trans le2) S2⟩⟩
theorem gx_tup {k n : Nat} (hc : X.calm = true) (h : GsX X own tgs u) (hn : (assignEach tgs X.env).length = n := by rfl) (hst : (assignEach tgs X.env).findIdx? (·.1) = none := by rfl) : GX X own (.Tuple tgs k pos) (tTupG n u) := ⟨PG.ent (pg_tup hc h.run hn hst) fun v σ H Q ⟨B, ρ, p, ρ', H1, S, r, e, k⟩ => by
  cases p with
  | tup xs =>
    unfold tTupG at e
    simp only at e
    split at e
    · rename_i hl
      simp only [Rep] at r
      obtain ⟨a, vs, rfl, q, rl⟩ := r
      exact ⟨a, vs, rfl, S.sub.le.sqT q.sq, by rw [rl.length]; exact hl, B, ρ, xs, ρ', H1, S, rl, e, k⟩
    · cases e
  | _ => cases e⟩
end

/-! ### what is walked -/
def Walks' (K : PySem.W.Frag) (J : It) (H1 : Hp) (its : List PV) : Prop := ∀ H1' H', LeR H1 H1' → Sub H1' H' →
  (∀ (i : Nat) p, its[i]? = some p → J.go i H' ∧ ∀ x H'', J.yld i H' x H'' → ∃ H1'', Ext H1' H' H1'' H'' ∧ Rep K H1'' p x) ∧ J.stop its.length H'
def tI (K : PySem.W.Frag) (own : List Nat) (f : AF) : TI := fun σ H R => ∃ B ρ its ρ' H1, SR K B own ρ σ H1 H ∧ f ρ = some (its, ρ') ∧ ∀ J H' H1', LeR H1 H1' → SR K B own ρ' σ H1' H' → Walks' K J H1' its → R J H'
structure IX (X : Cx) (own : List Nat) (tg iter : Expr) (f : AF) : Prop where run : PI X tg iter (tI X.K own f)
theorem PI.ent {X : Cx} {tg e : Expr} {t t' : TI} (h : PI X tg e t) (en : ∀ σ H Q, t' σ H Q → t σ H Q) : PI X tg e t' := ⟨fun pins s σ H Q I q => h.run pins s σ H Q I (en _ _ _ q)⟩
def iL (f : EF) : AF := fun ρ => (f ρ).bind fun r => match r.1 with | .lst xs => some (xs, r.2) | _ => none
def iT (f : EF) : AF := fun ρ => (f ρ).bind fun r => match r.1 with | .tup xs => some (xs, r.2) | _ => none
def rngP (lo : Int) (n : Nat) : List PV := (List.range n).map fun (i : Nat) => PV.int (lo + (i : Int))
def i62 (i : Int) : Bool := decide (-4611686018427387904 ≤ i) && decide (i < 4611686018427387904)
def iR1 (f : EF) : AF := fun ρ => (f ρ).bind fun r => match r.1 with | .int j => if i62 j = true then some (rngP 0 j.toNat, r.2) else none | _ => none
def iR2 (f g : EF) : AF := fun ρ => (f ρ).bind fun r => (g r.2).bind fun s => match r.1, s.1 with
  | .int i, .int j => if (i62 i && i62 j) = true then some (rngP i (j - i).toNat, s.2) else none
  | _, _ => none
theorem i62_iff {i : Int} (h : i62 i = true) : -(2 ^ 62) ≤ i ∧ i < 2 ^ 62 := by
  unfold i62 at h
  simp only [Bool.and_eq_true, decide_eq_true_eq] at h
  omega
theorem rngP_get {lo : Int} {n i : Nat} {p : PV} (h : (rngP lo n)[i]? = some p) : i < n ∧ p = .int (lo + (i : Int)) := by
  unfold rngP at h
  rw [List.getElem?_map] at h
  by_cases hi : i < n
  · rw [List.getElem?_range hi] at h
    cases h
    exact ⟨hi, rfl⟩
  · rw [List.getElem?_eq_none (by simpa using hi)] at h; cases h
theorem rngP_length (lo : Int) (n : Nat) : (rngP lo n).length = n := by simp [rngP]
section
variable {X : Cx} {own : List Nat} {tg e a b : Expr} {fe fa fb : EF} {pos p : Pos}
theorem ix_lst (h : EX X own e fe) : IX X own tg e (iL fe) := ⟨PI.ent (pi_list h.run) fun σ H R ⟨B, ρ, its, ρ', H1, S, e, k⟩ => by
  obtain ⟨v, ρ1, e1, e2⟩ := inv_b1 e
  cases v with
  | lst xs =>
    cases e2
    refine ⟨B, ρ, .lst its, ρ1, H1, S, e1, fun x H' H1' le S' r => ?_⟩
    simp only [Rep] at r
    obtain ⟨a, vs, rfl, q, rl⟩ := r
    have q : SqL X.K H1' a vs := .inl q
    refine ⟨a, rfl, ⟨vs, S'.sub.le.sqL q⟩, k _ H' H1' le S' fun H2 H3 le2 sub => ⟨fun i p hp => ?_, ⟨vs, sub.le.sqL (le2.sqL q), by rw [rl.length]; exact Nat.le_refl _⟩⟩⟩
    obtain ⟨w, h1, h2⟩ := rl.get hp
    have q3 : SqL X.K H3 a vs := sub.le.sqL (le2.sqL q)
    refine ⟨⟨vs, w, q3, h1⟩, fun y H'' yl => ?_⟩
    obtain ⟨rfl, hy⟩ := yl
    have := hy vs q3
    rw [h1] at this; cases this
    exact ⟨H2, Ext.refl sub, h2.mono le2 _ _⟩
  | _ => cases e2⟩
theorem ix_tup (h : EX X own e fe) : IX X own tg e (iT fe) := ⟨PI.ent (pi_tup h.run) fun σ H R ⟨B, ρ, its, ρ', H1, S, e, k⟩ => by
  obtain ⟨v, ρ1, e1, e2⟩ := inv_b1 e
  cases v with
  | tup xs =>
    cases e2
    refine ⟨B, ρ, .tup its, ρ1, H1, S, e1, fun x H' H1' le S' r => ?_⟩
    simp only [Rep] at r
    obtain ⟨a, vs, rfl, q, rl⟩ := r
    have q := q.sq
    refine ⟨a, rfl, ⟨vs, S'.sub.le.sqT q⟩, k _ H' H1' le S' fun H2 H3 le2 sub => ⟨fun i p hp => ?_, ⟨vs, sub.le.sqT (le2.sqT q), by rw [rl.length]; exact Nat.le_refl _⟩⟩⟩
    obtain ⟨w, h1, h2⟩ := rl.get hp
    have q3 : SqT X.K H3 a vs := sub.le.sqT (le2.sqT q)
    refine ⟨⟨vs, w, q3, h1⟩, fun y H'' yl => ?_⟩
    obtain ⟨rfl, hy⟩ := yl
    have := hy vs q3
    rw [h1] at this; cases this
    exact ⟨H2, Ext.refl sub, h2.mono le2 _ _⟩
  | _ => cases e2⟩
theorem walks_rng {K : PySem.W.Frag} {H1 : Hp} {lo : Int} {n : Nat} : Walks' K (Itr lo n) H1 (rngP lo n) := fun H2 H3 le sub => ⟨fun i p hp => by
    obtain ⟨hi, rfl⟩ := rngP_get hp
    refine ⟨hi, fun x H'' yl => ?_⟩
    obtain ⟨rfl, rfl⟩ := yl
    exact ⟨H2, Ext.refl sub, rep_int⟩, by rw [rngP_length]; exact Nat.le_refl _⟩
theorem ix_rng1 (hg : Gl X "range") (hm : X.mg "range" = none) (ha : EX X own a fa) (hs : starEach [a] X.env = [(false, eval a X.env)] := by rfl) : IX X own tg (.Call (.Name "range" p) [a] [] pos) (iR1 fa) :=
  ⟨PI.ent (pi_range1 hg hm (pa_cons ha.run pa_nil hs) hs) fun σ H R ⟨B, ρ, its, ρ', H1, S, e, k⟩ => by
  obtain ⟨v, ρ1, e1, e2⟩ := inv_b1 e
  refine ⟨B, ρ, v, ρ1, H1, S, e1, fun x H' H1' le S' r => ?_⟩
  cases v with
  | int j =>
    simp only at e2
    split at e2
    · rename_i hj
      cases e2
      simp only [Rep] at r
      subst r
      obtain ⟨h1, h2⟩ := i62_iff hj
      exact ⟨j, rfl, h1, h2, k _ H' H1' le S' walks_rng⟩
    · cases e2
  | _ => cases e2⟩
theorem ix_rng2 (hg : Gl X "range") (hm : X.mg "range" = none) (ha : EX X own a fa) (hb : EX X own b fb) (hs : starEach [a, b] X.env = [(false, eval a X.env), (false, eval b X.env)] := by rfl) (hs2 : starEach [b] X.env = [(false, eval b X.env)] := by rfl) :
    IX X own tg (.Call (.Name "range" p) [a, b] [] pos) (iR2 fa fb) :=
  ⟨PI.ent (pi_range2 hg hm (pa_cons ha.run (pa_cons hb.run pa_nil hs2) (by rw [hs, hs2])) hs hs2) fun σ H R ⟨B, ρ, its, ρ', H1, S, e, k⟩ => by
  obtain ⟨v, ρ1, e1, e2⟩ := inv_b1 e
  obtain ⟨w, ρ2, e3, e4⟩ := inv_b1 e2
  refine ⟨B, ρ, v, ρ1, H1, S, e1, fun x H' H1' le S' r => ⟨B, ρ1, w, ρ2, H1', S', e3, fun y H2 H12 le2 S2 r2 => ?_⟩⟩
  cases v with
  | int i =>
    cases w with
    | int j =>
      simp only at e4
      split at e4
      · rename_i hj
        cases e4
        simp only [Rep] at r r2
        subst r
        subst r2
        rw [Bool.and_eq_true] at hj
        obtain ⟨h1, h2⟩ := i62_iff hj.1
        obtain ⟨h3, h4⟩ := i62_iff hj.2
        exact ⟨i, j, rfl, ⟨h1, h2, h3, h4⟩, k _ H2 H12 (le.trans le2) S2 walks_rng⟩
      · cases e4
    | _ => cases e4
  | _ => cases e4⟩
end

/-! ### for -/
def loopF (t : PV → Env → Option Env) (body : SF) : List PV → Env → Option (Fl × Env)
  | [], ρ => some (.nx, ρ)
  | p :: ps, ρ => (t p ρ).bind fun ρ1 => (body ρ1).bind fun r => match r.1 with
    | .nx => loopF t body ps r.2
    | .ct => loopF t body ps r.2
    | .bk => some (.nx, r.2)
    | .rt v => some (.rt v, r.2)
def fFor (its : AF) (t : PV → Env → Option Env) (body : SF) : SF := fun ρ => (its ρ).bind fun r => loopF t body r.1 r.2
section
variable {X : Cx} {io lm own : List Nat} {tg iter c : Expr} {body : List Stmt} {fi : AF} {t : PV → Env → Option Env} {fb : SF} {fc : TF} {pos : Pos}
theorem sx_for (hp : PassesOwn (model X.prog X.w) X.A X.env X.xe) (hc : X.calm = true) (hi : IX X own tg iter fi) (hg : GX X own tg t) (hb : SsX X io own own own body fb) (hs : ∀ x, foldedSetIterable iter X.env x = pure x := by intro _; rfl) :
    SX X io lm own own (.For tg iter body [] pos) (fFor fi t fb) := ⟨PS.ent (ps_for hp hc hi.run hg.run hb.run hs) fun D σ H ⟨B, ρ, fl, ρ', H1, hio, S, e, k⟩ => by
  obtain ⟨its, ρ0, e1, e2⟩ := inv_b1 e
  refine ⟨B, ρ, its, ρ0, H1, S, e1, fun J H' H1' le S' W => ?_⟩
  refine ⟨fun i m σ2 H2 => ∃ ρ2 H12, LeR H1' H12 ∧ SR X.K B own ρ2 σ2 H12 H2 ∧ i + m = its.length ∧ loopF t fb (its.drop i) ρ2 = some (fl, ρ'), ⟨its.length, ρ0, H1', LeR.refl _, S', by simp, by simpa using e2⟩, ?_⟩
  rintro i m σ2 H2 ⟨ρ2, H12, le2, S2, hm, e3⟩
  obtain ⟨w1, w2⟩ := W H12 H2 le2 S2.sub
  by_cases hlt : i < its.length
  · right
    have hd : its.drop i = its[i] :: its.drop (i + 1) := List.drop_eq_getElem_cons hlt
    rw [hd] at e3
    unfold loopF at e3
    obtain ⟨ρ3, e4, e5⟩ := Option.bind_eq_some_iff.mp e3
    obtain ⟨fl4, ρ4, e6, e7⟩ := inv_b1 e5
    obtain ⟨g1, g2⟩ := w1 i its[i] (List.getElem?_eq_getElem hlt)
    refine ⟨g1, fun σ5 H5 => ∃ ρ5 H15, LeR H1' H15 ∧ SR X.K B own ρ5 σ5 H15 H5 ∧ loopF t fb (its.drop (i + 1)) ρ5 = some (fl, ρ'), fun σ5 H5 ⟨ρ5, H15, l5, S5, e8⟩ => ⟨m - 1, by omega, ρ5, H15, l5, S5, by omega, e8⟩, fun x H3 y => ?_⟩
    obtain ⟨H13, ex, rx⟩ := g2 x H3 y
    refine ⟨B, ρ2, its[i], ρ3, H13, S2.ext ex, rx, e4, fun σ6 H6 H16 l6 S6 => ?_⟩
    have lw : LeR H1' H16 := (le2.trans ex.le).trans l6
    refine ⟨B, ρ3, fl4, ρ4, H16, hio, S6, e6, ?_⟩
    cases fl4 with
    | nx => exact fun σ7 H7 H17 l7 S7 => ⟨ρ4, H17, lw.trans l7, S7, e7⟩
    | ct => exact fun σ7 H7 H17 l7 S7 => ⟨ρ4, H17, lw.trans l7, S7, e7⟩
    | bk => cases e7; exact fun σ7 H7 H17 l7 S7 => k σ7 H7 H17 ((le.trans lw).trans l7) S7
    | rt v => cases e7; exact fun x ow σ7 H7 H17 l7 S7 r => k x ow σ7 H7 H17 ((le.trans lw).trans l7) S7 r
  · left
    have hl : i = its.length := by omega
    rw [hl] at e3
    simp only [List.drop_length, loopF] at e3
    cases e3
    exact ⟨by rw [hl]; exact w2, k σ2 H2 H12 (le.trans le2) S2⟩⟩

/-! ### while -/
def fWhile (c : TF) (body : SF) : Nat → SF
  | 0, _ => none
  | n + 1, ρ => (c ρ).bind fun r => if r.1 = true then (body r.2).bind fun s => match s.1 with
      | .nx => fWhile c body n s.2
      | .ct => fWhile c body n s.2
      | .bk => some (.nx, s.2)
      | .rt v => some (.rt v, s.2)
    else some (.nx, r.2)
theorem sx_while (n : Nat) (hp : PassesOwn (model X.prog X.w) X.A X.env X.xe) (hc : TX X own c fc) (hb : SsX X io own own own body fb) : SX X io lm own own (.While c body [] pos) (fWhile fc fb n) := ⟨PS.ent (ps_while hp hc.run hb.run) fun D σ H ⟨B, ρ, fl, ρ', H1, hio, S, e, k⟩ => by
  refine ⟨fun m σ2 H2 => ∃ ρ2 H12, LeR H1 H12 ∧ SR X.K B own ρ2 σ2 H12 H2 ∧ fWhile fc fb m ρ2 = some (fl, ρ'), ⟨n, ρ, H1, LeR.refl _, S, e⟩, ?_⟩
  rintro m σ2 H2 ⟨ρ2, H12, le2, S2, e2⟩
  cases m with
  | zero => cases e2
  | succ m =>
    unfold fWhile at e2
    obtain ⟨b, ρ3, e3, e4⟩ := inv_b1 e2
    refine ⟨B, ρ2, b, ρ3, H12, S2, e3, fun H3 H13 le3 S3 => ?_⟩
    cases b with
    | false => cases e4; exact iteF (k σ2 H3 H13 (le2.trans le3) S3)
    | true =>
      refine iteT ⟨fun σ5 H5 => ∃ ρ5 H15, LeR H1 H15 ∧ SR X.K B own ρ5 σ5 H15 H5 ∧ fWhile fc fb m ρ5 = some (fl, ρ'), fun σ5 H5 ⟨ρ5, H15, l5, S5, e8⟩ => ⟨m, Nat.lt_succ_self _, ρ5, H15, l5, S5, e8⟩, ?_⟩
      obtain ⟨fl4, ρ4, e6, e7⟩ := inv_b1 (show (fb ρ3).bind _ = some (fl, ρ') from e4)
      have lw : LeR H1 H13 := le2.trans le3
      refine ⟨B, ρ3, fl4, ρ4, H13, hio, S3, e6, ?_⟩
      cases fl4 with
      | nx => exact fun σ7 H7 H17 l7 S7 => ⟨ρ4, H17, lw.trans l7, S7, e7⟩
      | ct => exact fun σ7 H7 H17 l7 S7 => ⟨ρ4, H17, lw.trans l7, S7, e7⟩
      | bk => cases e7; exact fun σ7 H7 H17 l7 S7 => k σ7 H7 H17 (lw.trans l7) S7
      | rt v => cases e7; exact fun x ow σ7 H7 H17 l7 S7 r => k x ow σ7 H7 H17 (lw.trans l7) S7 r⟩
end
end PT

set_option Elab.async false
set_option linter.all false
set_option autoImplicit false
set_option maxRecDepth 100000
set_option maxHeartbeats 4000000
/-! PT5: the promise of a def, its body, its calls. -/
namespace PT
open PySem PySem.Spec PyProof.Rows L2

/-- a pure def -/
def spF (K : PySem.W.Frag) (n : Nat) (F : GL) : Sp := fun vs H Q _ => vs.length = n ∧ ∃ args v H1, Sub H1 H ∧ RepL K H1 args vs ∧ F args = some v ∧ kV' K v H1 H Q
def startP (n : Nat) (args : List PV) : Env := args.map some ++ List.replicate (n - args.length) none
def outF : Fl → Option PV
  | .rt v => some v
  | .nx => some .non
  | _ => none
def runB (n : Nat) (body : SF) : GL := fun args => (body (startP n args)).bind fun r => outF r.1
theorem startP_sr {K : PySem.W.Frag} {N : List Str} {vs : List V} {H1 H : Hp} {args : List PV} (sub : Sub H1 H) (r : RepL K H1 args vs) : SR K ⟨H, H1, []⟩ [] (startP N.length args) (L2.start N vs) H1 H := by
  have hl := r.length
  refine ⟨?_, sub, fun b o h => ⟨h, rfl⟩, fun i v _ hv => ?_, (fun i v hi => by cases hi), (fun i j v w a hi => by cases hi), (fun p hp => by cases hp)⟩
  · unfold L2.start startP
    simp [hl]
  · unfold startP at hv
    unfold L2.start
    by_cases hi : i < args.length
    · rw [List.getElem?_append_left (by simpa using hi), List.getElem?_map] at hv
      cases e : args[i]? with
      | none => rw [e] at hv; cases hv
      | some p =>
        rw [e] at hv; cases hv
        obtain ⟨x, h1, h2⟩ := r.get e
        exact ⟨x, by rw [List.getElem?_append_left (by simpa [hl] using hi), List.getElem?_map, h1]; rfl, h2⟩
    · rw [List.getElem?_append_right (by simpa using hi), List.getElem?_replicate] at hv
      split at hv <;> cases hv
section
variable {P : Program} {w : World} {K : PySem.W.Frag} {mg : Str → Option Value} {base : Heap}
/-- THE RULE for a pure def -/
theorem ok_pure {x qual : Str} {st : Stmt} {f : Addr} {fd : FuncData} {N ps : List Str} {k : Nat} {F : GL} {body : SF} {own' : List Nat} (Fn : Fun K x qual st f fd) (S : FnScope N ps (defScope st))
    (hF : ∀ args v, F args = some v → runB N.length body args = some v)
    (hbody : ∀ (cdv : Value) (A : Around) (outer : List PySem.Env) (s : Shared) (H : Hp) (E : XK), Room k (A.deeper (envOfC qual (defScope st) s.heap.objs.size f cdv)) →
      SsX (cxOf CX0 P w K mg base N qual (defScope st) f cdv A outer s H E).nox [] [] [] own' (defBody st) body) : FnOk P w K mg base CX0 (k + 1) f fd ps (spF K ps.length F) := by
  refine Fn.ok S (fun vs H Q E h => h.1) (fun cdv A outer s H vs Q E hr h => ?_)
  obtain ⟨hl, args, v, H1, sub, rl, e, k⟩ := h
  refine ⟨_, (hbody cdv A outer s H E hr).run, ?_⟩
  have e' := hF args v e
  obtain ⟨⟨fl, ρ'⟩, e1, e2⟩ := Option.bind_eq_some_iff.mp e'
  refine ⟨⟨H, H1, []⟩, startP N.length args, fl, ρ', H1, (fun p hp => by cases hp), startP_sr sub rl, e1, ?_⟩
  cases fl with
  | rt u =>
    cases e2
    exact fun x ow σ' H' H1' le S' r => k x H' H1' ⟨le, S'.sub, fun b o h => S'.fr b o h⟩ r
  | nx =>
    cases e2
    exact fun σ' H' H1' le S' => k _ H' H1' ⟨le, S'.sub, fun b o h => S'.fr b o h⟩ rep_non
  | _ => cases e2
end

/-! ### its call -/
section
variable {X : Cx} {own : List Nat} {e a b : Expr} {es : List Expr} {pos p : Pos} {x : Str} {k n : Nat} {f : Addr} {fd : FuncData} {ps : List Str} {F : GL} {ff : AF}
theorem ex_call (G : FnOk X.prog X.w X.K X.mg X.base CX0 k f fd ps (spF X.K n F)) (hr : Room k X.A) (hg : Gl X x) (hm : X.mg x = some (.ref f)) (hk : PySem.W.keepIn X.K (.ref f) = true) (hb : Binds X.K fd ps [])
    (hlen : ps.length = n) (ha : AX X own (e :: es) ff) (hff : ∀ ρ vs ρ', ff ρ = some (vs, ρ') → vs.length = n) (hdb : (x == ("__debug__" : Str)) = false := by decide) (he : starEach (e :: es) X.env = (false, eval e X.env) :: starEach es X.env := by rfl) (hpl : (backTo pos (starEach es X.env)).any (·.1) = false := by rfl) :
    EX X own (.Call (.Name x p) (e :: es) [] pos) (fList F ff) := ⟨PE.ent (pe_call G hr hg hm hk hb .nil pass0 ha.run hdb he hpl) fun σ H Q ⟨B, ρ, v, ρ', H1, S, e, k⟩ => by
  obtain ⟨vs, e1, e2⟩ := inv_list e
  refine ⟨B, ρ, vs, ρ', H1, S, e1, fun xs H' H1' le S' rs => ?_⟩
  dsimp only; rw [List.append_nil]
  exact ⟨by rw [rs.length, hff _ _ _ e1], vs, v, H1', S'.sub, rs, e2, fun z H3 H13 ex rz => k z H3 H13 (le.trans ex.le) (S'.ext ex) rz⟩⟩
theorem len_nil : ∀ (ρ : Env) vs ρ', aNil ρ = some (vs, ρ') → vs.length = 0 := fun ρ vs ρ' e => by cases e; rfl
theorem len_cons {f : EF} {g : AF} {n : Nat} (h : ∀ (ρ : Env) vs ρ', g ρ = some (vs, ρ') → vs.length = n) : ∀ (ρ : Env) vs ρ', aCons f g ρ = some (vs, ρ') → vs.length = n + 1 := fun ρ vs ρ' e => by
  obtain ⟨v, ρ1, ws, e1, e2, rfl⟩ := inv_cons e
  rw [List.length_cons, h _ _ _ e2]
end

/-! ### a def that changes one of its arguments -/
/-- words of arguments, a hole at the changed one -/
def RepO (K : PySem.W.Frag) (H1 : Hp) (a : Addr) : List (Option PV) → List V → Prop
  | [], xs => xs = []
  | none :: hs, xs => ∃ r, xs = .ref a :: r ∧ RepO K H1 a hs r
  | some p :: hs, xs => ∃ x r, xs = x :: r ∧ Rep K H1 p x ∧ RepO K H1 a hs r
def fillP (p : PV) : List (Option PV) → List PV
  | [] => []
  | none :: hs => p :: fillP p hs
  | some q :: hs => q :: fillP p hs
theorem RepO.length {K : PySem.W.Frag} {H1 : Hp} {a : Addr} : ∀ {hs : List (Option PV)} {xs : List V}, RepO K H1 a hs xs → xs.length = hs.length
  | [], _, h => by rw [show _ = [] from h]; rfl
  | none :: hs, _, h => by obtain ⟨r, rfl, q⟩ := h; simp [RepO.length q]
  | some p :: hs, _, h => by obtain ⟨x, r, rfl, _, q⟩ := h; simp [RepO.length q]
theorem fillP_length (p : PV) : ∀ hs : List (Option PV), (fillP p hs).length = hs.length
  | [] => rfl
  | none :: hs => by simp [fillP, fillP_length p hs]
  | some q :: hs => by simp [fillP, fillP_length p hs]
theorem RepO.get {K : PySem.W.Frag} {H1 : Hp} {a : Addr} (p : PV) : ∀ {hs : List (Option PV)} {xs : List V} {i : Nat} {h : Option PV}, RepO K H1 a hs xs → hs[i]? = some h →
    (h = none ∧ (fillP p hs)[i]? = some p ∧ xs[i]? = some (.ref a)) ∨ (∃ q x, h = some q ∧ (fillP p hs)[i]? = some q ∧ xs[i]? = some x ∧ Rep K H1 q x)
  | [], _, _, _, _, e => by simp at e
  | none :: hs, _, i, h, r, e => by
    obtain ⟨t, rfl, q⟩ := r
    cases i with
    | zero => simp at e; subst e; exact .inl ⟨rfl, rfl, rfl⟩
    | succ i =>
      have := RepO.get p (i := i) (h := h) q (by simpa using e)
      simpa [fillP] using this
  | some z :: hs, _, i, h, r, e => by
    obtain ⟨x, t, rfl, rz, q⟩ := r
    cases i with
    | zero => simp at e; subst e; exact .inr ⟨z, x, rfl, rfl, rfl, rz⟩
    | succ i =>
      have := RepO.get p (i := i) (h := h) q (by simpa using e)
      simpa [fillP] using this
abbrev GI := List PV → Option (PV × PV)
/-- the promise: behind the call the thing at a is w -/
def spI (K : PySem.W.Frag) (n j : Nat) (F : GI) : Sp := fun vs H Q _ => vs.length = n ∧ ∃ hs p v w' H1 a, Sub H1 H ∧ RepO K H1 a hs vs ∧ H1 a = none ∧ ORep K H1 H a p ∧ (∀ i, hs[i]? = some none ↔ i = j) ∧ F (fillP p hs) = some (v, w') ∧
  ∀ x H' H1', LeR H1 H1' → Sub H1' H' → (∀ b o, b ≠ a → H b = some o → H' b = some o ∧ H1' b = H1 b) → H1' a = none → ORep K H1' H' a w' → Rep K H1' v x → Q x H'
def runI (n j : Nat) (body : SF) : GI := fun args => (body (startP n args)).bind fun r => (outF r.1).bind fun v => (look r.2 j).map fun w => (v, w)
section
variable {P : Program} {w : World} {K : PySem.W.Frag} {mg : Str → Option Value} {base : Heap}
theorem ok_io {x qual : Str} {st : Stmt} {f : Addr} {fd : FuncData} {N ps : List Str} {k j : Nat} {F : GI} {body : SF} {own' : List Nat} (Fn : Fun K x qual st f fd) (S : FnScope N ps (defScope st))
    (hF : ∀ args r, F args = some r → runI N.length j body args = some r)
    (hbody : ∀ (cdv : Value) (A : Around) (outer : List PySem.Env) (s : Shared) (H : Hp) (E : XK), Room k (A.deeper (envOfC qual (defScope st) s.heap.objs.size f cdv)) →
      SsX (cxOf CX0 P w K mg base N qual (defScope st) f cdv A outer s H E).nox [j] [] [j] own' (defBody st) body) : FnOk P w K mg base CX0 (k + 1) f fd ps (spI K ps.length j F) := by
  refine Fn.ok S (fun vs H Q E h => h.1) (fun cdv A outer s H vs Q E hr h => ?_)
  obtain ⟨hl, hs, p, v, w', H1, a, sub, rl, h1, ro, hj, e, k⟩ := h
  refine ⟨_, (hbody cdv A outer s H E hr).run, ?_⟩
  have e' := hF _ _ e
  obtain ⟨⟨fl, ρ'⟩, e1, e2⟩ := Option.bind_eq_some_iff.mp e'
  obtain ⟨v2, e3, e4⟩ := Option.bind_eq_some_iff.mp e2
  obtain ⟨w2, e5, e6⟩ := Option.map_eq_some_iff.mp e4
  cases e6
  have hlen := rl.length
  have fl' := fillP_length p hs
  have jl : hs[j]? = some none := (hj j).mpr rfl
  have jlt : j < hs.length := (List.getElem?_eq_some_iff.mp jl).1
  have at_ : ∀ (i : Nat) u, (startP N.length (fillP p hs))[i]? = some (some u) → i < hs.length ∧ (fillP p hs)[i]? = some u := fun i u hu => by
    unfold startP at hu
    by_cases hi : i < (fillP p hs).length
    · rw [List.getElem?_append_left (by simpa using hi), List.getElem?_map] at hu
      cases e : (fillP p hs)[i]? with
      | none => rw [e] at hu; cases hu
      | some q => rw [e] at hu; cases hu; exact ⟨by omega, rfl⟩
    · rw [List.getElem?_append_right (by simpa using hi), List.getElem?_replicate] at hu
      split at hu <;> cases hu
  have st_ : ∀ (i : Nat) y, vs[i]? = some y → (L2.start N vs)[i]? = some (some y) := fun i y hy => by
    unfold L2.start
    have := (List.getElem?_eq_some_iff.mp hy).1
    rw [List.getElem?_append_left (by simpa using this), List.getElem?_map, hy]; rfl
  have pj : (startP N.length (fillP p hs))[j]? = some (some p) := by
    rcases rl.get p jl with ⟨_, q1, q2⟩ | ⟨_, _, q, _⟩
    · unfold startP
      have := (List.getElem?_eq_some_iff.mp q1).1
      rw [List.getElem?_append_left (by simpa using this), List.getElem?_map, q1]; rfl
    · cases q
  have sj : (L2.start N vs)[j]? = some (some (.ref a)) := by
    rcases rl.get p jl with ⟨_, q1, q2⟩ | ⟨_, _, q, _⟩
    · exact st_ _ _ q2
    · cases q
  have S0 : SR K ⟨fun b => if b = a then none else H b, H1, [(j, a)]⟩ [j] (startP N.length (fillP p hs)) (L2.start N vs) H1 H := by
    refine ⟨?_, sub, fun b o h => ?_, fun i u hi hu => ?_, fun i u hi hu => ?_, fun i i' u u' c hi hi' _ _ _ _ => ?_, fun q hq => ?_⟩
    · unfold L2.start startP
      simp [hlen, fl']
    · by_cases hb : b = a
      · simp only [if_pos hb] at h; cases h
      · simp only [if_neg hb] at h; exact ⟨h, rfl⟩
    · obtain ⟨h2, h3⟩ := at_ i u hu
      have : ∃ o, hs[i]? = some o := ⟨hs[i], List.getElem?_eq_getElem h2⟩
      obtain ⟨o, ho⟩ := this
      rcases rl.get p ho with ⟨q0, q1, q2⟩ | ⟨q, y, q0, q1, q2, q3⟩
      · rw [q0] at ho
        exact absurd (by simpa using (hj i).mp ho) (by simpa using hi)
      · rw [q1] at h3; cases h3
        exact ⟨y, st_ i y q2, q3⟩
    · obtain rfl : i = j := by simpa using hi
      rw [pj] at hu; cases hu
      exact ⟨a, sj, by simp, h1, ro⟩
    · have h1 : i = j := by simpa using hi
      have h2 : i' = j := by simpa using hi'
      rw [h1, h2]
    · obtain rfl : q = (j, a) := by simpa using hq
      exact ⟨sj, by simp, p, pj⟩
  have fin : ∀ {ow : List Nat} {σ' : L2.St} {H' H1' : Hp} {u : PV} {z : V}, LeR H1 H1' → SR K ⟨fun b => if b = a then none else H b, H1, [(j, a)]⟩ ow ρ' σ' H1' H' → Rep K H1' u z → u = v → Q z H' := fun {ow σ' H' H1' u z} le S' r hu => by
    subst hu
    obtain ⟨q1, q2, u2, q3⟩ := S'.io (j, a) (by simp)
    have : u2 = w' := by
      rw [look_iff.mp e5] at q3
      injection q3 with q; injection q with q; exact q.symm
    subst this
    obtain ⟨a', g1, g2, g3, g4⟩ := S'.ow j _ q2 q3
    rw [q1] at g1
    obtain rfl : a = a' := by injection g1 with q; injection q with q; injection q
    exact k z H' H1' le S'.sub (fun b o hb h => S'.fr b o (by simp only [if_neg hb]; exact h)) g3 g4 r
  refine ⟨_, startP N.length (fillP p hs), fl, ρ', H1, (fun q hq => by
    obtain rfl : q = (j, a) := by simpa using hq
    simp), S0, e1, ?_⟩
  cases fl with
  | rt u => cases e3; exact fun x ow σ' H' H1' le S' r => fin le S' r rfl
  | nx => cases e3; exact fun σ' H' H1' le S' => fin le S' rep_non rfl
  | _ => cases e3
end
/-- arguments with one own slot i among them -/
abbrev AO := Env → Option (List (Option PV) × Env)
def oNil : AO := fun ρ => some ([], ρ)
def oCons (f : EF) (g : AO) : AO := fun ρ => (f ρ).bind fun r => (g r.2).bind fun s => some (some r.1 :: s.1, s.2)
def oHole (i : Nat) (g : AO) : AO := fun ρ => (look ρ i).bind fun _ => (g ρ).bind fun s => some (none :: s.1, s.2)
def RepH (K : PySem.W.Frag) (H1 : Hp) (σ : L2.St) (i : Nat) : List (Option PV) → List V → Prop
  | [], xs => xs = []
  | none :: hs, xs => ∃ x r, xs = x :: r ∧ σ[i]? = some (some x) ∧ RepH K H1 σ i hs r
  | some p :: hs, xs => ∃ x r, xs = x :: r ∧ Rep K H1 p x ∧ RepH K H1 σ i hs r
theorem RepH.o {K : PySem.W.Frag} {H1 : Hp} {σ : L2.St} {i : Nat} {a : Addr} (h : σ[i]? = some (some (.ref a))) : ∀ {hs : List (Option PV)} {xs : List V}, RepH K H1 σ i hs xs → RepO K H1 a hs xs
  | [], _, r => r
  | none :: hs, _, r => by
    obtain ⟨x, t, rfl, q, rr⟩ := r
    rw [h] at q; cases q
    exact ⟨t, rfl, RepH.o h rr⟩
  | some p :: hs, _, r => by
    obtain ⟨x, t, rfl, q, rr⟩ := r
    exact ⟨x, t, rfl, q, RepH.o h rr⟩
def tO (K : PySem.W.Frag) (own : List Nat) (i : Nat) (f : AO) : TA := fun σ H Q => ∃ B ρ hs ρ' H1, SR K B own ρ σ H1 H ∧ f ρ = some (hs, ρ') ∧ ∀ xs H' H1', LeR H1 H1' → SR K B own ρ' σ H1' H' → RepH K H1' σ i hs xs → Q xs H'
structure OX (X : Cx) (own : List Nat) (i : Nat) (es : List Expr) (f : AO) : Prop where run : PA X es (tO X.K own i f)
section
variable {X : Cx} {own : List Nat} {e a b : Expr} {es : List Expr} {pos p : Pos} {x : Str} {k n j i : Nat} {f : Addr} {fd : FuncData} {ps : List Str} {F : GI} {ff : AO} {fe : EF}
theorem ox_nil : OX X own i [] oNil := ⟨PA.ent pa_nil fun σ H Q ⟨B, ρ, vs, ρ', H1, S, e, k⟩ => by
  cases e
  exact k [] H H1 (LeR.refl _) S rfl⟩
theorem ox_cons {g : AO} (ha : EX X own e fe) (hr : OX X own i es g) (hs : starEach (e :: es) X.env = (false, eval e X.env) :: starEach es X.env := by rfl) : OX X own i (e :: es) (oCons fe g) := ⟨PA.ent (pa_cons ha.run hr.run hs) fun σ H Q ⟨B, ρ, vs, ρ', H1, S, e, k⟩ => by
  obtain ⟨v, ρ1, e1, e⟩ := inv_b1 e
  obtain ⟨ws, ρ2, e2, e⟩ := inv_b1 e
  cases e
  refine ⟨B, ρ, v, ρ1, H1, S, e1, fun x H' H1' le S' rx => ⟨B, ρ1, ws, ρ2, H1', S', e2, fun xs H2 H12 le2 S2 rs => ?_⟩⟩
  exact k _ H2 H12 (le.trans le2) S2 ⟨x, xs, rfl, rx.mono le2 _ _, rs⟩⟩
theorem ox_hole {g : AO} (ha : PE X e (tVar i)) (hi : i ∈ own) (hr : OX X own i es g) (hs : starEach (e :: es) X.env = (false, eval e X.env) :: starEach es X.env := by rfl) : OX X own i (e :: es) (oHole i g) := ⟨PA.ent (pa_cons ha hr.run hs) fun σ H Q ⟨B, ρ, vs, ρ', H1, S, e, k⟩ => by
  obtain ⟨v, e1, e⟩ := Option.bind_eq_some_iff.mp e
  obtain ⟨ws, ρ2, e2, e⟩ := inv_b1 e
  cases e
  obtain ⟨a, h1, h2, h3, h4⟩ := S.ow i v hi (look_iff.mp e1)
  refine ⟨_, h1, B, ρ, ws, ρ2, H1, S, e2, fun xs H2 H12 le2 S2 rs => ?_⟩
  exact k _ H2 H12 le2 S2 ⟨_, xs, rfl, h1, rs⟩⟩
def fCallI (i : Nat) (F : GI) (f : AO) : EF := fun ρ => (f ρ).bind fun r => (look r.2 i).bind fun p => (F (fillP p r.1)).bind fun q => some (q.1, r.2.set i (some q.2))
theorem ex_callI (G : FnOk X.prog X.w X.K X.mg X.base CX0 k f fd ps (spI X.K n j F)) (hr : Room k X.A) (hg : Gl X x) (hm : X.mg x = some (.ref f)) (hk : PySem.W.keepIn X.K (.ref f) = true) (hb : Binds X.K fd ps [])
    (hlen : ps.length = n) (hi : i ∈ own) (ha : OX X own i (e :: es) ff) (hff : ∀ ρ vs ρ', ff ρ = some (vs, ρ') → vs.length = n ∧ ∀ i, vs[i]? = some none ↔ i = j) (hdb : (x == ("__debug__" : Str)) = false := by decide) (he : starEach (e :: es) X.env = (false, eval e X.env) :: starEach es X.env := by rfl) (hpl : (backTo pos (starEach es X.env)).any (·.1) = false := by rfl) :
    EX X own (.Call (.Name x p) (e :: es) [] pos) (fCallI i F ff) := ⟨PE.ent (pe_call G hr hg hm hk hb .nil pass0 ha.run hdb he hpl) fun σ H Q ⟨B, ρ, v, ρ', H1, S, e, k⟩ => by
  obtain ⟨hs, ρ1, e1, e⟩ := inv_b1 e
  obtain ⟨p, e2, e⟩ := Option.bind_eq_some_iff.mp e
  obtain ⟨⟨v2, w'⟩, e3, e⟩ := Option.bind_eq_some_iff.mp e
  cases e
  refine ⟨B, ρ, hs, ρ1, H1, S, e1, fun xs H' H1' le S' rs => ?_⟩
  dsimp only; rw [List.append_nil]
  obtain ⟨a, h1, h2, h3, h4⟩ := S'.ow i p hi (look_iff.mp e2)
  have ro := rs.o h1
  obtain ⟨f1, f2⟩ := hff _ _ _ e1
  refine ⟨by rw [ro.length, f1], hs, p, v2, w', H1', a, S'.sub, ro, h3, h4, f2, e3, fun z H3 H13 le3 sub fr n1 ow rz => ?_⟩
  refine k z H3 H13 (le.trans le3) ⟨by simpa using S'.len, sub, fun b o h => ?_, fun l u hl hu => ?_, fun l u hl hu => ?_, fun l l' u u' c hl hl' q1 q2 q3 q4 => ?_, fun q hq => ?_⟩ rz
  · obtain ⟨q1, q2⟩ := S'.fr b o h
    have nb : b ≠ a := fun z => by rw [z, h2] at h; cases h
    obtain ⟨q3, q4⟩ := fr b o nb q1
    exact ⟨q3, q4.trans q2⟩
  · have ne : l ≠ i := fun z => hl (z ▸ hi)
    rw [List.getElem?_set_ne (Ne.symm ne)] at hu
    obtain ⟨y, q1, q2⟩ := S'.sh l u hl hu
    exact ⟨y, q1, q2.mono le3 _ _⟩
  · by_cases ne : l = i
    · subst ne
      have hlt : l < ρ1.length := by simpa using (List.getElem?_eq_some_iff.mp hu).1
      rw [List.getElem?_set_self hlt] at hu; cases hu
      exact ⟨a, h1, h2, n1, ow⟩
    · rw [List.getElem?_set_ne (Ne.symm ne)] at hu
      obtain ⟨c, q1, q2, q3, q4⟩ := S'.ow l u hl hu
      have nc : c ≠ a := fun z => by
        subst z
        exact ne (S'.ds l i u p c hl hi hu (look_iff.mp e2) q1 h1)
      obtain ⟨o, ho⟩ := q4.some
      obtain ⟨q5, q6⟩ := fr c o nc ho
      exact ⟨c, q1, q2, by rw [q6]; exact q3, q4.move le3 (by rw [q5, ho])⟩
  · have back : ∀ (m : Nat) (u : PV), (ρ1.set i (some w'))[m]? = some (some u) → ∃ u', ρ1[m]? = some (some u') := fun m u h => by
      by_cases e : m = i
      · rw [e]; exact ⟨p, look_iff.mp e2⟩
      · rw [List.getElem?_set_ne (Ne.symm e)] at h; exact ⟨u, h⟩
    obtain ⟨u1, q1'⟩ := back l u q1
    obtain ⟨u2, q2'⟩ := back l' u' q2
    exact S'.ds l l' u1 u2 c hl hl' q1' q2' q3 q4
  · obtain ⟨q1, q2, u, q3⟩ := S'.io q hq
    refine ⟨q1, q2, ?_⟩
    by_cases ne : q.1 = i
    · rw [ne]
      exact ⟨w', List.getElem?_set_self (List.getElem?_eq_some_iff.mp (look_iff.mp e2)).1⟩
    · exact ⟨u, by rw [List.getElem?_set_ne (Ne.symm ne)]; exact q3⟩⟩
end
end PT

set_option Elab.async false
set_option linter.all false
set_option autoImplicit false
set_option maxRecDepth 100000
set_option maxHeartbeats 4000000
/-! PT6: things of the body's own changed; stores; comprehensions. -/
namespace PT
open PySem PySem.Spec PyProof.Rows L2

/-! ### a method that changes an own thing -/
abbrev GM := PV → List PV → Option (PV × PV)
def rMt (K : PySem.W.Frag) (g : GM) : V → List V → Hp → VK → Prop := fun x xs H Q => ∃ p ps v w' H1 a, x = .ref a ∧ Sub H1 H ∧ ORep K H1 H a p ∧ RepL K H1 ps xs ∧ g p ps = some (v, w') ∧
  ∀ o z, ORep K H1 (upd H a o) a w' → Rep K H1 v z → Q z (upd H a o)
def MtI (X : Cx) (id : String) (g : GM) : Prop := MtR X id (rMt X.K g)
def isLst : PV → Bool
  | .lst _ => true
  | _ => false
def isDct : PV → Bool
  | .dct _ => true
  | _ => false
def fMut (c : PV → Bool) (i : Nat) (g : GM) (f : AF) : EF := fun ρ => (look ρ i).bind fun p0 => if c p0 = true then (f ρ).bind fun r => (look r.2 i).bind fun p => (g p r.1).bind fun q => some (q.1, r.2.set i (some q.2)) else none
theorem inv_mut {c : PV → Bool} {i : Nat} {g : GM} {f : AF} {ρ ρ' : Env} {v : PV} (e : fMut c i g f ρ = some (v, ρ')) : ∃ p0 ps ρ1 p w', look ρ i = some p0 ∧ c p0 = true ∧ f ρ = some (ps, ρ1) ∧ look ρ1 i = some p ∧ g p ps = some (v, w') ∧ ρ' = ρ1.set i (some w') := by
  unfold fMut at e
  obtain ⟨p0, e0, e⟩ := Option.bind_eq_some_iff.mp e
  split at e
  · rename_i hc
    obtain ⟨ps, ρ1, e1, e⟩ := inv_b1 e
    obtain ⟨p, e2, e⟩ := Option.bind_eq_some_iff.mp e
    obtain ⟨⟨v2, w'⟩, e3, e⟩ := Option.bind_eq_some_iff.mp e
    cases e
    exact ⟨p0, ps, ρ1, p, w', e0, hc, e1, e2, e3, rfl⟩
  · cases e
theorem ty_lst {K : PySem.W.Frag} {H1 H : Hp} {a : Addr} {p : PV} (r : ORep K H1 H a p) (c : isLst p = true) : tyV K "list" (.ref a) H := by
  cases p with
  | lst xs => obtain ⟨vs, q, _⟩ := r; exact .inl ⟨rfl, vs, SqL.of q⟩
  | _ => cases c
theorem ty_dct {K : PySem.W.Frag} {H1 H : Hp} {a : Addr} {p : PV} (r : ORep K H1 H a p) (c : isDct p = true) : tyV K "dict" (.ref a) H := by
  cases p with
  | dct ks =>
    obtain ⟨kv, q, _⟩ := r
    exact .inr (.inr (.inl ⟨rfl, .inl ⟨kv, q⟩⟩))
  | _ => cases c
section
variable {X : Cx} {own io lm : List Nat} {o e : Expr} {es : List Expr} {T id : String} {g : GM} {ff : AF} {c : PV → Bool} {apos cpos pos : Pos} {name : Str} {i : Nat}
theorem ent_mt {K : PySem.W.Frag} (hT : ∀ {H1 H : Hp} {a : Addr} {p : PV}, ORep K H1 H a p → c p = true → tyV K T (.ref a) H) (hi : i ∈ own) : ∀ σ H Q, tE K own (fMut c i g ff) σ H Q → tBM K T (rMt K g) (tVar i) (tAr K own ff) σ H Q := fun σ H Q ⟨B, ρ, v, ρ', H1, S, e, k⟩ => by
  obtain ⟨p0, ps, ρ1, p, w', e0, hc, e1, e2, e3, rfl⟩ := inv_mut e
  obtain ⟨a, h1, h2, h3, h4⟩ := S.ow i p0 hi (look_iff.mp e0)
  refine ⟨_, h1, hT h4 hc, B, ρ, ps, ρ1, H1, S, e1, fun xs H2 H12 le S2 rs => ?_⟩
  obtain ⟨a', g1, g2, g3, g4⟩ := S2.ow i p hi (look_iff.mp e2)
  rw [h1] at g1
  obtain rfl : a = a' := by injection g1 with q; injection q with q; injection q
  exact ⟨p, ps, v, w', H12, a, rfl, S2.sub, g4, rs, e3, fun o z ro rz => k z _ H12 le (S2.write hi (look_iff.mp e2) h1 ro) rz⟩
theorem ex_mt (pa : PlainAttrs T) (slot : Slot T name id) (hty : typeOf (.builtin id) = pure (.type "method_descriptor")) (hm : MtI X id g) (hT : ∀ {H1 H : Hp} {a : Addr} {p : PV}, ORep X.K H1 H a p → c p = true → tyV X.K T (.ref a) H)
    (ho : PE X o (tVar i)) (hi : i ∈ own) (ha : AX X own (e :: es) ff)
    (hbase : attributeBase o name X.env (eval o X.env) = eval o X.env := by rfl)
    (hfew : ((backTo cpos (starEach (e :: es) X.env)).all (fun x => !x.1) && (backToKw cpos (keywordEach [] X.env)).all (fun x => x.1.isSome)
      && decide ((e :: es).length + ([] : List Keyword).length + (if ([] : List Keyword).isEmpty then 0 else 1) < 30)) = true := by rfl)
    (hline : (apos.endLine == cpos.line) = true := by rfl) (hs : starEach (e :: es) X.env = (false, eval e X.env) :: starEach es X.env := by rfl) (hplain : (backTo cpos (starEach es X.env)).any (·.1) = false := by rfl) :
    EX X own (.Call (.Attribute o name apos) (e :: es) [] cpos) (fMut c i g ff) := ⟨PE.ent (pe_bm pa slot hty hm ho ha.run hbase hfew hline hs hplain) (ent_mt hT hi)⟩
theorem ex_mt0 (pa : PlainAttrs T) (slot : Slot T name id) (hty : typeOf (.builtin id) = pure (.type "method_descriptor")) (hm : MtI X id g) (hT : ∀ {H1 H : Hp} {a : Addr} {p : PV}, ORep X.K H1 H a p → c p = true → tyV X.K T (.ref a) H)
    (ho : PE X o (tVar i)) (hi : i ∈ own) (hbase : attributeBase o name X.env (eval o X.env) = eval o X.env := by rfl) (hline : (apos.endLine == cpos.line) = true := by rfl) :
    EX X own (.Call (.Attribute o name apos) [] [] cpos) (fMut c i g aNil) := ⟨PE.ent (pe_bm0 pa slot hty hm ho hbase hline) fun σ H Q ⟨B, ρ, v, ρ', H1, S, e, k⟩ => by
  obtain ⟨p0, ps, ρ1, p, w', e0, hc, e1, e2, e3, rfl⟩ := inv_mut e
  cases e1
  rw [e0] at e2; cases e2
  obtain ⟨a, h1, h2, h3, h4⟩ := S.ow i p0 hi (look_iff.mp e0)
  exact ⟨_, h1, hT h4 hc, p0, [], v, w', H1, a, rfl, S.sub, h4, RepL.nil, e3, fun o z ro rz => k z _ H1 (LeR.refl _) (S.write hi (look_iff.mp e0) h1 ro) rz⟩⟩
end

/-- append, pop, extend -/
def gAppend : GM := fun p ps => match p, ps with
  | .lst xs, [y] => if xs.length < 1000000 then some (.non, .lst (xs ++ [y])) else none
  | _, _ => none
theorem RepL.one_iff {K : PySem.W.Frag} {H : Hp} {p : PV} {xs : List V} (h : RepL K H [p] xs) : ∃ x, xs = [x] ∧ Rep K H p x := by
  obtain ⟨v, r, rfl, a, b⟩ := RepL.cons_iff.mp h
  rw [RepL.nil_iff.mp b]
  exact ⟨v, rfl, a⟩
section
variable {X : Cx}
theorem MtR.imp {id : String} {r r' : V → List V → Hp → VK → Prop} (h : MtR X id r) (i : ∀ x xs H Q, r' x xs H Q → r x xs H Q) : MtR X id r' := fun pins s σ H x xs v us Q I rx rs q => h pins s σ H x xs v us Q I rx rs (i _ _ _ _ q)
theorem mi_append : MtI X "list.append" gAppend := MtR.imp mt_append fun x xs H Q ⟨p, ps, v, w', H1, a, ex, sub, ro, rl, e, k⟩ => by
  subst ex
  cases p with
  | lst ys =>
    cases ps with
    | nil => cases e
    | cons q qs =>
      cases qs with
      | cons _ _ => cases e
      | nil =>
        simp only [gAppend] at e
        split at e
        · rename_i hl
          cases e
          obtain ⟨vs, hv, rv⟩ := ro
          obtain ⟨x, rfl, rx⟩ := rl.one_iff
          refine ⟨a, vs, x, rfl, rfl, hv, by rw [rv.length, sizeLine_eq]; omega, ?_⟩
          exact k _ _ ⟨_, upd_same, rv.append (RepL.cons rx RepL.nil)⟩ rep_non
        · cases e
  | _ => cases e
def gPop0 : GM := fun p ps => match p, ps with
  | .lst xs, [] => (xs[xs.length - 1]?).map fun y => (y, .lst xs.dropLast)
  | _, _ => none
theorem mi_pop0 : MtI X "list.pop" gPop0 := MtR.imp mt_pop fun x xs H Q ⟨p, ps, v, w', H1, a, ex, sub, ro, rl, e, k⟩ => by
  subst ex
  cases p with
  | lst ys =>
    cases ps with
    | cons _ _ => cases e
    | nil =>
      obtain ⟨y, e1, e2⟩ := Option.map_eq_some_iff.mp e
      cases e2
      obtain ⟨vs, hv, rv⟩ := ro
      obtain ⟨x, h1, h2⟩ := rv.get e1
      refine ⟨a, vs, x, rfl, RepL.nil_iff.mp rl, hv, by rw [rv.length]; exact h1, ?_⟩
      exact k _ _ ⟨_, upd_same, rv.dropLast⟩ h2
  | _ => cases e
def gPopAt : GM := fun p ps => match p, ps with
  | .lst xs, [.int i] => match L2.ixN xs.length i with
    | some j => (xs[j]?).bind fun y => if i62 i = true then some (y, .lst (xs.eraseIdx j)) else none
    | none => none
  | _, _ => none
theorem RepL.eraseIdx {K : PySem.W.Frag} {H : Hp} : ∀ {ps : List PV} {vs : List V} (n : Nat), RepL K H ps vs → RepL K H (ps.eraseIdx n) (vs.eraseIdx n)
  | [], _, n, h => by rw [RepL.nil_iff.mp h]; simp [RepL.nil]
  | q :: ps, _, n, h => by
    obtain ⟨w, t, rfl, a, b⟩ := RepL.cons_iff.mp h
    cases n with
    | zero => exact b
    | succ n => exact RepL.cons a (RepL.eraseIdx n b)
theorem mi_popAt : MtI X "list.pop" gPopAt := MtR.imp mt_popAt fun x xs H Q ⟨p, ps, v, w', H1, a, ex, sub, ro, rl, e, k⟩ => by
  subst ex
  unfold gPopAt at e
  split at e
  · rename_i ys i
    split at e
    · rename_i j hj
      obtain ⟨y, e1, e2⟩ := Option.bind_eq_some_iff.mp e
      split at e2
      · rename_i hi
        cases e2
        obtain ⟨vs, hv, rv⟩ := ro
        obtain ⟨x, h1, h2⟩ := rv.get e1
        obtain ⟨x', rfl, rx⟩ := rl.one_iff
        simp only [Rep] at rx
        subst rx
        obtain ⟨q1, q2⟩ := i62_iff hi
        rw [← rv.length] at hj
        refine ⟨a, vs, i, j, x, rfl, rfl, hv, by omega, by omega, (ixN_seq hj).1, h1, ?_⟩
        exact k _ _ ⟨_, upd_same, rv.eraseIdx j⟩ h2
      · cases e2
    · cases e
  · cases e
end

/-! ### o[i] = v -/
abbrev GS := PV → PV → PV → Option PV
def rSt (K : PySem.W.Frag) (g : GS) : TSet := fun o i v H Q => ∃ p pi pv w' H1 a, o = .ref a ∧ Sub H1 H ∧ ORep K H1 H a p ∧ Rep K H1 pi i ∧ Rep K H1 pv v ∧ g p pi pv = some w' ∧ ∀ ob, ORep K H1 (upd H a ob) a w' → Q (upd H a ob)
def SetI (X : Cx) (g : GS) : Prop := PSet X (rSt X.K g)
theorem PSet.imp {X : Cx} {t t' : TSet} (h : PSet X t) (i : ∀ o k v H Q, t' o k v H Q → t o k v H Q) : PSet X t' := fun pins s σ H o k v ov iv u Q I r1 r2 r3 q => h pins s σ H o k v ov iv u Q I r1 r2 r3 (i _ _ _ _ _ q)
def orS (g g' : GS) : GS := fun p q r => match g p q r with | some v => some v | none => g' p q r
theorem SetI.or {X : Cx} {g g' : GS} (h : SetI X g) (h' : SetI X g') : SetI X (orS g g') := by
  intro pins s σ H o k v ov iv u Q I r1 r2 r3 ⟨p, pi, pv, w', H1, a, e1, sub, ro, ri, rv, e, kk⟩
  unfold orS at e
  split at e
  · rename_i v' e'
    cases e
    exact h pins s σ H o k v ov iv u Q I r1 r2 r3 ⟨p, pi, pv, _, H1, a, e1, sub, ro, ri, rv, e', kk⟩
  · exact h' pins s σ H o k v ov iv u Q I r1 r2 r3 ⟨p, pi, pv, w', H1, a, e1, sub, ro, ri, rv, e, kk⟩
def gSetL : GS := fun p i v => match p, i with
  | .lst xs, .int i => (L2.ixN xs.length i).map fun j => .lst (xs.set j v)
  | _, _ => none
theorem si_list {X : Cx} : SetI X gSetL := PSet.imp set_list fun o i v H Q ⟨p, pi, pv, w', H1, a, e1, sub, ro, ri, rv, e, k⟩ => by
  subst e1
  unfold gSetL at e
  split at e
  · rename_i xs j
    obtain ⟨m, e2, e3⟩ := Option.map_eq_some_iff.mp e
    cases e3
    obtain ⟨vs, hv, rvs⟩ := ro
    simp only [Rep] at ri
    subst ri
    refine ⟨a, vs, j, m, rfl, rfl, hv, by rw [rvs.length]; exact e2, ?_⟩
    exact k _ ⟨_, upd_same, rvs.set m rv⟩
  · cases e
def tSub (i : Nat) (fi : EF) (g : GS) : PV → Env → Option Env := fun v ρ => (look ρ i).bind fun _ => (fi ρ).bind fun r => (look r.2 i).bind fun p => (g p r.1 v).map fun w => r.2.set i (some w)
def fAsg (fe : EF) (t : PV → Env → Option Env) : SF := fun ρ => (fe ρ).bind fun r => (t r.1 r.2).map fun ρ' => (.nx, ρ')
section
variable {X : Cx} {own io lm : List Nat} {o ix e tg : Expr} {g : GS} {fi fe : EF} {t : PV → Env → Option Env} {pos : Pos} {i : Nat}
theorem gx_sub (hs : SetI X g) (ho : PE X o (tVar i)) (hi : i ∈ own) (hx : EX X own ix fi)
    (ha : ∀ v, assign (.Subscript o ix pos) X.env v = (do
      let ov ← holding [v] (eval o X.env)
      let iv ← holding [v, ov] (eval ix X.env)
      standAt pos
      holding [v, ov, iv] (setItem ov iv v)
      release [v, ov, iv] []) := by intro _; rfl) : GX X own (.Subscript o ix pos) (tSub i fi g) := ⟨PG.ent (pg_sub ho hx.run hs ha) fun v σ H Q ⟨B, ρ, p, ρ', H1, S, r, e, k⟩ => by
  obtain ⟨p0, e0, e⟩ := Option.bind_eq_some_iff.mp e
  obtain ⟨pi, ρ1, e1, e⟩ := inv_b1 e
  obtain ⟨pc, e2, e⟩ := Option.bind_eq_some_iff.mp e
  obtain ⟨w', e3, e4⟩ := Option.map_eq_some_iff.mp e
  cases e4
  obtain ⟨a, h1, h2, h3, h4⟩ := S.ow i p0 hi (look_iff.mp e0)
  refine ⟨_, h1, B, ρ, pi, ρ1, H1, S, e1, fun x H2 H12 le S2 rx => ?_⟩
  obtain ⟨a', g1, g2, g3, g4⟩ := S2.ow i pc hi (look_iff.mp e2)
  rw [h1] at g1
  obtain rfl : a = a' := by injection g1 with q; injection q with q; injection q
  exact ⟨pc, pi, p, w', H12, a, rfl, S2.sub, g4, rx, r.mono le _ _, e3, fun ob ro => k σ _ H12 le (S2.write hi (look_iff.mp e2) h1 ro)⟩⟩
theorem sx_asg (he : EX X own e fe) (hg : GX X own tg t) (hs : swapsWithSole [tg] e pos.line X.env = pure false := by rfl) (hw : swappedStores [tg] e X.env = pure none := by rfl)
    (h1 : (assignEach [tg] X.env).map (·.2) = [assign tg X.env] := by rfl) : SX X io lm own own (.Assign [tg] e pos) (fAsg fe t) := ⟨PS.ent (ps_asg he.run hg.run hs hw h1) fun D σ H ⟨B, ρ, fl, ρ', H1, hio, S, e, k⟩ => by
  obtain ⟨v, ρ1, e1, e2⟩ := inv_b1 e
  obtain ⟨ρ2, e3, e4⟩ := Option.map_eq_some_iff.mp e2
  cases e4
  refine ⟨B, ρ, v, ρ1, H1, S, e1, fun x H' H1' le S' r => ?_⟩
  exact ⟨B, ρ1, v, ρ', H1', S', r, e3, fun σ2 H2 H12 le2 S2 => k σ2 H2 H12 (le.trans le2) S2⟩⟩
end
/-! ### a, b = x, y: names; own new things among them -/
def fPar (i j : Nat) (fa fb : EF) : SF := fun ρ => (fa ρ).bind fun r => (fb r.2).bind fun s => some (.nx, (s.2.set i (some r.1)).set j (some s.1))
section
variable {X : Cx} {own own' io lm : List Nat} {a b : Expr} {fa fb : EF} {pos px py pt pt2 : Pos} {kt k2} {i j : Nat} {x y : Str}
theorem sx_par (hc : X.calm = true) (hN : X.N.Nodup) (hi : X.N[i]? = some x) (hj : X.N[j]? = some y) (hij : i ≠ j) (hx : X.env.scope.names.lookup x = some .local) (hy : X.env.scope.names.lookup y = some .local)
    (ha : EX X own a fa) (hb : EX X own b fb) (hoi : i ∉ own) (hoj : j ∉ own)
    (hw : swappedStores [.Tuple [.Name x px, .Name y py] kt pt] (.Tuple [a, b] k2 pt2) X.env = pure (some [x, y]) := by rfl)
    (hs : swapsWithSole [.Tuple [.Name x px, .Name y py] kt pt] (.Tuple [a, b] k2 pt2) pos.line X.env = pure false := by rfl)
    (s1 : starEach [a, b] X.env = (false, eval a X.env) :: starEach [b] X.env := by rfl) (s2 : starEach [b] X.env = (false, eval b X.env) :: starEach [] X.env := by rfl) :
    SX X io lm own own (.Assign [.Tuple [.Name x px, .Name y py] kt pt] (.Tuple [a, b] k2 pt2) pos) (fPar i j fa fb) := ⟨PS.ent (ps_par hc hN hi hj hij hx hy (pa_cons ha.run (pa_cons hb.run pa_nil s2) s1) hw hs) fun D σ H ⟨B, ρ, fl, ρ', H1, hio, S, e, k⟩ => by
  obtain ⟨va, ρ1, e1, e⟩ := inv_b1 e
  obtain ⟨vb, ρ2, e2, e⟩ := inv_b1 e
  cases e
  refine ⟨B, ρ, va, ρ1, H1, S, e1, fun xa H2 H12 le S2 ra => ⟨B, ρ1, vb, ρ2, H12, S2, e2, fun xb H3 H13 le2 S3 rb => ?_⟩⟩
  exact ⟨xa, xb, rfl, k _ H3 H13 (le.trans le2) ((S3.set hoi (ra.mono le2 _ _)).set hoj rb)⟩⟩
/-- the second one new -/
theorem sx_parN (hc : X.calm = true) (hN : X.N.Nodup) (hi : X.N[i]? = some x) (hj : X.N[j]? = some y) (hij : i ≠ j) (hx : X.env.scope.names.lookup x = some .local) (hy : X.env.scope.names.lookup y = some .local)
    (ha : EX X own a fa) (hb : EN X own b fb) (hoi : i ∉ own') (hio : j ∉ io) (ho : ∀ l, l ∈ own' ↔ l = j ∨ l ∈ own)
    (hw : swappedStores [.Tuple [.Name x px, .Name y py] kt pt] (.Tuple [a, b] k2 pt2) X.env = pure (some [x, y]) := by rfl)
    (hs : swapsWithSole [.Tuple [.Name x px, .Name y py] kt pt] (.Tuple [a, b] k2 pt2) pos.line X.env = pure false := by rfl)
    (s1 : starEach [a, b] X.env = (false, eval a X.env) :: starEach [b] X.env := by rfl) (s2 : starEach [b] X.env = (false, eval b X.env) :: starEach [] X.env := by rfl) :
    SX X io lm own own' (.Assign [.Tuple [.Name x px, .Name y py] kt pt] (.Tuple [a, b] k2 pt2) pos) (fPar i j fa fb) := ⟨PS.ent (ps_par hc hN hi hj hij hx hy (pa_cons ha.run (pa_cons hb.run pa_nil s2) s1) hw hs) fun D σ H ⟨B, ρ, fl, ρ', H1, hio', S, e, k⟩ => by
  obtain ⟨va, ρ1, e1, e⟩ := inv_b1 e
  obtain ⟨vb, ρ2, e2, e⟩ := inv_b1 e
  cases e
  refine ⟨B, ρ, va, ρ1, H1, S, e1, fun xa H2 H12 le S2 ra => ⟨B, ρ1, vb, ρ2, H12, S2, e2, fun c H3 H13 le2 F => ?_⟩⟩
  have S3 := F.sr.set (fun z => hoi ((ho i).mpr (.inr z))) (ra.mono le2 _ _)
  refine ⟨xa, _, rfl, k _ H3 H13 (le.trans le2) (S3.setO (fun p hp (e : p.1 = j) => hio (by rw [← e]; exact hio' p hp)) ho F.n0 F.n1 F.rep fun l w hl hw => ?_)⟩
  have ne : l ≠ i := fun z => hoi ((ho i).mpr (.inr (z ▸ hl)))
  rw [List.getElem?_set_ne (Ne.symm ne)] at hw ⊢
  exact F.ne l w hl hw⟩
end
/-! ### name op= e -/
/-- a shared name -/
def fAug (i : Nat) (g : G2) (fe : EF) : SF := fun ρ => (look ρ i).bind fun p => (fe ρ).bind fun r => (g p r.1).map fun v => (.nx, r.2.set i (some v))
section
variable {X : Cx} {own io lm : List Nat} {e : Expr} {fe : EF} {pos pos' : Pos} {i : Nat} {x : Str} {op : Operator} {g : G2}
theorem sx_aug (hN : X.N.Nodup) (hi : X.N[i]? = some x) (hx : Loc X.env.scope x) (hown : i ∉ own) (he : EX X own e fe) (ho : OpV X (inplaceOp op) g) (hf : X.fn x = true ∨ X.env.scope.names.lookup x = some .local := by first | exact .inl rfl | exact .inr rfl | assumption) :
    SX X io lm own own (.AugAssign (.Name x pos') op e pos) (fAug i g fe) := ⟨PS.ent (ps_aug (ti := r2V X.K g) hN hi hx he.run (fun pins s σ H x y v u Q I rx ry q => ho pins s σ H x y v u Q I rx ry q) hf) fun D σ H ⟨B, ρ, fl, ρ', H1, hio, S, e, k⟩ => by
  obtain ⟨p, e0, e⟩ := Option.bind_eq_some_iff.mp e
  obtain ⟨q, ρ1, e1, e⟩ := inv_b1 e
  obtain ⟨v, e2, e3⟩ := Option.map_eq_some_iff.mp e
  cases e3
  obtain ⟨y, h1, h2⟩ := S.sh i p hown (look_iff.mp e0)
  refine ⟨y, h1, B, ρ, q, ρ1, H1, S, e1, fun z H' H1' le S' r => ?_⟩
  refine ⟨p, q, v, H1', S'.sub, (h2.mono le _ _).rt S'.sub.le, r.rt S'.sub.le, e2, fun w H3 H13 ex rw' => ?_⟩
  exact k _ H3 H13 (le.trans ex.le) ((S'.ext ex).set hown rw')⟩
/-- an own list: xs += ys -/
def gExt : PV → PV → Option PV := fun p q => match p, q with
  | .lst xs, .lst ys => if xs.length + ys.length ≤ 1000000 then some (.lst (xs ++ ys)) else none
  | _, _ => none
def fAugO (i : Nat) (g : G2) (fe : EF) : SF := fun ρ => (look ρ i).bind fun _ => (fe ρ).bind fun r => (look r.2 i).bind fun p => (g p r.1).map fun v => (.nx, r.2.set i (some v))
end
end PT

set_option Elab.async false
set_option linter.all false
set_option autoImplicit false
set_option maxRecDepth 100000
set_option maxHeartbeats 4000000
/-! PT7: list comprehensions. -/
namespace PT
open PySem PySem.Spec PyProof.Rows L2

def wipeP (ρ : Env) : List Nat → Env
  | [] => ρ
  | v :: vs => (wipeP ρ vs).set v none
def backP (ρ0 : Env) : List Nat → Env → Env
  | [], ρ => ρ
  | v :: vs, ρ => (backP ρ0 vs ρ).set v (ρ0[v]?.getD none)
theorem wipeP_length (ρ : Env) : ∀ vs : List Nat, (wipeP ρ vs).length = ρ.length
  | [] => rfl
  | v :: vs => by unfold wipeP; rw [List.length_set, wipeP_length ρ vs]
theorem wipeP_some {ρ : Env} {i : Nat} {p : PV} : ∀ {vs : List Nat}, (wipeP ρ vs)[i]? = some (some p) → i ∉ vs ∧ ρ[i]? = some (some p)
  | [], h => ⟨by simp, h⟩
  | v :: vs, h => by
    unfold wipeP at h
    by_cases e : v = i
    · subst e
      by_cases hv : v < (wipeP ρ vs).length
      · rw [List.getElem?_set_self hv] at h; cases h
      · rw [List.getElem?_eq_none (by simpa using hv)] at h; cases h
    · rw [List.getElem?_set_ne e] at h
      obtain ⟨h1, h2⟩ := wipeP_some h
      exact ⟨by simp only [List.mem_cons, not_or]; exact ⟨fun z => e z.symm, h1⟩, h2⟩
theorem wipeP_out {ρ : Env} {i : Nat} : ∀ {vs : List Nat}, i ∉ vs → (wipeP ρ vs)[i]? = ρ[i]?
  | [], _ => rfl
  | v :: vs, h => by
    unfold wipeP
    simp only [List.mem_cons, not_or] at h
    rw [List.getElem?_set_ne (Ne.symm h.1), wipeP_out h.2]
theorem wipe_out' {σ : L2.St} {i : Nat} : ∀ {vs : List Nat}, i ∉ vs → (wipe σ vs)[i]? = σ[i]?
  | [], _ => rfl
  | v :: vs, h => by
    unfold wipe
    simp only [List.mem_cons, not_or] at h
    rw [List.getElem?_set_ne (Ne.symm h.1), wipe_out' h.2]
theorem wipe_in {σ : L2.St} {i : Nat} (hl : i < σ.length) : ∀ {vs : List Nat}, i ∈ vs → (wipe σ vs)[i]? = some none
  | [], h => by cases h
  | v :: vs, h => by
    unfold wipe
    by_cases e : v = i
    · subst e
      rw [List.getElem?_set_self (by rw [wipe_length]; exact hl)]
    · rw [List.getElem?_set_ne e]
      rcases List.mem_cons.mp h with z | z
      · exact absurd z.symm e
      · exact wipe_in hl z
theorem wipe_eq {σ σ2 : L2.St} {vs : List Nat} (hl : σ2.length = σ.length) (h : ∀ k, k ∉ vs → σ2[k]? = (wipe σ vs)[k]?) : wipe σ2 vs = wipe σ vs := by
  apply List.ext_getElem?
  intro k
  by_cases hk : k ∈ vs
  · by_cases hlt : k < σ.length
    · rw [wipe_in hlt hk, wipe_in (by omega) hk]
    · rw [List.getElem?_eq_none (by rw [wipe_length]; omega), List.getElem?_eq_none (by rw [wipe_length]; omega)]
  · rw [wipe_out' hk, h k hk]
theorem backP_length (ρ0 ρ : Env) : ∀ vs : List Nat, (backP ρ0 vs ρ).length = ρ.length
  | [] => rfl
  | v :: vs => by unfold backP; rw [List.length_set, backP_length ρ0 ρ vs]
theorem backP_out {ρ0 ρ : Env} {i : Nat} : ∀ {vs : List Nat}, i ∉ vs → (backP ρ0 vs ρ)[i]? = ρ[i]?
  | [], _ => rfl
  | v :: vs, h => by
    unfold backP
    simp only [List.mem_cons, not_or] at h
    rw [List.getElem?_set_ne (Ne.symm h.1), backP_out h.2]
theorem backP_in {ρ0 ρ : Env} {i : Nat} {p : PV} : ∀ {vs : List Nat}, i ∈ vs → (backP ρ0 vs ρ)[i]? = some (some p) → ρ0[i]? = some (some p)
  | [], h, _ => by cases h
  | v :: vs, h, e => by
    unfold backP at e
    by_cases ev : v = i
    · subst ev
      by_cases hv : v < (backP ρ0 vs ρ).length
      · rw [List.getElem?_set_self hv] at e
        cases q : ρ0[v]? with
        | none => rw [q] at e; cases e
        | some o => rw [q] at e; simpa using e
      · rw [List.getElem?_eq_none (by simpa using hv)] at e; cases e
    · rw [List.getElem?_set_ne ev] at e
      rcases List.mem_cons.mp h with z | z
      · exact absurd z.symm ev
      · exact backP_in z e

def Base.pin (B : Base) (D : Addr) (o : HO) : Base := ⟨fun b => if b = D then some o else B.H0 b, fun b => if b = D then none else B.H1 b, B.io⟩
section
variable {K : PySem.W.Frag} {B : Base} {own : List Nat} {ρ : Env} {σ : L2.St} {H1 H : Hp} {D : Addr} {o : HO}
theorem SR.pin (S : SR K B own ρ σ H1 H) (h : H D = some o) (h1 : H1 D = none) (hd : ∀ (j : Nat) w, j ∈ own → ρ[j]? = some (some w) → σ[j]? ≠ some (some (.ref D))) : SR K (B.pin D o) own ρ σ H1 H where
  len := S.len
  sub := S.sub
  fr := fun b u e => by
    simp only [Base.pin] at e ⊢
    by_cases hb : b = D
    · rw [if_pos hb] at e ⊢
      cases e
      rw [hb]; exact ⟨h, h1⟩
    · rw [if_neg hb] at e ⊢
      exact S.fr b u e
  sh := S.sh
  ow := fun i v hi hv => by
    obtain ⟨a, q1, q2, q3, q4⟩ := S.ow i v hi hv
    have ne : a ≠ D := fun z => hd i v hi hv (by rw [q1, z])
    exact ⟨a, q1, by simp only [Base.pin, if_neg ne]; exact q2, q3, q4⟩
  ds := S.ds
  io := S.io
theorem SR.unpin (S : SR K (B.pin D o) own ρ σ H1 H) (h0 : B.H0 D = none) : SR K B own ρ σ H1 H ∧ H D = some o ∧ H1 D = none ∧ ∀ (j : Nat) w, j ∈ own → ρ[j]? = some (some w) → σ[j]? ≠ some (some (.ref D)) := by
  have hD : H D = some o ∧ H1 D = none := by
    have := S.fr D o (by simp [Base.pin])
    simpa [Base.pin] using this
  refine ⟨⟨S.len, S.sub, fun b u e => ?_, S.sh, fun i v hi hv => ?_, S.ds, S.io⟩, hD.1, hD.2, fun j w hj hw e => ?_⟩
  · have ne : b ≠ D := fun z => by rw [z, h0] at e; cases e
    have := S.fr b u (by simp only [Base.pin, if_neg ne]; exact e)
    simpa only [Base.pin, if_neg ne] using this
  · obtain ⟨a, q1, q2, q3, q4⟩ := S.ow i v hi hv
    have ne : a ≠ D := fun z => by simp [Base.pin, z] at q2
    exact ⟨a, q1, by simpa only [Base.pin, if_neg ne] using q2, q3, q4⟩
  · obtain ⟨a, q1, q2, q3, q4⟩ := S.ow j w hj hw
    rw [e] at q1
    obtain rfl : D = a := by injection q1 with q; injection q with q; injection q
    simp [Base.pin] at q2
theorem SR.wipe (S : SR K B own ρ σ H1 H) {vs : List Nat} (hv : ∀ k ∈ vs, k ∉ own) : SR K B own (wipeP ρ vs) (L2.wipe σ vs) H1 H where
  len := by rw [wipe_length, wipeP_length, S.len]
  sub := S.sub
  fr := S.fr
  sh := fun i v hi h => by
    obtain ⟨h1, h2⟩ := wipeP_some h
    rw [wipe_out' h1]
    exact S.sh i v hi h2
  ow := fun i v hi h => by
    obtain ⟨h1, h2⟩ := wipeP_some h
    rw [wipe_out' h1]
    exact S.ow i v hi h2
  ds := fun i j v w a hi hj e1 e2 e3 e4 => by
    obtain ⟨h1, h2⟩ := wipeP_some e1
    obtain ⟨h3, h4⟩ := wipeP_some e2
    rw [wipe_out' h1] at e3
    rw [wipe_out' h3] at e4
    exact S.ds i j v w a hi hj h2 h4 e3 e4
  io := fun p hp => by
    obtain ⟨q1, q2, v, q3⟩ := S.io p hp
    have : p.1 ∉ vs := fun z => hv _ z q2
    exact ⟨by rw [wipe_out' this]; exact q1, q2, v, by rw [wipeP_out this]; exact q3⟩
theorem SR.back {ρ3 : Env} {σ2 : L2.St} {H13 H3 : Hp} (S : SR K B own ρ σ H1 H) (S3 : SR K B own ρ3 σ2 H13 H3) (le : LeR H1 H13) {vs : List Nat} (hv : ∀ k ∈ vs, k ∉ own) (hl : σ2.length = σ.length)
    (h : ∀ k, k ∉ vs → σ2[k]? = σ[k]?) : SR K B own (backP ρ vs ρ3) σ H13 H3 where
  len := by rw [backP_length, ← S3.len, hl]
  sub := S3.sub
  fr := S3.fr
  sh := fun i v hi e => by
    by_cases hk : i ∈ vs
    · obtain ⟨x, h1, h2⟩ := S.sh i v hi (backP_in hk e)
      exact ⟨x, h1, h2.mono le _ _⟩
    · rw [backP_out hk] at e
      rw [← h i hk]
      exact S3.sh i v hi e
  ow := fun i v hi e => by
    have hk : i ∉ vs := fun z => hv _ z hi
    rw [backP_out hk] at e
    rw [← h i hk]
    exact S3.ow i v hi e
  ds := fun i j v w a hi hj e1 e2 e3 e4 => by
    have hk : i ∉ vs := fun z => hv _ z hi
    have hk' : j ∉ vs := fun z => hv _ z hj
    rw [backP_out hk] at e1
    rw [backP_out hk'] at e2
    rw [← h i hk] at e3
    rw [← h j hk'] at e4
    exact S3.ds i j v w a hi hj e1 e2 e3 e4
  io := fun p hp => by
    obtain ⟨q1, q2, v, q3⟩ := S3.io p hp
    have hk : p.1 ∉ vs := fun z => hv _ z q2
    exact ⟨by rw [← h _ hk]; exact q1, q2, v, by rw [backP_out hk]; exact q3⟩
end

/-! ### targets that are told -/
def tGc (K : PySem.W.Frag) (own ts : List Nat) (t : PV → Env → Option Env) : TG := fun x σ H Q => ∃ B ρ p ρ' H1, SR K B own ρ σ H1 H ∧ Rep K H1 p x ∧ t p ρ = some ρ' ∧
  ∀ σ' H' H1', LeR H1 H1' → SR K B own ρ' σ' H1' H' → H' = H → σ'.length = σ.length → (∀ k, k ∉ ts → σ'[k]? = σ[k]?) → Q σ' H'
def tGcs (K : PySem.W.Frag) (own ts : List Nat) (t : List PV → Env → Option Env) : TGs := fun xs σ H Q => ∃ B ρ ps ρ' H1, SR K B own ρ σ H1 H ∧ RepL K H1 ps xs ∧ t ps ρ = some ρ' ∧
  ∀ σ' H' H1', LeR H1 H1' → SR K B own ρ' σ' H1' H' → H' = H → σ'.length = σ.length → (∀ k, k ∉ ts → σ'[k]? = σ[k]?) → Q σ' H'
structure GC (X : Cx) (own ts : List Nat) (tg : Expr) (t : PV → Env → Option Env) : Prop where run : PG X tg (tGc X.K own ts t)
structure GCs (X : Cx) (own ts : List Nat) (tg : List Expr) (t : List PV → Env → Option Env) : Prop where run : PGs X tg (tGcs X.K own ts t)
section
variable {X : Cx} {own ts : List Nat} {tg : Expr} {tgs : List Expr} {t : PV → Env → Option Env} {u : List PV → Env → Option Env} {pos : Pos}
theorem gc_name {i : Nat} {x : Str} (hN : X.N.Nodup) (hi : X.N[i]? = some x) (hx : Loc X.env.scope x) (hown : i ∉ own) (hts : i ∈ ts) (hf : X.fn x = true ∨ X.env.scope.names.lookup x = some .local := by first | exact .inl rfl | exact .inr rfl | assumption) :
    GC X own ts (.Name x pos) (tName i) := ⟨PG.ent (pg_name hN hi hx hf) fun v σ H Q ⟨B, ρ, p, ρ', H1, S, r, e, k⟩ => by
  cases e
  exact k _ H H1 (LeR.refl _) (S.set hown r) rfl (by simp) fun l hl => List.getElem?_set_ne fun z => hl (by rw [← z]; exact hts)⟩
theorem gcs_nil : GCs X own ts [] tsNil := ⟨PGs.ent pgs_nil fun v σ H Q ⟨B, ρ, p, ρ', H1, S, r, e, k⟩ => by
  cases p with
  | nil => cases e; exact ⟨RepL.nil_iff.mp r, k σ H H1 (LeR.refl _) S rfl rfl fun _ _ => rfl⟩
  | cons p ps => cases e⟩
theorem gcs_cons (h1 : GC X own ts tg t) (h2 : GCs X own ts tgs u) (hs : (assignEach (tg :: tgs) X.env).map (·.2) = assign tg X.env :: (assignEach tgs X.env).map (·.2) := by rfl) : GCs X own ts (tg :: tgs) (tsCons t u) := ⟨PGs.ent (pgs_cons h1.run h2.run hs) fun v σ H Q ⟨B, ρ, p, ρ', H1, S, r, e, k⟩ => by
  cases p with
  | nil => cases e
  | cons p ps =>
    obtain ⟨ρ1, e1, e2⟩ := Option.bind_eq_some_iff.mp e
    obtain ⟨w, ws, rfl, ra, rb⟩ := RepL.cons_iff.mp r
    refine ⟨w, ws, rfl, B, ρ, p, ρ1, H1, S, ra, e1, fun σ' H' H1' le S' eh n1 f1 => ?_⟩
    subst eh
    exact ⟨B, ρ1, ps, ρ', H1', S', rb.mono le _ _, e2, fun σ2 H2 H12 le2 S2 eh2 n2 f2 => k σ2 H2 H12 (le.trans le2) S2 eh2 (n2.trans n1) fun l hl => (f2 l hl).trans (f1 l hl)⟩⟩
theorem gc_tup {k n : Nat} (hc : X.calm = true) (h : GCs X own ts tgs u) (hn : (assignEach tgs X.env).length = n := by rfl) (hst : (assignEach tgs X.env).findIdx? (·.1) = none := by rfl) : GC X own ts (.Tuple tgs k pos) (tTupG n u) := ⟨PG.ent (pg_tup hc h.run hn hst) fun v σ H Q ⟨B, ρ, p, ρ', H1, S, r, e, k⟩ => by
  cases p with
  | tup xs =>
    unfold tTupG at e
    simp only at e
    split at e
    · rename_i hl
      simp only [Rep] at r
      obtain ⟨a, vs, rfl, q, rl⟩ := r
      exact ⟨a, vs, rfl, S.sub.le.sqT q.sq, by rw [rl.length]; exact hl, B, ρ, xs, ρ', H1, S, rl, e, k⟩
    · cases e
  | _ => cases e⟩
end

/-! ### tests of a clause -/
structure TsX (X : Cx) (own : List Nat) (ifs : List Expr) (f : TF) : Prop where run : PTs X ifs (tT X.K own f)
def fYes : TF := fun ρ => some (true, ρ)
theorem PTs.ent {X : Cx} {e : List Expr} {t t' : TT} (h : PTs X e t) (en : ∀ σ H Q, t' σ H Q → t σ H Q) : PTs X e t' := ⟨fun pins s σ H Q I q => h.run pins s σ H Q I (en _ _ _ q)⟩
theorem ts_nil {X : Cx} {own : List Nat} : TsX X own [] fYes := ⟨PTs.ent pts_nil fun σ H Q ⟨B, ρ, b, ρ', H1, S, e, k⟩ => by
  cases e
  exact k H H1 (LeR.refl _) S⟩
theorem ts_one {X : Cx} {own : List Nat} {c : Expr} {f : TF} (h : TX X own c f) : TsX X own [c] f := ⟨pts_one h.run⟩

/-! ### the comprehension -/
def lcLoop (vs : List Nat) (t : PV → Env → Option Env) (ft : TF) (fe : EF) : List PV → Env → List PV → Option (List PV × Env)
  | [], ρ, acc => some (acc, ρ)
  | p :: ps, ρ, acc => (t p (wipeP ρ vs)).bind fun ρ1 => (ft ρ1).bind fun r => if r.1 = true then (fe r.2).bind fun s => if acc.length < 1000000 then lcLoop vs t ft fe ps (backP ρ vs s.2) (acc ++ [s.1]) else none
    else lcLoop vs t ft fe ps (backP ρ vs r.2) acc
def fLC (vs : List Nat) (its : AF) (t : PV → Env → Option Env) (ft : TF) (fe : EF) : EF := fun ρ => (its ρ).bind fun r => (lcLoop vs t ft fe r.1 r.2 []).bind fun s => some (.lst s.1, s.2)
section
variable {own vs : List Nat} {fi : AF} {t : PV → Env → Option Env} {ft : TF} {fe : EF} {K : PySem.W.Frag}
theorem ent_lc (hv : ∀ k ∈ vs, k ∉ own) : ∀ σ H Q, tF K own (fLC vs fi t ft fe) σ H Q → tLc (tI K own fi) (tGc K own vs t) (tT K own ft) (tE K own fe) vs σ H Q := fun σ H Q ⟨B, ρ, v, ρ', H1, S, e, k⟩ => by
  obtain ⟨its, ρ0, e1, e⟩ := inv_b1 e
  obtain ⟨⟨accF, ρF⟩, e2, e⟩ := Option.bind_eq_some_iff.mp e
  cases e
  refine ⟨B, ρ, its, ρ0, H1, S, e1, fun J H' H1' le S' W D hD => ?_⟩
  have h0 : B.H0 D = none := by
    cases q : B.H0 D with
    | none => rfl
    | some o => rw [(S'.fr D o q).1] at hD; cases hD
  have subD : Sub H' (upd H' D (.lst [])) := fun b o q => by rw [upd_ne (ne_of_none q hD)]; exact q
  have F0 : FR K own B ρ0 σ H1' (upd H' D (.lst [])) D (.lst []) := FR.mk' S' subD hD ⟨[], upd_same, RepL.nil⟩
  refine ⟨fun i m H2 => ∃ ρ2 H12 accP acc, LeR H1' H12 ∧ SR K (B.pin D (.lst acc)) own ρ2 σ H12 H2 ∧ RepL K H12 accP acc ∧ i + m = its.length ∧ lcLoop vs t ft fe (its.drop i) ρ2 accP = some (accF, ρF),
    ⟨its.length, ρ0, H1', [], [], LeR.refl _, F0.sr.pin upd_same F0.n1 F0.ne, RepL.nil, by simp, by simpa using e2⟩, ?_⟩
  rintro i m H2 ⟨ρ2, H12, accP, acc, le2, S2, ra, hm, e3⟩
  obtain ⟨w1, w2⟩ := W H12 H2 le2 S2.sub
  by_cases hlt : i < its.length
  · right
    have hd : its.drop i = its[i] :: its.drop (i + 1) := List.drop_eq_getElem_cons hlt
    rw [hd] at e3
    unfold lcLoop at e3
    obtain ⟨ρ3, e4, e5⟩ := Option.bind_eq_some_iff.mp e3
    obtain ⟨b, ρ4, e6, e7⟩ := inv_b1 e5
    obtain ⟨g1, g2⟩ := w1 i its[i] (List.getElem?_eq_getElem hlt)
    refine ⟨g1, fun H5 => ∃ ρ5 H15 accP5 acc5, LeR H1' H15 ∧ SR K (B.pin D (.lst acc5)) own ρ5 σ H15 H5 ∧ RepL K H15 accP5 acc5 ∧ lcLoop vs t ft fe (its.drop (i + 1)) ρ5 accP5 = some (accF, ρF),
      fun H5 ⟨ρ5, H15, aP, a5, l5, S5, r5, e8⟩ => ⟨m - 1, by omega, ρ5, H15, aP, a5, l5, S5, r5, by omega, e8⟩, fun x H3 y => ?_⟩
    obtain ⟨H13, ex, rx⟩ := g2 x H3 y
    have S3 := S2.ext ex
    refine ⟨_, wipeP ρ2 vs, its[i], ρ3, H13, S3.wipe hv, rx, e4, fun σ6 H6 H16 l6 S6 eh hlen hσ => ⟨?_, ?_⟩⟩
    · exact wipe_eq (by rw [hlen, wipe_length]) hσ
    · refine ⟨_, ρ3, b, ρ4, H16, S6, e6, fun H7 H17 l7 S7 => ?_⟩
      have lw : LeR H1' H17 := ((le2.trans ex.le).trans l6).trans l7
      cases b with
      | false =>
        refine iteF ⟨backP ρ2 vs ρ4, H17, accP, acc, lw, S3.back S7 (l6.trans l7) hv (by rw [hlen, wipe_length]) (fun l hl => by rw [hσ l hl, wipe_out' hl]), ra.mono ((ex.le.trans l6).trans l7) _ _, e7⟩
      | true =>
        obtain ⟨y', ρ5, e8, e9⟩ := inv_b1 (show (fe ρ4).bind _ = some (accF, ρF) from e7)
        dsimp only at e9
        split at e9
        · rename_i hacc
          refine iteT ⟨_, ρ4, y', ρ5, H17, S7, e8, fun z H8 H18 l8 S8 rz => ?_⟩
          have S9 := S3.back S8 ((l6.trans l7).trans l8) hv (by rw [hlen, wipe_length]) (fun l hl => by rw [hσ l hl, wipe_out' hl])
          obtain ⟨S10, q1, q2, q3⟩ := S9.unpin h0
          have ra8 : RepL K H18 accP acc := ra.mono (((ex.le.trans l6).trans l7).trans l8) _ _
          refine ⟨acc, q1, by rw [ra8.length, sizeLine_eq]; omega, backP ρ2 vs ρ5, H18, accP ++ [y'], acc ++ [z], lw.trans l8, ?_, ra8.append (RepL.cons rz RepL.nil), e9⟩
          refine SR.pin ⟨S10.len, fun b o q => ?_, fun b o q => ?_, S10.sh, fun l v hl hv' => ?_, S10.ds, S10.io⟩ upd_same q2 q3
          · have : b ≠ D := fun z => by rw [z, q2] at q; cases q
            rw [upd_ne this]; exact S10.sub b o q
          · obtain ⟨p1, p2⟩ := S10.fr b o q
            have : b ≠ D := fun z => by rw [z, h0] at q; cases q
            exact ⟨by rw [upd_ne this]; exact p1, p2⟩
          · obtain ⟨a, p1, p2, p3, p4⟩ := S10.ow l v hl hv'
            have : a ≠ D := fun z => q3 l v hl hv' (by rw [p1, z])
            exact ⟨a, p1, p2, p3, p4.move (LeR.refl _) (upd_ne this)⟩
        · cases e9
  · left
    have hl : i = its.length := by omega
    rw [hl] at e3
    simp only [List.drop_length, lcLoop] at e3
    cases e3
    obtain ⟨S10, q1, q2, q3⟩ := S2.unpin h0
    exact ⟨by rw [hl]; exact w2, k D H2 H12 (le.trans le2) ⟨S10, h0, q2, ⟨acc, q1, ra⟩, q3⟩⟩
end

section
variable {X : Cx} {own own' io lm vs : List Nat} {elt tg iter : Expr} {ifs : List Expr} {scope : Scope} {nm : List (Str × Nat)} {pos spos py : Pos} {fi : AF} {t : PV → Env → Option Env} {ft : TF} {fe : EF} {i : Nat} {y : Str}
theorem en_lc (hc : X.calm = true) (hN : X.N.Nodup) (hi : IX X own tg iter fi) (ok : BlkOk X.N X.env.scope scope nm) (hvs : nm.map (·.2) = vs) (hv : ∀ k ∈ vs, k ∉ own)
    (hg : ∀ (s : Shared) (H : Hp) (C : Addr) (cl : List (Str × Addr)) (fp : List Addr), GC (X.blk s H scope (compEnvC scope cl C X.env) fp) own vs tg t) (ht : ∀ (s : Shared) (H : Hp) (C : Addr) (cl : List (Str × Addr)) (fp : List Addr), TsX (X.blk s H scope (compEnvC scope cl C X.env) fp) own ifs ft)
    (he : ∀ (s : Shared) (H : Hp) (C : Addr) (cl : List (Str × Addr)) (fp : List Addr), EX (X.blk s H scope (compEnvC scope cl C X.env) fp) own elt fe) (hs : ∀ x, foldedSetIterable iter X.env x = pure x := by intro _; rfl) :
    EN X own (.ListComp elt [⟨tg, iter, ifs, 0⟩] scope pos) (fLC vs fi t ft fe) := by
  subst hvs
  exact ⟨PE.ent (pe_lc hc hN hi.run ok (fun s H C cl fp => (hg s H C cl fp).run) (fun s H C cl fp => (ht s H C cl fp).run) (fun s H C cl fp => (he s H C cl fp).run) hs) (ent_lc hv)⟩
/-- y = [..] -/
theorem sx_lcN (hc : X.calm = true) (hN : X.N.Nodup) (hy : X.N[i]? = some y) (hyl : X.env.scope.names.lookup y = some .local) (hio : i ∉ io) (ho : ∀ j, j ∈ own' ↔ j = i ∨ j ∈ own)
    (hsw : swapsWith (.ListComp elt [⟨tg, iter, ifs, 0⟩] scope pos) (some (.Name y py)) spos.line X.env = pure true) (hi : IX X own tg iter fi) (ok : BlkOk X.N X.env.scope scope nm) (hvs : nm.map (·.2) = vs) (hv : ∀ k ∈ vs, k ∉ own)
    (hg : ∀ (s : Shared) (H : Hp) (C : Addr) (cl : List (Str × Addr)) (fp : List Addr), GC (X.blk s H scope (compEnvC scope cl C X.env) fp) own vs tg t) (ht : ∀ (s : Shared) (H : Hp) (C : Addr) (cl : List (Str × Addr)) (fp : List Addr), TsX (X.blk s H scope (compEnvC scope cl C X.env) fp) own ifs ft)
    (he : ∀ (s : Shared) (H : Hp) (C : Addr) (cl : List (Str × Addr)) (fp : List Addr), EX (X.blk s H scope (compEnvC scope cl C X.env) fp) own elt fe) (hs : ∀ x, foldedSetIterable iter X.env x = pure x := by intro _; rfl) :
    SX X io lm own own' (.Assign [.Name y py] (.ListComp elt [⟨tg, iter, ifs, 0⟩] scope pos) spos) (fSet i (fLC vs fi t ft fe)) := by
  subst hvs
  exact ⟨PS.ent (ps_setLc hc hN hy hyl hsw hi.run ok (fun s H C cl fp => (hg s H C cl fp).run) (fun s H C cl fp => (ht s H C cl fp).run) (fun s H C cl fp => (he s H C cl fp).run) hs) fun D σ H ⟨B, ρ, fl, ρ', H1, hi', S, e, k⟩ => by
    obtain ⟨v, ρ1, e1, e2⟩ := inv_b1 e
    cases e2
    exact ent_lc hv σ H _ ⟨B, ρ, v, ρ1, H1, S, e1, fun a H' H1' le F => k _ H' H1' le (F.sr.setO (fun p hp (e : p.1 = i) => hio (by rw [← e]; exact hi' p hp)) ho F.n0 F.n1 F.rep F.ne)⟩⟩
theorem sx_lc (hc : X.calm = true) (hN : X.N.Nodup) (hy : X.N[i]? = some y) (hyl : X.env.scope.names.lookup y = some .local) (hown : i ∉ own)
    (hsw : swapsWith (.ListComp elt [⟨tg, iter, ifs, 0⟩] scope pos) (some (.Name y py)) spos.line X.env = pure true) (hi : IX X own tg iter fi) (ok : BlkOk X.N X.env.scope scope nm) (hvs : nm.map (·.2) = vs) (hv : ∀ k ∈ vs, k ∉ own)
    (hg : ∀ (s : Shared) (H : Hp) (C : Addr) (cl : List (Str × Addr)) (fp : List Addr), GC (X.blk s H scope (compEnvC scope cl C X.env) fp) own vs tg t) (ht : ∀ (s : Shared) (H : Hp) (C : Addr) (cl : List (Str × Addr)) (fp : List Addr), TsX (X.blk s H scope (compEnvC scope cl C X.env) fp) own ifs ft)
    (he : ∀ (s : Shared) (H : Hp) (C : Addr) (cl : List (Str × Addr)) (fp : List Addr), EX (X.blk s H scope (compEnvC scope cl C X.env) fp) own elt fe) (hs : ∀ x, foldedSetIterable iter X.env x = pure x := by intro _; rfl) :
    SX X io lm own own (.Assign [.Name y py] (.ListComp elt [⟨tg, iter, ifs, 0⟩] scope pos) spos) (fSet i (fLC vs fi t ft fe)) := by
  subst hvs
  exact ⟨PS.ent (ps_setLc hc hN hy hyl hsw hi.run ok (fun s H C cl fp => (hg s H C cl fp).run) (fun s H C cl fp => (ht s H C cl fp).run) (fun s H C cl fp => (he s H C cl fp).run) hs) fun D σ H ⟨B, ρ, fl, ρ', H1, hi', S, e, k⟩ => by
    obtain ⟨v, ρ1, e1, e2⟩ := inv_b1 e
    cases e2
    refine ent_lc hv σ H _ ⟨B, ρ, v, ρ1, H1, S, e1, fun a H' H1' le F => ?_⟩
    obtain ⟨H1'', le', S', r⟩ := F.share
    exact k _ H' H1'' (le.trans le') (S'.set hown r)⟩
end
end PT

set_option Elab.async false
set_option linter.all false
set_option autoImplicit false
set_option maxRecDepth 100000
set_option maxHeartbeats 4000000
/-! PT8: operations by values: numbers, texts, lists, tuples. -/
namespace PT
open PySem PySem.Spec PyProof.Rows L2

/-! ### numbers -/
section
variable {X : Cx}
theorem rt_int {K : PySem.W.Frag} {H1 H : Hp} {i : Int} {x : V} (r : RT K H1 H (.int i) x) : x = .int i := by have := r.scal; simpa using this
theorem rt_str {K : PySem.W.Frag} {H1 H : Hp} {i : Str} {x : V} (r : RT K H1 H (.str i) x) : x = .str i := by have := r.scal; simpa using this
theorem rt_bl {K : PySem.W.Frag} {H1 H : Hp} {i : Bool} {x : V} (r : RT K H1 H (.bl i) x) : x = .bl i := by have := r.scal; simpa using this
theorem rt_non {K : PySem.W.Frag} {H1 H : Hp} {x : V} (r : RT K H1 H .non x) : x = .non := by have := r.scal; simpa using this
theorem kV'.at {K : PySem.W.Frag} {v : PV} {H1 H : Hp} {Q : VK} (k : kV' K v H1 H Q) (s : Sub H1 H) {z : V} (r : Rep K H1 v z) : Q z H := k z H H1 (Ext.refl s) r
def gI (f : Int → Int → Option PV) : G2 := fun p q => match p, q with
  | .int i, .int j => f i j
  | _, _ => none
theorem ov_int {f : Value → Value → Sem Value} {C : Int → Int → Prop} {g : Int → Int → V} {h : Int → Int → Option PV} (ho : OpR X f (rI C g)) (hh : ∀ i j v, h i j = some v → C i j ∧ ∀ H, Rep X.K H v (g i j)) : OpV X f (gI h) :=
  OpR.imp ho fun x y H Q ⟨p, q, v, H1, s, a, b, e, k⟩ => by
    unfold gI at e
    split at e
    · rename_i i j
      obtain ⟨hc, hr⟩ := hh i j v e
      exact ⟨i, j, rt_int a, rt_int b, hc, k.at s (hr _)⟩
    · cases e
theorem ov_int0 {f : Value → Value → Sem Value} {g : Int → Int → V} {h : Int → Int → Option PV} (ho : OpR X f (rI0 g)) (hh : ∀ i j v, h i j = some v → ∀ H, Rep X.K H v (g i j)) : OpV X f (gI h) :=
  OpR.imp ho fun x y H Q ⟨p, q, v, H1, s, a, b, e, k⟩ => by
    unfold gI at e
    split at e
    · rename_i i j
      exact ⟨i, j, rt_int a, rt_int b, k.at s (hh i j v e _)⟩
    · cases e
abbrev gAddI : G2 := gI fun i j => some (.int (i + j))
abbrev gSubI : G2 := gI fun i j => some (.int (i - j))
/-- small: below 2 ^ 4096 -/
def wideI (i : Int) : Bool := decide (i.natAbs.log2 < 4096)
abbrev gMulI : G2 := gI fun i j => if (wideI i && wideI j) = true then some (.int (i * j)) else none
abbrev gDivI : G2 := gI fun i j => if (decide (j ≠ 0) && decide (j.natAbs < 1073741824)) = true then some (.int (i.fdiv j)) else none
abbrev gModI : G2 := gI fun i j => if j ≠ 0 then some (.int (i.fmod j)) else none
abbrev gPowI : G2 := gI fun i j => if (decide (0 ≤ j) && decide (j ≤ 1000) && decide (i.natAbs < 1000000)) = true then some (.int (i ^ j.toNat)) else none
theorem ov_add : OpV X (binaryOp .Add) gAddI := ov_int0 op_add fun i j v e H => by cases e; exact rep_int
theorem ov_sub : OpV X (binaryOp .Sub) gSubI := ov_int0 op_sub fun i j v e H => by cases e; exact rep_int
theorem ov_mul : OpV X (binaryOp .Mult) gMulI := ov_int op_mulW fun i j v e => by
  split at e
  · rename_i h
    simp only [wideI, Bool.and_eq_true, decide_eq_true_eq] at h
    cases e
    exact ⟨by unfold CMulW; omega, fun _ => rep_int⟩
  · cases e
theorem ov_div : OpV X (binaryOp .FloorDiv) gDivI := ov_int op_fdivN fun i j v e => by
  split at e
  · rename_i h
    simp only [Bool.and_eq_true, decide_eq_true_eq] at h
    cases e
    exact ⟨h, fun _ => rep_int⟩
  · cases e
theorem ov_mod : OpV X (binaryOp .Mod) gModI := ov_int op_modN fun i j v e => by
  split at e
  · rename_i h
    cases e
    exact ⟨h, fun _ => rep_int⟩
  · cases e
theorem ov_pow : OpV X (binaryOp .Pow) gPowI := ov_int op_pow fun i j v e => by
  split at e
  · rename_i h
    simp only [Bool.and_eq_true, decide_eq_true_eq] at h
    cases e
    exact ⟨⟨h.1.1, by omega, by omega⟩, fun _ => rep_int⟩
  · cases e
theorem ov_iadd : OpV X (inplaceOp .Add) gAddI := ov_int0 iop_add fun i j v e H => by cases e; exact rep_int
theorem ov_isub : OpV X (inplaceOp .Sub) gSubI := ov_int0 iop_sub fun i j v e H => by cases e; exact rep_int
abbrev gLt : G2 := gI fun i j => some (.bl (decide (i < j)))
abbrev gLe : G2 := gI fun i j => some (.bl (decide (i ≤ j)))
abbrev gGt : G2 := gI fun i j => some (.bl (decide (j < i)))
abbrev gGe : G2 := gI fun i j => some (.bl (decide (j ≤ i)))
theorem ov_lt : OpV X (compareOp .Lt) gLt := ov_int0 op_lt fun i j v e H => by cases e; exact rep_bl
theorem ov_le : OpV X (compareOp .LtE) gLe := ov_int0 op_le fun i j v e H => by cases e; exact rep_bl
theorem ov_gt : OpV X (compareOp .Gt) gGt := ov_int0 op_gt fun i j v e H => by cases e; exact rep_bl
theorem ov_ge : OpV X (compareOp .GtE) gGe := ov_int0 op_ge fun i j v e H => by cases e; exact rep_bl
def gNeg : PV → Option PV
  | .int i => some (.int (-i))
  | _ => none
theorem uv_neg : UnV X (unaryOp .USub) gNeg := fun pins s σ H x v Q I rx ⟨p, w', H1, sub, r, e, k⟩ => un_neg pins s σ H x v Q I rx (by
  cases p with
  | int i => cases e; exact ⟨i, rt_int r, k.at sub rep_int⟩
  | _ => cases e)

/-! ### + of tuples, lists, texts -/
theorem RepL.nilV {K : PySem.W.Frag} {H : Hp} {xs : List PV} (r : RepL K H xs []) : xs = [] := by
  have := r.length
  cases xs with
  | nil => rfl
  | cons _ _ => simp at this
theorem rep_tup {K : PySem.W.Frag} {H : Hp} {a : Addr} {vs : List V} {xs : List PV} (q : TupAt K H a vs) (r : RepL K H xs vs) : Rep K H (.tup xs) (.ref a) := by
  simp only [Rep]; exact ⟨a, vs, rfl, q, r⟩
def gAddT : G2 := fun p q => match p, q with
  | .tup xs, .tup ys => if xs.length + ys.length ≤ 1000000 then some (.tup (xs ++ ys)) else none
  | _, _ => none
theorem ov_addT : OpV X (binaryOp .Add) gAddT := OpR.imp op_catF fun x y H Q ⟨p, q, v, H1, s, a, b, e, k⟩ => by
  unfold gAddT at e
  split at e
  · rename_i xs ys
    split at e
    · rename_i hl
      cases e
      obtain ⟨a1, vs, rfl, q1, r1⟩ := rt_tup a
      obtain ⟨a2, ws, rfl, q2, r2⟩ := rt_tup b
      have h1 := r1.length
      have h2 := r2.length
      refine ⟨a1, a2, vs, ws, rfl, rfl, s.le.sqT q1.sq, s.le.sqT q2.sq, by rw [h1, h2, sizeLine_eq]; omega, fun z => ?_, fun z1 z2 => ?_, fun z1 z2 p ob hp hd => ?_⟩
      · subst z
        rw [r1.nilV] at k
        exact k.at s (rep_tup q2 r2)
      · subst z2
        rw [r2.nilV, List.append_nil] at k
        exact k.at s (rep_tup q1 r1)
      · have ex := Ext.alloc (o := .frz ob (.tup (vs ++ ws))) s hp
        exact k _ _ _ ex (rep_tup (TupAt.new hd) ((r1.append r2).mono ex.le _ _))
    · cases e
  · cases e
def gAddS : G2 := fun p q => match p, q with
  | .str x, .str y => if x.length + y.length ≤ 1000000 then some (.str (x ++ y)) else none
  | _, _ => none
theorem ov_addS : OpV X (binaryOp .Add) gAddS := OpR.imp op_add_str fun x y H Q ⟨p, q, v, H1, s, a, b, e, k⟩ => by
  unfold gAddS at e
  split at e
  · split at e
    · rename_i hl
      cases e
      exact ⟨_, _, rt_str a, rt_str b, by rw [sizeLine_eq]; omega, k.at s rep_str⟩
    · cases e
  · cases e
/-- a list that may be read, at the heap -/
theorem lst_rd {pins : List (Addr × Obj)} {σ : L2.St} {H : Hp} {s : Shared} {a : Addr} {xs : List V} (I : Inv X pins σ H s) (h : Rd H a (.lst xs)) : xs.length ≤ sizeLine ∧ ∃ (its : List Value) (n : Nat), Vals xs its ∧ xs.length = its.length ∧ s.heap.get? a = some { cls := .type "list", data := .seq its.toArray n } := by
  obtain ⟨z, its, n, r, e⟩ := (show ObjOk X.prog X.w H s.heap a (.lst xs) from h.ok I.hok)
  exact ⟨z, its, n, r, r.length, e⟩
def rCatR : R2 := fun x y H Q => ∃ l b xs zs, x = .ref l ∧ y = .ref b ∧ Rd H l (.lst xs) ∧ Rd H b (.lst zs) ∧ xs.length + zs.length ≤ sizeLine ∧ ∀ p, H p = none → Q (.ref p) (upd H p (.lst (xs ++ zs)))
theorem op_catR : OpR X (binaryOp .Add) rCatR := by
  intro pins s σ H x y v u Q I rx ry h
  obtain ⟨l, b, xs, zs, rfl, rfl, hH, hB, hz, q⟩ := h
  cases rx
  cases ry
  obtain ⟨z, its, n, r, hl, e⟩ := lst_rd I hH
  obtain ⟨z2, its2, n2, r2, hl2, e2⟩ := lst_rd I hB
  refine PySem.P.add_list e e2 ?_ (by rw [List.size_toArray, List.size_toArray]; omega)
  have ea : its.toArray ++ its2.toArray = (its ++ its2).toArray := by simp
  rw [ea]
  exact ⟨.ref _, _, I.lnew (t' := s.toks) (r.append r2) (by rw [List.length_append]; omega), rfl, q _ I.fresh⟩
def gAddL : G2 := fun p q => match p, q with
  | .lst xs, .lst ys => if xs.length + ys.length ≤ 1000000 then some (.lst (xs ++ ys)) else none
  | _, _ => none
theorem subU {H : Hp} {p : Addr} {o : HO} (n : H p = none) : Sub H (upd H p o) := fun b u q => by rw [upd_ne (ne_of_none q n)]; exact q
theorem of_addL : OpF X (binaryOp .Add) gAddL := OpR.imp op_catR fun x y H Q ⟨p, q, v, H1, s, a, b, e, k⟩ => by
  unfold gAddL at e
  split at e
  · split at e
    · rename_i hl
      cases e
      obtain ⟨a1, vs, rfl, q1, r1⟩ := a
      obtain ⟨a2, ws, rfl, q2, r2⟩ := b
      exact ⟨a1, a2, vs, ws, rfl, rfl, q1, q2, by rw [r1.length, r2.length, sizeLine_eq]; omega, fun p hp => k p _ (subU hp) hp ⟨_, upd_same, r1.append r2⟩⟩
    · cases e
  · cases e
def gAdd : G2 := orG gAddI (orG gAddT (orG gAddS gAddL))
theorem ov_addAll : OpV X (binaryOp .Add) gAdd := ov_add.or (ov_addT.or (ov_addS.or of_addL.v))
/-- list * int -/
def rRepR : R2 := fun x y H Q => ∃ l k xs, x = .ref l ∧ y = .int k ∧ H l = some (.lst xs) ∧ -(2 ^ 63) ≤ k ∧ k < 2 ^ 63 ∧ xs.length * k.toNat ≤ sizeLine ∧ ∀ p, H p = none → Q (.ref p) (upd H p (.lst (List.replicate k.toNat xs).flatten))
def gRepL : G2 := fun p q => match p, q with
  | .lst [y], .int k => if (decide (-1000000 ≤ k) && decide (k ≤ 1000000)) = true then some (.lst (List.replicate k.toNat y)) else none
  | _, _ => none
end
/-! [e] * n -/
section
variable {X : Cx} {own : List Nat} {e b : Expr} {fe fb : EF} {pos p2 : Pos}
def fRep (fe fb : EF) : EF := fun ρ => (fe ρ).bind fun r => (fb r.2).bind fun s => match s.1 with
  | .int k => if (decide (-1000000 ≤ k) && decide (k ≤ 1000000)) = true then some (.lst (List.replicate k.toNat r.1), s.2) else none
  | _ => none
theorem flat_rep1 (v : V) : ∀ k : Nat, (List.replicate k [v]).flatten = List.replicate k v
  | 0 => rfl
  | k + 1 => by simp [List.replicate_succ, flat_rep1 v k]
theorem en_rep (he : EX X own e fe) (hb : EX X own b fb) (hs : starEach [e] X.env = (false, eval e X.env) :: starEach [] X.env := by rfl) : EN X own (.BinOp (.List [e] p2) .Mult b pos) (fRep fe fb) := ⟨PE.ent (pe_op op_rep (pe_lst (pa_cons he.run pa_nil hs)) hb.run) fun σ H Q ⟨B, ρ, v, ρ', H1, S, e, k⟩ => by
  obtain ⟨y, ρ1, e1, e⟩ := inv_b1 e
  obtain ⟨q, ρ2, e2, e⟩ := inv_b1 e
  cases q with
  | int j =>
    simp only at e
    split at e
    · rename_i hj
      simp only [Bool.and_eq_true, decide_eq_true_eq] at hj
      cases e
      refine ⟨B, ρ, y, ρ1, H1, S, e1, fun x H2 H12 le2 S2 ry => ⟨by show 1 ≤ sizeLine; decide, fun p hp => ?_⟩⟩
      have F := FR.mk' (v := .lst [y]) S2 (subU (o := .lst [x]) hp) hp ⟨[x], upd_same, RepL.cons ry RepL.nil⟩
      have n0 := F.n0
      have S3 := F.sr.pin upd_same F.n1 F.ne
      refine ⟨_, ρ1, .int j, ρ', H12, S3, e2, fun z H4 H14 le4 S4 rz => ?_⟩
      obtain ⟨S5, q1, q2, q3⟩ := S4.unpin n0
      simp only [Rep] at rz
      subst rz
      refine ⟨p, j, [x], rfl, rfl, q1, by omega, by omega, by simp only [List.length_singleton, Nat.one_mul]; rw [sizeLine_eq]; omega, fun c hc => ?_⟩
      rw [flat_rep1]
      exact k c _ H14 (le2.trans le4) (FR.mk' S5 (subU hc) hc ⟨_, upd_same, RepL.replicate (ry.mono le4 _ _) _⟩)
    · cases e
  | _ => cases e⟩
end

/-! ### == of data -/
mutual
def toD : PV → PyData
  | .non => .none
  | .bl b => .bool b
  | .int i => .int i
  | .str s => .str s
  | .tup xs => .tuple (toDs xs)
  | .lst xs => .list (toDs xs)
  | .dct _ => .dict []
  | .obj _ _ => .dict []
def toDs : List PV → List PyData
  | [] => []
  | x :: xs => toD x :: toDs xs
end
mutual
/-- no dict within, at most so deep -/
def okD : Nat → PV → Bool
  | _, .non => true
  | _, .bl _ => true
  | _, .int _ => true
  | _, .str s => PyData.strOk s
  | 0, .tup _ => false
  | 0, .lst _ => false
  | n + 1, .tup xs => okDs n xs
  | n + 1, .lst xs => okDs n xs
  | _, .dct _ => false
  | _, .obj _ _ => false
def okDs : Nat → List PV → Bool
  | _, [] => true
  | n, x :: xs => okD n x && okDs n xs
end
mutual
theorem okD_lay : ∀ (n : Nat) (p : PV), okD n p = true → (toD p).canLay0 = true ∧ (toD p).depth ≤ n
  | n, .non, _ => by simp [toD, PyData.canLay0, PyData.depth]
  | n, .bl _, _ => by simp [toD, PyData.canLay0, PyData.depth]
  | n, .int _, _ => by simp [toD, PyData.canLay0, PyData.depth]
  | n, .str _, h => by simp only [okD] at h; simp [toD, PyData.canLay0, PyData.depth, h]
  | 0, .tup _, h => by simp [okD] at h
  | 0, .lst _, h => by simp [okD] at h
  | n + 1, .tup xs, h => by
    simp only [okD] at h
    obtain ⟨a, b⟩ := okDs_lay n xs h
    simp only [toD, PyData.canLay0, PyData.depth]
    exact ⟨a, by omega⟩
  | n + 1, .lst xs, h => by
    simp only [okD] at h
    obtain ⟨a, b⟩ := okDs_lay n xs h
    simp only [toD, PyData.canLay0, PyData.depth]
    exact ⟨a, by omega⟩
  | n, .dct _, h => by cases n <;> simp [okD] at h
  | n, .obj _ _, h => by cases n <;> simp [okD] at h
theorem okDs_lay : ∀ (n : Nat) (p : List PV), okDs n p = true → PyData.canLayAll0 (toDs p) = true ∧ PyData.depthAll (toDs p) ≤ n
  | n, [], _ => by simp [toDs, PyData.canLayAll0, PyData.depthAll]
  | n, p :: ps, h => by
    simp only [okDs, Bool.and_eq_true] at h
    obtain ⟨a, b⟩ := okD_lay n p h.1
    obtain ⟨c, d⟩ := okDs_lay n ps h.2
    simp only [toDs, PyData.canLayAll0, PyData.depthAll, a, c]
    exact ⟨rfl, by omega⟩
end
theorem okD_shaped {p : PV} (h : okD 16 p = true) : SeqAt.shaped (toD p) = true := by
  obtain ⟨a, b⟩ := okD_lay 16 p h
  unfold SeqAt.shaped
  rw [a, Bool.true_and]
  exact decide_eq_true (by omega)
section
variable {K : PySem.W.Frag} {H : Hp}
mutual
theorem rep_dp : ∀ (n : Nat) (p : PV) (x : V), okD n p = true → Rep K H p x → Dp K H x (toD p)
  | n, .non, x, _, r => by simp only [Rep] at r; subst r; simp only [toD]; exact .non
  | n, .bl b, x, _, r => by simp only [Rep] at r; subst r; simp only [toD]; exact .bl b
  | n, .int i, x, _, r => by simp only [Rep] at r; subst r; simp only [toD]; exact .int i
  | n, .str i, x, _, r => by simp only [Rep] at r; subst r; simp only [toD]; exact .str i
  | 0, .tup _, _, h, _ => by simp [okD] at h
  | 0, .lst _, _, h, _ => by simp [okD] at h
  | n + 1, .tup xs, x, h, r => by
    simp only [Rep] at r
    simp only [okD] at h
    obtain ⟨a, vs, rfl, q, rl⟩ := r
    simp only [toD]
    exact .tup q.sq (rep_dps n xs vs h rl)
  | n + 1, .lst xs, x, h, r => by
    simp only [Rep] at r
    simp only [okD] at h
    obtain ⟨a, vs, rfl, q, rl⟩ := r
    simp only [toD]
    exact .lst (.inl q) (rep_dps n xs vs h rl)
  | n, .dct _, _, h, _ => by cases n <;> simp [okD] at h
  | n, .obj _ _, _, h, _ => by cases n <;> simp [okD] at h
theorem rep_dps : ∀ (n : Nat) (ps : List PV) (xs : List V), okDs n ps = true → RepL K H ps xs → DpAll K H xs (toDs ps)
  | n, [], xs, _, r => by rw [RepL.nil_iff.mp r]; simp only [toDs]; exact .nil
  | n, p :: ps, xs, h, r => by
    obtain ⟨v, t, rfl, a, b⟩ := RepL.cons_iff.mp r
    simp only [okDs, Bool.and_eq_true] at h
    simp only [toDs]
    exact .cons (rep_dp n p v h.1 a) (rep_dps n ps t h.2 b)
end
end
theorem RT.dp {K : PySem.W.Frag} {H1 H : Hp} {p : PV} {x : V} (s : Sub H1 H) (h : okD 16 p = true) (r : RT K H1 H p x) : Dp K H x (toD p) := rep_dp 16 p x h (r.rep s.le)
def gEqD : G2 := fun p q => if (okD 16 p && okD 16 q) = true then some (.bl (PyData.eqv (toD p) (toD q))) else none
def gNeD : G2 := fun p q => if (okD 16 p && okD 16 q) = true then some (.bl (!PyData.eqv (toD p) (toD q))) else none
section
variable {X : Cx}
theorem ov_eqD (hu : X.A.units + 64 < cLine) : OpV X (compareOp .Eq) gEqD := OpR.imp (op_eqD hu) fun x y H Q ⟨p, q, v, H1, s, a, b, e, k⟩ => by
  unfold gEqD at e
  split at e
  · rename_i h
    rw [Bool.and_eq_true] at h
    cases e
    exact ⟨_, _, a.dp s h.1, b.dp s h.2, okD_shaped h.1, okD_shaped h.2, k.at s rep_bl⟩
  · cases e
theorem ov_neD (hu : X.A.units + 64 < cLine) : OpV X (compareOp .NotEq) gNeD := OpR.imp (op_neD hu) fun x y H Q ⟨p, q, v, H1, s, a, b, e, k⟩ => by
  unfold gNeD at e
  split at e
  · rename_i h
    rw [Bool.and_eq_true] at h
    cases e
    exact ⟨_, _, a.dp s h.1, b.dp s h.2, okD_shaped h.1, okD_shaped h.2, k.at s rep_bl⟩
  · cases e
/-! is None -/
def gIsN : G2 := fun p q => match q with
  | .non => match p with
    | .non => some (.bl true)
    | _ => some (.bl false)
  | _ => none
def gIsNotN : G2 := fun p q => match q with
  | .non => match p with
    | .non => some (.bl false)
    | _ => some (.bl true)
  | _ => none
theorem rt_notNon {K : PySem.W.Frag} {H1 H : Hp} {p : PV} {x : V} (r : RT K H1 H p x) (h : p ≠ .non) : x ≠ .non := by
  cases p with
  | non => exact absurd rfl h
  | bl b => rw [rt_bl r]; exact fun z => nomatch z
  | int b => rw [rt_int r]; exact fun z => nomatch z
  | str b => rw [rt_str r]; exact fun z => nomatch z
  | tup xs => obtain ⟨a, vs, rfl, _⟩ := rt_tup r; exact fun z => nomatch z
  | lst xs => obtain ⟨a, vs, rfl, _⟩ := r; exact fun z => nomatch z
  | dct xs => obtain ⟨a, kv, rfl, _⟩ := r; exact fun z => nomatch z
  | obj c xs =>
    have h : Rep K H1 (.obj c xs) x := r
    simp only [Rep] at h
    obtain ⟨_, a, vs, rfl, _⟩ := h
    exact fun z => nomatch z
theorem ov_isN : OpV X (compareOp .Is) gIsN := OpR.imp op_isN fun x y H Q ⟨p, q, v, H1, s, a, b, e, k⟩ => by
  unfold gIsN at e
  split at e
  · rw [rt_non b]
    split at e
    · cases e
      rw [rt_non a]
      exact ⟨rfl, by simpa using k.at s rep_bl⟩
    · rename_i hn
      cases e
      have : decide (x = V.non) = false := decide_eq_false (rt_notNon a hn)
      rw [this]
      exact ⟨rfl, k.at s rep_bl⟩
  · cases e
theorem ov_notN : OpV X (compareOp .IsNot) gIsNotN := OpR.imp op_notN fun x y H Q ⟨p, q, v, H1, s, a, b, e, k⟩ => by
  unfold gIsNotN at e
  split at e
  · rw [rt_non b]
    split at e
    · cases e
      rw [rt_non a]
      exact ⟨rfl, by simpa using k.at s rep_bl⟩
    · rename_i hn
      cases e
      have : decide (x = V.non) = false := decide_eq_false (rt_notNon a hn)
      rw [this]
      exact ⟨rfl, k.at s rep_bl⟩
  · cases e
/-! in, of a list: data -/
def gInL : G2 := fun p q => match q with
  | .lst ys => if (okD 16 p && okD 16 q) = true then some (.bl (ys.any fun y => PyData.eqv (toD y) (toD p))) else none
  | _ => none
def gNotInL : G2 := fun p q => match q with
  | .lst ys => if (okD 16 p && okD 16 q) = true then some (.bl (!(ys.any fun y => PyData.eqv (toD y) (toD p)))) else none
  | _ => none
end
end PT

set_option Elab.async false
set_option linter.all false
set_option autoImplicit false
set_option maxRecDepth 100000
set_option maxHeartbeats 4000000
/-! PT9: in, len, subscripts, slices, list(), tuple(), sorted, max, min, sum, any, all, isinstance. -/
namespace PT
open PySem PySem.Spec PyProof.Rows L2

theorem any_toDs (f : PyData → Bool) : ∀ ys : List PV, (toDs ys).any f = ys.any fun y => f (toD y)
  | [] => rfl
  | y :: ys => by simp only [toDs, List.any_cons, any_toDs f ys]
section
variable {X : Cx}
theorem ov_inL (hu : X.A.units + 65 < cLine) : OpV X (compareOp .In) gInL := OpR.imp (op_inD hu) fun x y H Q ⟨p, q, v, H1, s, a, b, e, k⟩ => by
  unfold gInL at e
  split at e
  · rename_i ys
    split at e
    · rename_i h
      rw [Bool.and_eq_true] at h
      cases e
      have hb := b.dp s h.2
      have sb := okD_shaped h.2
      simp only [toD] at hb sb
      exact ⟨_, _, a.dp s h.1, hb, okD_shaped h.1, sb, by rw [any_toDs]; exact k.at s rep_bl⟩
    · cases e
  · cases e
theorem ov_notInL (hu : X.A.units + 65 < cLine) : OpV X (compareOp .NotIn) gNotInL := OpR.imp (op_notInD hu) fun x y H Q ⟨p, q, v, H1, s, a, b, e, k⟩ => by
  unfold gNotInL at e
  split at e
  · rename_i ys
    split at e
    · rename_i h
      rw [Bool.and_eq_true] at h
      cases e
      have hb := b.dp s h.2
      have sb := okD_shaped h.2
      simp only [toD] at hb sb
      exact ⟨_, _, a.dp s h.1, hb, okD_shaped h.1, sb, by rw [any_toDs]; exact k.at s rep_bl⟩
    · cases e
  · cases e
/-! len -/
def gLen : GL := fun ps => match ps with
  | [.lst xs] => some (.int xs.length)
  | [.tup xs] => some (.int xs.length)
  | [.str x] => if x.length ≤ 1000000 then some (.int x.length) else none
  | _ => none
theorem RTL.one {K : PySem.W.Frag} {H1 H : Hp} {p : PV} {xs : List V} (r : RTL K H1 H [p] xs) : ∃ x, xs = [x] ∧ RT K H1 H p x := by
  obtain ⟨x, t, rfl, a, b⟩ := r
  obtain rfl : t = [] := b
  exact ⟨x, rfl, a⟩
theorem RTL.two {K : PySem.W.Frag} {H1 H : Hp} {p q : PV} {xs : List V} (r : RTL K H1 H [p, q] xs) : ∃ x y, xs = [x, y] ∧ RT K H1 H p x ∧ RT K H1 H q y := by
  obtain ⟨x, t, rfl, a, b⟩ := r
  obtain ⟨y, rfl, c⟩ := RTL.one b
  exact ⟨x, y, rfl, a, c⟩
theorem cv_len : CallV X (.builtin "len") gLen := CallR.imp call_len fun xs H Q ⟨ps, v, H1, s, a, e, k⟩ => by
  unfold gLen at e
  split at e
  · cases e
    obtain ⟨x, rfl, r⟩ := a.one
    obtain ⟨b, vs, rfl, q, rl⟩ := r
    exact ⟨_, vs.length, rfl, .inl ⟨vs, .inl q, rfl⟩, by rw [rl.length]; exact k.at s rep_int⟩
  · cases e
    obtain ⟨x, rfl, r⟩ := a.one
    obtain ⟨b, vs, rfl, q, rl⟩ := rt_tup r
    exact ⟨_, vs.length, rfl, .inr ⟨vs, s.le.sqT q.sq, rfl⟩, by rw [rl.length]; exact k.at s rep_int⟩
  · split at e
    · rename_i z hz
      cases e
      obtain ⟨x, rfl, r⟩ := a.one
      exact ⟨_, _, rfl, by rw [rt_str r]; exact ⟨by rw [sizeLine_eq]; omega, rfl⟩, k.at s rep_int⟩
    · cases e
  · cases e
/-! subscripts -/
def gIxL : G2 := fun p q => match p, q with
  | .lst xs, .int i => atI xs i
  | _, _ => none
def gIxT : G2 := fun p q => match p, q with
  | .tup xs, .int i => atI xs i
  | _, _ => none
def gIxS : G2 := fun p q => match p, q with
  | .str z, .int i => if z.length ≤ 1000000 then (atI z.cps.toList i).map fun c => .str ⟨#[c]⟩ else none
  | _, _ => none
theorem atI_rep {K : PySem.W.Frag} {H : Hp} {ps : List PV} {vs : List V} {i : Int} {p : PV} (r : RepL K H ps vs) (h : atI ps i = some p) : ∃ x, atI vs i = some x ∧ Rep K H p x := by
  unfold atI at h ⊢
  rw [r.length]
  obtain ⟨j, e1, e2⟩ := Option.bind_eq_some_iff.mp h
  obtain ⟨x, h1, h2⟩ := r.get e2
  exact ⟨x, by rw [e1]; exact h1, h2⟩
theorem iv_lst : IxV X gIxL := IxR.imp L2.ix_list fun x y H Q ⟨p, q, v, H1, s, a, b, e, k⟩ => by
  unfold gIxL at e
  split at e
  · obtain ⟨c, vs, rfl, q1, rl⟩ := a
    obtain ⟨z, h1, h2⟩ := atI_rep rl e
    exact ⟨c, vs, _, z, rfl, rt_int b, .inl q1, h1, k.at s h2⟩
  · cases e
theorem iv_tup : IxV X gIxT := IxR.imp L2.ix_tup fun x y H Q ⟨p, q, v, H1, s, a, b, e, k⟩ => by
  unfold gIxT at e
  split at e
  · obtain ⟨c, vs, rfl, q1, rl⟩ := rt_tup a
    obtain ⟨z, h1, h2⟩ := atI_rep rl e
    exact ⟨c, vs, _, z, rfl, rt_int b, s.le.sqT q1.sq, h1, k.at s h2⟩
  · cases e
theorem iv_str : IxV X gIxS := IxR.imp L2.ix_str fun x y H Q ⟨p, q, v, H1, s, a, b, e, k⟩ => by
  unfold gIxS at e
  split at e
  · split at e
    · rename_i hl
      obtain ⟨c, e1, e2⟩ := Option.map_eq_some_iff.mp e
      cases e2
      exact ⟨_, _, c, rt_str a, rt_int b, by rw [sizeLine_eq]; omega, e1, k.at s rep_str⟩
    · cases e
  · cases e
def gIx : G2 := orG gIxT (orG gIxL gIxS)
theorem iv_seq : IxV X gIx := iv_tup.or (iv_lst.or iv_str)
/-! list(x), tuple(x) -/
def gListOf : GL := fun ps => match ps with
  | [.lst xs] => some (.lst xs)
  | [.tup xs] => some (.lst xs)
  | [.obj _ xs] => some (.lst xs)
  | _ => none
theorem cf_list : CallF X (.type "list") gListOf := CallR.imp call_list_of fun xs H Q ⟨ps, v, H1, s, a, e, k⟩ => by
  unfold gListOf at e
  split at e
  · cases e
    obtain ⟨x, rfl, r⟩ := a.one
    obtain ⟨b, vs, rfl, q, rl⟩ := r
    exact ⟨b, vs, rfl, .inl (.inl q), fun l hl => k l _ (subU hl) hl ⟨vs, upd_same, rl⟩⟩
  · cases e
    obtain ⟨x, rfl, r⟩ := a.one
    obtain ⟨b, vs, rfl, q, rl⟩ := rt_tup r
    exact ⟨b, vs, rfl, .inr (s.le.sqT q.sq), fun l hl => k l _ (subU hl) hl ⟨vs, upd_same, rl⟩⟩
  · cases e
    obtain ⟨x, rfl, r⟩ := a.one
    simp only [RT, Rep] at r
    obtain ⟨_, b, vs, rfl, q, rl⟩ := r
    exact ⟨b, vs, rfl, .inl (s.le.sqL q), fun l hl => k l _ (subU hl) hl ⟨vs, upd_same, rl⟩⟩
  · cases e
def gTupOf : GL := fun ps => match ps with
  | [.lst xs] => some (.tup xs)
  | [.tup xs] => some (.tup xs)
  | _ => none
theorem cv_tuple : CallV X (.type "tuple") gTupOf := CallR.imp call_tuple_ofF fun xs H Q ⟨ps, v, H1, s, a, e, k⟩ => by
  unfold gTupOf at e
  split at e
  · cases e
    obtain ⟨x, rfl, r⟩ := a.one
    obtain ⟨b, vs, rfl, q, rl⟩ := r
    refine ⟨b, vs, rfl, .inl ⟨.inl q, fun l ob hl hd => ?_⟩⟩
    have ex := Ext.alloc (o := .frz ob (.tup vs)) s hl
    exact k _ _ _ ex (rep_tup (TupAt.new hd) (rl.mono ex.le _ _))
  · cases e
    obtain ⟨x, rfl, r⟩ := a.one
    obtain ⟨b, vs, rfl, q, rl⟩ := rt_tup r
    exact ⟨b, vs, rfl, .inr ⟨s.le.sqT q.sq, k.at s (rep_tup q rl)⟩⟩
  · cases e
/-! abs, int, sum, any, all, max, min -/
def gAbs : GL := fun ps => match ps with
  | [.int i] => some (.int (if i < 0 then -i else i))
  | _ => none
theorem cv_abs : CallV X (.builtin "abs") gAbs := CallR.imp call_abs fun xs H Q ⟨ps, v, H1, s, a, e, k⟩ => by
  unfold gAbs at e
  split at e
  · cases e
    obtain ⟨x, rfl, r⟩ := a.one
    exact ⟨_, by rw [rt_int r], k.at s rep_int⟩
  · cases e
def gInt : GL := fun ps => match ps with
  | [.int i] => some (.int i)
  | [.bl b] => some (.int (if b then 1 else 0))
  | _ => none
theorem cv_int : CallV X (.type "int") gInt := CallR.imp call_int1 fun xs H Q ⟨ps, v, H1, s, a, e, k⟩ => by
  unfold gInt at e
  split at e
  · cases e
    obtain ⟨x, rfl, r⟩ := a.one
    exact .inl ⟨_, by rw [rt_int r], k.at s rep_int⟩
  · cases e
    obtain ⟨x, rfl, r⟩ := a.one
    exact .inr ⟨_, by rw [rt_bl r], k.at s rep_int⟩
  · cases e
def intsP : List PV → Option (List Int)
  | [] => some []
  | .int i :: xs => (intsP xs).map fun is => i :: is
  | _ :: _ => none
def blsP : List PV → Option (List Bool)
  | [] => some []
  | .bl i :: xs => (blsP xs).map fun is => i :: is
  | _ :: _ => none
theorem intsP_rep {K : PySem.W.Frag} {H : Hp} : ∀ {ps : List PV} {vs : List V} {is : List Int}, intsP ps = some is → RepL K H ps vs → vs = is.map V.int
  | [], _, _, e, r => by cases e; rw [RepL.nil_iff.mp r]; rfl
  | .int i :: ps, _, _, e, r => by
    obtain ⟨js, e1, e2⟩ := Option.map_eq_some_iff.mp e
    cases e2
    obtain ⟨v, t, rfl, a, b⟩ := RepL.cons_iff.mp r
    simp only [Rep] at a
    rw [a, intsP_rep e1 b]; rfl
  | .non :: _, _, _, e, _ => by simp [intsP] at e
  | .bl _ :: _, _, _, e, _ => by simp [intsP] at e
  | .str _ :: _, _, _, e, _ => by simp [intsP] at e
  | .tup _ :: _, _, _, e, _ => by simp [intsP] at e
  | .lst _ :: _, _, _, e, _ => by simp [intsP] at e
  | .dct _ :: _, _, _, e, _ => by simp [intsP] at e
  | .obj _ _ :: _, _, _, e, _ => by simp [intsP] at e
theorem blsP_rep {K : PySem.W.Frag} {H : Hp} : ∀ {ps : List PV} {vs : List V} {is : List Bool}, blsP ps = some is → RepL K H ps vs → vs = is.map V.bl
  | [], _, _, e, r => by cases e; rw [RepL.nil_iff.mp r]; rfl
  | .bl i :: ps, _, _, e, r => by
    obtain ⟨js, e1, e2⟩ := Option.map_eq_some_iff.mp e
    cases e2
    obtain ⟨v, t, rfl, a, b⟩ := RepL.cons_iff.mp r
    simp only [Rep] at a
    rw [a, blsP_rep e1 b]; rfl
  | .non :: _, _, _, e, _ => by simp [blsP] at e
  | .int _ :: _, _, _, e, _ => by simp [blsP] at e
  | .str _ :: _, _, _, e, _ => by simp [blsP] at e
  | .tup _ :: _, _, _, e, _ => by simp [blsP] at e
  | .lst _ :: _, _, _, e, _ => by simp [blsP] at e
  | .dct _ :: _, _, _, e, _ => by simp [blsP] at e
  | .obj _ _ :: _, _, _, e, _ => by simp [blsP] at e
theorem intsP_map (is : List Int) : intsP (is.map PV.int) = some is := by
  induction is with
  | nil => rfl
  | cons i is ih => simp [intsP, ih]
def gSum : GL := fun ps => match ps with
  | [.lst xs] => (intsP xs).map fun is => .int is.sum
  | _ => none
def gAny : GL := fun ps => match ps with
  | [.lst xs] => (blsP xs).map fun is => .bl (is.any id)
  | _ => none
def gAll : GL := fun ps => match ps with
  | [.lst xs] => (blsP xs).map fun is => .bl (is.all id)
  | _ => none
theorem cv_sum (hc : X.calm = true) : CallV X (.builtin "sum") gSum := CallR.imp (cr_sum hc) fun xs H Q ⟨ps, v, H1, s, a, e, k⟩ => by
  unfold gSum at e
  split at e
  · obtain ⟨is, e1, e2⟩ := Option.map_eq_some_iff.mp e
    cases e2
    obtain ⟨x, rfl, r⟩ := a.one
    obtain ⟨b, vs, rfl, q, rl⟩ := r
    exact ⟨b, is, rfl, by rw [← intsP_rep e1 rl]; exact .inl q, k.at s rep_int⟩
  · cases e
theorem cv_any (hc : X.calm = true) : CallV X (.builtin "any") gAny := CallR.imp (cr_any hc) fun xs H Q ⟨ps, v, H1, s, a, e, k⟩ => by
  unfold gAny at e
  split at e
  · obtain ⟨is, e1, e2⟩ := Option.map_eq_some_iff.mp e
    cases e2
    obtain ⟨x, rfl, r⟩ := a.one
    obtain ⟨b, vs, rfl, q, rl⟩ := r
    exact ⟨b, is, rfl, by rw [← blsP_rep e1 rl]; exact .inl q, k.at s rep_bl⟩
  · cases e
theorem cv_all (hc : X.calm = true) : CallV X (.builtin "all") gAll := CallR.imp (cr_all hc) fun xs H Q ⟨ps, v, H1, s, a, e, k⟩ => by
  unfold gAll at e
  split at e
  · obtain ⟨is, e1, e2⟩ := Option.map_eq_some_iff.mp e
    cases e2
    obtain ⟨x, rfl, r⟩ := a.one
    obtain ⟨b, vs, rfl, q, rl⟩ := r
    exact ⟨b, is, rfl, by rw [← blsP_rep e1 rl]; exact .inl q, k.at s rep_bl⟩
  · cases e
def maxI : Int → List Int → Int
  | m, [] => m
  | m, x :: xs => maxI (if m < x then x else m) xs
def minI : Int → List Int → Int
  | m, [] => m
  | m, x :: xs => minI (if x < m then x else m) xs
theorem maxI_ge : ∀ (xs : List Int) (m : Int), m ≤ maxI m xs ∧ (∀ x ∈ xs, x ≤ maxI m xs) ∧ (maxI m xs = m ∨ maxI m xs ∈ xs)
  | [], m => ⟨Int.le_refl _, by simp, .inl rfl⟩
  | x :: xs, m => by
    obtain ⟨h1, h2, h3⟩ := maxI_ge xs (if m < x then x else m)
    unfold maxI
    refine ⟨?_, fun y hy => ?_, ?_⟩
    · by_cases hm : m < x
      · rw [if_pos hm] at h1 ⊢; omega
      · rw [if_neg hm] at h1 ⊢; omega
    · rcases List.mem_cons.mp hy with rfl | hy
      · by_cases hm : m < y
        · rw [if_pos hm] at h1 ⊢; omega
        · rw [if_neg hm] at h1 ⊢; omega
      · exact h2 y hy
    · rcases h3 with h3 | h3
      · by_cases hm : m < x
        · right; rw [h3, if_pos hm]; exact List.mem_cons_self
        · left; rw [h3, if_neg hm]
      · exact .inr (List.mem_cons_of_mem _ h3)
theorem minI_le : ∀ (xs : List Int) (m : Int), minI m xs ≤ m ∧ (∀ x ∈ xs, minI m xs ≤ x) ∧ (minI m xs = m ∨ minI m xs ∈ xs)
  | [], m => ⟨Int.le_refl _, by simp, .inl rfl⟩
  | x :: xs, m => by
    obtain ⟨h1, h2, h3⟩ := minI_le xs (if x < m then x else m)
    unfold minI
    refine ⟨?_, fun y hy => ?_, ?_⟩
    · by_cases hm : x < m
      · rw [if_pos hm] at h1 ⊢; omega
      · rw [if_neg hm] at h1 ⊢; omega
    · rcases List.mem_cons.mp hy with rfl | hy
      · by_cases hm : y < m
        · rw [if_pos hm] at h1 ⊢; omega
        · rw [if_neg hm] at h1 ⊢; omega
      · exact h2 y hy
    · rcases h3 with h3 | h3
      · by_cases hm : x < m
        · right; rw [h3, if_pos hm]; exact List.mem_cons_self
        · left; rw [h3, if_neg hm]
      · exact .inr (List.mem_cons_of_mem _ h3)
def gMax : GL := fun ps => match ps with
  | [.lst xs] => match intsP xs with
    | some (i :: is) => some (.int (maxI i is))
    | _ => none
  | _ => none
def gMin : GL := fun ps => match ps with
  | [.lst xs] => match intsP xs with
    | some (i :: is) => some (.int (minI i is))
    | _ => none
  | _ => none
theorem cv_max (hc : X.calm = true) : CallV X (.builtin "max") gMax := CallR.imp (cr_max hc) fun xs H Q ⟨ps, v, H1, s, a, e, k⟩ => by
  unfold gMax at e
  split at e
  · split at e
    · rename_i i is e1
      cases e
      obtain ⟨x, rfl, r⟩ := a.one
      obtain ⟨b, vs, rfl, q, rl⟩ := r
      refine ⟨b, i :: is, rfl, by rw [← intsP_rep e1 rl]; exact .inl q, by simp, fun m hm hle => ?_⟩
      obtain ⟨h1, h2, h3⟩ := maxI_ge is i
      have : m = maxI i is := by
        apply Int.le_antisymm
        · rcases List.mem_cons.mp hm with rfl | hm
          · exact h1
          · exact h2 m hm
        · rcases h3 with h3 | h3
          · rw [h3]; exact hle i List.mem_cons_self
          · exact hle _ (List.mem_cons_of_mem _ h3)
      rw [this]
      exact k.at s rep_int
    · cases e
  · cases e
theorem cv_min (hc : X.calm = true) : CallV X (.builtin "min") gMin := CallR.imp (cr_min hc) fun xs H Q ⟨ps, v, H1, s, a, e, k⟩ => by
  unfold gMin at e
  split at e
  · split at e
    · rename_i i is e1
      cases e
      obtain ⟨x, rfl, r⟩ := a.one
      obtain ⟨b, vs, rfl, q, rl⟩ := r
      refine ⟨b, i :: is, rfl, by rw [← intsP_rep e1 rl]; exact .inl q, by simp, fun m hm hle => ?_⟩
      obtain ⟨h1, h2, h3⟩ := minI_le is i
      have : m = minI i is := by
        apply Int.le_antisymm
        · rcases h3 with h3 | h3
          · rw [h3]; exact hle i List.mem_cons_self
          · exact hle _ (List.mem_cons_of_mem _ h3)
        · rcases List.mem_cons.mp hm with rfl | hm
          · exact h1
          · exact h2 m hm
      rw [this]
      exact k.at s rep_int
    · cases e
  · cases e
def gMax2 : GL := fun ps => match ps with
  | [.int i, .int j] => some (.int (if j > i then j else i))
  | _ => none
def gMin2 : GL := fun ps => match ps with
  | [.int i, .int j] => some (.int (if j < i then j else i))
  | _ => none
theorem cv_max2 (hc : X.calm = true) : CallV X (.builtin "max") gMax2 := CallR.imp (call_max2 hc) fun xs H Q ⟨ps, v, H1, s, a, e, k⟩ => by
  unfold gMax2 at e
  split at e
  · cases e
    obtain ⟨x, y, rfl, r1, r2⟩ := a.two
    exact ⟨_, _, by rw [rt_int r1, rt_int r2], k.at s rep_int⟩
  · cases e
theorem cv_min2 (hc : X.calm = true) : CallV X (.builtin "min") gMin2 := CallR.imp (call_min2 hc) fun xs H Q ⟨ps, v, H1, s, a, e, k⟩ => by
  unfold gMin2 at e
  split at e
  · cases e
    obtain ⟨x, y, rfl, r1, r2⟩ := a.two
    exact ⟨_, _, by rw [rt_int r1, rt_int r2], k.at s rep_int⟩
  · cases e
end

/-! ### slices -/
def cutP (xs : List PV) (lo hi : Option Int) : List PV := (xs.drop (HT.sIx xs.length 0 lo)).take (HT.sIx xs.length xs.length hi - HT.sIx xs.length 0 lo)
theorem cut_rep {K : PySem.W.Frag} {H : Hp} {ps : List PV} {vs : List V} (r : RepL K H ps vs) (lo hi : Option Int) : RepL K H (cutP ps lo hi) (cutV vs lo hi) := by
  unfold cutP cutV
  rw [r.length]
  exact (r.drop _).take _
abbrev PF := Env → Option (Option Int × Env)
def tPo (K : PySem.W.Frag) (own : List Nat) (f : PF) : TO := fun σ H Q => ∃ B ρ o ρ' H1, SR K B own ρ σ H1 H ∧ f ρ = some (o, ρ') ∧ ∀ H' H1', LeR H1 H1' → SR K B own ρ' σ H1' H' → Q o H'
structure PX (X : Cx) (own : List Nat) (e : Option Expr) (f : PF) : Prop where run : PO X e (tPo X.K own f)
theorem PO.ent {X : Cx} {e : Option Expr} {t t' : TO} (h : PO X e t) (en : ∀ σ H Q, t' σ H Q → t σ H Q) : PO X e t' := ⟨fun pins s σ H Q I q => h.run pins s σ H Q I (en _ _ _ q)⟩
def pNone : PF := fun ρ => some (none, ρ)
def pSome (f : EF) : PF := fun ρ => (f ρ).bind fun r => match r.1 with
  | .int i => some (some i, r.2)
  | _ => none
abbrev GSl := PV → Option Int → Option Int → Option PV
def rSl (K : PySem.W.Frag) (g : GSl) : V → Option Int → Option Int → Hp → VK → Prop := fun x lo hi H Q => ∃ p v H1, Sub H1 H ∧ RT K H1 H p x ∧ g p lo hi = some v ∧ kV' K v H1 H Q
def SlV (X : Cx) (g : GSl) : Prop := SlR X (rSl X.K g)
theorem SlR.imp {X : Cx} {r r' : V → Option Int → Option Int → Hp → VK → Prop} (h : SlR X r) (i : ∀ x lo hi H Q, r' x lo hi H Q → r x lo hi H Q) : SlR X r' := by
  intro pins s σ H x v vl vu lo hi sl Q I rx hs pl pu q
  exact h pins s σ H x v vl vu lo hi sl Q I rx hs pl pu (i _ _ _ _ _ q)
def orSl (g g' : GSl) : GSl := fun p a b => match g p a b with | some v => some v | none => g' p a b
theorem SlV.or {X : Cx} {g g' : GSl} (h : SlV X g) (h' : SlV X g') : SlV X (orSl g g') := SlR.imp (SlR.or h h') fun x lo hi H Q ⟨p, v, H1, s, a, e, k⟩ => by
  unfold orSl at e
  split at e
  · rename_i v' e'
    cases e
    exact .inl ⟨p, _, H1, s, a, e', k⟩
  · exact .inr ⟨p, v, H1, s, a, e, k⟩
def gSlL : GSl := fun p lo hi => match p with
  | .lst xs => some (.lst (cutP xs lo hi))
  | _ => none
def gSlT : GSl := fun p lo hi => match p with
  | .tup xs => some (.tup (cutP xs lo hi))
  | _ => none
def gSl : GSl := orSl gSlT gSlL
section
variable {X : Cx}
theorem sv_lst : SlV X gSlL := SlR.imp sl_list fun x lo hi H Q ⟨p, v, H1, s, a, e, k⟩ => by
  unfold gSlL at e
  split at e
  · cases e
    obtain ⟨b, vs, rfl, q, rl⟩ := a
    refine ⟨b, vs, rfl, .inl q, fun p hp => ?_⟩
    have ex := Ext.alloc (o := .lst (cutV vs lo hi)) s hp
    refine k _ _ _ ex ?_
    simp only [Rep]
    exact ⟨p, _, rfl, .inl upd_same, (cut_rep rl lo hi).mono ex.le _ _⟩
  · cases e
theorem cut_whole {xs : List PV} {lo hi : Option Int} (h : HT.sIx xs.length 0 lo = 0 ∧ HT.sIx xs.length xs.length hi = xs.length) : cutP xs lo hi = xs := by
  unfold cutP
  rw [h.1, h.2]
  simp
theorem sv_tup : SlV X gSlT := SlR.imp sl_tupF fun x lo hi H Q ⟨p, v, H1, s, a, e, k⟩ => by
  unfold gSlT at e
  split at e
  · cases e
    obtain ⟨b, vs, rfl, q, rl⟩ := rt_tup a
    refine ⟨b, vs, rfl, s.le.sqT q.sq, fun z => ?_, fun z p ob hp hd => ?_⟩
    · rw [rl.length] at z
      rw [cut_whole z] at k
      exact k.at s (rep_tup q rl)
    · have ex := Ext.alloc (o := .frz ob (.tup (cutV vs lo hi))) s hp
      exact k _ _ _ ex (rep_tup (TupAt.new hd) ((cut_rep rl lo hi).mono ex.le _ _))
  · cases e
theorem sv_seq : SlV X gSl := sv_tup.or sv_lst
variable {own : List Nat} {e : Expr} {lo hi : Option Expr} {fe : EF} {fl fh : PF} {p2 pos : Pos}
theorem px_none : PX X own none pNone := ⟨PO.ent po_none fun σ H Q ⟨B, ρ, o, ρ', H1, S, e, k⟩ => by
  cases e
  exact k H H1 (LeR.refl _) S⟩
theorem px_some (h : EX X own e fe) : PX X own (some e) (pSome fe) := ⟨PO.ent (po_some h.run) fun σ H Q ⟨B, ρ, o, ρ', H1, S, e, k⟩ => by
  obtain ⟨v, ρ1, e1, e2⟩ := inv_b1 e
  cases v with
  | int i =>
    cases e2
    refine ⟨B, ρ, .int i, ρ1, H1, S, e1, fun x H' H1' le S' r => ?_⟩
    simp only [Rep] at r
    exact ⟨i, r, k H' H1' le S'⟩
  | _ => cases e2⟩
def fSlice (g : GSl) (fe : EF) (fl fh : PF) : EF := fun ρ => (fe ρ).bind fun r => (fl r.2).bind fun s => (fh s.2).bind fun t => (g r.1 s.1 t.1).map fun v => (v, t.2)
theorem ex_slice {g : GSl} (hg : SlV X g) (he : EX X own e fe) (hl : PX X own lo fl) (hh : PX X own hi fh) : EX X own (.Subscript e (.Slice lo hi none p2) pos) (fSlice g fe fl fh) := ⟨PE.ent (pe_slice hg he.run hl.run hh.run) fun σ H Q ⟨B, ρ, v, ρ', H1, S, e, k⟩ => by
  obtain ⟨p, ρ1, e1, e⟩ := inv_b1 e
  obtain ⟨a, ρ2, e2, e⟩ := inv_b1 e
  obtain ⟨b, ρ3, e3, e⟩ := inv_b1 e
  obtain ⟨u, e4, e5⟩ := Option.map_eq_some_iff.mp e
  cases e5
  refine ⟨B, ρ, p, ρ1, H1, S, e1, fun x H2 H12 l2 S2 r2 => ⟨B, ρ1, a, ρ2, H12, S2, e2, fun H3 H13 l3 S3 => ⟨B, ρ2, b, ρ3, H13, S3, e3, fun H4 H14 l4 S4 => ?_⟩⟩⟩
  exact ⟨p, _, H14, S4.sub, (r2.mono (l3.trans l4) _ _).rt S4.sub.le, e4, fun z H5 H15 ex rz => k z H5 H15 (((l2.trans l3).trans l4).trans ex.le) (S4.ext ex) rz⟩⟩
end

/-! ### isinstance(x, T) -/
inductive Ty where
  | int | bool | str | list | tuple
  deriving DecidableEq
def Ty.nm : Ty → String
  | .int => "int" | .bool => "bool" | .str => "str" | .list => "list" | .tuple => "tuple"
def tyP : PV → Option Ty
  | .bl _ => some .bool
  | .int _ => some .int
  | .str _ => some .str
  | .tup _ => some .tuple
  | .lst _ => some .list
  | _ => none
def isTy (a b : Ty) : Bool := decide (a = b) || (decide (a = .bool) && decide (b = .int))
theorem kitB_ty (a b : Ty) : kitB a.nm b.nm = some (isTy a b) := by
  cases a <;> cases b <;> decide +kernel
theorem kitB_non (b : Ty) : kitB "NoneType" b.nm = some false := by
  cases b <;> decide +kernel
def gIsi (T : Ty) (p : PV) : Option PV := match p with
  | .non => some (.bl false)
  | p => (tyP p).map fun t => .bl (isTy t T)
theorem tyx_of {K : PySem.W.Frag} {H1 H : Hp} {p : PV} {x : V} {t : Ty} (s : Sub H1 H) (r : RT K H1 H p x) (e : tyP p = some t) : TyX K H x (.type t.nm) := by
  cases p with
  | bl b => cases e; rw [rt_bl r]; exact .base (.bl b)
  | int b => cases e; rw [rt_int r]; exact .base (.int b)
  | str b => cases e; rw [rt_str r]; exact .base (.str b)
  | tup xs =>
    cases e
    obtain ⟨a, vs, rfl, q, _⟩ := rt_tup r
    rcases q with ⟨o, q, _⟩ | ⟨o, its, n, h1, h2, _⟩
    · exact .fTuple (s _ _ q)
    · exact .kTuple h1 h2
  | lst xs =>
    cases e
    obtain ⟨a, vs, rfl, q, _⟩ := r
    rcases q with q | ⟨o, q⟩
    · exact .base (.lst q)
    · exact .base (.frz q)
  | _ => cases e
section
variable {X : Cx} {own : List Nat} {e c : Expr} {fe : EF} {pos p : Pos} {x : Str}
theorem ex_isi (T : Ty) (he : EP' X own e fe) (hT : PE X c (tC (.ty T.nm))) (hg : Gl X x) (hm : X.mg x = none) (hv : bootBuiltins x = some (.builtin "isinstance")) (hs : starEach [e, c] X.env = (false, eval e X.env) :: starEach [c] X.env := by rfl) (hs2 : starEach [c] X.env = (false, eval c X.env) :: starEach [] X.env := by rfl)
    (hn : x ≠ "__name__" := by decide) (hdb : (x == ("__debug__" : Str)) = false := by decide) (hpl : (backTo pos (starEach [c] X.env)).any (·.1) = false := by rfl) :
    EX X own (.Call (.Name x p) [e, c] [] pos) (fUn (gIsi T) fe) := ⟨PE.ent (pe_callB call_isi hg hm hv (pa_cons he.run (pa_cons hT pa_nil hs2) hs) hn hdb hs hpl) fun σ H Q ⟨B, ρ, v, ρ', H1, S, e, k⟩ => by
  obtain ⟨w, e1, e2⟩ := inv_un e
  refine ⟨B, ρ, w, ρ', H1, S, e1, fun y H' H1' le S' r => ?_⟩
  show rIsi X.K [y, .ty T.nm] H' Q
  unfold gIsi at e2
  split at e2
  · cases e2
    rw [rt_non r]
    exact ⟨_, _, .type "NoneType", .type T.nm, false, rfl, .ty _, .base .non, kit_ty (kitB_non T), k _ H' H1' le S' rep_bl⟩
  · obtain ⟨t, e3, e4⟩ := Option.map_eq_some_iff.mp e2
    cases e4
    exact ⟨_, _, .type t.nm, .type T.nm, isTy t T, rfl, .ty _, tyx_of S'.sub r e3, kit_ty (kitB_ty t T), k _ H' H1' le S' rep_bl⟩⟩
end
end PT

set_option Elab.async false
set_option linter.all false
set_option autoImplicit false
set_option maxRecDepth 100000
set_option maxHeartbeats 4000000
/-! PT10: sorted. -/
namespace PT
open PySem PySem.Spec PyProof.Rows L2

/-! a stable sort by putting in -/
section
variable {α : Type}
def insP (le : α → α → Bool) (x : α) : List α → List α
  | [] => [x]
  | y :: ys => if le x y = true then x :: y :: ys else y :: insP le x ys
def isortP (le : α → α → Bool) : List α → List α
  | [] => []
  | x :: xs => insP le x (isortP le xs)
open PySem.W in
theorem insP_mem (le : α → α → Bool) (x : α) : ∀ (l : List α) (z : α), z ∈ insP le x l ↔ z = x ∨ z ∈ l
  | [], z => by simp [insP]
  | y :: ys, z => by
    unfold insP
    split
    · simp
    · simp only [List.mem_cons, insP_mem le x ys z]
      constructor
      · rintro (h | h | h)
        · exact .inr (.inl h)
        · exact .inl h
        · exact .inr (.inr h)
      · rintro (h | h | h)
        · exact .inr (.inl h)
        · exact .inl h
        · exact .inr (.inr h)
theorem insP_pair {le : α → α → Bool} (T : PySem.W.TotalLe le) (x : α) : ∀ {l : List α}, l.Pairwise (fun a b => le a b = true) → (insP le x l).Pairwise (fun a b => le a b = true)
  | [], _ => by simp [insP]
  | y :: ys, h => by
    unfold insP
    obtain ⟨h1, h2⟩ := List.pairwise_cons.mp h
    split
    · rename_i hxy
      refine List.pairwise_cons.mpr ⟨fun z hz => ?_, h⟩
      rcases List.mem_cons.mp hz with rfl | hz
      · exact hxy
      · exact T.trans _ _ _ hxy (h1 z hz)
    · rename_i hxy
      refine List.pairwise_cons.mpr ⟨fun z hz => ?_, insP_pair T x h2⟩
      rcases (insP_mem le x ys z).mp hz with rfl | hz
      · exact (T.total z y).resolve_left hxy
      · exact h1 z hz
theorem isortP_pair {le : α → α → Bool} (T : PySem.W.TotalLe le) : ∀ l : List α, (isortP le l).Pairwise (fun a b => le a b = true)
  | [] => List.Pairwise.nil
  | x :: xs => insP_pair T x (isortP_pair T xs)
theorem insP_filter {le : α → α → Bool} (T : PySem.W.TotalLe le) (x c : α) : ∀ {l : List α}, (insP le x l).filter (PySem.W.sameRank le c) = (x :: l).filter (PySem.W.sameRank le c)
  | [] => rfl
  | y :: ys => by
    unfold insP
    split
    · rfl
    · rename_i hxy
      have ih := insP_filter T x c (l := ys)
      rw [List.filter_cons, ih, List.filter_cons, List.filter_cons, List.filter_cons]
      by_cases hx : PySem.W.sameRank le c x = true
      · have hy : PySem.W.sameRank le c y = false := by
          cases q : PySem.W.sameRank le c y with
          | false => rfl
          | true =>
            unfold PySem.W.sameRank at hx q
            rw [Bool.and_eq_true] at hx q
            exact absurd (T.trans _ _ _ hx.2 q.1) hxy
        rw [hy]; simp
      · simp only [hx]; simp
theorem isortP_filter {le : α → α → Bool} (T : PySem.W.TotalLe le) (c : α) : ∀ l : List α, (isortP le l).filter (PySem.W.sameRank le c) = l.filter (PySem.W.sameRank le c)
  | [] => rfl
  | x :: xs => by
    rw [isortP, insP_filter T, List.filter_cons, List.filter_cons, isortP_filter T c xs]
theorem isortP_eq {le : α → α → Bool} (T : PySem.W.TotalLe le) (l : List α) : l.mergeSort le = isortP le l := (PySem.W.sort_unique T (isortP_pair T l) fun c => isortP_filter T c l).symm
end
def leP (a b : PV) : Bool := !PySem.W.dataLt (toD b) (toD a)
theorem leP_eq : leP = PySem.W.dataLe false toD := rfl
theorem leP_total : PySem.W.TotalLe leP := by
  rw [leP_eq]
  unfold PySem.W.dataLe
  exact PySem.W.sortLe_total _ false _

/-! sorted(xs), xs a list -/
def isTup1 : PV → Bool
  | .tup (_ :: _) => true
  | _ => false
def isAtom : PV → Bool
  | .int _ => true
  | .str _ => true
  | .bl _ => true
  | .lst _ => true
  | _ => false
theorem isAtom_not {z : PV} (h : isAtom z = true) : toD z ≠ .none ∧ ∀ xs, toD z ≠ .tuple xs := by
  cases z with
  | int i => simp [toD]
  | str i => simp [toD]
  | bl i => simp [toD]
  | lst i => simp [toD]
  | non => cases h
  | tup i => cases h
  | dct i => cases h
  | obj i j => cases h
def sortOk (xs : List PV) : Bool := okDs 15 xs && (xs.all isTup1 || xs.all isAtom) && (xs.all fun x => xs.all fun y => PySem.W.alike (toD x) (toD y)) && decide (xs.length ≤ 1000000)
def gSortL : GL := fun ps => match ps with
  | [.lst xs] => if sortOk xs = true then some (.lst (isortP leP xs)) else none
  | _ => none
section
variable {K : PySem.W.Frag} {H : Hp}
theorem zip_fst : ∀ {ps : List PV} {vs : List V}, RepL K H ps vs → (ps.zip vs).map (·.1) = ps
  | [], _, r => by rw [RepL.nil_iff.mp r]; rfl
  | p :: ps, _, r => by
    obtain ⟨v, t, rfl, a, b⟩ := RepL.cons_iff.mp r
    simp [zip_fst b]
theorem zip_rep : ∀ {ps : List PV} {vs : List V}, RepL K H ps vs → ∀ b ∈ ps.zip vs, Rep K H b.1 b.2
  | [], _, r, b, h => by simp at h
  | p :: ps, _, r, b, h => by
    obtain ⟨v, t, rfl, a, bb⟩ := RepL.cons_iff.mp r
    simp only [List.zip_cons_cons, List.mem_cons] at h
    rcases h with rfl | h
    · exact a
    · exact zip_rep bb b h
theorem repL_of_pairs : ∀ {bs : List (PV × V)}, (∀ b ∈ bs, Rep K H b.1 b.2) → RepL K H (bs.map (·.1)) (bs.map (·.2))
  | [], _ => RepL.nil
  | b :: bs, h => RepL.cons (h b List.mem_cons_self) (repL_of_pairs fun c hc => h c (List.mem_cons_of_mem _ hc))
theorem each_vals : ∀ {us : List Value} {bs : List (PV × V)}, PySem.W.EachIs (fun u b => RelV b.2 u) us bs → Vals (bs.map (·.2)) us
  | _, _, .nil => .nil
  | _, _, .cons r t => .cons r (each_vals t)
theorem vals_each : ∀ {us : List Value} {ps : List PV} {vs : List V}, RepL K H ps vs → Vals vs us → PySem.W.EachIs (fun u b => RelV b.2 u) us (ps.zip vs)
  | us, [], _, r, q => by rw [RepL.nil_iff.mp r] at q; cases q; exact .nil
  | us, p :: ps, _, r, q => by
    obtain ⟨v, t, rfl, a, b⟩ := RepL.cons_iff.mp r
    cases q with
    | cons q1 q2 => exact .cons q1 (vals_each b q2)
end
theorem okDs_mem : ∀ {n : Nat} {xs : List PV}, okDs n xs = true → ∀ x ∈ xs, okD n x = true
  | n, [], _, x, h => by cases h
  | n, y :: ys, h, x, hx => by
    simp only [okDs, Bool.and_eq_true] at h
    rcases List.mem_cons.mp hx with rfl | hx
    · exact h.1
    · exact okDs_mem h.2 x hx
theorem reads_each {X : Cx} {pins : List (Addr × Obj)} {σ : L2.St} {H : Hp} {s : Shared} (I : Inv X pins σ H s) : ∀ {us : List Value} {ps : List PV} {vs : List V}, okDs 15 ps = true → RepL X.K H ps vs → Vals vs us → PySem.W.EachIs (fun u (b : PV × V) => ∃ as, Reads s.heap u (toD b.1) as) us (ps.zip vs)
  | us, [], _, _, r, q => by rw [RepL.nil_iff.mp r] at q; cases q; exact .nil
  | us, p :: ps, _, h, r, q => by
    obtain ⟨v, t, rfl, a, b⟩ := RepL.cons_iff.mp r
    simp only [okDs, Bool.and_eq_true] at h
    cases q with
    | cons q1 q2 => exact .cons (Dp.reads I _ _ _ (rep_dp 15 p v h.1 a) q1) (reads_each I h.2 b q2)
section
variable {X : Cx}
theorem cf_sortL (hu : X.A.units + 64 < cLine) : CallF X (.builtin "sorted") gSortL := by
  intro pins s σ H xs us Q I r ⟨ps, v, H1, sub, a, e, k⟩
  unfold gSortL at e
  split at e
  · rename_i ys
    split at e
    · rename_i hok
      cases e
      unfold sortOk at hok
      simp only [Bool.and_eq_true, Bool.or_eq_true, decide_eq_true_eq] at hok
      obtain ⟨⟨⟨h1, h2⟩, h3⟩, h4⟩ := hok
      obtain ⟨x, rfl, rx⟩ := a.one
      obtain ⟨l, vs, rfl, q, rl⟩ := rx
      obtain ⟨its, rv, hl, hz⟩ := I.list (.inl q)
      rw [Vals.ref1 r]
      have rlH : RepL X.K H ys vs := rl.mono sub.le _ _
      have hlen : (ys.zip vs).length = ys.length := by rw [← List.length_map (f := (·.1)), zip_fst rlH]
      have hmap : (ys.zip vs).map (fun b => toD b.1) = ys.map toD := by
        conv => rhs; rw [← zip_fst rlH]
        rw [List.map_map]; rfl
      refine PySem.W.sorted_data (R := fun u b => RelV b.2 u) (enc := fun b : PV × V => toD b.1) (bs := ys.zip vs) hl.isList (vals_each rlH rv) (reads_each I h1 rlH rv) ?_ ?_ (by rw [hlen, sizeLine_eq]; omega) ?_ fun out ho hE => ?_
      · rw [hmap]
        intro d hd d' hd'
        obtain ⟨z, hz1, rfl⟩ := List.mem_map.mp hd
        obtain ⟨z', hz2, rfl⟩ := List.mem_map.mp hd'
        exact List.all_eq_true.mp (List.all_eq_true.mp h3 z hz1) z' hz2
      · rw [hmap]
        rcases h2 with h2 | h2
        · left
          intro d hd
          obtain ⟨z, hz1, rfl⟩ := List.mem_map.mp hd
          have := List.all_eq_true.mp h2 z hz1
          cases z with
          | tup zs =>
            cases zs with
            | nil => cases this
            | cons a b => exact ⟨toD a, toDs b, by simp [toD, toDs]⟩
          | _ => cases this
        · right
          intro d hd
          obtain ⟨z, hz1, rfl⟩ := List.mem_map.mp hd
          have := List.all_eq_true.mp h2 z hz1
          exact isAtom_not this
      · intro b hb
        have hm : b.1 ∈ ys := by rw [← zip_fst rlH]; exact List.mem_map_of_mem hb
        have := (okD_lay 15 b.1 (okDs_mem h1 _ hm)).2
        omega
      · obtain ⟨ep, he'⟩ := PyProof.Rows.sortedAll_at s.heap its out.toArray
        have hle : (fun a b : PV × V => leP a.1 b.1) = PySem.W.dataLe false (fun b : PV × V => toD b.1) := rfl
        rw [← hle] at hE
        have hfst : ((ys.zip vs).mergeSort (fun a b => leP a.1 b.1)).map (·.1) = isortP leP ys := by
          rw [PySem.W.sort_maps (f := fun b : PV × V => b.1) (s := leP) (fun _ _ _ _ => rfl), zip_fst rlH, isortP_eq leP_total]
        have hlen2 : ((ys.zip vs).mergeSort (fun a b => leP a.1 b.1)).length = ys.length := by rw [List.length_mergeSort, hlen]
        have rl2 : RepL X.K H1 (isortP leP ys) (((ys.zip vs).mergeSort (fun a b => leP a.1 b.1)).map (·.2)) := by
          rw [← hfst]
          exact repL_of_pairs fun b hb => zip_rep rl b ((List.mergeSort_perm _ _).mem_iff.mp hb)
        have hz2 : (((ys.zip vs).mergeSort (fun a b => leP a.1 b.1)).map (·.2)).length ≤ sizeLine := by rw [List.length_map, hlen2, sizeLine_eq]; omega
        exact ⟨.ref _, upd H (s.heap.objs.size + 1) (.lst (((ys.zip vs).mergeSort (fun a b => leP a.1 b.1)).map (·.2))), I.laid (t' := s.toks) (fun _ _ => PyProof.Rows.sortedAll_old) (Nat.le_succ _) ⟨hz2, out, ep, each_vals hE, he'⟩, rfl,
          k _ _ (subU (I.hok.fresh (Nat.le_succ _))) (I.hok.fresh (Nat.le_succ _)) ⟨_, upd_same, rl2⟩⟩
    · cases e
  · cases e
end
end PT

set_option Elab.async false
set_option linter.all false
set_option autoImplicit false
set_option maxRecDepth 100000
set_option maxHeartbeats 4000000
/-! PT11: dicts whose keys are numbers and texts. -/
namespace PT
open PySem PySem.Spec PyProof.Rows L2

def keyEqb : PV → PV → Bool
  | .int i, .int j => i == j
  | .str i, .str j => decide (i = j)
  | _, _ => false
theorem keyEqb_iff {a b : PV} {k j : Key} (ha : keyK a = some k) (hb : keyK b = some j) : keyEqb a b = decide (k = j) := by
  cases a <;> simp only [keyK] at ha <;> cases ha <;> cases b <;> simp only [keyK] at hb <;> cases hb
  · simp only [keyEqb]; rw [key_ll]
  · simp only [keyEqb]; rw [key_lr]
  · simp only [keyEqb]; rw [key_rl]
  · simp only [keyEqb]; rw [key_rr]
def findP (ks : List (PV × PV)) (p : PV) : Option PV := (ks.find? fun kv => keyEqb kv.1 p).map (·.2)
def putP (ks : List (PV × PV)) (p v : PV) : List (PV × PV) := if (ks.any fun kv => keyEqb kv.1 p) = true then ks.map fun kv => if keyEqb kv.1 p = true then (kv.1, v) else kv else ks ++ [(p, v)]
def dropP (ks : List (PV × PV)) (p : PV) : List (PV × PV) := ks.filter fun kv => !keyEqb kv.1 p
section
variable {K : PySem.W.Frag} {H : Hp}
theorem RepK.nil_iff {kv : List (Key × V)} : RepK K H [] kv ↔ kv = [] := by simp only [RepK]
theorem RepK.nil : RepK K H [] [] := by simp only [RepK]
theorem RepK.cons_iff {k v : PV} {ks : List (PV × PV)} {kv : List (Key × V)} : RepK K H ((k, v) :: ks) kv ↔ ∃ k' x r, kv = (k', x) :: r ∧ keyK k = some k' ∧ Rep K H v x ∧ RepK K H ks r := by simp only [RepK]
theorem RepK.cons {k v : PV} {ks : List (PV × PV)} {k' : Key} {x : V} {r : List (Key × V)} (hk : keyK k = some k') (hv : Rep K H v x) (h : RepK K H ks r) : RepK K H ((k, v) :: ks) ((k', x) :: r) := RepK.cons_iff.mpr ⟨k', x, r, rfl, hk, hv, h⟩
theorem RepK.length : ∀ {ks : List (PV × PV)} {kv : List (Key × V)}, RepK K H ks kv → kv.length = ks.length
  | [], _, h => by rw [RepK.nil_iff.mp h]; rfl
  | (k, v) :: ks, _, h => by
    obtain ⟨k', x, r, rfl, _, _, t⟩ := RepK.cons_iff.mp h
    simp [t.length]
def RelP (K : PySem.W.Frag) (H : Hp) : Option PV → Option V → Prop
  | some p, some x => Rep K H p x
  | none, none => True
  | _, _ => False
theorem RepK.find {p : PV} {k : Key} (hp : keyK p = some k) : ∀ {ks : List (PV × PV)} {kv : List (Key × V)}, RepK K H ks kv → RelP K H (findP ks p) (valV kv k)
  | [], _, h => by rw [RepK.nil_iff.mp h]; exact True.intro
  | (a, v) :: ks, _, h => by
    obtain ⟨k', x, r, rfl, ha, hv, t⟩ := RepK.cons_iff.mp h
    have e := keyEqb_iff ha hp
    unfold findP
    by_cases hk : k' = k
    · rw [List.find?_cons_of_pos (by simp [e, hk]), valV_pos hk]
      exact hv
    · rw [List.find?_cons_of_neg (by simp [e, hk]), valV_neg hk]
      exact RepK.find hp t
theorem RepK.any {p : PV} {k : Key} (hp : keyK p = some k) : ∀ {ks : List (PV × PV)} {kv : List (Key × V)}, RepK K H ks kv → (ks.any fun kv => keyEqb kv.1 p) = kv.any fun kv => decide (kv.1 = k)
  | [], _, h => by rw [RepK.nil_iff.mp h]; rfl
  | (a, v) :: ks, _, h => by
    obtain ⟨k', x, r, rfl, ha, hv, t⟩ := RepK.cons_iff.mp h
    simp only [List.any_cons]
    rw [keyEqb_iff ha hp, RepK.any hp t]
theorem RepK.append : ∀ {ks js : List (PV × PV)} {kv jv : List (Key × V)}, RepK K H ks kv → RepK K H js jv → RepK K H (ks ++ js) (kv ++ jv)
  | [], _, _, _, h, q => by rw [RepK.nil_iff.mp h]; exact q
  | (a, v) :: ks, _, _, _, h, q => by
    obtain ⟨k', x, r, rfl, ha, hv, t⟩ := RepK.cons_iff.mp h
    exact RepK.cons ha hv (RepK.append t q)
theorem RepK.repl {p v : PV} {k : Key} {x : V} (hp : keyK p = some k) (rv : Rep K H v x) : ∀ {ks : List (PV × PV)} {kv : List (Key × V)}, RepK K H ks kv →
    RepK K H (ks.map fun kv => if keyEqb kv.1 p = true then (kv.1, v) else kv) (kv.map fun kv => if kv.1 = k then (kv.1, x) else kv)
  | [], _, h => by rw [RepK.nil_iff.mp h]; exact RepK.nil
  | (a, u) :: ks, _, h => by
    obtain ⟨k', y, r, rfl, ha, hv, t⟩ := RepK.cons_iff.mp h
    have e := keyEqb_iff ha hp
    simp only [List.map_cons]
    by_cases hk : k' = k
    · rw [if_pos (by simp [e, hk]), if_pos hk]
      exact RepK.cons ha rv (RepK.repl hp rv t)
    · rw [if_neg (by simp [e, hk]), if_neg hk]
      exact RepK.cons ha hv (RepK.repl hp rv t)
theorem RepK.put {p v : PV} {k : Key} {x : V} (hp : keyK p = some k) (rv : Rep K H v x) {ks : List (PV × PV)} {kv : List (Key × V)} (h : RepK K H ks kv) : RepK K H (putP ks p v) (putK kv k x) := by
  unfold putP putK
  rw [RepK.any hp h]
  split
  · exact RepK.repl hp rv h
  · exact RepK.append h (RepK.cons hp rv RepK.nil)
theorem RepK.drop {p : PV} {k : Key} (hp : keyK p = some k) : ∀ {ks : List (PV × PV)} {kv : List (Key × V)}, RepK K H ks kv → RepK K H (dropP ks p) (dropK kv k)
  | [], _, h => by rw [RepK.nil_iff.mp h]; exact RepK.nil
  | (a, u) :: ks, _, h => by
    obtain ⟨k', y, r, rfl, ha, hv, t⟩ := RepK.cons_iff.mp h
    have e := keyEqb_iff ha hp
    have ih := RepK.drop hp t
    unfold dropP dropK at ih ⊢
    by_cases hk : k' = k
    · rw [List.filter_cons_of_neg (by simp [e, hk]), List.filter_cons_of_neg (by simp [hk])]
      exact ih
    · rw [List.filter_cons_of_pos (by simp [e, hk]), List.filter_cons_of_pos (by simp [hk])]
      exact RepK.cons ha hv ih
theorem rep_key {p : PV} {k : Key} {y : V} (hp : keyK p = some k) (r : Rep K H p y) : y = kV k := by
  cases p <;> simp only [keyK] at hp <;> cases hp
  · simp only [Rep] at r; exact r
  · simp only [Rep] at r; exact r
end
def isKey (p : PV) : Bool := (keyK p).isSome
theorem isKey_get {p : PV} (h : isKey p = true) : ∃ k, keyK p = some k := Option.isSome_iff_exists.mp h
section
variable {X : Cx}
/-- d[k] -/
def gIxD : G2 := fun p q => match p with
  | .dct ks => if isKey q = true then findP ks q else none
  | _ => none
theorem rel_some {K : PySem.W.Frag} {H : Hp} {p : PV} {o : Option V} (r : RelP K H (some p) o) : ∃ x, o = some x ∧ Rep K H p x := by
  cases o with
  | none => exact r.elim
  | some x => exact ⟨x, rfl, r⟩
theorem rel_none {K : PySem.W.Frag} {H : Hp} {o : Option V} (r : RelP K H none o) : o = none := by
  cases o with
  | none => rfl
  | some x => exact r.elim
theorem iv_dct (hu : X.A.units + 1 < cLine) : IxV X gIxD := by
  intro va sl pins s σ H x y v u Q I rx ry ⟨p, q, w', H1, sub, a, b, e, k⟩ hs
  unfold gIxD at e
  split at e
  · rename_i ks
    split at e
    · rename_i hk
      obtain ⟨key, hkey⟩ := isKey_get hk
      obtain ⟨d, kv, rfl, rd, rk⟩ := a
      have rel := rk.find hkey
      rw [e] at rel
      obtain ⟨z, hz, rz⟩ := rel_some rel
      have hb : y = kV key := rep_key hkey (b.rep sub.le)
      subst hb
      cases rx
      have g : DGet H d (kV key) (some z) := .inl ⟨kv, key, rd, rfl, hz.symm⟩
      refine tail_any (dict_typeIs I g) PySem.F.slot_dict_getitem.lookup (d_getItem hu I g ry fun w2 s' I' r' => ⟨z, H, I', r', k.at sub rz⟩) hs
    · cases e
  · cases e
def gIxAll : G2 := orG gIxT (orG gIxL (orG gIxS gIxD))
theorem iv_all (hu : X.A.units + 1 < cLine) : IxV X gIxAll := iv_tup.or (iv_lst.or (iv_str.or (iv_dct hu)))
/-- k in d -/
def gInD : G2 := fun p q => match q with
  | .dct ks => if isKey p = true then some (.bl (findP ks p).isSome) else none
  | _ => none
def gNotInD : G2 := fun p q => match q with
  | .dct ks => if isKey p = true then some (.bl (!(findP ks p).isSome)) else none
  | _ => none
theorem rel_isSome {K : PySem.W.Frag} {H : Hp} {p : Option PV} {o : Option V} (r : RelP K H p o) : o.isSome = p.isSome := by
  cases p with
  | none => rw [rel_none r]; rfl
  | some p => obtain ⟨x, rfl, _⟩ := rel_some r; rfl
theorem ov_inD (hu : X.A.units + 1 < cLine) : OpV X (compareOp .In) gInD := by
  intro pins s σ H x y v u Q I rx ry ⟨p, q, w', H1, sub, a, b, e, k⟩
  unfold gInD at e
  split at e
  · rename_i ks
    split at e
    · rename_i hk
      cases e
      obtain ⟨key, hkey⟩ := isKey_get hk
      obtain ⟨d, kv, rfl, rd, rk⟩ := b
      have hb : x = kV key := rep_key hkey (a.rep sub.le)
      subst hb
      cases ry
      have g : DGet H d (kV key) (valV kv key) := .inl ⟨kv, key, rd, rfl, rfl⟩
      exact d_in hu I g rx fun s' I' => ⟨.bl _, H, I', rfl, k.at sub (by rw [rel_isSome (rk.find hkey)]; exact rep_bl)⟩
    · cases e
  · cases e
theorem ov_notInD (hu : X.A.units + 1 < cLine) : OpV X (compareOp .NotIn) gNotInD := by
  intro pins s σ H x y v u Q I rx ry ⟨p, q, w', H1, sub, a, b, e, k⟩
  unfold gNotInD at e
  split at e
  · rename_i ks
    split at e
    · rename_i hk
      cases e
      obtain ⟨key, hkey⟩ := isKey_get hk
      obtain ⟨d, kv, rfl, rd, rk⟩ := b
      have hb : x = kV key := rep_key hkey (a.rep sub.le)
      subst hb
      cases ry
      have g : DGet H d (kV key) (valV kv key) := .inl ⟨kv, key, rd, rfl, rfl⟩
      exact d_notIn hu I g rx fun s' I' => ⟨.bl _, H, I', rfl, k.at sub (by rw [rel_isSome (rk.find hkey)]; exact rep_bl)⟩
    · cases e
  · cases e
def gIn : G2 := orG gInL gInD
def gNotIn : G2 := orG gNotInL gNotInD
theorem ov_in (hu : X.A.units + 65 < cLine) : OpV X (compareOp .In) gIn := (ov_inL hu).or (ov_inD (by omega))
theorem ov_notIn (hu : X.A.units + 65 < cLine) : OpV X (compareOp .NotIn) gNotIn := (ov_notInL hu).or (ov_notInD (by omega))
/-- d[k] = v -/
def gSetD : GS := fun p i v => match p with
  | .dct ks => if (isKey i && decide (ks.length < 1000000)) = true then some (.dct (putP ks i v)) else none
  | _ => none
theorem si_dct (hu : X.A.units + 1 < cLine) : SetI X gSetD := by
  intro pins s σ H o i v ov iv u Q I r1 r2 r3 ⟨p, pi, pv, w', H1, a, e1, sub, ro, ri, rv, e, k⟩
  subst e1
  unfold gSetD at e
  split at e
  · rename_i ks
    split at e
    · rename_i hc
      rw [Bool.and_eq_true, decide_eq_true_eq] at hc
      cases e
      obtain ⟨key, hkey⟩ := isKey_get hc.1
      obtain ⟨kv, hd, rk⟩ := ro
      have hb : i = kV key := rep_key hkey ri
      subst hb
      cases r1
      exact d_setItem hu I (DPut.k (k := key) hd (by rw [rk.length, sizeLine_eq]; omega)) r2 r3 fun s' I' => ⟨_, I', k _ ⟨_, upd_same, rk.put hkey rv⟩⟩
    · cases e
  · cases e
def gSet : GS := orS gSetL gSetD
theorem si_all (hu : X.A.units + 1 < cLine) : SetI X gSet := si_list.or (si_dct hu)
/-- len(d), list(d) -/
def gLenD : GL := fun ps => match ps with
  | [.dct ks] => some (.int ks.length)
  | _ => none
theorem cv_lenD : CallV X (.builtin "len") gLenD := by
  intro pins s σ H xs us Q I r ⟨ps, v, H1, sub, a, e, k⟩
  unfold gLenD at e
  split at e
  · cases e
    obtain ⟨x, rfl, rx⟩ := a.one
    obtain ⟨d, kv, rfl, rd, rk⟩ := rx
    rw [Vals.ref1 r]
    exact d_len I rd fun t s' I' => ⟨.int kv.length, H, I', ⟨t, rfl⟩, by rw [rk.length]; exact k.at sub rep_int⟩
  · cases e
def gLenAll : GL := orL gLen gLenD
theorem cv_lenAll : CallV X (.builtin "len") gLenAll := cv_len.or cv_lenD
theorem keys_rep {K : PySem.W.Frag} {H : Hp} : ∀ {ks : List (PV × PV)} {kv : List (Key × V)}, RepK K H ks kv → RepL K H (ks.map (·.1)) (kv.map fun kv => kV kv.1)
  | [], _, h => by rw [RepK.nil_iff.mp h]; exact RepL.nil
  | (k, v) :: ks, _, h => by
    obtain ⟨k', x, r, rfl, hk, hv, t⟩ := RepK.cons_iff.mp h
    refine RepL.cons ?_ (keys_rep t)
    cases k <;> simp only [keyK] at hk <;> cases hk
    · exact rep_int
    · exact rep_str
def rListDR : List V → Hp → VK → Prop := fun xs H Q => ∃ p kvs, xs = [.ref p] ∧ Rd H p (.dK kvs) ∧ ∀ q, H q = none → Q (.ref q) (upd H q (.lst (kvs.map fun kv => kV kv.1)))
theorem call_list_dKR (hc : X.calm = true) : CallR X (.type "list") rListDR := by
  intro pins s σ H xs us Q I r h
  obtain ⟨p, kvs, e, hk, q⟩ := h
  subst e
  obtain ⟨u, eu, rx⟩ := vals1 r
  subst eu
  obtain rfl : u = Value.ref p := rx
  obtain ⟨z, lo, vs, rk, hd⟩ := (show ObjOk X.prog X.w H s.heap p (.dK kvs) from hk.ok I.hok)
  obtain ⟨ep, hat⟩ := hd.dictAt
  have hl : kvs.length = vs.length := Paired.length rk
  refine PySem.W.kdl_call (PySem.W.kdl_dict (knd := mixKind X.prog X.w) (kvs := vs) (ep := ep) lo) (I.ok.hd hc) hat (by rw [← hl]; exact z) fun h' tk acc' c' hkeep hS hacc => ?_
  refine ⟨.ref s.heap.objs.size, upd H s.heap.objs.size (.lst (kvs.map fun kv => kV kv.1)), I.laid hkeep (Nat.le_refl _) (show ObjOk X.prog X.w _ _ _ (.lst (kvs.map fun kv => kV kv.1)) from ⟨?_, acc'.toList, c', ?_, ?_⟩), rfl, q _ (I.hok.fresh (Nat.le_refl _))⟩
  · rw [List.length_map]; exact z
  · have el : acc'.toList.length = acc'.size := by simp
    refine vals_of_at (by rw [List.length_map, el, hacc.1, hl]) fun j x w h1 h2 => ?_
    obtain ⟨k, y, hky, hi⟩ := hacc.2 j w (by rw [← Array.getElem?_toList]; exact h2)
    have e1 : (kvs.map (·.1))[j]? = some k := by
      rw [KV.keys rk, List.getElem?_map, hky] <;> rfl
    have e2 : (kvs.map fun kv => kV kv.1)[j]? = some (kV k) := by
      have e3 : (kvs.map fun kv => kV kv.1) = (kvs.map (·.1)).map kV := by rw [List.map_map] <;> rfl
      rw [e3, List.getElem?_map, e1] <;> rfl
    rw [e2] at h1
    cases h1
    exact keyIs_rel hi
  · rw [Array.toArray_toList]; exact hS
def gListD' : GL := fun ps => match ps with
  | [.dct ks] => some (.lst (ks.map (·.1)))
  | _ => none
theorem cf_listD (hc : X.calm = true) : CallF X (.type "list") gListD' := CallR.imp (call_list_dKR hc) fun xs H Q ⟨ps, v, H1, s, a, e, k⟩ => by
  unfold gListD' at e
  split at e
  · cases e
    obtain ⟨x, rfl, rx⟩ := a.one
    obtain ⟨d, kv, rfl, rd, rk⟩ := rx
    exact ⟨d, kv, rfl, rd, fun q hq => k q _ (subU hq) hq ⟨_, upd_same, keys_rep rk⟩⟩
  · cases e
def gListAll : GL := orL gListOf gListD'
theorem cf_listAll (hc : X.calm = true) : CallF X (.type "list") gListAll := cf_list.or (cf_listD hc)
/-- sorted(d): fewer than 64 keys, numbers -/
def keysI : List (PV × PV) → Option (List Int)
  | [] => some []
  | (.int i, _) :: ks => (keysI ks).map fun is => i :: is
  | _ :: _ => none
theorem keysI_rep {K : PySem.W.Frag} {H : Hp} : ∀ {ks : List (PV × PV)} {kv : List (Key × V)} {is : List Int}, keysI ks = some is → RepK K H ks kv → kv.map (·.1) = is.map Sum.inl ∧ ks.map (·.1) = is.map PV.int
  | [], _, _, e, h => by cases e; rw [RepK.nil_iff.mp h]; exact ⟨rfl, rfl⟩
  | (k, v) :: ks, _, _, e, h => by
    obtain ⟨k', x, r, rfl, hk, hv, t⟩ := RepK.cons_iff.mp h
    cases k <;> simp only [keysI] at e <;> try cases e
    obtain ⟨js, e1, e2⟩ := Option.map_eq_some_iff.mp e
    cases e2
    cases hk
    obtain ⟨q1, q2⟩ := keysI_rep e1 t
    exact ⟨by simp [q1], by simp [q2]⟩
def isortI : List Int → List Int := isortP (fun a b => decide (a ≤ b))
theorem sortI_perm (is : List Int) : (isortI is).Perm is := by
  unfold isortI
  have ins : ∀ (x : Int) (l : List Int), (insP (fun a b => decide (a ≤ b)) x l).Perm (x :: l) := fun x l => by
    induction l with
    | nil => exact List.Perm.refl _
    | cons y ys ih =>
      unfold insP
      split
      · exact List.Perm.refl _
      · exact (ih.cons y).trans (List.Perm.swap x y ys)
  induction is with
  | nil => exact List.Perm.refl _
  | cons x xs ih => exact (ins x _).trans (ih.cons x)
theorem sortI_pair (is : List Int) : (isortI is).Pairwise (· ≤ ·) := by
  have T : PySem.W.TotalLe (fun a b : Int => decide (a ≤ b)) := ⟨fun a b c h1 h2 => by simp at *; omega, fun a b => by simp; omega⟩
  have := isortP_pair T is
  exact this.imp fun h => by simpa using h
theorem sortI_uniq {a b c : List Int} (h1 : a.Perm c) (h2 : a.Pairwise (· ≤ ·)) (h3 : b.Perm c) (h4 : b.Pairwise (· ≤ ·)) : a = b := by
  exact List.Perm.eq_of_pairwise (le := (· ≤ ·)) (fun a b _ _ h h' => Int.le_antisymm h h') h2 h4 (h1.trans h3.symm)
def gSortD : GL := fun ps => match ps with
  | [.dct ks] => match keysI ks with
    | some is => if decide (is.length < 64) = true then some (.lst ((isortI is).map PV.int)) else none
    | none => none
  | _ => none
theorem ints_rep {K : PySem.W.Frag} {H : Hp} (is : List Int) : RepL K H (is.map PV.int) (is.map V.int) := by
  induction is with
  | nil => exact RepL.nil
  | cons i is ih => exact RepL.cons rep_int ih
theorem cf_sortD (hc : X.calm = true) : CallF X (.builtin "sorted") gSortD := CallR.imp (call_sortedDI hc) fun xs H Q ⟨ps, v, H1, s, a, e, k⟩ => by
  unfold gSortD at e
  split at e
  · split at e
    · rename_i is hi
      split at e
      · rename_i h64
        cases e
        obtain ⟨x, rfl, rx⟩ := a.one
        obtain ⟨d, kv, rfl, rd, rk⟩ := rx
        refine ⟨d, kv, is, rfl, rd, (keysI_rep hi rk).1, by simpa using h64, fun ys p hp hs hn => ?_⟩
        have e : ys = isortI is := sortI_uniq hp hs (sortI_perm is) (sortI_pair is)
        subst e
        exact k p _ (subU hn) hn ⟨_, upd_same, ints_rep _⟩
      · cases e
    · cases e
  · cases e
def gSorted : GL := orL gSortL gSortD
theorem cf_sorted (hc : X.calm = true) (hu : X.A.units + 64 < cLine) : CallF X (.builtin "sorted") gSorted := (cf_sortL hu).or (cf_sortD hc)
end
end PT

set_option Elab.async false
set_option linter.all false
set_option autoImplicit false
set_option maxRecDepth 100000
set_option maxHeartbeats 4000000
/-! PT12: dicts made, asked by get, del. -/
namespace PT
open PySem PySem.Spec PyProof.Rows L2

section
variable {X : Cx} {own io lm : List Nat} {o e f : Expr} {fo fe ff : EF} {apos cpos pos tpos : Pos} {i : Nat}
/-! {} -/
theorem en_dict0 : EN X own (.Dict [] [] pos) (fC (.dct [])) := ⟨PE.ent pe_dnewK fun σ H Q ⟨B, ρ, v, ρ', H1, S, e, k⟩ => by
  cases e
  exact fun p hp => k p _ H1 (LeR.refl _) (FR.mk' S (subU hp) hp ⟨[], upd_same, RepK.nil⟩)⟩
/-! d.get(k, x) -/
def gGet (p q r : PV) : Option PV := match p with
  | .dct ks => if isKey q = true then some ((findP ks q).getD r) else none
  | _ => none
def fGet (fo fe ff : EF) : EF := fun ρ => (fo ρ).bind fun r => if isDct r.1 = true then (fe r.2).bind fun s => (ff s.2).bind fun t => (gGet r.1 s.1 t.1).map fun v => (v, t.2) else none
def fGetO (i : Nat) (fe ff : EF) : EF := fun ρ => (look ρ i).bind fun p0 => if isDct p0 = true then (fe ρ).bind fun s => (ff s.2).bind fun t => (look t.2 i).bind fun p => (gGet p s.1 t.1).map fun v => (v, t.2) else none
theorem get_ok {K : PySem.W.Frag} {H1 H : Hp} {p q r v : PV} {x y z : V} (sub : Sub H1 H) (a : RT K H1 H p x) (b : Rep K H1 q y) (c : Rep K H1 r z) (e : gGet p q r = some v) : ∃ d o, x = .ref d ∧ DGet H d y o ∧ Rep K H1 v (o.getD z) := by
  unfold gGet at e
  split at e
  · rename_i ks
    split at e
    · rename_i hk
      cases e
      obtain ⟨key, hkey⟩ := isKey_get hk
      obtain ⟨d, kv, rfl, rd, rk⟩ := a
      have hb : y = kV key := rep_key hkey b
      subst hb
      refine ⟨d, valV kv key, rfl, .inl ⟨kv, key, rd, rfl, rfl⟩, ?_⟩
      have rel := rk.find hkey
      cases h : findP ks q with
      | none => rw [h] at rel; rw [rel_none rel]; exact c
      | some w' => rw [h] at rel; obtain ⟨u, hu, ru⟩ := rel_some rel; rw [hu]; exact ru
    · cases e
  · cases e
theorem dct_isD {K : PySem.W.Frag} {H1 H : Hp} {p : PV} {x : V} (a : RT K H1 H p x) (h : isDct p = true) : ∃ d, x = .ref d ∧ IsD H d := by
  cases p with
  | dct ks => obtain ⟨d, kv, rfl, rd, rk⟩ := a; exact ⟨d, rfl, .inl ⟨kv, rd⟩⟩
  | _ => cases h
theorem ex_get (hu : X.A.units + 1 < cLine) (ho : EX X own o fo) (he : EX X own e fe) (hf : EX X own f ff) (m : M2 X o "get" apos e f cpos) : EX X own (.Call (.Attribute o "get" apos) [e, f] [] cpos) (fGet fo fe ff) := ⟨PE.ent (pe_dget2 hu ho.run he.run hf.run m) fun σ H Q ⟨B, ρ, v, ρ', H1, S, e, k⟩ => by
  obtain ⟨p, ρ1, e1, e⟩ := inv_b1 e
  dsimp only at e
  split at e
  · rename_i hd
    obtain ⟨q, ρ2, e2, e⟩ := inv_b1 e
    obtain ⟨r, ρ3, e3, e⟩ := inv_b1 e
    obtain ⟨u, e4, e5⟩ := Option.map_eq_some_iff.mp e
    cases e5
    refine ⟨B, ρ, p, ρ1, H1, S, e1, fun x H2 H12 l2 S2 r2 => ?_⟩
    obtain ⟨d, rfl, isd⟩ := dct_isD (r2.rt S2.sub.le) hd
    refine ⟨d, rfl, isd, B, ρ1, q, ρ2, H12, S2, e2, fun y H3 H13 l3 S3 r3 => ⟨B, ρ2, r, ρ3, H13, S3, e3, fun z H4 H14 l4 S4 r4 => ?_⟩⟩
    obtain ⟨d', o, ed, g, rr⟩ := get_ok S4.sub ((r2.mono (l3.trans l4) _ _).rt S4.sub.le) (r3.mono l4 _ _) r4 e4
    cases ed
    exact ⟨o, g, k _ H4 H14 ((l2.trans l3).trans l4) S4 rr⟩
  · cases e⟩
theorem ex_getO (hu : X.A.units + 1 < cLine) (ho : PE X o (tVar i)) (hi : i ∈ own) (he : EX X own e fe) (hf : EX X own f ff) (m : M2 X o "get" apos e f cpos) : EX X own (.Call (.Attribute o "get" apos) [e, f] [] cpos) (fGetO i fe ff) := ⟨PE.ent (pe_dget2 hu ho he.run hf.run m) fun σ H Q ⟨B, ρ, v, ρ', H1, S, e, k⟩ => by
  obtain ⟨p0, e1, e⟩ := Option.bind_eq_some_iff.mp e
  split at e
  · rename_i hd
    obtain ⟨q, ρ2, e2, e⟩ := inv_b1 e
    obtain ⟨r, ρ3, e3, e⟩ := inv_b1 e
    obtain ⟨p, e6, e⟩ := Option.bind_eq_some_iff.mp e
    obtain ⟨u, e4, e5⟩ := Option.map_eq_some_iff.mp e
    cases e5
    obtain ⟨a, h1, h2, h3, h4⟩ := S.ow i p0 hi (look_iff.mp e1)
    obtain ⟨d, ed, isd⟩ := dct_isD h4.rt hd
    cases ed
    refine ⟨_, h1, a, rfl, isd, B, ρ, q, ρ2, H1, S, e2, fun y H3 H13 l3 S3 r3 => ⟨B, ρ2, r, ρ3, H13, S3, e3, fun z H4 H14 l4 S4 r4 => ?_⟩⟩
    obtain ⟨a', g1, g2, g3, g4⟩ := S4.ow i p hi (look_iff.mp e6)
    rw [h1] at g1
    obtain rfl : a = a' := by injection g1 with q; injection q with q; injection q
    obtain ⟨d', o, ed, g, rr⟩ := get_ok S4.sub g4.rt (r3.mono l4 _ _) r4 e4
    cases ed
    exact ⟨o, g, k _ H4 H14 (l3.trans l4) S4 rr⟩
  · cases e⟩
/-! del d[k] -/
def fDel (i : Nat) (fe : EF) : SF := fun ρ => (look ρ i).bind fun _ => (fe ρ).bind fun r => (look r.2 i).bind fun p => match p with
  | .dct ks => if (isKey r.1 && (findP ks r.1).isSome) = true then some (.nx, r.2.set i (some (.dct (dropP ks r.1)))) else none
  | _ => none
theorem sx_del (ho : PE X o (tVar i)) (hi : i ∈ own) (he : EX X own e fe) : SX X io lm own own (.Delete [.Subscript o e tpos] pos) (fDel i fe) := ⟨PS.ent (ps_ddel ho he.run) fun D σ H ⟨B, ρ, fl, ρ', H1, hio, S, e, k⟩ => by
  obtain ⟨p0, e1, e⟩ := Option.bind_eq_some_iff.mp e
  obtain ⟨q, ρ1, e2, e⟩ := inv_b1 e
  obtain ⟨p, e3, e⟩ := Option.bind_eq_some_iff.mp e
  cases p with
  | dct ks =>
    dsimp only at e
    split at e
    · rename_i hc
      rw [Bool.and_eq_true] at hc
      cases e
      obtain ⟨key, hkey⟩ := isKey_get hc.1
      obtain ⟨a, h1, h2, h3, h4⟩ := S.ow i p0 hi (look_iff.mp e1)
      refine ⟨_, h1, B, ρ, q, ρ1, H1, S, e2, fun y H3 H13 l3 S3 r3 => ?_⟩
      obtain ⟨a', g1, g2, g3, g4⟩ := S3.ow i _ hi (look_iff.mp e3)
      rw [h1] at g1
      obtain rfl : a = a' := by injection g1 with q; injection q with q; injection q
      obtain ⟨kv, hd, rk⟩ := g4
      refine ⟨a, kv, key, rfl, hd, rep_key hkey r3, by rw [rel_isSome (rk.find hkey)]; exact hc.2, ?_⟩
      exact k σ _ H13 l3 (S3.write hi (look_iff.mp e3) h1 ⟨_, upd_same, rk.drop hkey⟩)
    · cases e
  | _ => cases e⟩
end

/-! dict(x): of pairs, of a dict -/
def pairsP : List PV → Option (List (PV × PV))
  | [] => some []
  | .tup [k, v] :: ps => if isKey k = true then (pairsP ps).map fun r => (k, v) :: r else none
  | _ :: _ => none
def mergeP (ks more : List (PV × PV)) : List (PV × PV) := more.foldl (fun acc kv => putP acc kv.1 kv.2) ks
theorem RepK.merge {K : PySem.W.Frag} {H : Hp} : ∀ {more ks : List (PV × PV)} {mv kv : List (Key × V)}, RepK K H more mv → RepK K H ks kv → RepK K H (mergeP ks more) (mergeK kv mv)
  | [], _, _, _, h, q => by rw [RepK.nil_iff.mp h]; exact q
  | (k, v) :: more, _, _, _, h, q => by
    obtain ⟨k', x, r, rfl, hk, hv, t⟩ := RepK.cons_iff.mp h
    have := RepK.merge t (q.put hk hv)
    exact this
/-- a tuple that is read: its own object known -/
theorem tup_at {X : Cx} {pins : List (Addr × Obj)} {σ : L2.St} {H : Hp} {s : Shared} {a : Addr} {vs : List V} (I : Inv X pins σ H s) (h : TupAt X.K H a vs) : ∃ its : List Value, Vals vs its ∧ PlainSeq "tuple" s.heap a its.toArray ∧ vs.length ≤ sizeLine := by
  rcases h with ⟨o, h, d⟩ | ⟨o, its, n, h1, h2, h3, h4, h5, h6⟩
  · obtain ⟨e1, z, its, r, o', e2, c, n, dt⟩ := I.hok a _ h
    rw [e1] at e2; cases e2
    exact ⟨its, r, ⟨o, n, e1, c, d, dt⟩, z⟩
  · refine ⟨its.toList, h6, ⟨o, n, I.kIn a o h1, h2, h3, by simpa using h4⟩, ?_⟩
    have e := h6.length
    simp only [Array.length_toList] at e
    omega
/-- the pairs of a row of pairs, as the library wants them -/
theorem pairs_at {X : Cx} {pins : List (Addr × Obj)} {σ : L2.St} {H1 H : Hp} {s : Shared} (I : Inv X pins σ H s) (sub : Sub H1 H) : ∀ {ps : List PV} {ks : List (PV × PV)} {vs : List V} {us : List Value}, pairsP ps = some ks → RepL X.K H1 ps vs → Vals vs us →
    ∃ (kv : List (Key × V)) (rs : List (Key × Value)) (qs : List (Value × Value)) (Ts : List Addr), RepK X.K H1 ks kv ∧ KV kv rs ∧ qs.length = us.length ∧ rs.length = us.length ∧ us = Ts.map Value.ref ∧
      (∀ (j : Nat) (k v : Value), qs[j]? = some (k, v) → ∃ b, Ts[j]? = some b ∧ PairAt s.heap b k v ∧ ∃ key, rs[j]? = some (key, v) ∧ keyIs key k = true)
  | [], _, _, _, e, r, q => by
    cases e
    rw [RepL.nil_iff.mp r] at q
    cases q
    exact ⟨[], [], [], [], RepK.nil, .nil, rfl, rfl, rfl, fun j k v h => by simp at h⟩
  | p :: ps, _, _, _, e, r, q => by
    obtain ⟨x, t, rfl, rp, rt⟩ := RepL.cons_iff.mp r
    unfold pairsP at e
    split at e
    · cases ‹_ :: _ = []›
    · rename_i k v ps' heq
      cases heq
      split at e
      · rename_i hk
        obtain ⟨ks', e1, e2⟩ := Option.map_eq_some_iff.mp e
        cases e2
        cases q with
        | cons q1 q2 =>
          obtain ⟨kv, rs, qs, Ts, i1, i2, i3, i4, i5, i6⟩ := pairs_at I sub e1 rt q2
          simp only [Rep] at rp
          obtain ⟨b, ws, rfl, ta, rl⟩ := rp
          cases q1
          obtain ⟨xk, ws1, rfl, rk, rl1⟩ := RepL.cons_iff.mp rl
          obtain ⟨xv, rfl, rv⟩ := rl1.one_iff
          obtain ⟨key, hkey⟩ := isKey_get hk
          obtain ⟨its, rits, ⟨o, n, ho, hc, hdn, hdt⟩, _⟩ := tup_at I (sub.le.tup ta)
          obtain ⟨uk, uv, rfl, ruk, ruv⟩ := Vals.two rits
          have ek : xk = kV key := rep_key hkey rk
          subst ek
          refine ⟨(key, xv) :: kv, (key, uv) :: rs, (uk, uv) :: qs, b :: Ts, RepK.cons hkey rv i1, .cons ⟨rfl, ruv⟩ i2, by simp [i3], by simp [i4], by simp [i5], fun j k' v' h => ?_⟩
          cases j with
          | zero =>
            simp at h
            obtain ⟨rfl, rfl⟩ := h
            exact ⟨b, rfl, .inl ⟨o, ho, hc, n, hdt⟩, key, rfl, kV_is (P := X.prog) (w := X.w) ruk⟩
          | succ j =>
            obtain ⟨c, h1, h2, ky, h3, h4⟩ := i6 j k' v' (by simpa using h)
            exact ⟨c, by simpa using h1, h2, ky, by simpa using h3, h4⟩
      · cases e
    · cases e
def gDictP : GL := fun ps => match ps with
  | [.tup xs] => if decide (xs.length ≤ 1000000) = true then (pairsP xs).map fun ks => .dct (mergeP [] ks) else none
  | [.lst xs] => if decide (xs.length ≤ 1000000) = true then (pairsP xs).map fun ks => .dct (mergeP [] ks) else none
  | [.dct ks] => some (.dct ks)
  | _ => none
section
variable {X : Cx}
theorem dict_pairs {pins : List (Addr × Obj)} {σ : L2.St} {H1 H : Hp} {s : Shared} {Q : VK} {T : String} {a : Addr} {its : List Value} {ps : List PV} {ks : List (PV × PV)} {vs : List V} (hc : X.calm = true) (I : Inv X pins σ H s) (sub : Sub H1 H) (hT : T = "tuple" ∨ T = "list")
    (pl : PlainSeq T s.heap a its.toArray) (e : pairsP ps = some ks) (r : RepL X.K H1 ps vs) (q : Vals vs its) (hz : ps.length ≤ 1000000) (k : kF X.K (.dct (mergeP [] ks)) H1 H Q) :
    wpAny (model X.prog X.w) X.A (call (.type "dict") [.ref a]) (EP X pins σ Q) X.xe s := by
  obtain ⟨kv, rs, qs, Ts, i1, i2, i3, i4, i5, i6⟩ := pairs_at I sub e r q
  have hlen : its.length = ps.length := by rw [← q.length, r.length]
  have items : PairItems s.heap its.toArray (fun j => Ts.getD j 0) qs := by
    refine ⟨by simp [i3], fun j k v h => ?_⟩
    obtain ⟨b, h1, h2, _⟩ := i6 j k v h
    refine ⟨?_, ?_⟩
    · have : its[j]? = some (.ref b) := by rw [i5, List.getElem?_map, h1]; rfl
      simpa [List.getD_eq_getElem?_getD, h1] using this
    · simpa [List.getD_eq_getElem?_getD, h1] using h2
  have have' : PairsHave (mixKind X.prog X.w) qs.length (PairRel qs) rs := ⟨by rw [i4, i3], fun j key v h => by
    obtain ⟨b, _, _, ky, h3, h4⟩ := i6 j key v h
    exact ⟨ky, h3, h4⟩⟩
  have fin : ∀ h' tk, h'.DictOf (mixKind X.prog X.w) s.heap.objs.size (merged [] rs) → (∀ b o, b ∉ ([] : List Addr) → s.heap.get? b = some o → h'.get? b = some o) → EP X pins σ Q (.ref s.heap.objs.size) { s with heap := h', toks := tk } := fun h' tk hd' hk => by
    have hm : (s.heap.objs.size == sysModules) = false := beq_eq_false_iff_ne.mpr (Nat.ne_of_gt I.big)
    have hl2 : (mergeK [] kv).length ≤ sizeLine := by
      refine Nat.le_trans (length_mergeK kv []) ?_
      rw [List.length_nil, Nat.zero_add, i2.length, i4, hlen, sizeLine_eq]
      omega
    have hn := I.hok.fresh (Nat.le_refl _)
    exact ⟨.ref s.heap.objs.size, upd H s.heap.objs.size (.dK (mergeK [] kv)), I.laid (t' := tk) (fun b o => hk b o (by simp)) (Nat.le_refl _) (show ObjOk X.prog X.w _ _ _ (.dK (mergeK [] kv)) from ⟨hl2, hm, merged [] rs, KV.merge i2 .nil, hd'⟩), rfl,
      k _ _ (subU hn) hn ⟨_, upd_same, i1.merge RepK.nil⟩⟩
  have hqz : qs.length ≤ sizeLine := by rw [i3, hlen, sizeLine_eq]; omega
  rcases hT with rfl | rfl
  · exact PySem.call_dict_pairs (PairArg.tuple a its.toArray (fun j => Ts.getD j 0) qs) (I.ok.hd hc) ⟨pl, items⟩ have' hqz fin
  · exact PySem.call_dict_pairs (PairArg.list a its.toArray (fun j => Ts.getD j 0) qs) (I.ok.hd hc) ⟨pl, items⟩ have' hqz fin
theorem cf_dict (hc : X.calm = true) : CallF X (.type "dict") gDictP := by
  intro pins s σ H xs us Q I r ⟨ps, v, H1, sub, a, e, k⟩
  unfold gDictP at e
  split at e
  · split at e
    · rename_i xs' hz
      obtain ⟨ks, e1, e2⟩ := Option.map_eq_some_iff.mp e
      cases e2
      obtain ⟨x, rfl, rx⟩ := a.one
      obtain ⟨b, vs, rfl, q, rl⟩ := rt_tup rx
      obtain ⟨its, rv, pl, hz2⟩ := tup_at I (sub.le.tup q)
      rw [Vals.ref1 r]
      exact dict_pairs hc I sub (.inl rfl) pl e1 rl rv (by simpa using hz) k
    · cases e
  · split at e
    · rename_i xs' hz
      obtain ⟨ks, e1, e2⟩ := Option.map_eq_some_iff.mp e
      cases e2
      obtain ⟨x, rfl, rx⟩ := a.one
      obtain ⟨b, vs, rfl, q, rl⟩ := rx
      obtain ⟨z, its, n, rv, _, ho⟩ := lst_rd I q
      rw [Vals.ref1 r]
      exact dict_pairs hc I sub (.inr rfl) ⟨_, n, ho, rfl, rfl, rfl⟩ e1 rl rv (by simpa using hz) k
    · cases e
  · cases e
    obtain ⟨x, rfl, rx⟩ := a.one
    obtain ⟨b, kv, rfl, q, rk⟩ := rx
    rw [Vals.ref1 r]
    exact d_copyOf I q fun p s' hp I' => ⟨.ref p, _, I', rfl, k p _ (subU hp) hp ⟨kv, upd_same, rk⟩⟩
  · cases e
end
end PT

set_option Elab.async false
set_option linter.all false
set_option autoImplicit false
set_option maxRecDepth 100000
set_option maxHeartbeats 4000000
/-! PT13: a row walked, list or tuple; xs += ys; extend. -/
namespace PT
open PySem PySem.Spec PyProof.Rows L2
section
variable {X : Cx} {own io lm : List Nat} {tg e l : Expr} {fe : EF} {pos pos' : Pos} {i : Nat} {x : Str}
def iSeq' (K : PySem.W.Frag) (tl : TE) : TI := fun σ H R => tl σ H fun x H1 => ∃ a, x = .ref a ∧ (((∃ xs, SqL K H1 a xs) ∧ R (Itl K a) H1) ∨ ((∃ xs, SqT K H1 a xs) ∧ R (Itt K a) H1))
theorem pi_seq {tl : TE} (hl : PE X l tl) : PI X tg l (iSeq' X.K tl) := by
  refine ⟨fun pins s σ H R I h => ?_⟩
  refine L2.thn (hl.run pins s σ H _ I h) fun v s1 ⟨x, H1, I1, r1, q1⟩ => ?_
  obtain ⟨a, e, q⟩ := q1
  subst e
  cases r1
  rcases q with ⟨⟨xs, hq⟩, q⟩ | ⟨⟨xs, hq⟩, q⟩
  · obtain ⟨its, rv, p, hz⟩ := I1.list hq
    refine wpAny_pyIter_list p.isList ?_
    refine ⟨s1.heap.objs.size, [s1.heap.objs.size], _, _, H1, rfl, I1.kept (t' := s1.toks) fun b o e => Heap.get?_push_of_some _ e, turn_list a _, ⟨_, Heap.get?_push_size _ rfl, rfl, rfl⟩, fun b hb => ?_, q⟩
    have e : b = s1.heap.objs.size := by simpa using hb
    subst e
    exact I1.fpOk (Nat.le_refl _) (I1.hok.fresh (Nat.le_refl _))
  · obtain ⟨its, rv, p, hz⟩ := I1.tuple hq
    refine wpAny_pyIter_tuple (show s1.heap.IsTuple a its.toArray from p) ?_
    refine ⟨s1.heap.objs.size, [s1.heap.objs.size], _, _, H1, rfl, I1.kept (t' := s1.toks) fun b o e => Heap.get?_push_of_some _ e, turn_tuple a _, ⟨_, Heap.get?_push_size _ rfl, rfl, rfl⟩, fun b hb => ?_, q⟩
    have e : b = s1.heap.objs.size := by simpa using hb
    subst e
    exact I1.fpOk (Nat.le_refl _) (I1.hok.fresh (Nat.le_refl _))
def rowOf : PV → Option (List PV)
  | .lst xs => some xs
  | .tup xs => some xs
  | _ => none
def iS (f : EF) : AF := fun ρ => (f ρ).bind fun r => (rowOf r.1).map fun xs => (xs, r.2)
theorem walks_l {K : PySem.W.Frag} {H1 : Hp} {a : Addr} {vs : List V} {its : List PV} (q : SqL K H1 a vs) (rl : RepL K H1 its vs) : Walks' K (Itl K a) H1 its := fun H2 H3 le2 sub => ⟨fun i p hp => by
    obtain ⟨w, h1, h2⟩ := rl.get hp
    have q3 : SqL K H3 a vs := sub.le.sqL (le2.sqL q)
    refine ⟨⟨vs, w, q3, h1⟩, fun y H'' yl => ?_⟩
    obtain ⟨rfl, hy⟩ := yl
    have := hy vs q3
    rw [h1] at this; cases this
    exact ⟨H2, Ext.refl sub, h2.mono le2 _ _⟩, ⟨vs, sub.le.sqL (le2.sqL q), by rw [rl.length]; exact Nat.le_refl _⟩⟩
theorem walks_t {K : PySem.W.Frag} {H1 : Hp} {a : Addr} {vs : List V} {its : List PV} (q : SqT K H1 a vs) (rl : RepL K H1 its vs) : Walks' K (Itt K a) H1 its := fun H2 H3 le2 sub => ⟨fun i p hp => by
    obtain ⟨w, h1, h2⟩ := rl.get hp
    have q3 : SqT K H3 a vs := sub.le.sqT (le2.sqT q)
    refine ⟨⟨vs, w, q3, h1⟩, fun y H'' yl => ?_⟩
    obtain ⟨rfl, hy⟩ := yl
    have := hy vs q3
    rw [h1] at this; cases this
    exact ⟨H2, Ext.refl sub, h2.mono le2 _ _⟩, ⟨vs, sub.le.sqT (le2.sqT q), by rw [rl.length]; exact Nat.le_refl _⟩⟩
theorem ix_seq' (h : EX X own e fe) : IX X own tg e (iS fe) := ⟨PI.ent (pi_seq h.run) fun σ H R ⟨B, ρ, its, ρ', H1, S, e, k⟩ => by
  obtain ⟨v, ρ1, e1, e2⟩ := inv_b1 e
  obtain ⟨xs, e3, e4⟩ := Option.map_eq_some_iff.mp e2
  cases e4
  refine ⟨B, ρ, v, ρ1, H1, S, e1, fun x H' H1' le S' r => ?_⟩
  cases v with
  | lst ys =>
    cases e3
    simp only [Rep] at r
    obtain ⟨a, vs, rfl, q, rl⟩ := r
    have q : SqL X.K H1' a vs := .inl q
    exact ⟨a, rfl, .inl ⟨⟨vs, S'.sub.le.sqL q⟩, k _ H' H1' le S' (walks_l q rl)⟩⟩
  | tup ys =>
    cases e3
    simp only [Rep] at r
    obtain ⟨a, vs, rfl, q, rl⟩ := r
    have q := q.sq
    exact ⟨a, rfl, .inr ⟨⟨vs, S'.sub.le.sqT q⟩, k _ H' H1' le S' (walks_t q rl)⟩⟩
  | _ => cases e3⟩
/-! xs += ys -/
def rExtR : R2 := fun x y H Q => ∃ l b xs zs, x = .ref l ∧ y = .ref b ∧ H l = some (.lst xs) ∧ Rd H b (.lst zs) ∧ xs.length + zs.length ≤ sizeLine ∧ Q (.ref l) (upd H l (.lst (xs ++ zs)))
theorem iop_extR : OpR X (inplaceOp .Add) rExtR := by
  intro pins s σ H x y v u Q I rx ry h
  obtain ⟨l, b, xs, zs, rfl, rfl, hH, hB, hz, q⟩ := h
  cases rx
  cases ry
  obtain ⟨z, its, n, r, hl, e⟩ := I.lstM hH
  obtain ⟨z2, its2, n2, r2, hl2, e2⟩ := lst_rd I hB
  have hsz : its.toArray.size + its2.toArray.size ≤ sizeLine := by rw [List.size_toArray, List.size_toArray]; omega
  have hlong : ¬ (!its.toArray.isEmpty && Builtin.List.listTooLong (its.toArray.size + its2.toArray.size)) = true := by
    rw [notLongL hsz, Bool.and_false]
    exact Bool.false_ne_true
  refine iadd_road ⟨_, e, rfl⟩ ⟨_, e2, rfl⟩ (call_meets PySem.F.slot_list_iadd ⟨_, e, rfl⟩ PySem.F.entry_list_iadd (PySem.F.args_list_iadd_2 _ _)
    (AutoSeq1.list___iadd___list_list_0 l its.toArray n b its2.toArray n2 hlong (by rw [List.size_toArray]; omega) (by omega)) ⟨e, e2, ?_⟩)
  refine ⟨.ref l, _, I.lset (its' := its ++ its2) (t' := s.toks) hH e (by simp) (r.append r2) ?_, rfl, q⟩
  rw [List.length_append]
  omega
theorem inv_ext {p q v : PV} (e : gExt p q = some v) : ∃ xs ys, p = .lst xs ∧ q = .lst ys ∧ xs.length + ys.length ≤ 1000000 ∧ v = .lst (xs ++ ys) := by
  unfold gExt at e
  split at e
  · split at e
    · rename_i hl
      cases e
      exact ⟨_, _, rfl, rfl, hl, rfl⟩
    · cases e
  · cases e
def fExt (i : Nat) (fe : EF) : SF := fun ρ => (look ρ i).bind fun _ => (fe ρ).bind fun r => (look r.2 i).bind fun p => (gExt p r.1).map fun v => (.nx, r.2.set i (some v))
theorem set_self' {α : Type} {l : List α} {i : Nat} {a : α} (h : l[i]? = some a) : l.set i a = l := by
  apply List.ext_getElem?
  intro j
  by_cases e : j = i
  · subst e
    rw [List.getElem?_set_self (List.getElem?_eq_some_iff.mp h).1, h]
  · rw [List.getElem?_set_ne (Ne.symm e)]
theorem sx_ext (hN : X.N.Nodup) (hi : X.N[i]? = some x) (hx : Loc X.env.scope x) (hown : i ∈ own) (he : EX X own e fe) (hf : X.fn x = true ∨ X.env.scope.names.lookup x = some .local := by first | exact .inl rfl | exact .inr rfl | assumption) :
    SX X io lm own own (.AugAssign (.Name x pos') .Add e pos) (fExt i fe) := ⟨PS.ent (ps_aug (ti := rExtR) hN hi hx he.run (fun pins s σ H x y v u Q I rx ry q => iop_extR pins s σ H x y v u Q I rx ry q) hf) fun D σ H ⟨B, ρ, fl, ρ', H1, hio, S, e, k⟩ => by
  obtain ⟨p0, e0, e⟩ := Option.bind_eq_some_iff.mp e
  obtain ⟨q, ρ1, e1, e⟩ := inv_b1 e
  obtain ⟨p, e4, e⟩ := Option.bind_eq_some_iff.mp e
  obtain ⟨v, e2, e3⟩ := Option.map_eq_some_iff.mp e
  cases e3
  obtain ⟨a, h1, h2, h3, h4⟩ := S.ow i p0 hown (look_iff.mp e0)
  refine ⟨_, h1, B, ρ, q, ρ1, H1, S, e1, fun z H' H1' le S' r => ?_⟩
  obtain ⟨a', g1, g2, g3, g4⟩ := S'.ow i p hown (look_iff.mp e4)
  rw [h1] at g1
  obtain rfl : a = a' := by injection g1 with q; injection q with q; injection q
  obtain ⟨xs, ys, rfl, rfl, hl, rfl⟩ := inv_ext e2
  obtain ⟨vs, hv, rv⟩ := g4
  simp only [Rep] at r
  obtain ⟨b, ws, rfl, q1, rl⟩ := r
  refine ⟨a, b, vs, ws, rfl, rfl, hv, S'.sub.le.rd _ _ q1, by rw [rv.length, rl.length, sizeLine_eq]; omega, ?_⟩
  dsimp only; rw [set_self' h1]
  exact k _ _ H1' le (S'.write hown (look_iff.mp e4) h1 ⟨_, upd_same, rv.append rl⟩)⟩
/-! xs.extend(ys) -/
def rExtendR : V → List V → Hp → VK → Prop := fun x vs H Q => ∃ l b xs zs, x = .ref l ∧ vs = [.ref b] ∧ H l = some (.lst xs) ∧ Rd H b (.lst zs) ∧ xs.length + zs.length ≤ sizeLine ∧ Q .non (upd H l (.lst (xs ++ zs)))
theorem mt_extendR : MtR X "list.extend" rExtendR := by
  intro pins s σ H x vs v us Q I rx rv h
  obtain ⟨l, b, xs, zs, rfl, rfl, hH, hB, hz, q⟩ := h
  cases rx
  obtain ⟨u, rfl, ru⟩ := rv.one
  cases ru
  obtain ⟨z, its, n, r, hl, e⟩ := I.lstM hH
  obtain ⟨z2, its2, n2, r2, hl2, e2⟩ := lst_rd I hB
  have hsz : its.toArray.size + its2.toArray.size ≤ sizeLine := by rw [List.size_toArray, List.size_toArray]; omega
  have hlong : ¬ (!its.toArray.isEmpty && Builtin.List.listTooLong (its.toArray.size + its2.toArray.size)) = true := by
    rw [notLongL hsz, Bool.and_false]
    exact Bool.false_ne_true
  refine call_meets PySem.F.slot_list_extend ⟨_, e, rfl⟩ PySem.F.entry_list_extend (PySem.F.args_list_extend_2 _ _)
    (AutoSeq1.list_extend_list_list_0 l its.toArray n b its2.toArray n2 hlong (by rw [List.size_toArray]; omega) (by omega)) ⟨e, e2, ?_⟩
  refine ⟨.non, _, I.lset (its' := its ++ its2) hH e (by simp) (r.append r2) ?_, rfl, q⟩
  rw [List.length_append]
  omega
def gExtend : GM := fun p ps => match p, ps with
  | .lst xs, [.lst ys] => if xs.length + ys.length ≤ 1000000 then some (.non, .lst (xs ++ ys)) else none
  | _, _ => none
theorem mi_extend : MtI X "list.extend" gExtend := MtR.imp mt_extendR fun x xs H Q ⟨p, ps, v, w', H1, a, ex, sub, ro, rl, e, k⟩ => by
  subst ex
  unfold gExtend at e
  split at e
  · split at e
    · rename_i hl
      cases e
      obtain ⟨vs, hv, rv⟩ := ro
      obtain ⟨y, rfl, ry⟩ := rl.one_iff
      simp only [Rep] at ry
      obtain ⟨b, ws, rfl, q1, rl2⟩ := ry
      refine ⟨a, b, vs, ws, rfl, rfl, hv, sub.le.rd _ _ q1, by rw [rv.length, rl2.length, sizeLine_eq]; omega, ?_⟩
      exact k _ _ ⟨_, upd_same, rv.append rl2⟩ rep_non
    · cases e
  · cases e
end
end PT

set_option Elab.async false
set_option linter.all false
set_option autoImplicit false
set_option maxRecDepth 100000
set_option maxHeartbeats 4000000
/-! PT14: what the printed texts name: calls, own lists, range with a step. -/
namespace PT
open PySem PySem.Spec PyProof.Rows L2
def ownC (own own2 : List Nat) (i : Nat) : Bool := own.all (fun j => j == i || own2.contains j) && own.contains i && own2.all own.contains
theorem ownIns {own own2 : List Nat} {i : Nat} (h : ownC own own2 i = true) : ∀ j, j ∈ own ↔ j = i ∨ j ∈ own2 := fun j => by
  unfold ownC at h
  simp only [Bool.and_eq_true, List.all_eq_true, Bool.or_eq_true, beq_iff_eq, List.contains_iff_mem] at h
  obtain ⟨⟨h1, h2⟩, h3⟩ := h
  constructor
  · exact h1 j
  · rintro (rfl | h)
    · exact h2
    · exact h3 j h
theorem units65 {A : Around} {k : Nat} (hr : Room k A) : A.units + 65 < cLine := by have := hr.un; omega

section
variable {P : Program} {w : World} {K : PySem.W.Frag} {mg : Str → Option Value} {base : Heap}
/-- a def that may be called by its name -/
def CallOk (P : Program) (w : World) (K : PySem.W.Frag) (mg : Str → Option Value) (base : Heap) (k : Nat) (x : Str) (n : Nat) (F : GL) : Prop :=
  ∃ (f : Addr) (fd : FuncData) (ps : List Str), mg x = some (.ref f) ∧ FnOk P w K mg base CX0 k f fd ps (spF K n F) ∧ PySem.W.keepIn K (.ref f) = true ∧ Binds K fd ps [] ∧ ps.length = n
def CallIo (P : Program) (w : World) (K : PySem.W.Frag) (mg : Str → Option Value) (base : Heap) (k : Nat) (x : Str) (n j : Nat) (F : GI) : Prop :=
  ∃ (f : Addr) (fd : FuncData) (ps : List Str), mg x = some (.ref f) ∧ FnOk P w K mg base CX0 k f fd ps (spI K n j F) ∧ PySem.W.keepIn K (.ref f) = true ∧ Binds K fd ps [] ∧ ps.length = n
theorem ok_none {k n : Nat} {f : Addr} {fd : FuncData} {ps : List Str} (hn : ps.length = n) : FnOk P w K mg base CX0 k f fd ps (spF K n (fun _ => none)) :=
  ⟨fun vs H Q E h => by rw [hn]; exact h.1, fun A outer s H args us vs Q E hr he hb hv hs => by
    obtain ⟨_, _, _, _, _, _, e, _⟩ := hs
    cases e⟩
/-- what K's text says of a def -/
structure DefAt (K : PySem.W.Frag) (mg : Str → Option Value) (x : Str) (st : Stmt) (ps : List Str) (f : Addr) (fd : FuncData) : Prop where
  fn : Fun K x x st f fd
  mg : mg x = some (.ref f)
  bi : Binds K fd ps []
  kp : PySem.W.keepIn K (.ref f) = true
theorem DefAt.call {k n : Nat} {x : Str} {st : Stmt} {ps : List Str} {f : Addr} {fd : FuncData} {F : GL} (D : DefAt K mg x st ps f fd) (G : FnOk P w K mg base CX0 k f fd ps (spF K n F)) (hl : ps.length = n) : CallOk P w K mg base k x n F := ⟨f, fd, ps, D.mg, G, D.kp, D.bi, hl⟩
theorem DefAt.callI {k n j : Nat} {x : Str} {st : Stmt} {ps : List Str} {f : Addr} {fd : FuncData} {F : GI} (D : DefAt K mg x st ps f fd) (G : FnOk P w K mg base CX0 k f fd ps (spI K n j F)) (hl : ps.length = n) : CallIo P w K mg base k x n j F := ⟨f, fd, ps, D.mg, G, D.kp, D.bi, hl⟩
end
section
variable {X : Cx} {own : List Nat} {e a b c : Expr} {es : List Expr} {pos p : Pos} {x : Str} {k n : Nat} {F : GL} {ff : AF}
theorem ex_callC (C : CallOk X.prog X.w X.K X.mg X.base k x n F) (hr : Room k X.A) (hg : Gl X x) (ha : AX X own (e :: es) ff) (hff : ∀ ρ vs ρ', ff ρ = some (vs, ρ') → vs.length = n) (hdb : (x == ("__debug__" : Str)) = false := by decide) (he : starEach (e :: es) X.env = (false, eval e X.env) :: starEach es X.env := by rfl) (hpl : (backTo pos (starEach es X.env)).any (·.1) = false := by rfl) :
    EX X own (.Call (.Name x p) (e :: es) [] pos) (fList F ff) := by
  obtain ⟨f, fd, ps, hm, G, hk, hb, hl⟩ := C
  exact ex_call G hr hg hm hk hb hl ha hff hdb he hpl

/-! ### a call that changes one argument -/
def OH (i n : Nat) (js : List Nat) (f : AO) : Prop := ∀ ρ hs ρ', f ρ = some (hs, ρ') → hs.length = n ∧ ∀ k, hs[k]? = some none ↔ k ∈ js
theorem oh_nil {i : Nat} : OH i 0 [] oNil := fun ρ hs ρ' e => by cases e; exact ⟨rfl, fun k => by simp⟩
theorem oh_hole {i n : Nat} {js : List Nat} {g : AO} (h : OH i n js g) : OH i (n + 1) (0 :: js.map (· + 1)) (oHole i g) := fun ρ hs ρ' e => by
  obtain ⟨v, e1, e⟩ := Option.bind_eq_some_iff.mp e
  obtain ⟨ws, ρ2, e2, e⟩ := inv_b1 e
  cases e
  obtain ⟨h1, h2⟩ := h _ _ _ e2
  refine ⟨by simp [h1], fun k => ?_⟩
  cases k with
  | zero => simp
  | succ k => simp [h2 k]
theorem oh_cons {i n : Nat} {js : List Nat} {f : EF} {g : AO} (h : OH i n js g) : OH i (n + 1) (js.map (· + 1)) (oCons f g) := fun ρ hs ρ' e => by
  obtain ⟨v, ρ1, e1, e⟩ := inv_b1 e
  obtain ⟨ws, ρ2, e2, e⟩ := inv_b1 e
  cases e
  obtain ⟨h1, h2⟩ := h _ _ _ e2
  refine ⟨by simp [h1], fun k => ?_⟩
  cases k with
  | zero => simp
  | succ k => simp [h2 k]
theorem hole_ok {i n j : Nat} {js : List Nat} {f : AO} (h : OH i n js f) (hj : js = [j]) : ∀ ρ vs ρ', f ρ = some (vs, ρ') → vs.length = n ∧ ∀ i, vs[i]? = some none ↔ i = j := fun ρ vs ρ' e => by
  obtain ⟨h1, h2⟩ := h _ _ _ e
  exact ⟨h1, fun i => by rw [h2, hj]; simp⟩
theorem ex_callIC {j i : Nat} {F : GI} {ff : AO} (C : CallIo X.prog X.w X.K X.mg X.base k x n j F) (hr : Room k X.A) (hg : Gl X x) (hi : i ∈ own) (ha : OX X own i (e :: es) ff) (hff : ∀ ρ vs ρ', ff ρ = some (vs, ρ') → vs.length = n ∧ ∀ i, vs[i]? = some none ↔ i = j) (hdb : (x == ("__debug__" : Str)) = false := by decide) (he : starEach (e :: es) X.env = (false, eval e X.env) :: starEach es X.env := by rfl) (hpl : (backTo pos (starEach es X.env)).any (·.1) = false := by rfl) :
    EX X own (.Call (.Name x p) (e :: es) [] pos) (fCallI i F ff) := by
  obtain ⟨f, fd, ps, hm, G, hk, hb, hl⟩ := C
  exact ex_callI G hr hg hm hk hb hl hi ha hff hdb he hpl

/-! ### a constant of the module -/
theorem ex_glob {v : PV} (hg : Gl X x) (h : ∃ a, X.mg x = some (.ref a) ∧ ∀ H, Rep X.K H v (.ref a)) (hd : (x == ("__debug__" : Str)) = false := by decide) : EX X own (.Name x p) (fC v) := by
  obtain ⟨a, hm, hr⟩ := h
  exact ex_c (pe_glob (v := .ref a) hg hm rfl hd) (fun H => hr H)
theorem ex_globI {i : Int} (hg : Gl X x) (h : ∃ t, X.mg x = some (.int i t)) (hd : (x == ("__debug__" : Str)) = false := by decide) : EX X own (.Name x p) (fC (.int i)) := by
  obtain ⟨t, hm⟩ := h
  exact ex_c (pe_glob (v := .int i) hg hm ⟨t, rfl⟩ hd) (fun H => rep_int)
theorem ex_globS {i : Str} (hg : Gl X x) (h : ∃ t, X.mg x = some (.str i t)) (hd : (x == ("__debug__" : Str)) = false := by decide) : EX X own (.Name x p) (fC (.str i)) := by
  obtain ⟨t, hm⟩ := h
  exact ex_c (pe_glob (v := .str i) hg hm ⟨t, rfl⟩ hd) (fun H => rep_str)

/-! ### range with a step -/
def rngC (lo c : Int) (n : Nat) : List PV := (List.range n).map fun (i : Nat) => PV.int (lo + (i : Int) * c)
def iR3 (f g h : EF) : AF := fun ρ => (f ρ).bind fun r => (g r.2).bind fun s => (h s.2).bind fun t => match r.1, s.1, t.1 with
  | .int i, .int j, .int c => if c ≠ 0 ∧ c.natAbs < 1073741824 ∧ Builtin.Range.small i j c = true ∧ 0 ≤ Builtin.Range.rangeSize i j c then some (rngC i c (Builtin.Range.rangeSize i j c).toNat, t.2) else none
  | _, _, _ => none
theorem rngC_get {lo c : Int} {n i : Nat} {p : PV} (h : (rngC lo c n)[i]? = some p) : i < n ∧ p = .int (lo + (i : Int) * c) := by
  unfold rngC at h
  rw [List.getElem?_map] at h
  by_cases hi : i < n
  · rw [List.getElem?_range hi] at h
    cases h
    exact ⟨hi, rfl⟩
  · rw [List.getElem?_eq_none (by simpa using hi)] at h; cases h
theorem walks_rngC {K : PySem.W.Frag} {H1 : Hp} {lo c : Int} {n : Nat} : Walks' K (Itc lo c n) H1 (rngC lo c n) := fun H2 H3 le sub => ⟨fun i p hp => by
    obtain ⟨hi, rfl⟩ := rngC_get hp
    refine ⟨hi, fun x H'' yl => ?_⟩
    obtain ⟨rfl, rfl⟩ := yl
    exact ⟨H2, Ext.refl sub, rep_int⟩, by simp [rngC, Itc]⟩
theorem ix_rng3 {tg : Expr} {fa fb fc : EF} (hg : Gl X "range") (hm : X.mg "range" = none) (ha : EX X own a fa) (hb : EX X own b fb) (hc : EX X own c fc) (hs : starEach [a, b, c] X.env = (false, eval a X.env) :: starEach [b, c] X.env := by rfl) (hs2 : starEach [b, c] X.env = (false, eval b X.env) :: starEach [c] X.env := by rfl) (hs3 : starEach [c] X.env = (false, eval c X.env) :: starEach [] X.env := by rfl) (hpl : (backTo pos (starEach [b, c] X.env)).any (·.1) = false := by rfl) :
    IX X own tg (.Call (.Name "range" p) [a, b, c] [] pos) (iR3 fa fb fc) :=
  ⟨PI.ent (pi_range3 hg hm (pa_cons ha.run (pa_cons hb.run (pa_cons hc.run pa_nil hs3) hs2) hs) hs hpl) fun σ H R ⟨B, ρ, its, ρ', H1, S, e, k⟩ => by
  obtain ⟨v, ρ1, e1, e2⟩ := inv_b1 e
  obtain ⟨w, ρ2, e3, e4⟩ := inv_b1 e2
  obtain ⟨u, ρ3, e5, e6⟩ := inv_b1 e4
  refine ⟨B, ρ, v, ρ1, H1, S, e1, fun x H' H1' le S' r => ⟨B, ρ1, w, ρ2, H1', S', e3, fun y H2 H12 le2 S2 r2 => ⟨B, ρ2, u, ρ3, H12, S2, e5, fun z H3 H13 le3 S3 r3 => ?_⟩⟩⟩
  cases v with
  | int i =>
    cases w with
    | int j =>
      cases u with
      | int c =>
        simp only at e6
        split at e6
        · rename_i hj
          cases e6
          simp only [Rep] at r r2 r3
          subst r
          subst r2
          subst r3
          obtain ⟨h1, h2, h3, h4⟩ := hj
          exact ⟨i, j, c, _, rfl, ⟨h1, h2, h3, (Int.toNat_of_nonneg h4).symm⟩, k _ H3 H13 ((le.trans le2).trans le3) S3 walks_rngC⟩
        · cases e6
      | _ => cases e6
    | _ => cases e6
  | _ => cases e6⟩
end
end PT

set_option Elab.async false
set_option linter.all false
set_option autoImplicit false
set_option maxRecDepth 100000
set_option maxHeartbeats 4000000
/-! PT15: what the top has written; the law's promise. -/
namespace PT
open PySem PySem.Spec PyProof.Rows L2
/-- a def of the module, as the written part shows it -/
def RawAt (K : PySem.W.Frag) (x : Str) (st : Stmt) : Prop := ∃ (f : Addr) (oc : Value) (od : Option Addr) (kV dc pm : Value) (an : Option Addr) (cd ct : Value) (sl : Array (Option Value)),
  PySem.W.nsIn K mainGlobals x = some (some (.ref f)) ∧ K.lookup f = some ⟨oc, od, .func (PySem.W.fnOf x x (defArgs st) (defBody st) (defScope st) .none kV dc pm an cd ct), sl⟩ ∧ PySem.W.codeIn K cd x = true ∧ PySem.W.keepIn K (.ref f) = true
theorem RawAt.mk {K : PySem.W.Frag} {x : Str} {st : Stmt} {f : Addr} {oc : Value} {od : Option Addr} {kV dc pm : Value} {an : Option Addr} {cd ct : Value} {sl : Array (Option Value)} (a : PySem.W.nsIn K mainGlobals x = some (some (.ref f)))
    (l : K.lookup f = some ⟨oc, od, .func (PySem.W.fnOf x x (defArgs st) (defBody st) (defScope st) .none kV dc pm an cd ct), sl⟩) (c : PySem.W.codeIn K cd x = true) (k : PySem.W.keepIn K (.ref f) = true) : RawAt K x st := ⟨f, oc, od, kV, dc, pm, an, cd, ct, sl, a, l, c, k⟩
theorem RawAt.at {K : PySem.W.Frag} {x : Str} {st : Stmt} {h : Heap} {mg : Str → Option Value} {ps : List Str} (R : RawAt K x st) (X : K.In h) (G : h.Ns mainGlobals mg)
    (hb : ∀ (kV doc pm : Value) (an : Option Addr) (cdv ct : Value) (us : List Value), us.length = ps.length → bindArgs (PySem.W.fnOf x x (defArgs st) (defBody st) (defScope st) .none kV doc pm an cdv ct) ⟨us, []⟩ = pure (ps.zip us)) :
    ∃ (f : Addr) (fd : FuncData), DefAt K mg x st ps f fd := by
  obtain ⟨f, oc, od, kV, dc, pm, an, cd, ct, sl, a, l, c, k⟩ := R
  have F := fun_mk (st := st) l c k
  exact ⟨f, _, F, PySem.W.mg_of X G a, F.binds hb, k⟩
theorem RawAt.law {K : PySem.W.Frag} {x : Str} {st : Stmt} {h : Heap} {mg : Str → Option Value} (R : RawAt K x st) (X : K.In h) (G : h.Ns mainGlobals mg)
    (hb : ∀ (kV doc pm : Value) (an : Option Addr) (cdv ct : Value) (us : List Value), us.length = 1 → bindArgs (PySem.W.fnOf x x (defArgs st) (defBody st) (defScope st) .none kV doc pm an cdv ct) ⟨us, []⟩ = pure ((["script"] : List Str).zip us)) :
    ∃ (f : Addr) (fd : FuncData), DefAt K mg x st ["script"] f fd ∧ ∀ (s : Shared) (v : Value), BindsTo s fd ⟨[v], []⟩ [("script", v)] := by
  obtain ⟨f, oc, od, kV, dc, pm, an, cd, ct, sl, a, l, c, k⟩ := R
  have F := fun_mk (st := st) l c k
  exact ⟨f, _, ⟨F, PySem.W.mg_of X G a, F.binds hb, k⟩, fun s v => .of_eq (hb _ _ _ _ _ _ [v] rfl)⟩
theorem rep_tupK {K : PySem.W.Frag} {a : Addr} {its : Array Value} {n : Nat} {sl : Array (Option Value)} {xs : List PV} {vs : List V} (l : K.lookup a = some ⟨.type "tuple", none, .seq its n, sl⟩) (hs : its.size ≤ sizeLine) (hv : Vals vs its.toList) (hr : ∀ H, RepL K H xs vs) : ∀ H, Rep K H (.tup xs) (.ref a) := fun H => by
  simp only [Rep]
  exact ⟨a, vs, rfl, .inr ⟨_, its, n, l, rfl, rfl, rfl, hs, hv⟩, hr H⟩
theorem repL_nilK {K : PySem.W.Frag} : ∀ H, RepL K H [] [] := fun H => rfl
theorem repL_consK {K : PySem.W.Frag} {p : PV} {x : V} {ps : List PV} {xs : List V} (h : ∀ H, Rep K H p x) (r : ∀ H, RepL K H ps xs) : ∀ H, RepL K H (p :: ps) (x :: xs) := fun H => ⟨x, xs, rfl, h H, r H⟩
theorem rep_intK {K : PySem.W.Frag} {i : Int} : ∀ H, Rep K H (.int i) (.int i) := fun H => rep_int
theorem rep_strK {K : PySem.W.Frag} {i : Str} : ∀ H, Rep K H (.str i) (.str i) := fun H => rep_str

theorem size_ok {its : Array Value} {n : Nat} (h : its.size = n) (h2 : n ≤ sizeLine) : its.size ≤ sizeLine := by rw [h]; exact h2
/-- THE LAW: the pure function of the law's def says True at every script -/
theorem walkP {l : PySem.W.OpenLaw} {q : Program} {loose : List Str} {XP : (Str → Option Value) → Heap → Prop} {YP : World → Heap → Prop} {d : DefRec} {K : Params → PySem.W.Frag} {k : Nat} {F : GL} (hn : l.most = some 63) (hdf : d.params.defaults = []) (hk : k ≤ 200)
    (hY : ∀ (w : World) (h : Heap), YP w h → (K w.params).In h)
    (G : ∀ (w : World) (mg : Str → Option Value) (fa : Addr) (h : Heap), (K w.params).In h → h.Ns mainGlobals mg → mg d.name = some (.ref fa) →
      ∃ fd : FuncData, (∀ (s : Shared) (u : Value), BindsTo s fd ⟨[u], []⟩ [("script", u)]) ∧ ∀ base : Heap, (K w.params).In base → base.Ns mainGlobals mg → FnOk l.prog w (K w.params) mg base CX0 k fa fd ["script"] (spF (K w.params) 1 F))
    (hF : ∀ ns : List Int, ns.length ≤ 63 → F [.obj 0 (ns.map PV.int)] = some (.bl true)) :
    PySem.W.WalkO q loose XP YP l.row.toRowW d [] (fun f vs => PySem.call f vs) := by
  have R : Room 200 callerA := ⟨rfl, by decide, by decide⟩
  refine L2.walk_of (n := 63) (k := k) (x := "script") (CX := fun _ => CX0) (sp := fun w => spF (K w.params) 1 F) hn (by decide) hdf (R.mono hk) hY G (fun w H a ns hl _ hS => ?_) fun _ _ _ _ _ z => z
  have rl : ∀ ns : List Int, RepL (K w.params) H (ns.map PV.int) (ns.map V.int) := fun ns => by
    induction ns with
    | nil => rfl
    | cons n ns ih => exact ⟨_, _, rfl, rep_int, ih⟩
  refine ⟨rfl, [.obj 0 (ns.map PV.int)], .bl true, H, Sub.refl H, ?_, hF ns hl, fun x H' H1' _ r => ?_⟩
  · refine ⟨_, _, rfl, ?_, rfl⟩
    simp only [Rep]
    exact ⟨trivial, a, _, rfl, hS, rl ns⟩
  · simpa [Rep] using r
end PT

set_option Elab.async false
set_option linter.all false
set_option autoImplicit false
set_option maxRecDepth 100000
set_option maxHeartbeats 4000000
namespace PT.k75
open PySem PySem.Spec PyProof.Rows L2 PT
def c_ONE : PV := (.tup [(.tup [(.int 0), (.int 1)])])
def b_gathered : SF :=
  fSeq (fRet (fList gTupOf (a1 (fLC [1] (iS (fList gSorted (a1 (fList gListAll (a1 (fVar 0)))))) (tName 1) (fTest (fOp gNeD (fOp gIxAll (fVar 0) (fVar 1)) (fC (.int 0)))) (fList gTuple (aCons (fVar 1) (aCons (fOp gIxAll (fVar 0) (fVar 1)) aNil)))))))
    (fNx)
def F_gathered : GL := runB 2 b_gathered
def b_plus : SF :=
  fSeq (fSet 2 (fC (.dct [])))
    (fSeq (fFor (iS (fOp gAdd (fVar 0) (fVar 1))) (tTupG 2 (tsCons (tName 3) (tsCons (tName 4) tsNil)))
   (fSeq (fAsg (fOp gAdd (fGetO 2 (fVar 3) (fC (.int 0))) (fVar 4)) (tSub 2 (fVar 3) gSet))
    (fNx)))
    (fSeq (fRet (fList F_gathered (aCons (fVar 2) aNil)))
    (fNx)))
def F_plus : GL := runB 5 b_plus
def b_scaled : SF :=
  fSeq (fRet (fList gTupOf (a1 (fLC [2, 3] (iS (fVar 0)) (tTupG 2 (tsCons (tName 2) (tsCons (tName 3) tsNil))) (fTest (fOp gNeD (fVar 1) (fC (.int 0)))) (fList gTuple (aCons (fVar 2) (aCons (fOp gMulI (fVar 3) (fVar 1)) aNil)))))))
    (fNx)
def F_scaled : GL := runB 4 b_scaled
def b_minus : SF :=
  fSeq (fRet (fList F_plus (aCons (fVar 0) (aCons (fList F_scaled (aCons (fVar 1) (aCons (fUn gNeg (fC (.int 1))) aNil))) aNil))))
    (fNx)
def F_minus : GL := runB 2 b_minus
def b_times : SF :=
  fSeq (fSet 2 (fC (.dct [])))
    (fSeq (fFor (iS (fVar 0)) (tTupG 2 (tsCons (tName 3) (tsCons (tName 4) tsNil)))
   (fSeq (fFor (iS (fVar 1)) (tTupG 2 (tsCons (tName 5) (tsCons (tName 6) tsNil)))
   (fSeq (fAsg (fOp gAdd (fGetO 2 (fOp gAdd (fVar 3) (fVar 5)) (fC (.int 0))) (fOp gMulI (fVar 4) (fVar 6))) (tSub 2 (fOp gAdd (fVar 3) (fVar 5)) gSet))
    (fNx)))
    (fNx)))
    (fSeq (fRet (fList F_gathered (aCons (fVar 2) aNil)))
    (fNx)))
def F_times : GL := runB 7 b_times
def b_divided : SF :=
  fSeq (fSet 2 (fList gDictP (a1 (fVar 0))))
    (fSeq (fSet 3 (fC (.dct [])))
    (fSeq (fAsg (fOp gIxAll (fVar 1) (fUn gNeg (fC (.int 1)))) (tTupG 2 (tsCons (tName 4) (tsCons (tName 5) tsNil))))
    (fSeq (fWhile (fTest (fOp gGt (fList gLenAll (a1 (fVar 2))) (fC (.int 0))))
   (fSeq (fSet 6 (fList gMax (a1 (fList gListAll (a1 (fVar 2))))))
    (fSeq (fIf (fOrT (fTest (fOp gNeD (fOp gModI (fList gInt (a1 (fOpO gIxAll 2 (fVar 6)))) (fVar 5)) (fC (.int 0)))) (fTest (fOp gLt (fOp gSubI (fVar 6) (fVar 4)) (fOp gSubI (fList gMin (a1 (fList gListAll (a1 (fVar 2))))) (fOp gIxAll (fOp gIxAll (fVar 1) (fC (.int 0))) (fC (.int 0))))))) (fSeq (fRet (fC .non))
    (fNx)) (fNx))
    (fSeq (fSet 7 (fOp gDivI (fOpO gIxAll 2 (fVar 6)) (fVar 5)))
    (fSeq (fAsg (fVar 7) (tSub 3 (fOp gSubI (fVar 6) (fVar 4)) gSet))
    (fSeq (fFor (iS (fVar 1)) (tTupG 2 (tsCons (tName 8) (tsCons (tName 9) tsNil)))
   (fSeq (fSet 10 (fOp gAdd (fOp gSubI (fVar 6) (fVar 4)) (fVar 8)))
    (fSeq (fSet 11 (fOp gSubI (fGetO 2 (fVar 10) (fC (.int 0))) (fOp gMulI (fVar 7) (fVar 9))))
    (fSeq (fIf (fTest (fOp gEqD (fVar 11) (fC (.int 0)))) (fSeq (fDel 2 (fVar 10))
    (fNx)) (fSeq (fAsg (fVar 11) (tSub 2 (fVar 10) gSet))
    (fNx)))
    (fNx)))))
    (fNx)))))) 10000)
    (fSeq (fRet (fList F_gathered (aCons (fVar 3) aNil)))
    (fNx)))))
def F_divided : GL := runB 12 b_divided
def b_table_determinant : SF :=
  fSeq (fSet 1 (fLC [2] (iS (fVar 0)) (tName 2) (fYes) (fList gListAll (a1 (fVar 2)))))
    (fSeq (fPar 3 4 (fC (.int 1)) (fC c_ONE))
    (fSeq (fFor (iR1 (fList gLenAll (a1 (fVar 1)))) (tName 5)
   (fSeq (fSet 6 (fLC [7] (iR2 (fVar 5) (fList gLenAll (a1 (fVar 1)))) (tName 7) (fTest (fOp gGt (fList gLenAll (a1 (fOp gIxAll (fOpO gIxAll 1 (fVar 7)) (fVar 5)))) (fC (.int 0)))) (fVar 7)))
    (fSeq (fIf (fTest (fOp gEqD (fList gLenAll (a1 (fVar 6))) (fC (.int 0)))) (fSeq (fRet (fList gTuple aNil))
    (fNx)) (fNx))
    (fSeq (fIf (fTest (fOp gNeD (fOp gIxAll (fVar 6) (fC (.int 0))) (fVar 5))) (fSeq (fAsg (fList gTuple (aCons (fOpO gIxAll 1 (fOp gIxAll (fVar 6) (fC (.int 0)))) (aCons (fOpO gIxAll 1 (fVar 5)) aNil))) (tTupG 2 (tsCons (tSub 1 (fVar 5) gSet) (tsCons (tSub 1 (fOp gIxAll (fVar 6) (fC (.int 0))) gSet) tsNil))))
    (fSeq (fSet 3 (fOp gSubI (fC (.int 0)) (fVar 3)))
    (fNx))) (fNx))
    (fSeq (fFor (iR2 (fOp gAdd (fVar 5) (fC (.int 1))) (fList gLenAll (a1 (fVar 1)))) (tName 7)
   (fSeq (fSet 8 (fList gListD aNil))
    (fSeq (fFor (iR1 (fList gLenAll (a1 (fVar 1)))) (tName 9)
   (fSeq (fDrop (fMut isLst 8 gAppend (aCons (fList F_divided (aCons (fList F_minus (aCons (fList F_times (aCons (fOp gIxAll (fOpO gIxAll 1 (fVar 7)) (fVar 9)) (aCons (fOp gIxAll (fOpO gIxAll 1 (fVar 5)) (fVar 5)) aNil))) (aCons (fList F_times (aCons (fOp gIxAll (fOpO gIxAll 1 (fVar 7)) (fVar 5)) (aCons (fOp gIxAll (fOpO gIxAll 1 (fVar 5)) (fVar 9)) aNil))) aNil))) (aCons (fVar 4) aNil))) aNil)))
    (fNx)))
    (fSeq (fAsg (fVar 8) (tSub 1 (fVar 7) gSet))
    (fNx)))))
    (fSeq (fSet 4 (fOp gIxAll (fOpO gIxAll 1 (fVar 5)) (fVar 5)))
    (fNx)))))))
    (fSeq (fRet (fList F_scaled (aCons (fVar 4) (aCons (fVar 3) aNil))))
    (fNx))))
def F_table_determinant : GL := runB 10 b_table_determinant
def b_matchings (F : GL) : SF :=
  fSeq (fIf (fTest (fOp gEqD (fVar 0) (fVar 1))) (fSeq (fRet (fList gListD (aCons (fList gTuple aNil) aNil)))
    (fNx)) (fNx))
    (fSeq (fSet 2 (fList gListD aNil))
    (fSeq (fFor (iR3 (fOp gAdd (fVar 0) (fC (.int 1))) (fVar 1) (fC (.int 2))) (tName 3)
   (fSeq (fFor (iS (fList F (aCons (fOp gAdd (fVar 0) (fC (.int 1))) (aCons (fVar 3) aNil)))) (tName 4)
   (fSeq (fExt 2 (fLC [5] (iS (fList F (aCons (fOp gAdd (fVar 3) (fC (.int 1))) (aCons (fVar 1) aNil)))) (tName 5) (fYes) (fOp gAdd (fOp gAdd (fList gTuple (aCons (fList gTuple (aCons (fVar 0) (aCons (fVar 3) aNil))) aNil)) (fVar 4)) (fVar 5))))
    (fNx)))
    (fNx)))
    (fSeq (fRet (fVar 2))
    (fNx))))
def F_matchings : Nat → GL
  | 0 => fun _ => none
  | n + 1 => runB 6 (b_matchings (F_matchings n))
def b_chebyshev : SF :=
  fSeq (fAsg (fList gTuple (aCons (fList gTuple aNil) (aCons (fList gTuple (aCons (fList gTuple (aCons (fC (.int 0)) (aCons (fC (.int 1)) aNil))) aNil)) aNil))) (tTupG 2 (tsCons (tName 1) (tsCons (tName 2) tsNil))))
    (fSeq (fFor (iR1 (fVar 0)) (tName 3)
   (fSeq (fPar 1 2 (fVar 2) (fList F_minus (aCons (fList F_times (aCons (fList gTuple (aCons (fList gTuple (aCons (fC (.int 1)) (aCons (fC (.int 1)) aNil))) aNil)) (aCons (fVar 2) aNil))) (aCons (fVar 1) aNil))))
    (fNx)))
    (fSeq (fRet (fVar 2))
    (fNx)))
def F_chebyshev : GL := runB 4 b_chebyshev
def b_half_diagrams : SF :=
  fSeq (fSet 1 (fList gListD aNil))
    (fSeq (fFor (iS (fList (F_matchings 12) (aCons (fC (.int 0)) (aCons (fOp gMulI (fC (.int 2)) (fVar 0)) aNil)))) (tName 2)
   (fSeq (fSet 3 (fRep (fC (.int 0)) (fOp gMulI (fC (.int 2)) (fVar 0))))
    (fSeq (fFor (iS (fVar 2)) (tTupG 2 (tsCons (tName 4) (tsCons (tName 5) tsNil)))
   (fSeq (fAsg (fList gTuple (aCons (fVar 5) (aCons (fVar 4) aNil))) (tTupG 2 (tsCons (tSub 3 (fVar 4) gSet) (tsCons (tSub 3 (fVar 5) gSet) tsNil))))
    (fNx)))
    (fSeq (fDrop (fMut isLst 1 gAppend (aCons (fList gTupOf (a1 (fVar 3))) aNil)))
    (fNx)))))
    (fSeq (fRet (fList gSorted (a1 (fVar 1))))
    (fNx)))
def F_half_diagrams : GL := runB 6 b_half_diagrams
def b_circles_of : SF :=
  fSeq (fSet 2 (fList gListD aNil))
    (fSeq (fSet 3 (fC (.int 0)))
    (fSeq (fFor (iR1 (fList gLenAll (a1 (fVar 0)))) (tName 4)
   (fSeq (fIf (fTest (fOp gNotIn (fVar 4) (fVar 2))) (fSeq (fAug 3 gAddI (fC (.int 1)))
    (fSeq (fSet 5 (fVar 4))
    (fSeq (fWhile (fTest (fOp gNotIn (fVar 5) (fVar 2)))
   (fSeq (fDrop (fMut isLst 2 gAppend (aCons (fVar 5) aNil)))
    (fSeq (fDrop (fMut isLst 2 gAppend (aCons (fOp gIxAll (fVar 0) (fVar 5)) aNil)))
    (fSeq (fSet 5 (fOp gIxAll (fVar 1) (fOp gIxAll (fVar 0) (fVar 5))))
    (fNx)))) 10000)
    (fNx)))) (fNx))
    (fNx)))
    (fSeq (fRet (fVar 3))
    (fNx))))
def F_circles_of : GL := runB 6 b_circles_of
def b_gram_table : SF :=
  fSeq (fSet 1 (fList F_half_diagrams (aCons (fVar 0) aNil)))
    (fSeq (fRet (fLC [3] (iS (fVar 1)) (tName 3) (fYes) (fLC [2] (iS (fVar 1)) (tName 2) (fYes) (fList gTuple (aCons (fList gTuple (aCons (fList F_circles_of (aCons (fVar 3) (aCons (fVar 2) aNil))) (aCons (fC (.int 1)) aNil))) aNil)))))
    (fNx))
def F_gram_table : GL := runB 4 b_gram_table
def b_choices : SF :=
  fSeq (fIf (fOrT (fTest (fOp gLt (fVar 1) (fC (.int 0)))) (fTest (fOp gGt (fVar 1) (fVar 0)))) (fSeq (fRet (fC (.int 0)))
    (fNx)) (fNx))
    (fSeq (fSet 2 (fC (.int 1)))
    (fSeq (fFor (iR1 (fVar 1)) (tName 3)
   (fSeq (fSet 2 (fOp gDivI (fOp gMulI (fVar 2) (fOp gSubI (fVar 0) (fVar 3))) (fOp gAdd (fVar 3) (fC (.int 1)))))
    (fNx)))
    (fSeq (fRet (fVar 2))
    (fNx))))
def F_choices : GL := runB 4 b_choices
def b_gram_determinant : SF :=
  fSeq (fSet 1 (fList gTuple (aCons (fList gTuple (aCons (fC (.int 0)) (aCons (fC (.int 1)) aNil))) aNil)))
    (fSeq (fFor (iR2 (fC (.int 1)) (fOp gAdd (fVar 0) (fC (.int 1)))) (tName 2)
   (fSeq (fSet 3 (fOp gAdd (fOp gSubI (fList F_choices (aCons (fOp gMulI (fC (.int 2)) (fVar 0)) (aCons (fOp gSubI (fVar 0) (fVar 2)) aNil))) (fOp gMulI (fC (.int 2)) (fList F_choices (aCons (fOp gMulI (fC (.int 2)) (fVar 0)) (aCons (fOp gSubI (fOp gSubI (fVar 0) (fVar 2)) (fC (.int 1))) aNil))))) (fList F_choices (aCons (fOp gMulI (fC (.int 2)) (fVar 0)) (aCons (fOp gSubI (fOp gSubI (fVar 0) (fVar 2)) (fC (.int 2))) aNil)))))
    (fSeq (fFor (iR1 (fVar 3)) (tName 4)
   (fSeq (fSet 1 (fList F_times (aCons (fVar 1) (aCons (fList F_chebyshev (aCons (fVar 2) aNil)) aNil))))
    (fNx)))
    (fNx))))
    (fSeq (fRet (fVar 1))
    (fNx)))
def F_gram_determinant : GL := runB 5 b_gram_determinant
def b_determinant_of_gram : SF :=
  fSeq (fRet (fList F_table_determinant (aCons (fList F_gram_table (aCons (fVar 0) aNil)) aNil)))
    (fNx)
def F_determinant_of_gram : GL := runB 1 b_determinant_of_gram
def b__law_next : SF :=
  fSeq (fSet 2 (fOpO gIxAll 0 (fC (.int 2))))
    (fSeq (fIf (fTest (fOp gEqD (fVar 2) (fC (.int 0)))) (fSeq (fSet 3 (fC (.int 0)))
    (fSeq (fIf (fTest (fOp gLt (fOpO gIxAll 0 (fC (.int 1))) (fList gLenAll (a1 (fOpO gIxAll 0 (fC (.int 0))))))) (fSeq (fSet 3 (fList gAbs (a1 (fList gInt (a1 (fOp gIxAll (fOpO gIxAll 0 (fC (.int 0))) (fOpO gIxAll 0 (fC (.int 1)))))))))
    (fSeq (fAsg (fOp gAdd (fOpO gIxAll 0 (fC (.int 1))) (fC (.int 1))) (tSub 0 (fC (.int 1)) gSet))
    (fNx))) (fNx))
    (fSeq (fSet 2 (fVar 3))
    (fSeq (fIf (fTest (fOp gLt (fVar 3) (fOp gPowI (fC (.int 10)) (fC (.int 18))))) (fSeq (fAsg (fOp gModI (fList gInt (a1 (fOp gAdd (fOp gAdd (fOp gMulI (fOpO gIxAll 0 (fC (.int 3))) (fC (.int 69621))) (fOp gMulI (fVar 3) (fC (.int 40692)))) (fC (.int 17))))) (fC (.int 2147483647))) (tSub 0 (fC (.int 3)) gSet))
    (fSeq (fRet (fOp gModI (fOp gModI (fList gInt (a1 (fOp gMulI (fList gInt (a1 (fOp gDivI (fOpO gIxAll 0 (fC (.int 3))) (fC (.int 5))))) (fC (.int 48271))))) (fC (.int 2147483647))) (fVar 1)))
    (fNx))) (fNx))
    (fNx))))) (fNx))
    (fSeq (fAsg (fOp gDivI (fVar 2) (fVar 1)) (tSub 0 (fC (.int 2)) gSet))
    (fSeq (fRet (fOp gModI (fList gInt (a1 (fVar 2))) (fVar 1)))
    (fNx))))
def F__law_next : GI := runI 4 0 b__law_next
def b__law_same (F : GL) : SF :=
  fSeq (fIf (fTest (fOp gIsN (fVar 1) (fC .non))) (fSeq (fRet (fOp gIsN (fVar 0) (fC .non)))
    (fNx)) (fNx))
    (fSeq (fIf (fTru (fUn (gIsi .bool) (fVar 1))) (fSeq (fRet (fAndV (fUn (gIsi .bool) (fVar 0)) (fOp gEqD (fVar 0) (fVar 1))))
    (fNx)) (fNx))
    (fSeq (fIf (fTru (fUn (gIsi .int) (fVar 1))) (fSeq (fRet (fAndV (fUn (gIsi .int) (fVar 0)) (fAndV (fNotV (fUn (gIsi .bool) (fVar 0))) (fOp gEqD (fVar 0) (fVar 1)))))
    (fNx)) (fNx))
    (fSeq (fIf (fTru (fUn (gIsi .str) (fVar 1))) (fSeq (fRet (fAndV (fUn (gIsi .str) (fVar 0)) (fOp gEqD (fVar 0) (fVar 1))))
    (fNx)) (fNx))
    (fSeq (fIf (fOrT (fAndT (fTru (fUn (gIsi .list) (fVar 1))) (fNotT (fTru (fUn (gIsi .list) (fVar 0))))) (fAndT (fTru (fUn (gIsi .tuple) (fVar 1))) (fNotT (fTru (fUn (gIsi .tuple) (fVar 0)))))) (fSeq (fRet (fC (.bl false)))
    (fNx)) (fNx))
    (fSeq (fRet (fAndV (fOp gEqD (fList gLenAll (a1 (fVar 0))) (fList gLenAll (a1 (fVar 1)))) (fOp gEqD (fLC [2] (iR1 (fList gLenAll (a1 (fVar 1)))) (tName 2) (fNotT (fTru (fList F (aCons (fOp gIxAll (fVar 0) (fVar 2)) (aCons (fOp gIxAll (fVar 1) (fVar 2)) aNil))))) (fC (.int 1))) (fList gListD aNil))))
    (fNx))))))
def F__law_same : Nat → GL
  | 0 => fun _ => none
  | n + 1 => runB 3 (b__law_same (F__law_same n))
def b__law_plus : SF :=
  fSeq (fSet 2 (fList gDictP (a1 (fVar 0))))
    (fSeq (fFor (iS (fVar 1)) (tTupG 2 (tsCons (tName 3) (tsCons (tName 4) tsNil)))
   (fSeq (fAsg (fOp gAdd (fGetO 2 (fVar 3) (fC (.int 0))) (fVar 4)) (tSub 2 (fVar 3) gSet))
    (fNx)))
    (fSeq (fRet (fList gTupOf (a1 (fLC [3] (iS (fList gSorted (a1 (fVar 2)))) (tName 3) (fTest (fOp gNeD (fOpO gIxAll 2 (fVar 3)) (fC (.int 0)))) (fList gTuple (aCons (fVar 3) (aCons (fOpO gIxAll 2 (fVar 3)) aNil)))))))
    (fNx)))
def F__law_plus : GL := runB 5 b__law_plus
def b__law_times : SF :=
  fSeq (fSet 2 (fList gTuple aNil))
    (fSeq (fFor (iS (fVar 0)) (tTupG 2 (tsCons (tName 3) (tsCons (tName 4) tsNil)))
   (fSeq (fSet 2 (fList F__law_plus (aCons (fVar 2) (aCons (fList gTupOf (a1 (fLC [5, 6] (iS (fVar 1)) (tTupG 2 (tsCons (tName 5) (tsCons (tName 6) tsNil))) (fYes) (fList gTuple (aCons (fOp gAdd (fVar 3) (fVar 5)) (aCons (fOp gMulI (fVar 4) (fVar 6)) aNil)))))) aNil))))
    (fNx)))
    (fSeq (fRet (fVar 2))
    (fNx)))
def F__law_times : GL := runB 7 b__law_times
def b__law_power : SF :=
  fSeq (fSet 2 (fList gTuple (aCons (fList gTuple (aCons (fC (.int 0)) (aCons (fC (.int 1)) aNil))) aNil)))
    (fSeq (fFor (iR1 (fVar 1)) (tName 3)
   (fSeq (fSet 2 (fList F__law_times (aCons (fVar 2) (aCons (fVar 0) aNil))))
    (fNx)))
    (fSeq (fRet (fVar 2))
    (fNx)))
def F__law_power : GL := runB 4 b__law_power
def b__law_determinant (F : GL) : SF :=
  fSeq (fIf (fTest (fOp gEqD (fVar 0) (fList gListD aNil))) (fSeq (fRet (fList gTuple (aCons (fList gTuple (aCons (fC (.int 0)) (aCons (fC (.int 1)) aNil))) aNil)))
    (fNx)) (fNx))
    (fSeq (fSet 1 (fList gTuple aNil))
    (fSeq (fFor (iR1 (fList gLenAll (a1 (fVar 0)))) (tName 2)
   (fSeq (fSet 3 (fList F__law_times (aCons (fOp gIxAll (fOp gIxAll (fVar 0) (fC (.int 0))) (fVar 2)) (aCons (fList F (aCons (fLC [4] (iS (fSlice gSl (fVar 0) (pSome (fC (.int 1))) pNone)) (tName 4) (fYes) (fOp gAdd (fSlice gSl (fVar 4) pNone (pSome (fVar 2))) (fSlice gSl (fVar 4) (pSome (fOp gAdd (fVar 2) (fC (.int 1)))) pNone))) aNil)) aNil))))
    (fSeq (fSet 1 (fList F__law_plus (aCons (fVar 1) (aCons (fIf (fTest (fOp gEqD (fOp gModI (fList gInt (a1 (fVar 2))) (fC (.int 2))) (fC (.int 0)))) (fVar 3) (fList gTupOf (a1 (fLC [5, 6] (iS (fVar 3)) (tTupG 2 (tsCons (tName 5) (tsCons (tName 6) tsNil))) (fYes) (fList gTuple (aCons (fVar 5) (aCons (fOp gSubI (fC (.int 0)) (fVar 6)) aNil))))))) aNil))))
    (fNx))))
    (fSeq (fRet (fVar 1))
    (fNx))))
def F__law_determinant : Nat → GL
  | 0 => fun _ => none
  | n + 1 => runB 7 (b__law_determinant (F__law_determinant n))
def b__law_choices : SF :=
  fSeq (fIf (fOrT (fTest (fOp gLt (fVar 1) (fC (.int 0)))) (fTest (fOp gGt (fVar 1) (fVar 0)))) (fSeq (fRet (fC (.int 0)))
    (fNx)) (fNx))
    (fSeq (fSet 2 (fList gListD (aCons (fC (.int 1)) aNil)))
    (fSeq (fFor (iR1 (fVar 0)) (tName 3)
   (fSeq (fSet 2 (fOp gAdd (fOp gAdd (fList gListD (aCons (fC (.int 1)) aNil)) (fLC [4] (iR1 (fOp gSubI (fList gLenAll (a1 (fVar 2))) (fC (.int 1)))) (tName 4) (fYes) (fOp gAdd (fOp gIxAll (fVar 2) (fVar 4)) (fOp gIxAll (fVar 2) (fOp gAdd (fVar 4) (fC (.int 1))))))) (fList gListD (aCons (fC (.int 1)) aNil))))
    (fNx)))
    (fSeq (fRet (fOp gIxAll (fVar 2) (fVar 1)))
    (fNx))))
def F__law_choices : GL := runB 5 b__law_choices
def b__law_value : SF :=
  fSeq (fAsg (fList gTuple (aCons (fC (.int 0)) (aCons (fC (.int 1)) aNil))) (tTupG 2 (tsCons (tName 2) (tsCons (tName 3) tsNil))))
    (fSeq (fSet 4 (fList gDictP (a1 (fVar 0))))
    (fSeq (fFor (iR1 (fIf (fTest (fOp gNeD (fVar 0) (fList gTuple aNil))) (fOp gAdd (fOp gIxAll (fOp gIxAll (fVar 0) (fUn gNeg (fC (.int 1)))) (fC (.int 0))) (fC (.int 1))) (fC (.int 0)))) (tName 5)
   (fSeq (fPar 2 3 (fOp gAdd (fVar 2) (fOp gMulI (fGet (fVar 4) (fVar 5) (fC (.int 0))) (fVar 3))) (fOp gMulI (fVar 3) (fVar 1)))
    (fNx)))
    (fSeq (fRet (fVar 2))
    (fNx))))
def F__law_value : GL := runB 6 b__law_value
def b_law : SF :=
  fSeq (fSet 1 (fList gListD (aCons (fList gListAll (a1 (fVar 0))) (aCons (fC (.int 0)) (aCons (fC (.int 0)) (aCons (fC (.int 75)) aNil))))))
    (fSeq (fSet 2 (fOp gAdd (fC (.int 1)) (fCallI 1 F__law_next (oHole 1 (oCons (fC (.int 4)) oNil)))))
    (fSeq (fSet 3 (fList F_half_diagrams (aCons (fVar 2) aNil)))
    (fSeq (fSet 4 (fLC [6] (iS (fVar 3)) (tName 6) (fYes) (fLC [5] (iS (fVar 3)) (tName 5) (fYes) (fList gTuple (aCons (fList gTuple (aCons (fList F_circles_of (aCons (fVar 6) (aCons (fVar 5) aNil))) (aCons (fC (.int 1)) aNil))) aNil)))))
    (fSeq (fIf (fOrT (fNotT (fTru (fList (F__law_same 8) (aCons (fList F_gram_table (aCons (fVar 2) aNil)) (aCons (fVar 4) aNil))))) (fTest (fOp gNeD (fLC [7] (iR1 (fList gLenAll (a1 (fVar 3)))) (tName 7) (fTest (fOp gNeD (fList F_circles_of (aCons (fOp gIxAll (fVar 3) (fVar 7)) (aCons (fOp gIxAll (fVar 3) (fVar 7)) aNil))) (fVar 2))) (fVar 7)) (fList gListD aNil)))) (fSeq (fRet (fC (.bl false)))
    (fNx)) (fNx))
    (fSeq (fSet 8 (fList F_gram_determinant (aCons (fVar 2) aNil)))
    (fSeq (fIf (fOrT (fNotT (fTru (fList (F__law_same 8) (aCons (fList F_determinant_of_gram (aCons (fVar 2) aNil)) (aCons (fVar 8) aNil))))) (fAndT (fTest (fOp gLt (fVar 2) (fC (.int 4)))) (fNotT (fTru (fList (F__law_same 8) (aCons (fVar 8) (aCons (fList (F__law_determinant 8) (aCons (fVar 4) aNil)) aNil))))))) (fSeq (fRet (fC (.bl false)))
    (fNx)) (fNx))
    (fSeq (fSet 9 (fList gTuple (aCons (fList gTuple (aCons (fC (.int 0)) (aCons (fC (.int 1)) aNil))) aNil)))
    (fSeq (fSet 10 (fList gListD (aCons (fList gTuple (aCons (fList gTuple (aCons (fC (.int 0)) (aCons (fC (.int 1)) aNil))) aNil)) (aCons (fList gTuple (aCons (fList gTuple (aCons (fC (.int 1)) (aCons (fC (.int 1)) aNil))) aNil)) aNil))))
    (fSeq (fFor (iR1 (fC (.int 12))) (tName 7)
   (fSeq (fSet 11 (fList gTupOf (a1 (fLC [12, 13] (iS (fOpO gIxAll 10 (fUn gNeg (fC (.int 2))))) (tTupG 2 (tsCons (tName 12) (tsCons (tName 13) tsNil))) (fYes) (fList gTuple (aCons (fVar 12) (aCons (fOp gSubI (fC (.int 0)) (fVar 13)) aNil)))))))
    (fSeq (fDrop (fMut isLst 10 gAppend (aCons (fList F__law_plus (aCons (fList F__law_times (aCons (fList gTuple (aCons (fList gTuple (aCons (fC (.int 1)) (aCons (fC (.int 1)) aNil))) aNil)) (aCons (fOpO gIxAll 10 (fUn gNeg (fC (.int 1)))) aNil))) (aCons (fVar 11) aNil))) aNil)))
    (fNx))))
    (fSeq (fFor (iR2 (fC (.int 1)) (fOp gAdd (fVar 2) (fC (.int 1)))) (tName 7)
   (fSeq (fSet 14 (fOp gAdd (fOp gSubI (fList F__law_choices (aCons (fOp gMulI (fC (.int 2)) (fVar 2)) (aCons (fOp gSubI (fVar 2) (fVar 7)) aNil))) (fOp gMulI (fC (.int 2)) (fList F__law_choices (aCons (fOp gMulI (fC (.int 2)) (fVar 2)) (aCons (fOp gSubI (fOp gSubI (fVar 2) (fVar 7)) (fC (.int 1))) aNil))))) (fList F__law_choices (aCons (fOp gMulI (fC (.int 2)) (fVar 2)) (aCons (fOp gSubI (fOp gSubI (fVar 2) (fVar 7)) (fC (.int 2))) aNil)))))
    (fSeq (fSet 9 (fList F__law_times (aCons (fVar 9) (aCons (fList F__law_power (aCons (fOpO gIxAll 10 (fVar 7)) (aCons (fVar 14) aNil))) aNil))))
    (fNx))))
    (fSeq (fIf (fNotT (fTru (fList (F__law_same 8) (aCons (fVar 8) (aCons (fVar 9) aNil))))) (fSeq (fRet (fC (.bl false)))
    (fNx)) (fNx))
    (fSeq (fPar 7 15 (fCallI 1 F__law_next (oHole 1 (oCons (fC (.int 13)) oNil))) (fOp gSubI (fCallI 1 F__law_next (oHole 1 (oCons (fC (.int 9)) oNil))) (fC (.int 4))))
    (fSeq (fAsg (fList gTuple (aCons (fC (.int 0)) (aCons (fC (.int 1)) aNil))) (tTupG 2 (tsCons (tName 16) (tsCons (tName 17) tsNil))))
    (fSeq (fFor (iR1 (fVar 7)) (tName 18)
   (fSeq (fPar 16 17 (fVar 17) (fOp gSubI (fOp gMulI (fVar 15) (fVar 17)) (fVar 16)))
    (fNx)))
    (fSeq (fPar 19 20 (fCallI 1 F__law_next (oHole 1 (oCons (fC (.int 21)) oNil))) (fOp gSubI (fCallI 1 F__law_next (oHole 1 (oCons (fC (.int 25)) oNil))) (fC (.int 3))))
    (fSeq (fIf (fNotT (fTru (fList (F__law_same 8) (aCons (fList gListD (aCons (fList F_chebyshev (aCons (fVar 7) aNil)) (aCons (fList F_choices (aCons (fVar 19) (aCons (fVar 20) aNil))) aNil))) (aCons (fList gListD (aCons (fOpO gIxAll 10 (fVar 7)) (aCons (fList F__law_choices (aCons (fVar 19) (aCons (fVar 20) aNil))) aNil))) aNil))))) (fSeq (fRet (fC (.bl false)))
    (fNx)) (fNx))
    (fSeq (fRet (fOp gEqD (fList F__law_value (aCons (fList F_chebyshev (aCons (fVar 7) aNil)) (aCons (fVar 15) aNil))) (fVar 17)))
    (fNx))))))))))))))))))
def F_law : GL := runB 21 b_law
end PT.k75

set_option Elab.async false
set_option linter.all false
set_option autoImplicit false
set_option maxRecDepth 100000
set_option maxHeartbeats 4000000
namespace PT.k75
open PySem PySem.Spec PyProof.Rows L2 PT
def top (i : Nat) : Stmt := PySem.Challenge.pw_knotpapers_k75_whole_tables_of_circles.main.body.getD i (.Pass ⟨0, 0, 0, 0⟩)
section
variable {P : Program} {w : World} {K : PySem.W.Frag} {mg : Str → Option Value} {base : Heap}
structure Txt (K : PySem.W.Frag) (mg : Str → Option Value) : Prop where
  n_abs : mg "abs" = none
  n_bool : mg "bool" = none
  n_dict : mg "dict" = none
  n_int : mg "int" = none
  n_isinstance : mg "isinstance" = none
  n_len : mg "len" = none
  n_list : mg "list" = none
  n_max : mg "max" = none
  n_min : mg "min" = none
  n_range : mg "range" = none
  n_sorted : mg "sorted" = none
  n_str : mg "str" = none
  n_tuple : mg "tuple" = none
  g_ONE : ∃ a, mg "ONE" = some (.ref a) ∧ ∀ H, Rep K H c_ONE (.ref a)
abbrev s_gathered : Stmt := top 1
abbrev N_gathered : List Str := ["terms", "exponent"]
theorem sc_gathered : FnScope N_gathered ["terms"] (defScope s_gathered) := ⟨rfl, rfl, rfl, by decide +kernel, rfl, by decide +kernel, by decide +kernel⟩
theorem ok_gathered {f : Addr} {fd : FuncData} (Fn : Fun K "gathered" "gathered" s_gathered f fd) (T : Txt K mg) : FnOk P w K mg base CX0 1 f fd ["terms"] (spF K 1 F_gathered) := by
  refine ok_pure (own' := []) (k := 0) (body := b_gathered) Fn sc_gathered (fun args v e => e) (fun cdv A outer s H E hr => ?_)
  have hu64 := hr.units
  have hu65 := units65 hr
  have hu1 := hu_of hr
  have nd := sc_gathered.nd
  exact (ss_cons (sx_ret (ex_t1 cv_tuple ((en_lc (nm := [("exponent", 1)]) (vs := [1]) rfl nd (ix_seq' ((en_b1 (cf_sorted rfl hu64) ((en_t1 (cf_listAll rfl) ((ex_var (pv 0) (by decide))).peek (by rfl) T.n_list (by decide +kernel))).peek (by rfl) T.n_sorted (by decide +kernel))).ex) (blkOk_by (by rfl)) rfl (by decide) (fun _ _ _ _ _ => (gc_name (i := 1) nd rfl (by first | exact .inl rfl | exact .inr rfl) (by decide) (by decide))) (fun _ _ _ _ _ => (ts_one (tx_cmp (ov_neD hu64) (ex_ix (iv_all hu1) (ex_var (pv 0) (by decide)) (ex_var (pv 1) (by decide)) (fun _ _ => rfl)) ex_int (nomark _)))) (fun _ _ _ _ _ => (ex_tup (ax_cons (ex_var (pv 1) (by decide)) (ax_cons (ex_ix (iv_all hu1) (ex_var (pv 0) (by decide)) (ex_var (pv 1) (by decide)) (fun _ _ => rfl)) ax_nil)))))).peek (by rfl) T.n_tuple (by decide +kernel))) ss_nil)
abbrev s_plus : Stmt := top 2
abbrev N_plus : List Str := ["first", "second", "terms", "exponent", "number"]
theorem sc_plus : FnScope N_plus ["first", "second"] (defScope s_plus) := ⟨rfl, rfl, rfl, by decide +kernel, rfl, by decide +kernel, by decide +kernel⟩
theorem ok_plus {f : Addr} {fd : FuncData} (Fn : Fun K "plus" "plus" s_plus f fd) (T : Txt K mg) (c_gathered : CallOk P w K mg base 1 "gathered" 1 F_gathered) : FnOk P w K mg base CX0 2 f fd ["first", "second"] (spF K 2 F_plus) := by
  refine ok_pure (own' := []) (k := 1) (body := b_plus) Fn sc_plus (fun args v e => e) (fun cdv A outer s H E hr => ?_)
  have hu64 := hr.units
  have hu65 := units65 hr
  have hu1 := hu_of hr
  have nd := sc_plus.nd
  exact (ss_cons (sx_setN (own' := [2]) (i := 2) nd rfl (by first | exact .inl rfl | exact .inr rfl) (by decide) (ownIns (by decide)) en_dict0) (ss_cons (sx_for PassesOwn.never rfl (ix_seq' (ex_op ov_addAll (ex_var (pv 0) (by decide)) (ex_var (pv 1) (by decide)))) (gx_tup rfl (gs_cons (gx_name (i := 3) nd rfl (by first | exact .inl rfl | exact .inr rfl) (by decide)) (gs_cons (gx_name (i := 4) nd rfl (by first | exact .inl rfl | exact .inr rfl) (by decide)) gs_nil))) (ss_cons (sx_asg (ex_op ov_addAll (ex_getO hu1 (pv 2) (by decide) (ex_var (pv 3) (by decide)) ex_int ⟨rfl, rfl, rfl, rfl⟩) (ex_var (pv 4) (by decide))) (gx_sub (si_all hu1) (pv 2) (by decide) (ex_var (pv 3) (by decide)))) ss_nil)) (ss_fz (own2 := []) 2 (by decide) (ownIns (by decide)) (by decide) (ss_cons (sx_ret (ex_callC c_gathered (hr.mono (by decide)) (by rfl) (ax_cons (ex_var (pv 2) (by decide)) ax_nil) (len_cons len_nil))) ss_nil))))
abbrev s_scaled : Stmt := top 3
abbrev N_scaled : List Str := ["polynomial", "number", "exponent", "one"]
theorem sc_scaled : FnScope N_scaled ["polynomial", "number"] (defScope s_scaled) := ⟨rfl, rfl, rfl, by decide +kernel, rfl, by decide +kernel, by decide +kernel⟩
theorem ok_scaled {f : Addr} {fd : FuncData} (Fn : Fun K "scaled" "scaled" s_scaled f fd) (T : Txt K mg) : FnOk P w K mg base CX0 1 f fd ["polynomial", "number"] (spF K 2 F_scaled) := by
  refine ok_pure (own' := []) (k := 0) (body := b_scaled) Fn sc_scaled (fun args v e => e) (fun cdv A outer s H E hr => ?_)
  have hu64 := hr.units
  have hu65 := units65 hr
  have hu1 := hu_of hr
  have nd := sc_scaled.nd
  exact (ss_cons (sx_ret (ex_t1 cv_tuple ((en_lc (nm := [("exponent", 2), ("one", 3)]) (vs := [2, 3]) rfl nd (ix_seq' (ex_var (pv 0) (by decide))) (blkOk_by (by rfl)) rfl (by decide) (fun _ _ _ _ _ => (gc_tup rfl (gcs_cons (gc_name (i := 2) nd rfl (by first | exact .inl rfl | exact .inr rfl) (by decide) (by decide)) (gcs_cons (gc_name (i := 3) nd rfl (by first | exact .inl rfl | exact .inr rfl) (by decide) (by decide)) gcs_nil)))) (fun _ _ _ _ _ => (ts_one (tx_cmp (ov_neD hu64) (ex_var (pv 1) (by decide)) ex_int (nomark _)))) (fun _ _ _ _ _ => (ex_tup (ax_cons (ex_var (pv 2) (by decide)) (ax_cons (ex_op ov_mul (ex_var (pv 3) (by decide)) (ex_var (pv 1) (by decide))) ax_nil)))))).peek (by rfl) T.n_tuple (by decide +kernel))) ss_nil)
abbrev s_minus : Stmt := top 4
abbrev N_minus : List Str := ["first", "second"]
theorem sc_minus : FnScope N_minus ["first", "second"] (defScope s_minus) := ⟨rfl, rfl, rfl, by decide +kernel, rfl, by decide +kernel, by decide +kernel⟩
theorem ok_minus {f : Addr} {fd : FuncData} (Fn : Fun K "minus" "minus" s_minus f fd) (T : Txt K mg) (c_plus : CallOk P w K mg base 2 "plus" 2 F_plus) (c_scaled : CallOk P w K mg base 1 "scaled" 2 F_scaled) : FnOk P w K mg base CX0 3 f fd ["first", "second"] (spF K 2 F_minus) := by
  refine ok_pure (own' := []) (k := 2) (body := b_minus) Fn sc_minus (fun args v e => e) (fun cdv A outer s H E hr => ?_)
  have hu64 := hr.units
  have hu65 := units65 hr
  have hu1 := hu_of hr
  have nd := sc_minus.nd
  exact (ss_cons (sx_ret (ex_callC c_plus (hr.mono (by decide)) (by rfl) (ax_cons (ex_var (pv 0) (by decide)) (ax_cons (ex_callC c_scaled (hr.mono (by decide)) (by rfl) (ax_cons (ex_var (pv 1) (by decide)) (ax_cons (ex_un uv_neg ex_int) ax_nil)) (len_cons (len_cons len_nil))) ax_nil)) (len_cons (len_cons len_nil)))) ss_nil)
abbrev s_times : Stmt := top 5
abbrev N_times : List Str := ["first", "second", "terms", "exponent", "number", "other", "many"]
theorem sc_times : FnScope N_times ["first", "second"] (defScope s_times) := ⟨rfl, rfl, rfl, by decide +kernel, rfl, by decide +kernel, by decide +kernel⟩
theorem ok_times {f : Addr} {fd : FuncData} (Fn : Fun K "times" "times" s_times f fd) (T : Txt K mg) (c_gathered : CallOk P w K mg base 1 "gathered" 1 F_gathered) : FnOk P w K mg base CX0 2 f fd ["first", "second"] (spF K 2 F_times) := by
  refine ok_pure (own' := []) (k := 1) (body := b_times) Fn sc_times (fun args v e => e) (fun cdv A outer s H E hr => ?_)
  have hu64 := hr.units
  have hu65 := units65 hr
  have hu1 := hu_of hr
  have nd := sc_times.nd
  exact (ss_cons (sx_setN (own' := [2]) (i := 2) nd rfl (by first | exact .inl rfl | exact .inr rfl) (by decide) (ownIns (by decide)) en_dict0) (ss_cons (sx_for PassesOwn.never rfl (ix_seq' (ex_var (pv 0) (by decide))) (gx_tup rfl (gs_cons (gx_name (i := 3) nd rfl (by first | exact .inl rfl | exact .inr rfl) (by decide)) (gs_cons (gx_name (i := 4) nd rfl (by first | exact .inl rfl | exact .inr rfl) (by decide)) gs_nil))) (ss_cons (sx_for PassesOwn.never rfl (ix_seq' (ex_var (pv 1) (by decide))) (gx_tup rfl (gs_cons (gx_name (i := 5) nd rfl (by first | exact .inl rfl | exact .inr rfl) (by decide)) (gs_cons (gx_name (i := 6) nd rfl (by first | exact .inl rfl | exact .inr rfl) (by decide)) gs_nil))) (ss_cons (sx_asg (ex_op ov_addAll (ex_getO hu1 (pv 2) (by decide) (ex_op ov_addAll (ex_var (pv 3) (by decide)) (ex_var (pv 5) (by decide))) ex_int ⟨rfl, rfl, rfl, rfl⟩) (ex_op ov_mul (ex_var (pv 4) (by decide)) (ex_var (pv 6) (by decide)))) (gx_sub (si_all hu1) (pv 2) (by decide) (ex_op ov_addAll (ex_var (pv 3) (by decide)) (ex_var (pv 5) (by decide))))) ss_nil)) ss_nil)) (ss_fz (own2 := []) 2 (by decide) (ownIns (by decide)) (by decide) (ss_cons (sx_ret (ex_callC c_gathered (hr.mono (by decide)) (by rfl) (ax_cons (ex_var (pv 2) (by decide)) ax_nil) (len_cons len_nil))) ss_nil))))
abbrev s_divided : Stmt := top 6
abbrev N_divided : List Str := ["first", "second", "terms", "found", "top", "lead", "exponent", "number", "other", "many", "place", "rest"]
theorem sc_divided : FnScope N_divided ["first", "second"] (defScope s_divided) := ⟨rfl, rfl, rfl, by decide +kernel, rfl, by decide +kernel, by decide +kernel⟩
theorem ok_divided {f : Addr} {fd : FuncData} (Fn : Fun K "divided" "divided" s_divided f fd) (T : Txt K mg) (c_gathered : CallOk P w K mg base 1 "gathered" 1 F_gathered) : FnOk P w K mg base CX0 2 f fd ["first", "second"] (spF K 2 F_divided) := by
  refine ok_pure (own' := [2]) (k := 1) (body := b_divided) Fn sc_divided (fun args v e => e) (fun cdv A outer s H E hr => ?_)
  have hu64 := hr.units
  have hu65 := units65 hr
  have hu1 := hu_of hr
  have nd := sc_divided.nd
  exact (ss_cons (sx_setN (own' := [2]) (i := 2) nd rfl (by first | exact .inl rfl | exact .inr rfl) (by decide) (ownIns (by decide)) (en_t1 (cf_dict rfl) ((ex_var (pv 0) (by decide))).peek (by rfl) T.n_dict (by decide +kernel))) (ss_cons (sx_setN (own' := [2, 3]) (i := 3) nd rfl (by first | exact .inl rfl | exact .inr rfl) (by decide) (ownIns (by decide)) en_dict0) (ss_cons (sx_asg (ex_ix (iv_all hu1) (ex_var (pv 1) (by decide)) (ex_un uv_neg ex_int) (fun _ _ => rfl)) (gx_tup rfl (gs_cons (gx_name (i := 4) nd rfl (by first | exact .inl rfl | exact .inr rfl) (by decide)) (gs_cons (gx_name (i := 5) nd rfl (by first | exact .inl rfl | exact .inr rfl) (by decide)) gs_nil)))) (ss_cons (sx_while 10000 PassesOwn.never (tx_cmp ov_gt (ex_b1 cv_lenAll (ep_own (pv 2) (by decide)) (by rfl) T.n_len (by decide +kernel)) ex_int (nomark _)) (ss_cons (sx_set (i := 6) nd rfl (by first | exact .inl rfl | exact .inr rfl) (by decide) (ex_b1 (cv_max rfl) ((en_t1 (cf_listAll rfl) (ep_own (pv 2) (by decide)) (by rfl) T.n_list (by decide +kernel))).peek (by rfl) T.n_max (by decide +kernel))) (ss_cons (sx_if ((wx_or (tx_cmp (ov_neD hu64) (ex_op ov_mod (ex_t1 cv_int ((ex_ixO (iv_all hu1) (pv 2) (by decide) (ex_var (pv 6) (by decide)) (fun _ _ => rfl))).peek (by rfl) T.n_int (by decide +kernel)) (ex_var (pv 5) (by decide))) ex_int (nomark _)) (wx_or1 (tx_cmp ov_lt (ex_op ov_sub (ex_var (pv 6) (by decide)) (ex_var (pv 4) (by decide))) (ex_op ov_sub (ex_b1 (cv_min rfl) ((en_t1 (cf_listAll rfl) (ep_own (pv 2) (by decide)) (by rfl) T.n_list (by decide +kernel))).peek (by rfl) T.n_min (by decide +kernel)) (ex_ix (iv_all hu1) (ex_ix (iv_all hu1) (ex_var (pv 1) (by decide)) ex_int (fun _ _ => rfl)) ex_int (fun _ _ => rfl))) (nomark _))))).t (ss_cons (sx_ret ex_non) ss_nil) ss_nil) (ss_cons (sx_set (i := 7) nd rfl (by first | exact .inl rfl | exact .inr rfl) (by decide) (ex_op ov_div (ex_ixO (iv_all hu1) (pv 2) (by decide) (ex_var (pv 6) (by decide)) (fun _ _ => rfl)) (ex_var (pv 5) (by decide)))) (ss_cons (sx_asg (ex_var (pv 7) (by decide)) (gx_sub (si_all hu1) (pv 3) (by decide) (ex_op ov_sub (ex_var (pv 6) (by decide)) (ex_var (pv 4) (by decide))))) (ss_cons (sx_for PassesOwn.never rfl (ix_seq' (ex_var (pv 1) (by decide))) (gx_tup rfl (gs_cons (gx_name (i := 8) nd rfl (by first | exact .inl rfl | exact .inr rfl) (by decide)) (gs_cons (gx_name (i := 9) nd rfl (by first | exact .inl rfl | exact .inr rfl) (by decide)) gs_nil))) (ss_cons (sx_set (i := 10) nd rfl (by first | exact .inl rfl | exact .inr rfl) (by decide) (ex_op ov_addAll (ex_op ov_sub (ex_var (pv 6) (by decide)) (ex_var (pv 4) (by decide))) (ex_var (pv 8) (by decide)))) (ss_cons (sx_set (i := 11) nd rfl (by first | exact .inl rfl | exact .inr rfl) (by decide) (ex_op ov_sub (ex_getO hu1 (pv 2) (by decide) (ex_var (pv 10) (by decide)) ex_int ⟨rfl, rfl, rfl, rfl⟩) (ex_op ov_mul (ex_var (pv 7) (by decide)) (ex_var (pv 9) (by decide))))) (ss_cons (sx_if (tx_cmp (ov_eqD hu64) (ex_var (pv 11) (by decide)) ex_int (nomark _)) (ss_cons (sx_del (pv 2) (by decide) (ex_var (pv 10) (by decide))) ss_nil) (ss_cons (sx_asg (ex_var (pv 11) (by decide)) (gx_sub (si_all hu1) (pv 2) (by decide) (ex_var (pv 10) (by decide)))) ss_nil)) ss_nil)))) ss_nil)))))) (ss_fz (own2 := [2]) 3 (by decide) (ownIns (by decide)) (by decide) (ss_cons (sx_ret (ex_callC c_gathered (hr.mono (by decide)) (by rfl) (ax_cons (ex_var (pv 3) (by decide)) ax_nil) (len_cons len_nil))) ss_nil))))))
abbrev s_table_determinant : Stmt := top 8
abbrev N_table_determinant : List Str := ["table", "rows", "row", "sign", "before", "k", "swap", "j", "line", "m"]
theorem sc_table_determinant : FnScope N_table_determinant ["table"] (defScope s_table_determinant) := ⟨rfl, rfl, rfl, by decide +kernel, rfl, by decide +kernel, by decide +kernel⟩
theorem ok_table_determinant {f : Addr} {fd : FuncData} (Fn : Fun K "table_determinant" "table_determinant" s_table_determinant f fd) (T : Txt K mg) (c_scaled : CallOk P w K mg base 1 "scaled" 2 F_scaled) (c_divided : CallOk P w K mg base 2 "divided" 2 F_divided) (c_minus : CallOk P w K mg base 3 "minus" 2 F_minus) (c_times : CallOk P w K mg base 2 "times" 2 F_times) : FnOk P w K mg base CX0 4 f fd ["table"] (spF K 1 F_table_determinant) := by
  refine ok_pure (own' := [1]) (k := 3) (body := b_table_determinant) Fn sc_table_determinant (fun args v e => e) (fun cdv A outer s H E hr => ?_)
  have hu64 := hr.units
  have hu65 := units65 hr
  have hu1 := hu_of hr
  have nd := sc_table_determinant.nd
  exact (ss_cons (sx_setN (own' := [1]) (i := 1) nd rfl (by first | exact .inl rfl | exact .inr rfl) (by decide) (ownIns (by decide)) (en_lc (nm := [("row", 2)]) (vs := [2]) rfl nd (ix_seq' (ex_var (pv 0) (by decide))) (blkOk_by (by rfl)) rfl (by decide) (fun _ _ _ _ _ => (gc_name (i := 2) nd rfl (by first | exact .inl rfl | exact .inr rfl) (by decide) (by decide))) (fun _ _ _ _ _ => ts_nil) (fun _ _ _ _ _ => ((en_t1 (cf_listAll rfl) ((ex_var (pv 2) (by decide))).peek (by rfl) T.n_list (by decide +kernel))).ex))) (ss_cons (sx_par (i := 3) (j := 4) rfl nd rfl rfl (by decide) rfl rfl ex_int (ex_glob rfl T.g_ONE) (by decide) (by decide)) (ss_cons (sx_for PassesOwn.never rfl (ix_rng1 (by rfl) T.n_range (ex_b1 cv_lenAll (ep_own (pv 1) (by decide)) (by rfl) T.n_len (by decide +kernel))) (gx_name (i := 5) nd rfl (by first | exact .inl rfl | exact .inr rfl) (by decide)) (ss_cons (sx_lc (i := 6) (nm := [("j", 7)]) (vs := [7]) rfl nd rfl rfl (by decide) (sw_true rfl rfl rfl (by decide +kernel)) (ix_rng2 (by rfl) T.n_range (ex_var (pv 5) (by decide)) (ex_b1 cv_lenAll (ep_own (pv 1) (by decide)) (by rfl) T.n_len (by decide +kernel))) (blkOk_by (by rfl)) rfl (by decide) (fun _ _ _ _ _ => (gc_name (i := 7) nd rfl (by first | exact .inl rfl | exact .inr rfl) (by decide) (by decide))) (fun _ _ _ _ _ => (ts_one (tx_cmp ov_gt (ex_b1 cv_lenAll ((ex_ix (iv_all hu1) (ex_ixO (iv_all hu1) (pv 1) (by decide) (ex_var (pv 7) (by decide)) (fun _ _ => rfl)) (ex_var (pv 5) (by decide)) (fun _ _ => rfl))).peek (by rfl) T.n_len (by decide +kernel)) ex_int (nomark _)))) (fun _ _ _ _ _ => (ex_var (pv 7) (by decide)))) (ss_cons (sx_if (tx_cmp (ov_eqD hu64) (ex_b1 cv_lenAll ((ex_var (pv 6) (by decide))).peek (by rfl) T.n_len (by decide +kernel)) ex_int (nomark _)) (ss_cons (sx_ret (ex_tup ax_nil)) ss_nil) ss_nil) (ss_cons (sx_if (tx_cmp (ov_neD hu64) (ex_ix (iv_all hu1) (ex_var (pv 6) (by decide)) ex_int (fun _ _ => rfl)) (ex_var (pv 5) (by decide)) (nomark _)) (ss_cons (sx_asg (ex_tup (ax_cons (ex_ixO (iv_all hu1) (pv 1) (by decide) (ex_ix (iv_all hu1) (ex_var (pv 6) (by decide)) ex_int (fun _ _ => rfl)) (fun _ _ => rfl)) (ax_cons (ex_ixO (iv_all hu1) (pv 1) (by decide) (ex_var (pv 5) (by decide)) (fun _ _ => rfl)) ax_nil))) (gx_tup rfl (gs_cons (gx_sub (si_all hu1) (pv 1) (by decide) (ex_var (pv 5) (by decide))) (gs_cons (gx_sub (si_all hu1) (pv 1) (by decide) (ex_ix (iv_all hu1) (ex_var (pv 6) (by decide)) ex_int (fun _ _ => rfl))) gs_nil)))) (ss_cons (sx_set (i := 3) nd rfl (by first | exact .inl rfl | exact .inr rfl) (by decide) (ex_op ov_sub ex_int (ex_var (pv 3) (by decide)))) ss_nil)) ss_nil) (ss_cons (sx_for PassesOwn.never rfl (ix_rng2 (by rfl) T.n_range (ex_op ov_addAll (ex_var (pv 5) (by decide)) ex_int) (ex_b1 cv_lenAll (ep_own (pv 1) (by decide)) (by rfl) T.n_len (by decide +kernel))) (gx_name (i := 7) nd rfl (by first | exact .inl rfl | exact .inr rfl) (by decide)) (ss_cons (sx_setN (own' := [1, 8]) (i := 8) nd rfl (by first | exact .inl rfl | exact .inr rfl) (by decide) (ownIns (by decide)) (en_lst ax_nil)) (ss_cons (sx_for PassesOwn.never rfl (ix_rng1 (by rfl) T.n_range (ex_b1 cv_lenAll (ep_own (pv 1) (by decide)) (by rfl) T.n_len (by decide +kernel))) (gx_name (i := 9) nd rfl (by first | exact .inl rfl | exact .inr rfl) (by decide)) (ss_cons (sx_expr (ex_mt PySem.F.plainAttrs_list PySem.F.slot_list_append PySem.F.type_list_append mi_append ty_lst (pv 8) (by decide) (ax_cons (ex_callC c_divided (hr.mono (by decide)) (by rfl) (ax_cons (ex_callC c_minus (hr.mono (by decide)) (by rfl) (ax_cons (ex_callC c_times (hr.mono (by decide)) (by rfl) (ax_cons (ex_ix (iv_all hu1) (ex_ixO (iv_all hu1) (pv 1) (by decide) (ex_var (pv 7) (by decide)) (fun _ _ => rfl)) (ex_var (pv 9) (by decide)) (fun _ _ => rfl)) (ax_cons (ex_ix (iv_all hu1) (ex_ixO (iv_all hu1) (pv 1) (by decide) (ex_var (pv 5) (by decide)) (fun _ _ => rfl)) (ex_var (pv 5) (by decide)) (fun _ _ => rfl)) ax_nil)) (len_cons (len_cons len_nil))) (ax_cons (ex_callC c_times (hr.mono (by decide)) (by rfl) (ax_cons (ex_ix (iv_all hu1) (ex_ixO (iv_all hu1) (pv 1) (by decide) (ex_var (pv 7) (by decide)) (fun _ _ => rfl)) (ex_var (pv 5) (by decide)) (fun _ _ => rfl)) (ax_cons (ex_ix (iv_all hu1) (ex_ixO (iv_all hu1) (pv 1) (by decide) (ex_var (pv 5) (by decide)) (fun _ _ => rfl)) (ex_var (pv 9) (by decide)) (fun _ _ => rfl)) ax_nil)) (len_cons (len_cons len_nil))) ax_nil)) (len_cons (len_cons len_nil))) (ax_cons (ex_var (pv 4) (by decide)) ax_nil)) (len_cons (len_cons len_nil))) ax_nil))) ss_nil)) (ss_fz (own2 := [1]) 8 (by decide) (ownIns (by decide)) (by decide) (ss_cons (sx_asg (ex_var (pv 8) (by decide)) (gx_sub (si_all hu1) (pv 1) (by decide) (ex_var (pv 7) (by decide)))) ss_nil))))) (ss_cons (sx_set (i := 4) nd rfl (by first | exact .inl rfl | exact .inr rfl) (by decide) (ex_ix (iv_all hu1) (ex_ixO (iv_all hu1) (pv 1) (by decide) (ex_var (pv 5) (by decide)) (fun _ _ => rfl)) (ex_var (pv 5) (by decide)) (fun _ _ => rfl))) ss_nil)))))) (ss_cons (sx_ret (ex_callC c_scaled (hr.mono (by decide)) (by rfl) (ax_cons (ex_var (pv 4) (by decide)) (ax_cons (ex_var (pv 3) (by decide)) ax_nil)) (len_cons (len_cons len_nil)))) ss_nil))))
abbrev s_matchings : Stmt := top 10
abbrev N_matchings : List Str := ["start", "end", "found", "other", "inner", "outer"]
theorem sc_matchings : FnScope N_matchings ["start", "end"] (defScope s_matchings) := ⟨rfl, rfl, rfl, by decide +kernel, rfl, by decide +kernel, by decide +kernel⟩
theorem ok_matchings {f : Addr} {fd : FuncData} (Fn : Fun K "matchings" "matchings" s_matchings f fd) (T : Txt K mg) (hg : mg "matchings" = some (.ref f)) (bi : Binds K fd ["start", "end"] []) : ∀ n, FnOk P w K mg base CX0 (1 + n) f fd ["start", "end"] (spF K 2 (F_matchings n))
  | 0 => ok_none (by rfl)
  | n + 1 => by
    have ih : CallOk P w K mg base (1 + n) "matchings" 2 (F_matchings n) := ⟨f, fd, ["start", "end"], hg, ok_matchings Fn T hg bi  n, Fn.kp, bi, rfl⟩
    refine ok_pure (own' := []) (k := 1 + n) (body := b_matchings (F_matchings n)) Fn sc_matchings (fun args v e => e) (fun cdv A outer s H E hr => ?_)
    have hu64 := hr.units
    have hu65 := units65 hr
    have hu1 := hu_of hr
    have nd := sc_matchings.nd
    exact (ss_cons (sx_if (tx_cmp (ov_eqD hu64) (ex_var (pv 0) (by decide)) (ex_var (pv 1) (by decide)) (nomark _)) (ss_cons (sx_ret ((en_lst (ax_cons (ex_tup ax_nil) ax_nil))).ex) ss_nil) ss_nil) (ss_cons (sx_setN (own' := [2]) (i := 2) nd rfl (by first | exact .inl rfl | exact .inr rfl) (by decide) (ownIns (by decide)) (en_lst ax_nil)) (ss_cons (sx_for PassesOwn.never rfl (ix_rng3 (by rfl) T.n_range (ex_op ov_addAll (ex_var (pv 0) (by decide)) ex_int) (ex_var (pv 1) (by decide)) ex_int) (gx_name (i := 3) nd rfl (by first | exact .inl rfl | exact .inr rfl) (by decide)) (ss_cons (sx_for PassesOwn.never rfl (ix_seq' (ex_callC ih (hr.mono (by omega)) (by rfl) (ax_cons (ex_op ov_addAll (ex_var (pv 0) (by decide)) ex_int) (ax_cons (ex_var (pv 3) (by decide)) ax_nil)) (len_cons (len_cons len_nil)))) (gx_name (i := 4) nd rfl (by first | exact .inl rfl | exact .inr rfl) (by decide)) (ss_cons (sx_ext (i := 2) nd rfl (by first | exact .inl rfl | exact .inr rfl) (by decide) ((en_lc (nm := [("outer", 5)]) (vs := [5]) rfl nd (ix_seq' (ex_callC ih (hr.mono (by omega)) (by rfl) (ax_cons (ex_op ov_addAll (ex_var (pv 3) (by decide)) ex_int) (ax_cons (ex_var (pv 1) (by decide)) ax_nil)) (len_cons (len_cons len_nil)))) (blkOk_by (by rfl)) rfl (by decide) (fun _ _ _ _ _ => (gc_name (i := 5) nd rfl (by first | exact .inl rfl | exact .inr rfl) (by decide) (by decide))) (fun _ _ _ _ _ => ts_nil) (fun _ _ _ _ _ => (ex_op ov_addAll (ex_op ov_addAll (ex_tup (ax_cons (ex_tup (ax_cons (ex_var (pv 0) (by decide)) (ax_cons (ex_var (pv 3) (by decide)) ax_nil))) ax_nil)) (ex_var (pv 4) (by decide))) (ex_var (pv 5) (by decide)))))).ex) ss_nil)) ss_nil)) (ss_fz (own2 := []) 2 (by decide) (ownIns (by decide)) (by decide) (ss_cons (sx_ret (ex_var (pv 2) (by decide))) ss_nil)))))
abbrev s_chebyshev : Stmt := top 11
abbrev N_chebyshev : List Str := ["many", "before", "now", "_"]
theorem sc_chebyshev : FnScope N_chebyshev ["many"] (defScope s_chebyshev) := ⟨rfl, rfl, rfl, by decide +kernel, rfl, by decide +kernel, by decide +kernel⟩
theorem ok_chebyshev {f : Addr} {fd : FuncData} (Fn : Fun K "chebyshev" "chebyshev" s_chebyshev f fd) (T : Txt K mg) (c_minus : CallOk P w K mg base 3 "minus" 2 F_minus) (c_times : CallOk P w K mg base 2 "times" 2 F_times) : FnOk P w K mg base CX0 4 f fd ["many"] (spF K 1 F_chebyshev) := by
  refine ok_pure (own' := []) (k := 3) (body := b_chebyshev) Fn sc_chebyshev (fun args v e => e) (fun cdv A outer s H E hr => ?_)
  have hu64 := hr.units
  have hu65 := units65 hr
  have hu1 := hu_of hr
  have nd := sc_chebyshev.nd
  exact (ss_cons (sx_asg (ex_tup (ax_cons (ex_tup ax_nil) (ax_cons (ex_tup (ax_cons (ex_tup (ax_cons ex_int (ax_cons ex_int ax_nil))) ax_nil)) ax_nil))) (gx_tup rfl (gs_cons (gx_name (i := 1) nd rfl (by first | exact .inl rfl | exact .inr rfl) (by decide)) (gs_cons (gx_name (i := 2) nd rfl (by first | exact .inl rfl | exact .inr rfl) (by decide)) gs_nil)))) (ss_cons (sx_for PassesOwn.never rfl (ix_rng1 (by rfl) T.n_range (ex_var (pv 0) (by decide))) (gx_name (i := 3) nd rfl (by first | exact .inl rfl | exact .inr rfl) (by decide)) (ss_cons (sx_par (i := 1) (j := 2) rfl nd rfl rfl (by decide) rfl rfl (ex_var (pv 2) (by decide)) (ex_callC c_minus (hr.mono (by decide)) (by rfl) (ax_cons (ex_callC c_times (hr.mono (by decide)) (by rfl) (ax_cons (ex_tup (ax_cons (ex_tup (ax_cons ex_int (ax_cons ex_int ax_nil))) ax_nil)) (ax_cons (ex_var (pv 2) (by decide)) ax_nil)) (len_cons (len_cons len_nil))) (ax_cons (ex_var (pv 1) (by decide)) ax_nil)) (len_cons (len_cons len_nil))) (by decide) (by decide)) ss_nil)) (ss_cons (sx_ret (ex_var (pv 2) (by decide))) ss_nil)))
abbrev s_half_diagrams : Stmt := top 12
abbrev N_half_diagrams : List Str := ["many", "found", "row", "partners", "one", "other"]
theorem sc_half_diagrams : FnScope N_half_diagrams ["many"] (defScope s_half_diagrams) := ⟨rfl, rfl, rfl, by decide +kernel, rfl, by decide +kernel, by decide +kernel⟩
theorem ok_half_diagrams {f : Addr} {fd : FuncData} (Fn : Fun K "half_diagrams" "half_diagrams" s_half_diagrams f fd) (T : Txt K mg) (c_matchings : CallOk P w K mg base 13 "matchings" 2 (F_matchings 12)) : FnOk P w K mg base CX0 14 f fd ["many"] (spF K 1 F_half_diagrams) := by
  refine ok_pure (own' := [1]) (k := 13) (body := b_half_diagrams) Fn sc_half_diagrams (fun args v e => e) (fun cdv A outer s H E hr => ?_)
  have hu64 := hr.units
  have hu65 := units65 hr
  have hu1 := hu_of hr
  have nd := sc_half_diagrams.nd
  exact (ss_cons (sx_setN (own' := [1]) (i := 1) nd rfl (by first | exact .inl rfl | exact .inr rfl) (by decide) (ownIns (by decide)) (en_lst ax_nil)) (ss_cons (sx_for PassesOwn.never rfl (ix_seq' (ex_callC c_matchings (hr.mono (by decide)) (by rfl) (ax_cons ex_int (ax_cons (ex_op ov_mul ex_int (ex_var (pv 0) (by decide))) ax_nil)) (len_cons (len_cons len_nil)))) (gx_name (i := 2) nd rfl (by first | exact .inl rfl | exact .inr rfl) (by decide)) (ss_cons (sx_setN (own' := [1, 3]) (i := 3) nd rfl (by first | exact .inl rfl | exact .inr rfl) (by decide) (ownIns (by decide)) (en_rep ex_int (ex_op ov_mul ex_int (ex_var (pv 0) (by decide))))) (ss_cons (sx_for PassesOwn.never rfl (ix_seq' (ex_var (pv 2) (by decide))) (gx_tup rfl (gs_cons (gx_name (i := 4) nd rfl (by first | exact .inl rfl | exact .inr rfl) (by decide)) (gs_cons (gx_name (i := 5) nd rfl (by first | exact .inl rfl | exact .inr rfl) (by decide)) gs_nil))) (ss_cons (sx_asg (ex_tup (ax_cons (ex_var (pv 5) (by decide)) (ax_cons (ex_var (pv 4) (by decide)) ax_nil))) (gx_tup rfl (gs_cons (gx_sub (si_all hu1) (pv 3) (by decide) (ex_var (pv 4) (by decide))) (gs_cons (gx_sub (si_all hu1) (pv 3) (by decide) (ex_var (pv 5) (by decide))) gs_nil)))) ss_nil)) (ss_cons (sx_expr (ex_mt PySem.F.plainAttrs_list PySem.F.slot_list_append PySem.F.type_list_append mi_append ty_lst (pv 1) (by decide) (ax_cons (ex_t1 cv_tuple (ep_own (pv 3) (by decide)) (by rfl) T.n_tuple (by decide +kernel)) ax_nil))) (ss_fz (own2 := [1]) 3 (by decide) (ownIns (by decide)) (by decide) ss_nil))))) (ss_cons (sx_ret ((en_b1 (cf_sorted rfl hu64) (ep_own (pv 1) (by decide)) (by rfl) T.n_sorted (by decide +kernel))).ex) ss_nil)))
abbrev s_circles_of : Stmt := top 13
abbrev N_circles_of : List Str := ["first", "second", "met", "circles", "start", "at"]
theorem sc_circles_of : FnScope N_circles_of ["first", "second"] (defScope s_circles_of) := ⟨rfl, rfl, rfl, by decide +kernel, rfl, by decide +kernel, by decide +kernel⟩
theorem ok_circles_of {f : Addr} {fd : FuncData} (Fn : Fun K "circles_of" "circles_of" s_circles_of f fd) (T : Txt K mg) : FnOk P w K mg base CX0 1 f fd ["first", "second"] (spF K 2 F_circles_of) := by
  refine ok_pure (own' := [2]) (k := 0) (body := b_circles_of) Fn sc_circles_of (fun args v e => e) (fun cdv A outer s H E hr => ?_)
  have hu64 := hr.units
  have hu65 := units65 hr
  have hu1 := hu_of hr
  have nd := sc_circles_of.nd
  exact (ss_cons (sx_setN (own' := [2]) (i := 2) nd rfl (by first | exact .inl rfl | exact .inr rfl) (by decide) (ownIns (by decide)) (en_lst ax_nil)) (ss_cons (sx_set (i := 3) nd rfl (by first | exact .inl rfl | exact .inr rfl) (by decide) ex_int) (ss_cons (sx_for PassesOwn.never rfl (ix_rng1 (by rfl) T.n_range (ex_b1 cv_lenAll ((ex_var (pv 0) (by decide))).peek (by rfl) T.n_len (by decide +kernel))) (gx_name (i := 4) nd rfl (by first | exact .inl rfl | exact .inr rfl) (by decide)) (ss_cons (sx_if (tx_cmpP (ov_notIn hu65) (ex_var (pv 4) (by decide)) (ep_own (pv 2) (by decide)) rfl) (ss_cons (sx_aug (i := 3) nd rfl (by first | exact .inl rfl | exact .inr rfl) (by decide) ex_int ov_iadd) (ss_cons (sx_set (i := 5) nd rfl (by first | exact .inl rfl | exact .inr rfl) (by decide) (ex_var (pv 4) (by decide))) (ss_cons (sx_while 10000 PassesOwn.never (tx_cmpP (ov_notIn hu65) (ex_var (pv 5) (by decide)) (ep_own (pv 2) (by decide)) rfl) (ss_cons (sx_expr (ex_mt PySem.F.plainAttrs_list PySem.F.slot_list_append PySem.F.type_list_append mi_append ty_lst (pv 2) (by decide) (ax_cons (ex_var (pv 5) (by decide)) ax_nil))) (ss_cons (sx_expr (ex_mt PySem.F.plainAttrs_list PySem.F.slot_list_append PySem.F.type_list_append mi_append ty_lst (pv 2) (by decide) (ax_cons (ex_ix (iv_all hu1) (ex_var (pv 0) (by decide)) (ex_var (pv 5) (by decide)) (fun _ _ => rfl)) ax_nil))) (ss_cons (sx_set (i := 5) nd rfl (by first | exact .inl rfl | exact .inr rfl) (by decide) (ex_ix (iv_all hu1) (ex_var (pv 1) (by decide)) (ex_ix (iv_all hu1) (ex_var (pv 0) (by decide)) (ex_var (pv 5) (by decide)) (fun _ _ => rfl)) (fun _ _ => rfl))) ss_nil)))) ss_nil))) ss_nil) ss_nil)) (ss_cons (sx_ret (ex_var (pv 3) (by decide))) ss_nil))))
abbrev s_gram_table : Stmt := top 14
abbrev N_gram_table : List Str := ["many", "rows", "other", "one"]
theorem sc_gram_table : FnScope N_gram_table ["many"] (defScope s_gram_table) := ⟨rfl, rfl, rfl, by decide +kernel, rfl, by decide +kernel, by decide +kernel⟩
theorem ok_gram_table {f : Addr} {fd : FuncData} (Fn : Fun K "gram_table" "gram_table" s_gram_table f fd) (T : Txt K mg) (c_half_diagrams : CallOk P w K mg base 14 "half_diagrams" 1 F_half_diagrams) (c_circles_of : CallOk P w K mg base 1 "circles_of" 2 F_circles_of) : FnOk P w K mg base CX0 15 f fd ["many"] (spF K 1 F_gram_table) := by
  refine ok_pure (own' := []) (k := 14) (body := b_gram_table) Fn sc_gram_table (fun args v e => e) (fun cdv A outer s H E hr => ?_)
  have hu64 := hr.units
  have hu65 := units65 hr
  have hu1 := hu_of hr
  have nd := sc_gram_table.nd
  exact (ss_cons (sx_set (i := 1) nd rfl (by first | exact .inl rfl | exact .inr rfl) (by decide) (ex_callC c_half_diagrams (hr.mono (by decide)) (by rfl) (ax_cons (ex_var (pv 0) (by decide)) ax_nil) (len_cons len_nil))) (ss_cons (sx_ret ((en_lc (nm := [("one", 3)]) (vs := [3]) rfl nd (ix_seq' (ex_var (pv 1) (by decide))) (blkOk_by (by rfl)) rfl (by decide) (fun _ _ _ _ _ => (gc_name (i := 3) nd rfl (by first | exact .inl rfl | exact .inr rfl) (by decide) (by decide))) (fun _ _ _ _ _ => ts_nil) (fun _ _ _ _ _ => ((en_lc (nm := [("other", 2)]) (vs := [2]) rfl nd (ix_seq' (ex_var (pv 1) (by decide))) (blkOk_by (by rfl)) rfl (by decide) (fun _ _ _ _ _ => (gc_name (i := 2) nd rfl (by first | exact .inl rfl | exact .inr rfl) (by decide) (by decide))) (fun _ _ _ _ _ => ts_nil) (fun _ _ _ _ _ => (ex_tup (ax_cons (ex_tup (ax_cons (ex_callC c_circles_of (hr.mono (by decide)) (by rfl) (ax_cons (ex_var (pv 3) (by decide)) (ax_cons (ex_var (pv 2) (by decide)) ax_nil)) (len_cons (len_cons len_nil))) (ax_cons ex_int ax_nil))) ax_nil))))).ex))).ex) ss_nil))
abbrev s_choices : Stmt := top 15
abbrev N_choices : List Str := ["total", "some", "found", "k"]
theorem sc_choices : FnScope N_choices ["total", "some"] (defScope s_choices) := ⟨rfl, rfl, rfl, by decide +kernel, rfl, by decide +kernel, by decide +kernel⟩
theorem ok_choices {f : Addr} {fd : FuncData} (Fn : Fun K "choices" "choices" s_choices f fd) (T : Txt K mg) : FnOk P w K mg base CX0 1 f fd ["total", "some"] (spF K 2 F_choices) := by
  refine ok_pure (own' := []) (k := 0) (body := b_choices) Fn sc_choices (fun args v e => e) (fun cdv A outer s H E hr => ?_)
  have hu64 := hr.units
  have hu65 := units65 hr
  have hu1 := hu_of hr
  have nd := sc_choices.nd
  exact (ss_cons (sx_if ((wx_or (tx_cmp ov_lt (ex_var (pv 1) (by decide)) ex_int (nomark _)) (wx_or1 (tx_cmp ov_gt (ex_var (pv 1) (by decide)) (ex_var (pv 0) (by decide)) (nomark _))))).t (ss_cons (sx_ret ex_int) ss_nil) ss_nil) (ss_cons (sx_set (i := 2) nd rfl (by first | exact .inl rfl | exact .inr rfl) (by decide) ex_int) (ss_cons (sx_for PassesOwn.never rfl (ix_rng1 (by rfl) T.n_range (ex_var (pv 1) (by decide))) (gx_name (i := 3) nd rfl (by first | exact .inl rfl | exact .inr rfl) (by decide)) (ss_cons (sx_set (i := 2) nd rfl (by first | exact .inl rfl | exact .inr rfl) (by decide) (ex_op ov_div (ex_op ov_mul (ex_var (pv 2) (by decide)) (ex_op ov_sub (ex_var (pv 0) (by decide)) (ex_var (pv 3) (by decide)))) (ex_op ov_addAll (ex_var (pv 3) (by decide)) ex_int))) ss_nil)) (ss_cons (sx_ret (ex_var (pv 2) (by decide))) ss_nil))))
abbrev s_gram_determinant : Stmt := top 16
abbrev N_gram_determinant : List Str := ["many", "found", "k", "power", "_"]
theorem sc_gram_determinant : FnScope N_gram_determinant ["many"] (defScope s_gram_determinant) := ⟨rfl, rfl, rfl, by decide +kernel, rfl, by decide +kernel, by decide +kernel⟩
theorem ok_gram_determinant {f : Addr} {fd : FuncData} (Fn : Fun K "gram_determinant" "gram_determinant" s_gram_determinant f fd) (T : Txt K mg) (c_choices : CallOk P w K mg base 1 "choices" 2 F_choices) (c_times : CallOk P w K mg base 2 "times" 2 F_times) (c_chebyshev : CallOk P w K mg base 4 "chebyshev" 1 F_chebyshev) : FnOk P w K mg base CX0 5 f fd ["many"] (spF K 1 F_gram_determinant) := by
  refine ok_pure (own' := []) (k := 4) (body := b_gram_determinant) Fn sc_gram_determinant (fun args v e => e) (fun cdv A outer s H E hr => ?_)
  have hu64 := hr.units
  have hu65 := units65 hr
  have hu1 := hu_of hr
  have nd := sc_gram_determinant.nd
  exact (ss_cons (sx_set (i := 1) nd rfl (by first | exact .inl rfl | exact .inr rfl) (by decide) (ex_tup (ax_cons (ex_tup (ax_cons ex_int (ax_cons ex_int ax_nil))) ax_nil))) (ss_cons (sx_for PassesOwn.never rfl (ix_rng2 (by rfl) T.n_range ex_int (ex_op ov_addAll (ex_var (pv 0) (by decide)) ex_int)) (gx_name (i := 2) nd rfl (by first | exact .inl rfl | exact .inr rfl) (by decide)) (ss_cons (sx_set (i := 3) nd rfl (by first | exact .inl rfl | exact .inr rfl) (by decide) (ex_op ov_addAll (ex_op ov_sub (ex_callC c_choices (hr.mono (by decide)) (by rfl) (ax_cons (ex_op ov_mul ex_int (ex_var (pv 0) (by decide))) (ax_cons (ex_op ov_sub (ex_var (pv 0) (by decide)) (ex_var (pv 2) (by decide))) ax_nil)) (len_cons (len_cons len_nil))) (ex_op ov_mul ex_int (ex_callC c_choices (hr.mono (by decide)) (by rfl) (ax_cons (ex_op ov_mul ex_int (ex_var (pv 0) (by decide))) (ax_cons (ex_op ov_sub (ex_op ov_sub (ex_var (pv 0) (by decide)) (ex_var (pv 2) (by decide))) ex_int) ax_nil)) (len_cons (len_cons len_nil))))) (ex_callC c_choices (hr.mono (by decide)) (by rfl) (ax_cons (ex_op ov_mul ex_int (ex_var (pv 0) (by decide))) (ax_cons (ex_op ov_sub (ex_op ov_sub (ex_var (pv 0) (by decide)) (ex_var (pv 2) (by decide))) ex_int) ax_nil)) (len_cons (len_cons len_nil))))) (ss_cons (sx_for PassesOwn.never rfl (ix_rng1 (by rfl) T.n_range (ex_var (pv 3) (by decide))) (gx_name (i := 4) nd rfl (by first | exact .inl rfl | exact .inr rfl) (by decide)) (ss_cons (sx_set (i := 1) nd rfl (by first | exact .inl rfl | exact .inr rfl) (by decide) (ex_callC c_times (hr.mono (by decide)) (by rfl) (ax_cons (ex_var (pv 1) (by decide)) (ax_cons (ex_callC c_chebyshev (hr.mono (by decide)) (by rfl) (ax_cons (ex_var (pv 2) (by decide)) ax_nil) (len_cons len_nil)) ax_nil)) (len_cons (len_cons len_nil)))) ss_nil)) ss_nil))) (ss_cons (sx_ret (ex_var (pv 1) (by decide))) ss_nil)))
abbrev s_determinant_of_gram : Stmt := top 17
abbrev N_determinant_of_gram : List Str := ["many"]
theorem sc_determinant_of_gram : FnScope N_determinant_of_gram ["many"] (defScope s_determinant_of_gram) := ⟨rfl, rfl, rfl, by decide +kernel, rfl, by decide +kernel, by decide +kernel⟩
theorem ok_determinant_of_gram {f : Addr} {fd : FuncData} (Fn : Fun K "determinant_of_gram" "determinant_of_gram" s_determinant_of_gram f fd) (T : Txt K mg) (c_table_determinant : CallOk P w K mg base 4 "table_determinant" 1 F_table_determinant) (c_gram_table : CallOk P w K mg base 15 "gram_table" 1 F_gram_table) : FnOk P w K mg base CX0 16 f fd ["many"] (spF K 1 F_determinant_of_gram) := by
  refine ok_pure (own' := []) (k := 15) (body := b_determinant_of_gram) Fn sc_determinant_of_gram (fun args v e => e) (fun cdv A outer s H E hr => ?_)
  have hu64 := hr.units
  have hu65 := units65 hr
  have hu1 := hu_of hr
  have nd := sc_determinant_of_gram.nd
  exact (ss_cons (sx_ret (ex_callC c_table_determinant (hr.mono (by decide)) (by rfl) (ax_cons (ex_callC c_gram_table (hr.mono (by decide)) (by rfl) (ax_cons (ex_var (pv 0) (by decide)) ax_nil) (len_cons len_nil)) ax_nil) (len_cons len_nil))) ss_nil)
abbrev s__law_next : Stmt := top 19
abbrev N__law_next : List Str := ["tape", "many", "rest", "cell"]
theorem sc__law_next : FnScope N__law_next ["tape", "many"] (defScope s__law_next) := ⟨rfl, rfl, rfl, by decide +kernel, rfl, by decide +kernel, by decide +kernel⟩
theorem ok__law_next {f : Addr} {fd : FuncData} (Fn : Fun K "_law_next" "_law_next" s__law_next f fd) (T : Txt K mg) : FnOk P w K mg base CX0 1 f fd ["tape", "many"] (spI K 2 0 F__law_next) := by
  refine ok_io (own' := [0]) (k := 0) (body := b__law_next) Fn sc__law_next (fun args v e => e) (fun cdv A outer s H E hr => ?_)
  have hu64 := hr.units
  have hu65 := units65 hr
  have hu1 := hu_of hr
  have nd := sc__law_next.nd
  exact (ss_cons (sx_set (i := 2) nd rfl (by first | exact .inl rfl | exact .inr rfl) (by decide) (ex_ixO (iv_all hu1) (pv 0) (by decide) ex_int (fun _ _ => rfl))) (ss_cons (sx_if (tx_cmp (ov_eqD hu64) (ex_var (pv 2) (by decide)) ex_int (nomark _)) (ss_cons (sx_set (i := 3) nd rfl (by first | exact .inl rfl | exact .inr rfl) (by decide) ex_int) (ss_cons (sx_if (tx_cmp ov_lt (ex_ixO (iv_all hu1) (pv 0) (by decide) ex_int (fun _ _ => rfl)) (ex_b1 cv_lenAll ((ex_ixO (iv_all hu1) (pv 0) (by decide) ex_int (fun _ _ => rfl))).peek (by rfl) T.n_len (by decide +kernel)) (nomark _)) (ss_cons (sx_set (i := 3) nd rfl (by first | exact .inl rfl | exact .inr rfl) (by decide) (ex_b1 cv_abs ((ex_t1 cv_int ((ex_ix (iv_all hu1) (ex_ixO (iv_all hu1) (pv 0) (by decide) ex_int (fun _ _ => rfl)) (ex_ixO (iv_all hu1) (pv 0) (by decide) ex_int (fun _ _ => rfl)) (fun _ _ => rfl))).peek (by rfl) T.n_int (by decide +kernel))).peek (by rfl) T.n_abs (by decide +kernel))) (ss_cons (sx_asg (ex_op ov_addAll (ex_ixO (iv_all hu1) (pv 0) (by decide) ex_int (fun _ _ => rfl)) ex_int) (gx_sub (si_all hu1) (pv 0) (by decide) ex_int)) ss_nil)) ss_nil) (ss_cons (sx_set (i := 2) nd rfl (by first | exact .inl rfl | exact .inr rfl) (by decide) (ex_var (pv 3) (by decide))) (ss_cons (sx_if (tx_cmp ov_lt (ex_var (pv 3) (by decide)) (ex_op ov_pow ex_int ex_int) (nomark _)) (ss_cons (sx_asg (ex_op ov_mod (ex_t1 cv_int ((ex_op ov_addAll (ex_op ov_addAll (ex_op ov_mul (ex_ixO (iv_all hu1) (pv 0) (by decide) ex_int (fun _ _ => rfl)) ex_int) (ex_op ov_mul (ex_var (pv 3) (by decide)) ex_int)) ex_int)).peek (by rfl) T.n_int (by decide +kernel)) ex_int) (gx_sub (si_all hu1) (pv 0) (by decide) ex_int)) (ss_cons (sx_ret (ex_op ov_mod (ex_op ov_mod (ex_t1 cv_int ((ex_op ov_mul (ex_t1 cv_int ((ex_op ov_div (ex_ixO (iv_all hu1) (pv 0) (by decide) ex_int (fun _ _ => rfl)) ex_int)).peek (by rfl) T.n_int (by decide +kernel)) ex_int)).peek (by rfl) T.n_int (by decide +kernel)) ex_int) (ex_var (pv 1) (by decide)))) ss_nil)) ss_nil) ss_nil)))) ss_nil) (ss_cons (sx_asg (ex_op ov_div (ex_var (pv 2) (by decide)) (ex_var (pv 1) (by decide))) (gx_sub (si_all hu1) (pv 0) (by decide) ex_int)) (ss_cons (sx_ret (ex_op ov_mod (ex_t1 cv_int ((ex_var (pv 2) (by decide))).peek (by rfl) T.n_int (by decide +kernel)) (ex_var (pv 1) (by decide)))) ss_nil))))
abbrev s__law_same : Stmt := top 20
abbrev N__law_same : List Str := ["told", "due", "k"]
theorem sc__law_same : FnScope N__law_same ["told", "due"] (defScope s__law_same) := ⟨rfl, rfl, rfl, by decide +kernel, rfl, by decide +kernel, by decide +kernel⟩
theorem ok__law_same {f : Addr} {fd : FuncData} (Fn : Fun K "_law_same" "_law_same" s__law_same f fd) (T : Txt K mg) (hg : mg "_law_same" = some (.ref f)) (bi : Binds K fd ["told", "due"] []) : ∀ n, FnOk P w K mg base CX0 (1 + n) f fd ["told", "due"] (spF K 2 (F__law_same n))
  | 0 => ok_none (by rfl)
  | n + 1 => by
    have ih : CallOk P w K mg base (1 + n) "_law_same" 2 (F__law_same n) := ⟨f, fd, ["told", "due"], hg, ok__law_same Fn T hg bi  n, Fn.kp, bi, rfl⟩
    refine ok_pure (own' := []) (k := 1 + n) (body := b__law_same (F__law_same n)) Fn sc__law_same (fun args v e => e) (fun cdv A outer s H E hr => ?_)
    have hu64 := hr.units
    have hu65 := units65 hr
    have hu1 := hu_of hr
    have nd := sc__law_same.nd
    exact (ss_cons (sx_if (tx_cmp ov_isN (ex_var (pv 1) (by decide)) ex_non (nomark _)) (ss_cons (sx_ret (ex_cmp ov_isN (ex_var (pv 0) (by decide)) ex_non (nomark _))) ss_nil) ss_nil) (ss_cons (sx_if (tx_tru ((ex_isi .bool ((ex_var (pv 1) (by decide))).peek (pe_bltn (by rfl) T.n_bool (by decide +kernel) rfl) (by rfl) T.n_isinstance (by decide +kernel))).peek) (ss_cons (sx_ret (ex_and (ex_isi .bool ((ex_var (pv 0) (by decide))).peek (pe_bltn (by rfl) T.n_bool (by decide +kernel) rfl) (by rfl) T.n_isinstance (by decide +kernel)) (ex_one (ex_cmp (ov_eqD hu64) (ex_var (pv 0) (by decide)) (ex_var (pv 1) (by decide)) (nomark _))))) ss_nil) ss_nil) (ss_cons (sx_if (tx_tru ((ex_isi .int ((ex_var (pv 1) (by decide))).peek (pe_bltn (by rfl) T.n_int (by decide +kernel) rfl) (by rfl) T.n_isinstance (by decide +kernel))).peek) (ss_cons (sx_ret (ex_and (ex_isi .int ((ex_var (pv 0) (by decide))).peek (pe_bltn (by rfl) T.n_int (by decide +kernel) rfl) (by rfl) T.n_isinstance (by decide +kernel)) (ex_and (ex_not (ex_isi .bool ((ex_var (pv 0) (by decide))).peek (pe_bltn (by rfl) T.n_bool (by decide +kernel) rfl) (by rfl) T.n_isinstance (by decide +kernel))) (ex_one (ex_cmp (ov_eqD hu64) (ex_var (pv 0) (by decide)) (ex_var (pv 1) (by decide)) (nomark _)))))) ss_nil) ss_nil) (ss_cons (sx_if (tx_tru ((ex_isi .str ((ex_var (pv 1) (by decide))).peek (pe_bltn (by rfl) T.n_str (by decide +kernel) rfl) (by rfl) T.n_isinstance (by decide +kernel))).peek) (ss_cons (sx_ret (ex_and (ex_isi .str ((ex_var (pv 0) (by decide))).peek (pe_bltn (by rfl) T.n_str (by decide +kernel) rfl) (by rfl) T.n_isinstance (by decide +kernel)) (ex_one (ex_cmp (ov_eqD hu64) (ex_var (pv 0) (by decide)) (ex_var (pv 1) (by decide)) (nomark _))))) ss_nil) ss_nil) (ss_cons (sx_if ((wx_or ((wx_and (tx_tru ((ex_isi .list ((ex_var (pv 1) (by decide))).peek (pe_bltn (by rfl) T.n_list (by decide +kernel) rfl) (by rfl) T.n_isinstance (by decide +kernel))).peek) (wx_and1 (tx_not (tx_tru ((ex_isi .list ((ex_var (pv 0) (by decide))).peek (pe_bltn (by rfl) T.n_list (by decide +kernel) rfl) (by rfl) T.n_isinstance (by decide +kernel))).peek))))).t (wx_or1 ((wx_and (tx_tru ((ex_isi .tuple ((ex_var (pv 1) (by decide))).peek (pe_bltn (by rfl) T.n_tuple (by decide +kernel) rfl) (by rfl) T.n_isinstance (by decide +kernel))).peek) (wx_and1 (tx_not (tx_tru ((ex_isi .tuple ((ex_var (pv 0) (by decide))).peek (pe_bltn (by rfl) T.n_tuple (by decide +kernel) rfl) (by rfl) T.n_isinstance (by decide +kernel))).peek))))).t))).t (ss_cons (sx_ret ex_bl) ss_nil) ss_nil) (ss_cons (sx_ret (ex_and (ex_cmp (ov_eqD hu64) (ex_b1 cv_lenAll ((ex_var (pv 0) (by decide))).peek (by rfl) T.n_len (by decide +kernel)) (ex_b1 cv_lenAll ((ex_var (pv 1) (by decide))).peek (by rfl) T.n_len (by decide +kernel)) (nomark _)) (ex_one (ex_cmp (ov_eqD hu64) ((en_lc (nm := [("k", 2)]) (vs := [2]) rfl nd (ix_rng1 (by rfl) T.n_range (ex_b1 cv_lenAll ((ex_var (pv 1) (by decide))).peek (by rfl) T.n_len (by decide +kernel))) (blkOk_by (by rfl)) rfl (by decide) (fun _ _ _ _ _ => (gc_name (i := 2) nd rfl (by first | exact .inl rfl | exact .inr rfl) (by decide) (by decide))) (fun _ _ _ _ _ => (ts_one (tx_not (tx_tru ((ex_callC ih (hr.mono (by omega)) (by rfl) (ax_cons (ex_ix (iv_all hu1) (ex_var (pv 0) (by decide)) (ex_var (pv 2) (by decide)) (fun _ _ => rfl)) (ax_cons (ex_ix (iv_all hu1) (ex_var (pv 1) (by decide)) (ex_var (pv 2) (by decide)) (fun _ _ => rfl)) ax_nil)) (len_cons (len_cons len_nil)))).peek)))) (fun _ _ _ _ _ => ex_int))).ex ((en_lst ax_nil)).ex (nomark _))))) ss_nil))))))
abbrev s__law_plus : Stmt := top 21
abbrev N__law_plus : List Str := ["first", "second", "terms", "exponent", "number"]
theorem sc__law_plus : FnScope N__law_plus ["first", "second"] (defScope s__law_plus) := ⟨rfl, rfl, rfl, by decide +kernel, rfl, by decide +kernel, by decide +kernel⟩
theorem ok__law_plus {f : Addr} {fd : FuncData} (Fn : Fun K "_law_plus" "_law_plus" s__law_plus f fd) (T : Txt K mg) : FnOk P w K mg base CX0 1 f fd ["first", "second"] (spF K 2 F__law_plus) := by
  refine ok_pure (own' := [2]) (k := 0) (body := b__law_plus) Fn sc__law_plus (fun args v e => e) (fun cdv A outer s H E hr => ?_)
  have hu64 := hr.units
  have hu65 := units65 hr
  have hu1 := hu_of hr
  have nd := sc__law_plus.nd
  exact (ss_cons (sx_setN (own' := [2]) (i := 2) nd rfl (by first | exact .inl rfl | exact .inr rfl) (by decide) (ownIns (by decide)) (en_t1 (cf_dict rfl) ((ex_var (pv 0) (by decide))).peek (by rfl) T.n_dict (by decide +kernel))) (ss_cons (sx_for PassesOwn.never rfl (ix_seq' (ex_var (pv 1) (by decide))) (gx_tup rfl (gs_cons (gx_name (i := 3) nd rfl (by first | exact .inl rfl | exact .inr rfl) (by decide)) (gs_cons (gx_name (i := 4) nd rfl (by first | exact .inl rfl | exact .inr rfl) (by decide)) gs_nil))) (ss_cons (sx_asg (ex_op ov_addAll (ex_getO hu1 (pv 2) (by decide) (ex_var (pv 3) (by decide)) ex_int ⟨rfl, rfl, rfl, rfl⟩) (ex_var (pv 4) (by decide))) (gx_sub (si_all hu1) (pv 2) (by decide) (ex_var (pv 3) (by decide)))) ss_nil)) (ss_cons (sx_ret (ex_t1 cv_tuple ((en_lc (nm := [("exponent", 3)]) (vs := [3]) rfl nd (ix_seq' ((en_b1 (cf_sorted rfl hu64) (ep_own (pv 2) (by decide)) (by rfl) T.n_sorted (by decide +kernel))).ex) (blkOk_by (by rfl)) rfl (by decide) (fun _ _ _ _ _ => (gc_name (i := 3) nd rfl (by first | exact .inl rfl | exact .inr rfl) (by decide) (by decide))) (fun _ _ _ _ _ => (ts_one (tx_cmp (ov_neD hu64) (ex_ixO (iv_all hu1) (pv 2) (by decide) (ex_var (pv 3) (by decide)) (fun _ _ => rfl)) ex_int (nomark _)))) (fun _ _ _ _ _ => (ex_tup (ax_cons (ex_var (pv 3) (by decide)) (ax_cons (ex_ixO (iv_all hu1) (pv 2) (by decide) (ex_var (pv 3) (by decide)) (fun _ _ => rfl)) ax_nil)))))).peek (by rfl) T.n_tuple (by decide +kernel))) ss_nil)))
abbrev s__law_times : Stmt := top 22
abbrev N__law_times : List Str := ["first", "second", "found", "exponent", "number", "other", "many"]
theorem sc__law_times : FnScope N__law_times ["first", "second"] (defScope s__law_times) := ⟨rfl, rfl, rfl, by decide +kernel, rfl, by decide +kernel, by decide +kernel⟩
theorem ok__law_times {f : Addr} {fd : FuncData} (Fn : Fun K "_law_times" "_law_times" s__law_times f fd) (T : Txt K mg) (c__law_plus : CallOk P w K mg base 1 "_law_plus" 2 F__law_plus) : FnOk P w K mg base CX0 2 f fd ["first", "second"] (spF K 2 F__law_times) := by
  refine ok_pure (own' := []) (k := 1) (body := b__law_times) Fn sc__law_times (fun args v e => e) (fun cdv A outer s H E hr => ?_)
  have hu64 := hr.units
  have hu65 := units65 hr
  have hu1 := hu_of hr
  have nd := sc__law_times.nd
  exact (ss_cons (sx_set (i := 2) nd rfl (by first | exact .inl rfl | exact .inr rfl) (by decide) (ex_tup ax_nil)) (ss_cons (sx_for PassesOwn.never rfl (ix_seq' (ex_var (pv 0) (by decide))) (gx_tup rfl (gs_cons (gx_name (i := 3) nd rfl (by first | exact .inl rfl | exact .inr rfl) (by decide)) (gs_cons (gx_name (i := 4) nd rfl (by first | exact .inl rfl | exact .inr rfl) (by decide)) gs_nil))) (ss_cons (sx_set (i := 2) nd rfl (by first | exact .inl rfl | exact .inr rfl) (by decide) (ex_callC c__law_plus (hr.mono (by decide)) (by rfl) (ax_cons (ex_var (pv 2) (by decide)) (ax_cons (ex_t1 cv_tuple ((en_lc (nm := [("other", 5), ("many", 6)]) (vs := [5, 6]) rfl nd (ix_seq' (ex_var (pv 1) (by decide))) (blkOk_by (by rfl)) rfl (by decide) (fun _ _ _ _ _ => (gc_tup rfl (gcs_cons (gc_name (i := 5) nd rfl (by first | exact .inl rfl | exact .inr rfl) (by decide) (by decide)) (gcs_cons (gc_name (i := 6) nd rfl (by first | exact .inl rfl | exact .inr rfl) (by decide) (by decide)) gcs_nil)))) (fun _ _ _ _ _ => ts_nil) (fun _ _ _ _ _ => (ex_tup (ax_cons (ex_op ov_addAll (ex_var (pv 3) (by decide)) (ex_var (pv 5) (by decide))) (ax_cons (ex_op ov_mul (ex_var (pv 4) (by decide)) (ex_var (pv 6) (by decide))) ax_nil)))))).peek (by rfl) T.n_tuple (by decide +kernel)) ax_nil)) (len_cons (len_cons len_nil)))) ss_nil)) (ss_cons (sx_ret (ex_var (pv 2) (by decide))) ss_nil)))
abbrev s__law_power : Stmt := top 23
abbrev N__law_power : List Str := ["polynomial", "many", "found", "turn"]
theorem sc__law_power : FnScope N__law_power ["polynomial", "many"] (defScope s__law_power) := ⟨rfl, rfl, rfl, by decide +kernel, rfl, by decide +kernel, by decide +kernel⟩
theorem ok__law_power {f : Addr} {fd : FuncData} (Fn : Fun K "_law_power" "_law_power" s__law_power f fd) (T : Txt K mg) (c__law_times : CallOk P w K mg base 2 "_law_times" 2 F__law_times) : FnOk P w K mg base CX0 3 f fd ["polynomial", "many"] (spF K 2 F__law_power) := by
  refine ok_pure (own' := []) (k := 2) (body := b__law_power) Fn sc__law_power (fun args v e => e) (fun cdv A outer s H E hr => ?_)
  have hu64 := hr.units
  have hu65 := units65 hr
  have hu1 := hu_of hr
  have nd := sc__law_power.nd
  exact (ss_cons (sx_set (i := 2) nd rfl (by first | exact .inl rfl | exact .inr rfl) (by decide) (ex_tup (ax_cons (ex_tup (ax_cons ex_int (ax_cons ex_int ax_nil))) ax_nil))) (ss_cons (sx_for PassesOwn.never rfl (ix_rng1 (by rfl) T.n_range (ex_var (pv 1) (by decide))) (gx_name (i := 3) nd rfl (by first | exact .inl rfl | exact .inr rfl) (by decide)) (ss_cons (sx_set (i := 2) nd rfl (by first | exact .inl rfl | exact .inr rfl) (by decide) (ex_callC c__law_times (hr.mono (by decide)) (by rfl) (ax_cons (ex_var (pv 2) (by decide)) (ax_cons (ex_var (pv 0) (by decide)) ax_nil)) (len_cons (len_cons len_nil)))) ss_nil)) (ss_cons (sx_ret (ex_var (pv 2) (by decide))) ss_nil)))
abbrev s__law_determinant : Stmt := top 24
abbrev N__law_determinant : List Str := ["rows", "total", "k", "part", "row", "exponent", "number"]
theorem sc__law_determinant : FnScope N__law_determinant ["rows"] (defScope s__law_determinant) := ⟨rfl, rfl, rfl, by decide +kernel, rfl, by decide +kernel, by decide +kernel⟩
theorem ok__law_determinant {f : Addr} {fd : FuncData} (Fn : Fun K "_law_determinant" "_law_determinant" s__law_determinant f fd) (T : Txt K mg) (hg : mg "_law_determinant" = some (.ref f)) (bi : Binds K fd ["rows"] []) (c__law_times : CallOk P w K mg base 2 "_law_times" 2 F__law_times) (c__law_plus : CallOk P w K mg base 1 "_law_plus" 2 F__law_plus) : ∀ n, FnOk P w K mg base CX0 (3 + n) f fd ["rows"] (spF K 1 (F__law_determinant n))
  | 0 => ok_none (by rfl)
  | n + 1 => by
    have ih : CallOk P w K mg base (3 + n) "_law_determinant" 1 (F__law_determinant n) := ⟨f, fd, ["rows"], hg, ok__law_determinant Fn T hg bi c__law_times c__law_plus n, Fn.kp, bi, rfl⟩
    refine ok_pure (own' := []) (k := 3 + n) (body := b__law_determinant (F__law_determinant n)) Fn sc__law_determinant (fun args v e => e) (fun cdv A outer s H E hr => ?_)
    have hu64 := hr.units
    have hu65 := units65 hr
    have hu1 := hu_of hr
    have nd := sc__law_determinant.nd
    exact (ss_cons (sx_if (tx_cmp (ov_eqD hu64) (ex_var (pv 0) (by decide)) ((en_lst ax_nil)).ex (nomark _)) (ss_cons (sx_ret (ex_tup (ax_cons (ex_tup (ax_cons ex_int (ax_cons ex_int ax_nil))) ax_nil))) ss_nil) ss_nil) (ss_cons (sx_set (i := 1) nd rfl (by first | exact .inl rfl | exact .inr rfl) (by decide) (ex_tup ax_nil)) (ss_cons (sx_for PassesOwn.never rfl (ix_rng1 (by rfl) T.n_range (ex_b1 cv_lenAll ((ex_var (pv 0) (by decide))).peek (by rfl) T.n_len (by decide +kernel))) (gx_name (i := 2) nd rfl (by first | exact .inl rfl | exact .inr rfl) (by decide)) (ss_cons (sx_set (i := 3) nd rfl (by first | exact .inl rfl | exact .inr rfl) (by decide) (ex_callC c__law_times (hr.mono (by omega)) (by rfl) (ax_cons (ex_ix (iv_all hu1) (ex_ix (iv_all hu1) (ex_var (pv 0) (by decide)) ex_int (fun _ _ => rfl)) (ex_var (pv 2) (by decide)) (fun _ _ => rfl)) (ax_cons (ex_callC ih (hr.mono (by omega)) (by rfl) (ax_cons ((en_lc (nm := [("row", 4)]) (vs := [4]) rfl nd (ix_seq' (ex_slice sv_seq (ex_var (pv 0) (by decide)) (px_some ex_int) px_none)) (blkOk_by (by rfl)) rfl (by decide) (fun _ _ _ _ _ => (gc_name (i := 4) nd rfl (by first | exact .inl rfl | exact .inr rfl) (by decide) (by decide))) (fun _ _ _ _ _ => ts_nil) (fun _ _ _ _ _ => (ex_op ov_addAll (ex_slice sv_seq (ex_var (pv 4) (by decide)) px_none (px_some (ex_var (pv 2) (by decide)))) (ex_slice sv_seq (ex_var (pv 4) (by decide)) (px_some (ex_op ov_addAll (ex_var (pv 2) (by decide)) ex_int)) px_none))))).ex ax_nil) (len_cons len_nil)) ax_nil)) (len_cons (len_cons len_nil)))) (ss_cons (sx_set (i := 1) nd rfl (by first | exact .inl rfl | exact .inr rfl) (by decide) (ex_callC c__law_plus (hr.mono (by omega)) (by rfl) (ax_cons (ex_var (pv 1) (by decide)) (ax_cons (ex_ifExp (tx_cmp (ov_eqD hu64) (ex_op ov_mod (ex_t1 cv_int ((ex_var (pv 2) (by decide))).peek (by rfl) T.n_int (by decide +kernel)) ex_int) ex_int (nomark _)) (ex_var (pv 3) (by decide)) (ex_t1 cv_tuple ((en_lc (nm := [("exponent", 5), ("number", 6)]) (vs := [5, 6]) rfl nd (ix_seq' (ex_var (pv 3) (by decide))) (blkOk_by (by rfl)) rfl (by decide) (fun _ _ _ _ _ => (gc_tup rfl (gcs_cons (gc_name (i := 5) nd rfl (by first | exact .inl rfl | exact .inr rfl) (by decide) (by decide)) (gcs_cons (gc_name (i := 6) nd rfl (by first | exact .inl rfl | exact .inr rfl) (by decide) (by decide)) gcs_nil)))) (fun _ _ _ _ _ => ts_nil) (fun _ _ _ _ _ => (ex_tup (ax_cons (ex_var (pv 5) (by decide)) (ax_cons (ex_op ov_sub ex_int (ex_var (pv 6) (by decide))) ax_nil)))))).peek (by rfl) T.n_tuple (by decide +kernel))) ax_nil)) (len_cons (len_cons len_nil)))) ss_nil))) (ss_cons (sx_ret (ex_var (pv 1) (by decide))) ss_nil))))
abbrev s__law_choices : Stmt := top 25
abbrev N__law_choices : List Str := ["total", "some", "row", "turn", "k"]
theorem sc__law_choices : FnScope N__law_choices ["total", "some"] (defScope s__law_choices) := ⟨rfl, rfl, rfl, by decide +kernel, rfl, by decide +kernel, by decide +kernel⟩
theorem ok__law_choices {f : Addr} {fd : FuncData} (Fn : Fun K "_law_choices" "_law_choices" s__law_choices f fd) (T : Txt K mg) : FnOk P w K mg base CX0 1 f fd ["total", "some"] (spF K 2 F__law_choices) := by
  refine ok_pure (own' := []) (k := 0) (body := b__law_choices) Fn sc__law_choices (fun args v e => e) (fun cdv A outer s H E hr => ?_)
  have hu64 := hr.units
  have hu65 := units65 hr
  have hu1 := hu_of hr
  have nd := sc__law_choices.nd
  exact (ss_cons (sx_if ((wx_or (tx_cmp ov_lt (ex_var (pv 1) (by decide)) ex_int (nomark _)) (wx_or1 (tx_cmp ov_gt (ex_var (pv 1) (by decide)) (ex_var (pv 0) (by decide)) (nomark _))))).t (ss_cons (sx_ret ex_int) ss_nil) ss_nil) (ss_cons (sx_set (i := 2) nd rfl (by first | exact .inl rfl | exact .inr rfl) (by decide) ((en_lst (ax_cons ex_int ax_nil))).ex) (ss_cons (sx_for PassesOwn.never rfl (ix_rng1 (by rfl) T.n_range (ex_var (pv 0) (by decide))) (gx_name (i := 3) nd rfl (by first | exact .inl rfl | exact .inr rfl) (by decide)) (ss_cons (sx_set (i := 2) nd rfl (by first | exact .inl rfl | exact .inr rfl) (by decide) (ex_op ov_addAll (ex_op ov_addAll ((en_lst (ax_cons ex_int ax_nil))).ex ((en_lc (nm := [("k", 4)]) (vs := [4]) rfl nd (ix_rng1 (by rfl) T.n_range (ex_op ov_sub (ex_b1 cv_lenAll ((ex_var (pv 2) (by decide))).peek (by rfl) T.n_len (by decide +kernel)) ex_int)) (blkOk_by (by rfl)) rfl (by decide) (fun _ _ _ _ _ => (gc_name (i := 4) nd rfl (by first | exact .inl rfl | exact .inr rfl) (by decide) (by decide))) (fun _ _ _ _ _ => ts_nil) (fun _ _ _ _ _ => (ex_op ov_addAll (ex_ix (iv_all hu1) (ex_var (pv 2) (by decide)) (ex_var (pv 4) (by decide)) (fun _ _ => rfl)) (ex_ix (iv_all hu1) (ex_var (pv 2) (by decide)) (ex_op ov_addAll (ex_var (pv 4) (by decide)) ex_int) (fun _ _ => rfl)))))).ex) ((en_lst (ax_cons ex_int ax_nil))).ex)) ss_nil)) (ss_cons (sx_ret (ex_ix (iv_all hu1) (ex_var (pv 2) (by decide)) (ex_var (pv 1) (by decide)) (fun _ _ => rfl))) ss_nil))))
abbrev s__law_value : Stmt := top 26
abbrev N__law_value : List Str := ["polynomial", "point", "total", "power", "terms", "exponent"]
theorem sc__law_value : FnScope N__law_value ["polynomial", "point"] (defScope s__law_value) := ⟨rfl, rfl, rfl, by decide +kernel, rfl, by decide +kernel, by decide +kernel⟩
theorem ok__law_value {f : Addr} {fd : FuncData} (Fn : Fun K "_law_value" "_law_value" s__law_value f fd) (T : Txt K mg) : FnOk P w K mg base CX0 1 f fd ["polynomial", "point"] (spF K 2 F__law_value) := by
  refine ok_pure (own' := []) (k := 0) (body := b__law_value) Fn sc__law_value (fun args v e => e) (fun cdv A outer s H E hr => ?_)
  have hu64 := hr.units
  have hu65 := units65 hr
  have hu1 := hu_of hr
  have nd := sc__law_value.nd
  exact (ss_cons (sx_asg (ex_tup (ax_cons ex_int (ax_cons ex_int ax_nil))) (gx_tup rfl (gs_cons (gx_name (i := 2) nd rfl (by first | exact .inl rfl | exact .inr rfl) (by decide)) (gs_cons (gx_name (i := 3) nd rfl (by first | exact .inl rfl | exact .inr rfl) (by decide)) gs_nil)))) (ss_cons (sx_set (i := 4) nd rfl (by first | exact .inl rfl | exact .inr rfl) (by decide) ((en_t1 (cf_dict rfl) ((ex_var (pv 0) (by decide))).peek (by rfl) T.n_dict (by decide +kernel))).ex) (ss_cons (sx_for PassesOwn.never rfl (ix_rng1 (by rfl) T.n_range (ex_ifExp (tx_cmp (ov_neD hu64) (ex_var (pv 0) (by decide)) (ex_tup ax_nil) (nomark _)) (ex_op ov_addAll (ex_ix (iv_all hu1) (ex_ix (iv_all hu1) (ex_var (pv 0) (by decide)) (ex_un uv_neg ex_int) (fun _ _ => rfl)) ex_int (fun _ _ => rfl)) ex_int) ex_int)) (gx_name (i := 5) nd rfl (by first | exact .inl rfl | exact .inr rfl) (by decide)) (ss_cons (sx_par (i := 2) (j := 3) rfl nd rfl rfl (by decide) rfl rfl (ex_op ov_addAll (ex_var (pv 2) (by decide)) (ex_op ov_mul (ex_get hu1 (ex_var (pv 4) (by decide)) (ex_var (pv 5) (by decide)) ex_int ⟨rfl, rfl, rfl, rfl⟩) (ex_var (pv 3) (by decide)))) (ex_op ov_mul (ex_var (pv 3) (by decide)) (ex_var (pv 1) (by decide))) (by decide) (by decide)) ss_nil)) (ss_cons (sx_ret (ex_var (pv 2) (by decide))) ss_nil))))
abbrev s_law : Stmt := top 27
abbrev N_law : List Str := ["script", "tape", "many", "rows", "due", "other", "one", "k", "told", "product", "polynomials", "minus_v", "exponent", "number", "power", "point", "before", "now", "turn", "total", "some"]
theorem sc_law : FnScope N_law ["script"] (defScope s_law) := ⟨rfl, rfl, rfl, by decide +kernel, rfl, by decide +kernel, by decide +kernel⟩
theorem ok_law {f : Addr} {fd : FuncData} (Fn : Fun K "law" "law" s_law f fd) (T : Txt K mg) (c_half_diagrams : CallOk P w K mg base 14 "half_diagrams" 1 F_half_diagrams) (c_gram_determinant : CallOk P w K mg base 5 "gram_determinant" 1 F_gram_determinant) (c__law_next : CallIo P w K mg base 1 "_law_next" 2 0 F__law_next) (c__law_times : CallOk P w K mg base 2 "_law_times" 2 F__law_times) (c__law_same : CallOk P w K mg base 9 "_law_same" 2 (F__law_same 8)) (c__law_value : CallOk P w K mg base 1 "_law_value" 2 F__law_value) (c__law_plus : CallOk P w K mg base 1 "_law_plus" 2 F__law_plus) (c__law_choices : CallOk P w K mg base 1 "_law_choices" 2 F__law_choices) (c__law_power : CallOk P w K mg base 3 "_law_power" 2 F__law_power) (c_chebyshev : CallOk P w K mg base 4 "chebyshev" 1 F_chebyshev) (c_gram_table : CallOk P w K mg base 15 "gram_table" 1 F_gram_table) (c_determinant_of_gram : CallOk P w K mg base 16 "determinant_of_gram" 1 F_determinant_of_gram) (c_choices : CallOk P w K mg base 1 "choices" 2 F_choices) (c_circles_of : CallOk P w K mg base 1 "circles_of" 2 F_circles_of) (c__law_determinant : CallOk P w K mg base 11 "_law_determinant" 1 (F__law_determinant 8)) : FnOk P w K mg base CX0 17 f fd ["script"] (spF K 1 F_law) := by
  refine ok_pure (own' := [1, 10]) (k := 16) (body := b_law) Fn sc_law (fun args v e => e) (fun cdv A outer s H E hr => ?_)
  have hu64 := hr.units
  have hu65 := units65 hr
  have hu1 := hu_of hr
  have nd := sc_law.nd
  exact (ss_cons (sx_setN (own' := [1]) (i := 1) nd rfl (by first | exact .inl rfl | exact .inr rfl) (by decide) (ownIns (by decide)) (en_lst (ax_cons ((en_t1 (cf_listAll rfl) ((ex_var (pv 0) (by decide))).peek (by rfl) T.n_list (by decide +kernel))).ex (ax_cons ex_int (ax_cons ex_int (ax_cons ex_int ax_nil)))))) (ss_cons (sx_set (i := 2) nd rfl (by first | exact .inl rfl | exact .inr rfl) (by decide) (ex_op ov_addAll ex_int (ex_callIC c__law_next (hr.mono (by decide)) (by rfl) (by decide) (ox_hole (pv 1) (by decide) (ox_cons ex_int ox_nil)) (hole_ok (oh_hole (oh_cons oh_nil)) (by decide))))) (ss_cons (sx_set (i := 3) nd rfl (by first | exact .inl rfl | exact .inr rfl) (by decide) (ex_callC c_half_diagrams (hr.mono (by decide)) (by rfl) (ax_cons (ex_var (pv 2) (by decide)) ax_nil) (len_cons len_nil))) (ss_cons (sx_lc (i := 4) (nm := [("one", 6)]) (vs := [6]) rfl nd rfl rfl (by decide) (sw_true rfl rfl rfl (by decide +kernel)) (ix_seq' (ex_var (pv 3) (by decide))) (blkOk_by (by rfl)) rfl (by decide) (fun _ _ _ _ _ => (gc_name (i := 6) nd rfl (by first | exact .inl rfl | exact .inr rfl) (by decide) (by decide))) (fun _ _ _ _ _ => ts_nil) (fun _ _ _ _ _ => ((en_lc (nm := [("other", 5)]) (vs := [5]) rfl nd (ix_seq' (ex_var (pv 3) (by decide))) (blkOk_by (by rfl)) rfl (by decide) (fun _ _ _ _ _ => (gc_name (i := 5) nd rfl (by first | exact .inl rfl | exact .inr rfl) (by decide) (by decide))) (fun _ _ _ _ _ => ts_nil) (fun _ _ _ _ _ => (ex_tup (ax_cons (ex_tup (ax_cons (ex_callC c_circles_of (hr.mono (by decide)) (by rfl) (ax_cons (ex_var (pv 6) (by decide)) (ax_cons (ex_var (pv 5) (by decide)) ax_nil)) (len_cons (len_cons len_nil))) (ax_cons ex_int ax_nil))) ax_nil))))).ex)) (ss_cons (sx_if ((wx_or (tx_not (tx_tru ((ex_callC c__law_same (hr.mono (by decide)) (by rfl) (ax_cons (ex_callC c_gram_table (hr.mono (by decide)) (by rfl) (ax_cons (ex_var (pv 2) (by decide)) ax_nil) (len_cons len_nil)) (ax_cons (ex_var (pv 4) (by decide)) ax_nil)) (len_cons (len_cons len_nil)))).peek)) (wx_or1 (tx_cmp (ov_neD hu64) ((en_lc (nm := [("k", 7)]) (vs := [7]) rfl nd (ix_rng1 (by rfl) T.n_range (ex_b1 cv_lenAll ((ex_var (pv 3) (by decide))).peek (by rfl) T.n_len (by decide +kernel))) (blkOk_by (by rfl)) rfl (by decide) (fun _ _ _ _ _ => (gc_name (i := 7) nd rfl (by first | exact .inl rfl | exact .inr rfl) (by decide) (by decide))) (fun _ _ _ _ _ => (ts_one (tx_cmp (ov_neD hu64) (ex_callC c_circles_of (hr.mono (by decide)) (by rfl) (ax_cons (ex_ix (iv_all hu1) (ex_var (pv 3) (by decide)) (ex_var (pv 7) (by decide)) (fun _ _ => rfl)) (ax_cons (ex_ix (iv_all hu1) (ex_var (pv 3) (by decide)) (ex_var (pv 7) (by decide)) (fun _ _ => rfl)) ax_nil)) (len_cons (len_cons len_nil))) (ex_var (pv 2) (by decide)) (nomark _)))) (fun _ _ _ _ _ => (ex_var (pv 7) (by decide))))).ex ((en_lst ax_nil)).ex (nomark _))))).t (ss_cons (sx_ret ex_bl) ss_nil) ss_nil) (ss_cons (sx_set (i := 8) nd rfl (by first | exact .inl rfl | exact .inr rfl) (by decide) (ex_callC c_gram_determinant (hr.mono (by decide)) (by rfl) (ax_cons (ex_var (pv 2) (by decide)) ax_nil) (len_cons len_nil))) (ss_cons (sx_if ((wx_or (tx_not (tx_tru ((ex_callC c__law_same (hr.mono (by decide)) (by rfl) (ax_cons (ex_callC c_determinant_of_gram (hr.mono (by decide)) (by rfl) (ax_cons (ex_var (pv 2) (by decide)) ax_nil) (len_cons len_nil)) (ax_cons (ex_var (pv 8) (by decide)) ax_nil)) (len_cons (len_cons len_nil)))).peek)) (wx_or1 ((wx_and (tx_cmp ov_lt (ex_var (pv 2) (by decide)) ex_int (nomark _)) (wx_and1 (tx_not (tx_tru ((ex_callC c__law_same (hr.mono (by decide)) (by rfl) (ax_cons (ex_var (pv 8) (by decide)) (ax_cons (ex_callC c__law_determinant (hr.mono (by decide)) (by rfl) (ax_cons (ex_var (pv 4) (by decide)) ax_nil) (len_cons len_nil)) ax_nil)) (len_cons (len_cons len_nil)))).peek))))).t))).t (ss_cons (sx_ret ex_bl) ss_nil) ss_nil) (ss_cons (sx_set (i := 9) nd rfl (by first | exact .inl rfl | exact .inr rfl) (by decide) (ex_tup (ax_cons (ex_tup (ax_cons ex_int (ax_cons ex_int ax_nil))) ax_nil))) (ss_cons (sx_setN (own' := [1, 10]) (i := 10) nd rfl (by first | exact .inl rfl | exact .inr rfl) (by decide) (ownIns (by decide)) (en_lst (ax_cons (ex_tup (ax_cons (ex_tup (ax_cons ex_int (ax_cons ex_int ax_nil))) ax_nil)) (ax_cons (ex_tup (ax_cons (ex_tup (ax_cons ex_int (ax_cons ex_int ax_nil))) ax_nil)) ax_nil)))) (ss_cons (sx_for PassesOwn.never rfl (ix_rng1 (by rfl) T.n_range ex_int) (gx_name (i := 7) nd rfl (by first | exact .inl rfl | exact .inr rfl) (by decide)) (ss_cons (sx_set (i := 11) nd rfl (by first | exact .inl rfl | exact .inr rfl) (by decide) (ex_t1 cv_tuple ((en_lc (nm := [("exponent", 12), ("number", 13)]) (vs := [12, 13]) rfl nd (ix_seq' (ex_ixO (iv_all hu1) (pv 10) (by decide) (ex_un uv_neg ex_int) (fun _ _ => rfl))) (blkOk_by (by rfl)) rfl (by decide) (fun _ _ _ _ _ => (gc_tup rfl (gcs_cons (gc_name (i := 12) nd rfl (by first | exact .inl rfl | exact .inr rfl) (by decide) (by decide)) (gcs_cons (gc_name (i := 13) nd rfl (by first | exact .inl rfl | exact .inr rfl) (by decide) (by decide)) gcs_nil)))) (fun _ _ _ _ _ => ts_nil) (fun _ _ _ _ _ => (ex_tup (ax_cons (ex_var (pv 12) (by decide)) (ax_cons (ex_op ov_sub ex_int (ex_var (pv 13) (by decide))) ax_nil)))))).peek (by rfl) T.n_tuple (by decide +kernel))) (ss_cons (sx_expr (ex_mt PySem.F.plainAttrs_list PySem.F.slot_list_append PySem.F.type_list_append mi_append ty_lst (pv 10) (by decide) (ax_cons (ex_callC c__law_plus (hr.mono (by decide)) (by rfl) (ax_cons (ex_callC c__law_times (hr.mono (by decide)) (by rfl) (ax_cons (ex_tup (ax_cons (ex_tup (ax_cons ex_int (ax_cons ex_int ax_nil))) ax_nil)) (ax_cons (ex_ixO (iv_all hu1) (pv 10) (by decide) (ex_un uv_neg ex_int) (fun _ _ => rfl)) ax_nil)) (len_cons (len_cons len_nil))) (ax_cons (ex_var (pv 11) (by decide)) ax_nil)) (len_cons (len_cons len_nil))) ax_nil))) ss_nil))) (ss_cons (sx_for PassesOwn.never rfl (ix_rng2 (by rfl) T.n_range ex_int (ex_op ov_addAll (ex_var (pv 2) (by decide)) ex_int)) (gx_name (i := 7) nd rfl (by first | exact .inl rfl | exact .inr rfl) (by decide)) (ss_cons (sx_set (i := 14) nd rfl (by first | exact .inl rfl | exact .inr rfl) (by decide) (ex_op ov_addAll (ex_op ov_sub (ex_callC c__law_choices (hr.mono (by decide)) (by rfl) (ax_cons (ex_op ov_mul ex_int (ex_var (pv 2) (by decide))) (ax_cons (ex_op ov_sub (ex_var (pv 2) (by decide)) (ex_var (pv 7) (by decide))) ax_nil)) (len_cons (len_cons len_nil))) (ex_op ov_mul ex_int (ex_callC c__law_choices (hr.mono (by decide)) (by rfl) (ax_cons (ex_op ov_mul ex_int (ex_var (pv 2) (by decide))) (ax_cons (ex_op ov_sub (ex_op ov_sub (ex_var (pv 2) (by decide)) (ex_var (pv 7) (by decide))) ex_int) ax_nil)) (len_cons (len_cons len_nil))))) (ex_callC c__law_choices (hr.mono (by decide)) (by rfl) (ax_cons (ex_op ov_mul ex_int (ex_var (pv 2) (by decide))) (ax_cons (ex_op ov_sub (ex_op ov_sub (ex_var (pv 2) (by decide)) (ex_var (pv 7) (by decide))) ex_int) ax_nil)) (len_cons (len_cons len_nil))))) (ss_cons (sx_set (i := 9) nd rfl (by first | exact .inl rfl | exact .inr rfl) (by decide) (ex_callC c__law_times (hr.mono (by decide)) (by rfl) (ax_cons (ex_var (pv 9) (by decide)) (ax_cons (ex_callC c__law_power (hr.mono (by decide)) (by rfl) (ax_cons (ex_ixO (iv_all hu1) (pv 10) (by decide) (ex_var (pv 7) (by decide)) (fun _ _ => rfl)) (ax_cons (ex_var (pv 14) (by decide)) ax_nil)) (len_cons (len_cons len_nil))) ax_nil)) (len_cons (len_cons len_nil)))) ss_nil))) (ss_cons (sx_if (tx_not (tx_tru ((ex_callC c__law_same (hr.mono (by decide)) (by rfl) (ax_cons (ex_var (pv 8) (by decide)) (ax_cons (ex_var (pv 9) (by decide)) ax_nil)) (len_cons (len_cons len_nil)))).peek)) (ss_cons (sx_ret ex_bl) ss_nil) ss_nil) (ss_cons (sx_par (i := 7) (j := 15) rfl nd rfl rfl (by decide) rfl rfl (ex_callIC c__law_next (hr.mono (by decide)) (by rfl) (by decide) (ox_hole (pv 1) (by decide) (ox_cons ex_int ox_nil)) (hole_ok (oh_hole (oh_cons oh_nil)) (by decide))) (ex_op ov_sub (ex_callIC c__law_next (hr.mono (by decide)) (by rfl) (by decide) (ox_hole (pv 1) (by decide) (ox_cons ex_int ox_nil)) (hole_ok (oh_hole (oh_cons oh_nil)) (by decide))) ex_int) (by decide) (by decide)) (ss_cons (sx_asg (ex_tup (ax_cons ex_int (ax_cons ex_int ax_nil))) (gx_tup rfl (gs_cons (gx_name (i := 16) nd rfl (by first | exact .inl rfl | exact .inr rfl) (by decide)) (gs_cons (gx_name (i := 17) nd rfl (by first | exact .inl rfl | exact .inr rfl) (by decide)) gs_nil)))) (ss_cons (sx_for PassesOwn.never rfl (ix_rng1 (by rfl) T.n_range (ex_var (pv 7) (by decide))) (gx_name (i := 18) nd rfl (by first | exact .inl rfl | exact .inr rfl) (by decide)) (ss_cons (sx_par (i := 16) (j := 17) rfl nd rfl rfl (by decide) rfl rfl (ex_var (pv 17) (by decide)) (ex_op ov_sub (ex_op ov_mul (ex_var (pv 15) (by decide)) (ex_var (pv 17) (by decide))) (ex_var (pv 16) (by decide))) (by decide) (by decide)) ss_nil)) (ss_cons (sx_par (i := 19) (j := 20) rfl nd rfl rfl (by decide) rfl rfl (ex_callIC c__law_next (hr.mono (by decide)) (by rfl) (by decide) (ox_hole (pv 1) (by decide) (ox_cons ex_int ox_nil)) (hole_ok (oh_hole (oh_cons oh_nil)) (by decide))) (ex_op ov_sub (ex_callIC c__law_next (hr.mono (by decide)) (by rfl) (by decide) (ox_hole (pv 1) (by decide) (ox_cons ex_int ox_nil)) (hole_ok (oh_hole (oh_cons oh_nil)) (by decide))) ex_int) (by decide) (by decide)) (ss_cons (sx_if (tx_not (tx_tru ((ex_callC c__law_same (hr.mono (by decide)) (by rfl) (ax_cons ((en_lst (ax_cons (ex_callC c_chebyshev (hr.mono (by decide)) (by rfl) (ax_cons (ex_var (pv 7) (by decide)) ax_nil) (len_cons len_nil)) (ax_cons (ex_callC c_choices (hr.mono (by decide)) (by rfl) (ax_cons (ex_var (pv 19) (by decide)) (ax_cons (ex_var (pv 20) (by decide)) ax_nil)) (len_cons (len_cons len_nil))) ax_nil)))).ex (ax_cons ((en_lst (ax_cons (ex_ixO (iv_all hu1) (pv 10) (by decide) (ex_var (pv 7) (by decide)) (fun _ _ => rfl)) (ax_cons (ex_callC c__law_choices (hr.mono (by decide)) (by rfl) (ax_cons (ex_var (pv 19) (by decide)) (ax_cons (ex_var (pv 20) (by decide)) ax_nil)) (len_cons (len_cons len_nil))) ax_nil)))).ex ax_nil)) (len_cons (len_cons len_nil)))).peek)) (ss_cons (sx_ret ex_bl) ss_nil) ss_nil) (ss_cons (sx_ret (ex_cmp (ov_eqD hu64) (ex_callC c__law_value (hr.mono (by decide)) (by rfl) (ax_cons (ex_callC c_chebyshev (hr.mono (by decide)) (by rfl) (ax_cons (ex_var (pv 7) (by decide)) ax_nil) (len_cons len_nil)) (ax_cons (ex_var (pv 15) (by decide)) ax_nil)) (len_cons (len_cons len_nil))) (ex_var (pv 17) (by decide)) (nomark _))) ss_nil))))))))))))))))))
end
end PT.k75

set_option Elab.async false
set_option linter.all false
set_option autoImplicit false
set_option maxRecDepth 100000
set_option maxHeartbeats 4000000
/-! PM0: how the printed functions are evaluated: sequences, loops, lists of items. -/
namespace PT

/-! ### one step -/
theorem seq_nx {f g : SF} {ρ ρ' : Env} (h : f ρ = some (.nx, ρ')) : fSeq f g ρ = g ρ' := by unfold fSeq; rw [h]; rfl
theorem seq_rt {f g : SF} {ρ ρ' : Env} {v : PV} (h : f ρ = some (.rt v, ρ')) : fSeq f g ρ = some (.rt v, ρ') := by unfold fSeq; rw [h]; rfl
theorem run_rt {n : Nat} {b : SF} {args : List PV} {v : PV} {ρ' : Env} (h : b (startP n args) = some (.rt v, ρ')) : runB n b args = some v := by unfold runB; rw [h]; rfl
theorem run_nx {n : Nat} {b : SF} {args : List PV} {ρ' : Env} (h : b (startP n args) = some (.nx, ρ')) : runB n b args = some .non := by unfold runB; rw [h]; rfl
theorem if_tt {α : Type} {c : TF} {f g : Env → Option (α × Env)} {ρ ρ' : Env} (h : c ρ = some (true, ρ')) : fIf c f g ρ = f ρ' := by unfold fIf; rw [h]; rfl
theorem if_ff {α : Type} {c : TF} {f g : Env → Option (α × Env)} {ρ ρ' : Env} (h : c ρ = some (false, ρ')) : fIf c f g ρ = g ρ' := by unfold fIf; rw [h]; rfl


/-! ### the parts, at slots -/
section
variable {α : Type} {f g h : EF} {c d : TF} {a b : AF} {s t : SF} {ρ : Env} {i j n : Nat} {v p q : PV} {G : G2} {GL' : GL} {ps : List PV}
theorem ap_seq : fSeq s t ρ = (s ρ).bind fun r => match r.1 with | .nx => t r.2 | fl => some (fl, r.2) := rfl
theorem ap_nx : fNx ρ = some (.nx, ρ) := rfl
theorem ap_ret : fRet f ρ = (f ρ).bind fun r => some (.rt r.1, r.2) := rfl
theorem ap_drop : fDrop f ρ = (f ρ).bind fun r => some (.nx, r.2) := rfl
theorem ap_set : fSet i f ρ = (f ρ).bind fun r => some (.nx, r.2.set i (some r.1)) := rfl
theorem ap_list : fList GL' a ρ = (a ρ).bind fun r => (GL' r.1).map fun v => (v, r.2) := rfl
theorem ap_aNil : aNil ρ = some ([], ρ) := rfl
theorem ap_aCons : aCons f a ρ = (f ρ).bind fun r => (a r.2).bind fun s => some (r.1 :: s.1, s.2) := rfl
theorem ap_a1 : a1 f ρ = (f ρ).bind fun r => some ([r.1], r.2) := rfl
theorem ap_var : fVar i ρ = (look ρ i).map fun v => (v, ρ) := rfl
theorem ap_look : look ρ i = match ρ[i]? with | some (some v) => some v | _ => none := rfl
theorem ap_c : fC v ρ = some (v, ρ) := rfl
theorem ap_op : fOp G f g ρ = (f ρ).bind fun r => (g r.2).bind fun s => (G r.1 s.1).map fun v => (v, s.2) := rfl
theorem ap_opO : fOpO G i g ρ = (look ρ i).bind fun _ => (g ρ).bind fun s => (look s.2 i).bind fun p => (G p s.1).map fun v => (v, s.2) := rfl
theorem ap_un {U : PV → Option PV} : fUn U f ρ = (f ρ).bind fun r => (U r.1).map fun v => (v, r.2) := rfl
theorem ap_test : fTest f ρ = (f ρ).bind fun r => match r.1 with | .bl b => some (b, r.2) | _ => none := rfl
theorem ap_if {x y : Env → Option (α × Env)} : fIf c x y ρ = (c ρ).bind fun r => if r.1 = true then x r.2 else y r.2 := rfl
theorem ap_notT : fNotT c ρ = (c ρ).bind fun r => some (!r.1, r.2) := rfl
theorem ap_andT : fAndT c d ρ = (c ρ).bind fun r => if r.1 = true then d r.2 else some (false, r.2) := rfl
theorem ap_orT : fOrT c d ρ = (c ρ).bind fun r => if r.1 = true then some (true, r.2) else d r.2 := rfl
theorem ap_tru : fTru f ρ = (f ρ).bind fun r => (gTru r.1).map fun b => (b, r.2) := rfl
theorem ap_notV : fNotV f ρ = (f ρ).bind fun r => (match r.1 with | .bl b => some (.bl (!b)) | _ => none : Option PV).map fun v => (v, r.2) := rfl
theorem ap_andV : fAndV f g ρ = (f ρ).bind fun r => match r.1 with | .bl true => g r.2 | .bl false => some (.bl false, r.2) | _ => none := rfl
theorem ap_orV : fOrV f g ρ = (f ρ).bind fun r => match r.1 with | .bl false => g r.2 | .bl true => some (.bl true, r.2) | _ => none := rfl
theorem ap_for {T : PV → Env → Option Env} : fFor a T s ρ = (a ρ).bind fun r => loopF T s r.1 r.2 := rfl
theorem ap_iS : iS f ρ = (f ρ).bind fun r => (rowOf r.1).map fun xs => (xs, r.2) := rfl
theorem ap_iR1 : iR1 f ρ = (f ρ).bind fun r => match r.1 with | .int j => if i62 j = true then some (rngP 0 j.toNat, r.2) else none | _ => none := rfl
theorem ap_iR2 : iR2 f g ρ = (f ρ).bind fun r => (g r.2).bind fun s => match r.1, s.1 with
  | .int i, .int j => if (i62 i && i62 j) = true then some (rngP i (j - i).toNat, s.2) else none
  | _, _ => none := rfl
theorem ap_name : tName i p ρ = some (ρ.set i (some p)) := rfl
theorem ap_tup {u : List PV → Env → Option Env} : tTupG n u (.tup ps) ρ = if ps.length = n then u ps ρ else none := rfl
theorem ap_tsNil : tsNil [] ρ = some ρ := rfl
theorem ap_tsCons {T : PV → Env → Option Env} {u : List PV → Env → Option Env} : tsCons T u (p :: ps) ρ = (T p ρ).bind fun ρ1 => u ps ρ1 := rfl
theorem ap_asg {T : PV → Env → Option Env} : fAsg f T ρ = (f ρ).bind fun r => (T r.1 r.2).map fun ρ' => (.nx, ρ') := rfl
theorem ap_sub {S : GS} : tSub i f S p ρ = (look ρ i).bind fun _ => (f ρ).bind fun r => (look r.2 i).bind fun q => (S q r.1 p).map fun w => r.2.set i (some w) := rfl
theorem ap_par : fPar i j f g ρ = (f ρ).bind fun r => (g r.2).bind fun s => some (.nx, (s.2.set i (some r.1)).set j (some s.1)) := rfl
theorem ap_aug : fAug i G f ρ = (look ρ i).bind fun p => (f ρ).bind fun r => (G p r.1).map fun v => (.nx, r.2.set i (some v)) := rfl
theorem ap_get : fGet f g h ρ = (f ρ).bind fun r => if isDct r.1 = true then (g r.2).bind fun s => (h s.2).bind fun t => (gGet r.1 s.1 t.1).map fun v => (v, t.2) else none := rfl
theorem ap_getO : fGetO i g h ρ = (look ρ i).bind fun p0 => if isDct p0 = true then (g ρ).bind fun s => (h s.2).bind fun t => (look t.2 i).bind fun p => (gGet p s.1 t.1).map fun v => (v, t.2) else none := rfl
theorem ap_yes : fYes ρ = some (true, ρ) := rfl
theorem ap_lc {vs : List Nat} {T : PV → Env → Option Env} : fLC vs a T c f ρ = (a ρ).bind fun r => (lcLoop vs T c f r.1 r.2 []).bind fun s => some (.lst s.1, s.2) := rfl
theorem ap_mut {C : PV → Bool} {M : GM} : fMut C i M a ρ = (look ρ i).bind fun p0 => if C p0 = true then (a ρ).bind fun r => (look r.2 i).bind fun p => (M p r.1).bind fun q => some (q.1, r.2.set i (some q.2)) else none := rfl
theorem ap_run : runB n s ps = (s (startP n ps)).bind fun r => outF r.1 := rfl
end

theorem iR1_of {f : EF} {ρ ρ' : Env} {j : Int} (h : f ρ = some (.int j, ρ')) (h2 : i62 j = true) : iR1 f ρ = some (rngP 0 j.toNat, ρ') := by
  unfold iR1
  rw [h]
  simp only [Option.bind_some]
  rw [if_pos h2]
theorem iR2_of {f g : EF} {ρ ρ' ρ'' : Env} {i j : Int} (h : f ρ = some (.int i, ρ')) (hg : g ρ' = some (.int j, ρ'')) (h1 : i62 i = true) (h2 : i62 j = true) : iR2 f g ρ = some (rngP i (j - i).toNat, ρ'') := by
  unfold iR2
  rw [h]
  simp only [Option.bind_some]
  rw [hg]
  simp only [Option.bind_some]
  rw [if_pos (by rw [h1, h2]; rfl)]
theorem gTup0 : gTuple [] = some (.tup []) := rfl
theorem gTup1 (a : PV) : gTuple [a] = some (.tup [a]) := rfl
theorem gTup2 (a b : PV) : gTuple [a, b] = some (.tup [a, b]) := rfl
theorem gTup3 (a b c : PV) : gTuple [a, b, c] = some (.tup [a, b, c]) := rfl
theorem gLst0 : gListD [] = some (.lst []) := rfl
theorem gLst1 (a : PV) : gListD [a] = some (.lst [a]) := rfl
theorem gLst2 (a b : PV) : gListD [a, b] = some (.lst [a, b]) := rfl
theorem gLst3 (a b c : PV) : gListD [a, b, c] = some (.lst [a, b, c]) := rfl
theorem gLst4 (a b c d : PV) : gListD [a, b, c, d] = some (.lst [a, b, c, d]) := rfl
/-! ### for: a relation between the items met so far and the slots -/
theorem loop_inv {α σ : Type} (enc : α → PV) (I : σ → Env → Prop) (step : σ → α → σ) {t : PV → Env → Option Env} {body : SF}
    (h : ∀ s a ρ, I s ρ → ∃ ρ1 ρ', t (enc a) ρ = some ρ1 ∧ (body ρ1 = some (.nx, ρ') ∨ body ρ1 = some (.ct, ρ')) ∧ I (step s a) ρ') :
    ∀ (xs : List α) (s : σ) (ρ : Env), I s ρ → ∃ ρ', loopF t body (xs.map enc) ρ = some (.nx, ρ') ∧ I (xs.foldl step s) ρ'
  | [], s, ρ, i => ⟨ρ, rfl, i⟩
  | x :: xs, s, ρ, i => by
    obtain ⟨ρ1, ρ', h1, h2, h3⟩ := h s x ρ i
    obtain ⟨ρ'', e, j⟩ := loop_inv enc I step h xs _ _ h3
    refine ⟨ρ'', ?_, j⟩
    rw [List.map_cons]
    unfold loopF
    rw [h1]
    rcases h2 with h2 | h2 <;> (simp only [Option.bind_some, h2]; exact e)
/-- the same, the items known by membership -/
theorem loop_invM {α σ : Type} (enc : α → PV) (I : σ → Env → Prop) (step : σ → α → σ) {t : PV → Env → Option Env} {body : SF} :
    ∀ (xs : List α) (s : σ) (ρ : Env), (∀ s a ρ, a ∈ xs → I s ρ → ∃ ρ1 ρ', t (enc a) ρ = some ρ1 ∧ (body ρ1 = some (.nx, ρ') ∨ body ρ1 = some (.ct, ρ')) ∧ I (step s a) ρ') → I s ρ → ∃ ρ', loopF t body (xs.map enc) ρ = some (.nx, ρ') ∧ I (xs.foldl step s) ρ'
  | [], s, ρ, h, i => ⟨ρ, rfl, i⟩
  | x :: xs, s, ρ, h, i => by
    obtain ⟨ρ1, ρ', h1, h2, h3⟩ := h s x ρ (by simp) i
    obtain ⟨ρ'', e, j⟩ := loop_invM enc I step xs _ _ (fun s a ρ m => h s a ρ (List.mem_cons_of_mem _ m)) h3
    refine ⟨ρ'', ?_, j⟩
    rw [List.map_cons]
    unfold loopF
    rw [h1]
    rcases h2 with h2 | h2 <;> (simp only [Option.bind_some, h2]; exact e)
/-- the same, the turns counted -/
theorem loop_invN {α σ : Type} (enc : α → PV) (I : Nat → σ → Env → Prop) (step : σ → α → σ) (N : Nat) {t : PV → Env → Option Env} {body : SF} :
    ∀ (xs : List α) (k : Nat) (s : σ) (ρ : Env), k + xs.length ≤ N → (∀ k s a ρ, k < N → a ∈ xs → I k s ρ → ∃ ρ1 ρ', t (enc a) ρ = some ρ1 ∧ (body ρ1 = some (.nx, ρ') ∨ body ρ1 = some (.ct, ρ')) ∧ I (k + 1) (step s a) ρ') → I k s ρ → ∃ ρ', loopF t body (xs.map enc) ρ = some (.nx, ρ') ∧ I (k + xs.length) (xs.foldl step s) ρ'
  | [], k, s, ρ, _, h, i => ⟨ρ, rfl, i⟩
  | x :: xs, k, s, ρ, hk, h, i => by
    rw [List.length_cons] at hk
    obtain ⟨ρ1, ρ', h1, h2, h3⟩ := h k s x ρ (by omega) (by simp) i
    obtain ⟨ρ'', e, j⟩ := loop_invN enc I step N xs _ _ _ (by omega) (fun k s a ρ hk m => h k s a ρ hk (List.mem_cons_of_mem _ m)) h3
    refine ⟨ρ'', ?_, by rw [List.length_cons, show k + (xs.length + 1) = k + 1 + xs.length from by omega]; exact j⟩
    rw [List.map_cons]
    unfold loopF
    rw [h1]
    rcases h2 with h2 | h2 <;> (simp only [Option.bind_some, h2]; exact e)
/-- the loop over places: P i holds ahead of the i-th item -/
theorem loop_at {t : PV → Env → Option Env} {body : SF} (P : Nat → Env → Prop) :
    ∀ (its : List PV) (k : Nat) (ρ : Env), P k ρ → (∀ i p ρ, its[i]? = some p → P (k + i) ρ → ∃ ρ1 ρ', t p ρ = some ρ1 ∧ (body ρ1 = some (.nx, ρ') ∨ body ρ1 = some (.ct, ρ')) ∧ P (k + i + 1) ρ') → ∃ ρ', loopF t body its ρ = some (.nx, ρ') ∧ P (k + its.length) ρ'
  | [], k, ρ, i, _ => ⟨ρ, rfl, i⟩
  | x :: xs, k, ρ, i, h => by
    obtain ⟨ρ1, ρ', h1, h2, h3⟩ := h 0 x ρ rfl i
    obtain ⟨ρ'', e, j⟩ := loop_at P xs (k + 1) ρ' h3 (fun i p ρ hi hP => by
      have := h (i + 1) p ρ (by simpa using hi) (by rw [show k + (i + 1) = k + 1 + i from by omega]; exact hP)
      rw [show k + (i + 1) + 1 = k + 1 + i + 1 from by omega] at this
      exact this)
    refine ⟨ρ'', ?_, by rw [List.length_cons, show k + (xs.length + 1) = k + 1 + xs.length from by omega]; exact j⟩
    unfold loopF
    rw [h1]
    rcases h2 with h2 | h2 <;> (simp only [Option.bind_some, h2]; exact e)
theorem loop_cons {t : PV → Env → Option Env} {body : SF} {p : PV} {ps : List PV} {ρ ρ1 ρ' : Env} (h1 : t p ρ = some ρ1) (h2 : body ρ1 = some (.nx, ρ')) : loopF t body (p :: ps) ρ = loopF t body ps ρ' := by
  rw [loopF, h1]
  simp only [Option.bind_some, h2]
theorem rngP_succ (lo : Int) (n : Nat) : rngP lo (n + 1) = .int lo :: rngP (lo + 1) n := by
  unfold rngP
  rw [List.range_succ_eq_map, List.map_cons, List.map_map]
  have h1 : (PV.int (lo + ((0 : Nat) : Int))) = .int lo := by rw [show lo + ((0 : Nat) : Int) = lo from by omega]
  rw [h1]
  refine congrArg (fun l => PV.int lo :: l) (List.map_congr_left fun i _ => ?_)
  show PV.int (lo + ((i + 1 : Nat) : Int)) = PV.int (lo + 1 + (i : Int))
  rw [show lo + ((i + 1 : Nat) : Int) = lo + 1 + (i : Int) from by omega]
theorem for_of {its : AF} {t : PV → Env → Option Env} {body : SF} {ρ ρ0 : Env} {l : List PV} {r : Option (Fl × Env)} (h : its ρ = some (l, ρ0)) (h2 : loopF t body l ρ0 = r) : fFor its t body ρ = r := by unfold fFor; rw [h]; exact h2

/-! ### a comprehension whose parts leave the slots as they were -/
theorem lc_map {α : Type} (enc : α → PV) (keep : α → Bool) (val : α → PV) {vs : List Nat} {t : PV → Env → Option Env} {ft : TF} {fe : EF} {ρ : Env} :
    ∀ (xs : List α) (acc : List PV), (∀ a ∈ xs, ∃ ρ1, t (enc a) (wipeP ρ vs) = some ρ1 ∧ ft ρ1 = some (keep a, ρ1) ∧ (keep a = true → fe ρ1 = some (val a, ρ1)) ∧ backP ρ vs ρ1 = ρ) → acc.length + xs.length ≤ 1000000 →
    lcLoop vs t ft fe (xs.map enc) ρ acc = some (acc ++ (xs.filter keep).map val, ρ)
  | [], acc, h, _ => by simp [lcLoop]
  | x :: xs, acc, h, hl => by
    obtain ⟨ρ1, h1, h2, h3, h4⟩ := h x (by simp)
    have hl' : acc.length < 1000000 := by rw [List.length_cons] at hl; omega
    rw [List.map_cons]
    unfold lcLoop
    rw [h1]
    simp only [Option.bind_some, h2]
    cases hk : keep x with
    | true =>
      have h5 := h3 hk
      simp only [if_true]
      rw [h5]
      simp only [Option.bind_some, h4, if_pos hl']
      rw [lc_map enc keep val xs _ (fun a m => h a (List.mem_cons_of_mem _ m)) (by simp at hl ⊢; omega)]
      simp [hk]
    | false =>
      simp only [Bool.false_eq_true, if_false, h4]
      rw [lc_map enc keep val xs _ (fun a m => h a (List.mem_cons_of_mem _ m)) (by simp at hl ⊢; omega)]
      simp [hk]
theorem lc_of {vs : List Nat} {its : AF} {t : PV → Env → Option Env} {ft : TF} {fe : EF} {ρ : Env} {l : List PV} {r : List PV} (h : its ρ = some (l, ρ)) (h2 : lcLoop vs t ft fe l ρ [] = some (r, ρ)) : fLC vs its t ft fe ρ = some (.lst r, ρ) := by unfold fLC; rw [h]; simp only [Option.bind_some, h2]

/-! ### equality of plain trees, decided -/
mutual
def eqPV : PV → PV → Bool
  | .non, .non => true
  | .bl a, .bl b => a == b
  | .int a, .int b => a == b
  | .str a, .str b => decide (a = b)
  | .tup a, .tup b => eqPVs a b
  | .lst a, .lst b => eqPVs a b
  | .dct a, .dct b => eqPVk a b
  | .obj a x, .obj b y => a == b && eqPVs x y
  | _, _ => false
def eqPVs : List PV → List PV → Bool
  | [], [] => true
  | x :: xs, y :: ys => eqPV x y && eqPVs xs ys
  | _, _ => false
def eqPVk : List (PV × PV) → List (PV × PV) → Bool
  | [], [] => true
  | (a, b) :: xs, (c, d) :: ys => eqPV a c && (eqPV b d && eqPVk xs ys)
  | _, _ => false
end
mutual
theorem eqPV_eq : ∀ (a b : PV), eqPV a b = true → a = b
  | .non, b, h => by cases b <;> simp_all [eqPV]
  | .bl a, b, h => by cases b <;> simp_all [eqPV]
  | .int a, b, h => by cases b <;> simp_all [eqPV]
  | .str a, b, h => by cases b <;> simp_all [eqPV]
  | .tup a, b, h => by
    cases b <;> try simp [eqPV] at h
    rw [eqPVs_eq _ _ h]
  | .lst a, b, h => by
    cases b <;> try simp [eqPV] at h
    rw [eqPVs_eq _ _ h]
  | .dct a, b, h => by
    cases b <;> try simp [eqPV] at h
    rw [eqPVk_eq _ _ h]
  | .obj a x, b, h => by
    cases b <;> try simp [eqPV] at h
    rw [eqPVs_eq _ _ h.2, h.1]
theorem eqPVs_eq : ∀ (a b : List PV), eqPVs a b = true → a = b
  | [], b, h => by cases b <;> simp_all [eqPVs]
  | x :: xs, b, h => by
    cases b with
    | nil => simp [eqPVs] at h
    | cons y ys =>
      simp only [eqPVs, Bool.and_eq_true] at h
      rw [eqPV_eq _ _ h.1, eqPVs_eq _ _ h.2]
theorem eqPVk_eq : ∀ (a b : List (PV × PV)), eqPVk a b = true → a = b
  | [], b, h => by cases b <;> simp_all [eqPVk]
  | (p, q) :: xs, b, h => by
    cases b with
    | nil => simp [eqPVk] at h
    | cons y ys =>
      obtain ⟨c, d⟩ := y
      simp only [eqPVk, Bool.and_eq_true] at h
      rw [eqPV_eq _ _ h.1, eqPV_eq _ _ h.2.1, eqPVk_eq _ _ h.2.2]
end
def isV (o : Option PV) (v : PV) : Bool := match o with
  | some u => eqPV u v
  | none => false
theorem isV_eq {o : Option PV} {v : PV} (h : isV o v = true) : o = some v := by
  cases o with
  | none => cases h
  | some u => exact congrArg some (eqPV_eq _ _ h)
end PT

set_option Elab.async false
set_option linter.all false
set_option autoImplicit false
set_option maxRecDepth 100000
set_option maxHeartbeats 4000000
/-! PM1: Laurent polynomials as lists of (exponent, number). -/
namespace PT
namespace Lau
abbrev Poly := List (Int × Int)
/-- the number at an exponent -/
def cf (p : Poly) (e : Int) : Int := match p with
  | [] => 0
  | t :: p => (if t.1 = e then t.2 else 0) + cf p e
/-- exponents rise, no number is 0 -/
def Canon (p : Poly) : Prop := p.Pairwise (fun a b => a.1 < b.1) ∧ ∀ t ∈ p, t.2 ≠ 0
@[simp] theorem cf_nil (e : Int) : cf [] e = 0 := rfl
@[simp] theorem cf_cons (t : Int × Int) (p : Poly) (e : Int) : cf (t :: p) e = (if t.1 = e then t.2 else 0) + cf p e := rfl
theorem cf_append (p q : Poly) (e : Int) : cf (p ++ q) e = cf p e + cf q e := by
  induction p with
  | nil => simp
  | cons t p ih => simp [ih]; omega
theorem cf_zero {p : Poly} {e : Int} (h : ∀ t ∈ p, t.1 ≠ e) : cf p e = 0 := by
  induction p with
  | nil => rfl
  | cons t p ih => rw [cf_cons, if_neg (h t (by simp)), ih fun u hu => h u (by simp [hu])]; rfl
theorem Canon.tail {t : Int × Int} {p : Poly} (h : Canon (t :: p)) : Canon p := ⟨(List.pairwise_cons.mp h.1).2, fun u hu => h.2 u (by simp [hu])⟩
theorem Canon.lt {t : Int × Int} {p : Poly} (h : Canon (t :: p)) : ∀ u ∈ p, t.1 < u.1 := (List.pairwise_cons.mp h.1).1
theorem Canon.nil : Canon [] := ⟨.nil, by simp⟩
theorem cf_low {t : Int × Int} {p : Poly} (h : Canon (t :: p)) {e : Int} (he : e < t.1) : cf (t :: p) e = 0 := cf_zero fun u hu => by
  rcases List.mem_cons.mp hu with rfl | hu
  · omega
  · have := h.lt u hu; omega
theorem cf_head {t : Int × Int} {p : Poly} (h : Canon (t :: p)) : cf (t :: p) t.1 = t.2 := by
  rw [cf_cons, if_pos rfl, cf_zero fun u hu => by have := h.lt u hu; omega]; omega
theorem canon_ext : ∀ {p q : Poly}, Canon p → Canon q → (∀ e, cf p e = cf q e) → p = q
  | [], [], _, _, _ => rfl
  | [], t :: q, _, hq, h => by
    have := h t.1
    rw [cf_head hq] at this
    exact absurd this.symm (hq.2 t (by simp))
  | t :: p, [], hp, _, h => by
    have := h t.1
    rw [cf_head hp] at this
    exact absurd this (hp.2 t (by simp))
  | t :: p, u :: q, hp, hq, h => by
    have e : t.1 = u.1 := by
      rcases Int.lt_trichotomy t.1 u.1 with hl | he | hg
      · have := h t.1
        rw [cf_head hp, cf_low hq hl] at this
        exact absurd this (hp.2 t (by simp))
      · exact he
      · have := h u.1
        rw [cf_head hq, cf_low hp hg] at this
        exact absurd this.symm (hq.2 u (by simp))
    have e2 : t.2 = u.2 := by
      have := h t.1
      rw [cf_head hp, e, cf_head hq] at this
      exact this
    have e3 : t = u := Prod.ext e e2
    subst e3
    rw [canon_ext hp.tail hq.tail fun e => by have := h e; rw [cf_cons, cf_cons] at this; omega]
/-- a term is put in -/
def insT (e c : Int) : Poly → Poly
  | [] => if c = 0 then [] else [(e, c)]
  | (f, d) :: q => if e < f then (if c = 0 then (f, d) :: q else (e, c) :: (f, d) :: q) else if e = f then (if c + d = 0 then q else (e, c + d) :: q) else (f, d) :: insT e c q
theorem cf_insT (e c : Int) (f : Int) : ∀ q : Poly, cf (insT e c q) f = (if e = f then c else 0) + cf q f
  | [] => by
    unfold insT
    by_cases h : c = 0
    · simp [h]
    · simp [h]
  | (g, d) :: q => by
    unfold insT
    by_cases h1 : e < g
    · rw [if_pos h1]
      by_cases h : c = 0
      · simp [h]
      · simp [h]
    · rw [if_neg h1]
      by_cases h2 : e = g
      · rw [if_pos h2]
        by_cases h3 : c + d = 0
        · rw [if_pos h3, cf_cons]
          subst h2
          dsimp only
          split <;> omega
        · rw [if_neg h3, cf_cons, cf_cons]
          subst h2
          dsimp only
          split <;> omega
      · rw [if_neg h2, cf_cons, cf_insT e c f q, cf_cons]; omega
theorem insT_mem {e c : Int} {u : Int × Int} : ∀ {q : Poly}, u ∈ insT e c q → u.1 = e ∨ u ∈ q
  | [], h => by
    unfold insT at h
    split at h
    · cases h
    · simp at h; exact .inl (by rw [h])
  | (g, d) :: q, h => by
    unfold insT at h
    split at h
    · split at h
      · exact .inr h
      · rcases List.mem_cons.mp h with rfl | h
        · exact .inl rfl
        · exact .inr h
    · split at h
      · split at h
        · exact .inr (by simp [h])
        · rcases List.mem_cons.mp h with rfl | h
          · exact .inl rfl
          · exact .inr (by simp [h])
      · rcases List.mem_cons.mp h with rfl | h
        · exact .inr (by simp)
        · rcases insT_mem h with h | h
          · exact .inl h
          · exact .inr (by simp [h])
theorem canon_cons {t : Int × Int} {p : Poly} (h0 : t.2 ≠ 0) (h1 : ∀ u ∈ p, t.1 < u.1) (h : Canon p) : Canon (t :: p) := ⟨List.pairwise_cons.mpr ⟨h1, h.1⟩, fun u hu => by
  rcases List.mem_cons.mp hu with rfl | hu
  · exact h0
  · exact h.2 u hu⟩
theorem Canon.insT {e c : Int} : ∀ {q : Poly}, Canon q → Canon (insT e c q)
  | [], h => by
    unfold Lau.insT
    split
    · exact .nil
    · rename_i h0
      exact canon_cons h0 (by simp) .nil
  | (g, d) :: q, h => by
    unfold Lau.insT
    have hd := h.2 (g, d) (by simp)
    split
    · rename_i h1
      split
      · exact h
      · rename_i h0
        refine canon_cons h0 (fun u hu => ?_) h
        rcases List.mem_cons.mp hu with rfl | hu
        · exact h1
        · have := h.lt u hu; dsimp only at *; omega
    · rename_i h1
      split
      · rename_i h2
        split
        · exact h.tail
        · rename_i h0
          exact canon_cons h0 (fun u hu => by have := h.lt u hu; dsimp only at *; omega) h.tail
      · rename_i h2
        refine canon_cons hd (fun u hu => ?_) h.tail.insT
        rcases insT_mem hu with hu | hu
        · dsimp only; omega
        · exact h.lt u hu
/-- the one form -/
def norm : Poly → Poly
  | [] => []
  | t :: p => insT t.1 t.2 (norm p)
theorem canon_norm : ∀ p : Poly, Canon (norm p)
  | [] => .nil
  | t :: p => (canon_norm p).insT
@[simp] theorem cf_norm (e : Int) : ∀ p : Poly, cf (norm p) e = cf p e
  | [] => rfl
  | t :: p => by rw [norm, cf_insT, cf_norm e p, cf_cons]
theorem norm_eq {p q : Poly} (h : ∀ e, cf p e = cf q e) : norm p = norm q := canon_ext (canon_norm p) (canon_norm q) fun e => by rw [cf_norm, cf_norm, h e]
theorem norm_of_canon {p : Poly} (h : Canon p) : norm p = p := canon_ext (canon_norm p) h fun e => cf_norm e p
theorem norm_norm (p : Poly) : norm (norm p) = norm p := norm_of_canon (canon_norm p)
theorem canon_norm_eq {p q : Poly} (hp : Canon p) (h : ∀ e, cf p e = cf q e) : p = norm q := canon_ext hp (canon_norm q) fun e => by rw [h e, cf_norm]

/-! ### the product, not yet in its one form -/
def mulT (p q : Poly) : Poly := p.flatMap fun t => q.map fun u => (t.1 + u.1, t.2 * u.2)
def sclT (n : Int) (p : Poly) : Poly := p.map fun t => (t.1, t.2 * n)
theorem cf_scl (n e : Int) (p : Poly) : cf (sclT n p) e = cf p e * n := by
  induction p with
  | nil => simp [sclT]
  | cons t p ih =>
    have : cf (sclT n (t :: p)) e = (if t.1 = e then t.2 * n else 0) + cf (sclT n p) e := rfl
    rw [this, ih, cf_cons, Int.add_mul]
    split <;> simp
/-- the sum of c * f (e - x) over the terms (x, c) -/
def sumT (p : Poly) (f : Int → Int) (e : Int) : Int := match p with
  | [] => 0
  | t :: p => t.2 * f (e - t.1) + sumT p f e
theorem sumT_congr {f g : Int → Int} (h : ∀ e, f e = g e) (p : Poly) (e : Int) : sumT p f e = sumT p g e := by
  induction p with
  | nil => rfl
  | cons t p ih => simp only [sumT, h, ih]
theorem cf_shift (t : Int × Int) (q : Poly) (e : Int) : cf (q.map fun u => (t.1 + u.1, t.2 * u.2)) e = t.2 * cf q (e - t.1) := by
  induction q with
  | nil => simp
  | cons u q ih =>
    rw [List.map_cons, cf_cons, ih, cf_cons, Int.mul_add]
    congr 1
    by_cases h : t.1 + u.1 = e
    · rw [if_pos h, if_pos (by omega)]
    · rw [if_neg h, if_neg (by omega)]; simp
/-- the product by the left's terms -/
theorem cf_mul (p q : Poly) (e : Int) : cf (mulT p q) e = sumT p (cf q) e := by
  induction p with
  | nil => rfl
  | cons t p ih =>
    have : mulT (t :: p) q = (q.map fun u => (t.1 + u.1, t.2 * u.2)) ++ mulT p q := rfl
    rw [this, cf_append, cf_shift, ih]; rfl
/-- .. by the right's terms -/
theorem cf_mul' (p q : Poly) (e : Int) : cf (mulT p q) e = sumT q (cf p) e := by
  rw [cf_mul]
  induction q generalizing e with
  | nil =>
    induction p with
    | nil => rfl
    | cons t p ih => simp only [sumT, cf_nil, ih]; simp [sumT]
  | cons u q ih =>
    have hq : sumT p (cf (u :: q)) e = u.2 * cf p (e - u.1) + sumT p (cf q) e := by
      clear ih
      induction p with
      | nil => simp [sumT]
      | cons t p ih =>
        simp only [sumT, cf_cons, ih]
        have h1 : t.2 * ((if u.1 = e - t.1 then u.2 else 0) + cf q (e - t.1)) = t.2 * (if u.1 = e - t.1 then u.2 else 0) + t.2 * cf q (e - t.1) := Int.mul_add _ _ _
        have h2 : u.2 * ((if t.1 = e - u.1 then t.2 else 0) + cf p (e - u.1)) = u.2 * (if t.1 = e - u.1 then t.2 else 0) + u.2 * cf p (e - u.1) := Int.mul_add _ _ _
        have h3 : t.2 * (if u.1 = e - t.1 then u.2 else 0) = u.2 * (if t.1 = e - u.1 then t.2 else 0) := by
          by_cases h : u.1 = e - t.1
          · rw [if_pos h, if_pos (by omega), Int.mul_comm]
          · rw [if_neg h, if_neg (by omega)]; simp
        rw [h1, h2, h3]; omega
    rw [hq, ih]; rfl
theorem mul_congr {p p' q q' : Poly} (hp : ∀ e, cf p e = cf p' e) (hq : ∀ e, cf q e = cf q' e) (e : Int) : cf (mulT p q) e = cf (mulT p' q') e := by
  rw [cf_mul, sumT_congr hq, ← cf_mul, cf_mul', sumT_congr hp, ← cf_mul']
theorem mul_comm (p q : Poly) (e : Int) : cf (mulT p q) e = cf (mulT q p) e := by rw [cf_mul, cf_mul']
theorem mul_add_r (p q r : Poly) (e : Int) : cf (mulT p (q ++ r)) e = cf (mulT p q) e + cf (mulT p r) e := by
  have happ : ∀ (q r : Poly) (f : Int → Int), sumT (q ++ r) f e = sumT q f e + sumT r f e := fun q r f => by
    induction q with
    | nil => simp [sumT]
    | cons t q ih => simp only [List.cons_append, sumT, ih]; omega
  rw [cf_mul', cf_mul', cf_mul', happ]
theorem mul_add_l (p q r : Poly) (e : Int) : cf (mulT (p ++ q) r) e = cf (mulT p r) e + cf (mulT q r) e := by
  rw [mul_comm, mul_add_r, mul_comm r p, mul_comm r q]
theorem sumT_shift (q : Poly) (f : Int → Int) (t : Int × Int) (e : Int) : sumT (q.map fun u => (t.1 + u.1, t.2 * u.2)) f e = t.2 * sumT q f (e - t.1) := by
  induction q with
  | nil => simp [sumT]
  | cons u q ih =>
    simp only [List.map_cons, sumT, ih, Int.mul_add]
    rw [show e - (t.1 + u.1) = e - t.1 - u.1 from by omega, Int.mul_assoc]
theorem mul_assoc (p q r : Poly) (e : Int) : cf (mulT (mulT p q) r) e = cf (mulT p (mulT q r)) e := by
  induction p generalizing e with
  | nil => rfl
  | cons t p ih =>
    have h1 : mulT (t :: p) q = (q.map fun u => (t.1 + u.1, t.2 * u.2)) ++ mulT p q := rfl
    rw [h1, mul_add_l, ih, cf_mul, cf_mul (t :: p) (mulT q r), sumT_shift, ← cf_mul]
    simp only [sumT]
    rw [← cf_mul]
theorem mul_one_r (p : Poly) (e : Int) : cf (mulT p [(0, 1)]) e = cf p e := by
  rw [cf_mul']; simp [sumT]
end Lau
end PT

set_option Elab.async false
set_option linter.all false
set_option autoImplicit false
set_option maxRecDepth 100000
set_option maxHeartbeats 4000000
/-! PM2: the printed functions that many laws share, and what they compute. -/
namespace PT
namespace Lau
def b_gathered : SF :=
  fSeq (fRet (fList gTupOf (a1 (fLC [1] (iS (fList gSorted (a1 (fList gListAll (a1 (fVar 0)))))) (tName 1) (fTest (fOp gNeD (fOp gIxAll (fVar 0) (fVar 1)) (fC (.int 0)))) (fList gTuple (aCons (fVar 1) (aCons (fOp gIxAll (fVar 0) (fVar 1)) aNil)))))))
    (fNx)
def F_gathered : GL := runB 2 b_gathered
def b_plus : SF :=
  fSeq (fSet 2 (fC (.dct [])))
    (fSeq (fFor (iS (fOp gAdd (fVar 0) (fVar 1))) (tTupG 2 (tsCons (tName 3) (tsCons (tName 4) tsNil)))
   (fSeq (fAsg (fOp gAdd (fGetO 2 (fVar 3) (fC (.int 0))) (fVar 4)) (tSub 2 (fVar 3) gSet))
    (fNx)))
    (fSeq (fRet (fList F_gathered (aCons (fVar 2) aNil)))
    (fNx)))
def F_plus : GL := runB 5 b_plus
def b_scaled : SF :=
  fSeq (fRet (fList gTupOf (a1 (fLC [2, 3] (iS (fVar 0)) (tTupG 2 (tsCons (tName 2) (tsCons (tName 3) tsNil))) (fTest (fOp gNeD (fVar 1) (fC (.int 0)))) (fList gTuple (aCons (fVar 2) (aCons (fOp gMulI (fVar 3) (fVar 1)) aNil)))))))
    (fNx)
def F_scaled : GL := runB 4 b_scaled
def b_minus : SF :=
  fSeq (fRet (fList F_plus (aCons (fVar 0) (aCons (fList F_scaled (aCons (fVar 1) (aCons (fUn gNeg (fC (.int 1))) aNil))) aNil))))
    (fNx)
def F_minus : GL := runB 2 b_minus
def b_times : SF :=
  fSeq (fSet 2 (fC (.dct [])))
    (fSeq (fFor (iS (fVar 0)) (tTupG 2 (tsCons (tName 3) (tsCons (tName 4) tsNil)))
   (fSeq (fFor (iS (fVar 1)) (tTupG 2 (tsCons (tName 5) (tsCons (tName 6) tsNil)))
   (fSeq (fAsg (fOp gAdd (fGetO 2 (fOp gAdd (fVar 3) (fVar 5)) (fC (.int 0))) (fOp gMulI (fVar 4) (fVar 6))) (tSub 2 (fOp gAdd (fVar 3) (fVar 5)) gSet))
    (fNx)))
    (fNx)))
    (fSeq (fRet (fList F_gathered (aCons (fVar 2) aNil)))
    (fNx)))
def F_times : GL := runB 7 b_times
def b_divided : SF :=
  fSeq (fSet 2 (fList gDictP (a1 (fVar 0))))
    (fSeq (fSet 3 (fC (.dct [])))
    (fSeq (fAsg (fOp gIxAll (fVar 1) (fUn gNeg (fC (.int 1)))) (tTupG 2 (tsCons (tName 4) (tsCons (tName 5) tsNil))))
    (fSeq (fWhile (fTest (fOp gGt (fList gLenAll (a1 (fVar 2))) (fC (.int 0))))
   (fSeq (fSet 6 (fList gMax (a1 (fList gListAll (a1 (fVar 2))))))
    (fSeq (fIf (fOrT (fTest (fOp gNeD (fOp gModI (fList gInt (a1 (fOpO gIxAll 2 (fVar 6)))) (fVar 5)) (fC (.int 0)))) (fTest (fOp gLt (fOp gSubI (fVar 6) (fVar 4)) (fOp gSubI (fList gMin (a1 (fList gListAll (a1 (fVar 2))))) (fOp gIxAll (fOp gIxAll (fVar 1) (fC (.int 0))) (fC (.int 0))))))) (fSeq (fRet (fC .non))
    (fNx)) (fNx))
    (fSeq (fSet 7 (fOp gDivI (fOpO gIxAll 2 (fVar 6)) (fVar 5)))
    (fSeq (fAsg (fVar 7) (tSub 3 (fOp gSubI (fVar 6) (fVar 4)) gSet))
    (fSeq (fFor (iS (fVar 1)) (tTupG 2 (tsCons (tName 8) (tsCons (tName 9) tsNil)))
   (fSeq (fSet 10 (fOp gAdd (fOp gSubI (fVar 6) (fVar 4)) (fVar 8)))
    (fSeq (fSet 11 (fOp gSubI (fGetO 2 (fVar 10) (fC (.int 0))) (fOp gMulI (fVar 7) (fVar 9))))
    (fSeq (fIf (fTest (fOp gEqD (fVar 11) (fC (.int 0)))) (fSeq (fDel 2 (fVar 10))
    (fNx)) (fSeq (fAsg (fVar 11) (tSub 2 (fVar 10) gSet))
    (fNx)))
    (fNx)))))
    (fNx)))))) 10000)
    (fSeq (fRet (fList F_gathered (aCons (fVar 3) aNil)))
    (fNx)))))
def F_divided : GL := runB 12 b_divided
def b__law_next : SF :=
  fSeq (fSet 2 (fOpO gIxAll 0 (fC (.int 2))))
    (fSeq (fIf (fTest (fOp gEqD (fVar 2) (fC (.int 0)))) (fSeq (fSet 3 (fC (.int 0)))
    (fSeq (fIf (fTest (fOp gLt (fOpO gIxAll 0 (fC (.int 1))) (fList gLenAll (a1 (fOpO gIxAll 0 (fC (.int 0))))))) (fSeq (fSet 3 (fList gAbs (a1 (fList gInt (a1 (fOp gIxAll (fOpO gIxAll 0 (fC (.int 0))) (fOpO gIxAll 0 (fC (.int 1)))))))))
    (fSeq (fAsg (fOp gAdd (fOpO gIxAll 0 (fC (.int 1))) (fC (.int 1))) (tSub 0 (fC (.int 1)) gSet))
    (fNx))) (fNx))
    (fSeq (fSet 2 (fVar 3))
    (fSeq (fIf (fTest (fOp gLt (fVar 3) (fOp gPowI (fC (.int 10)) (fC (.int 18))))) (fSeq (fAsg (fOp gModI (fList gInt (a1 (fOp gAdd (fOp gAdd (fOp gMulI (fOpO gIxAll 0 (fC (.int 3))) (fC (.int 69621))) (fOp gMulI (fVar 3) (fC (.int 40692)))) (fC (.int 17))))) (fC (.int 2147483647))) (tSub 0 (fC (.int 3)) gSet))
    (fSeq (fRet (fOp gModI (fOp gModI (fList gInt (a1 (fOp gMulI (fList gInt (a1 (fOp gDivI (fOpO gIxAll 0 (fC (.int 3))) (fC (.int 5))))) (fC (.int 48271))))) (fC (.int 2147483647))) (fVar 1)))
    (fNx))) (fNx))
    (fNx))))) (fNx))
    (fSeq (fAsg (fOp gDivI (fVar 2) (fVar 1)) (tSub 0 (fC (.int 2)) gSet))
    (fSeq (fRet (fOp gModI (fList gInt (a1 (fVar 2))) (fVar 1)))
    (fNx))))
def F__law_next : GI := runI 4 0 b__law_next
def b__law_same (F : GL) : SF :=
  fSeq (fIf (fTest (fOp gIsN (fVar 1) (fC .non))) (fSeq (fRet (fOp gIsN (fVar 0) (fC .non)))
    (fNx)) (fNx))
    (fSeq (fIf (fTru (fUn (gIsi .bool) (fVar 1))) (fSeq (fRet (fAndV (fUn (gIsi .bool) (fVar 0)) (fOp gEqD (fVar 0) (fVar 1))))
    (fNx)) (fNx))
    (fSeq (fIf (fTru (fUn (gIsi .int) (fVar 1))) (fSeq (fRet (fAndV (fUn (gIsi .int) (fVar 0)) (fAndV (fNotV (fUn (gIsi .bool) (fVar 0))) (fOp gEqD (fVar 0) (fVar 1)))))
    (fNx)) (fNx))
    (fSeq (fIf (fTru (fUn (gIsi .str) (fVar 1))) (fSeq (fRet (fAndV (fUn (gIsi .str) (fVar 0)) (fOp gEqD (fVar 0) (fVar 1))))
    (fNx)) (fNx))
    (fSeq (fIf (fOrT (fAndT (fTru (fUn (gIsi .list) (fVar 1))) (fNotT (fTru (fUn (gIsi .list) (fVar 0))))) (fAndT (fTru (fUn (gIsi .tuple) (fVar 1))) (fNotT (fTru (fUn (gIsi .tuple) (fVar 0)))))) (fSeq (fRet (fC (.bl false)))
    (fNx)) (fNx))
    (fSeq (fRet (fAndV (fOp gEqD (fList gLenAll (a1 (fVar 0))) (fList gLenAll (a1 (fVar 1)))) (fOp gEqD (fLC [2] (iR1 (fList gLenAll (a1 (fVar 1)))) (tName 2) (fNotT (fTru (fList F (aCons (fOp gIxAll (fVar 0) (fVar 2)) (aCons (fOp gIxAll (fVar 1) (fVar 2)) aNil))))) (fC (.int 1))) (fList gListD aNil))))
    (fNx))))))
def F__law_same : Nat → GL
  | 0 => fun _ => none
  | n + 1 => runB 3 (b__law_same (F__law_same n))
def b__law_plus : SF :=
  fSeq (fSet 2 (fList gDictP (a1 (fVar 0))))
    (fSeq (fFor (iS (fVar 1)) (tTupG 2 (tsCons (tName 3) (tsCons (tName 4) tsNil)))
   (fSeq (fAsg (fOp gAdd (fGetO 2 (fVar 3) (fC (.int 0))) (fVar 4)) (tSub 2 (fVar 3) gSet))
    (fNx)))
    (fSeq (fRet (fList gTupOf (a1 (fLC [3] (iS (fList gSorted (a1 (fVar 2)))) (tName 3) (fTest (fOp gNeD (fOpO gIxAll 2 (fVar 3)) (fC (.int 0)))) (fList gTuple (aCons (fVar 3) (aCons (fOpO gIxAll 2 (fVar 3)) aNil)))))))
    (fNx)))
def F__law_plus : GL := runB 5 b__law_plus
def b__law_times : SF :=
  fSeq (fSet 2 (fList gTuple aNil))
    (fSeq (fFor (iS (fVar 0)) (tTupG 2 (tsCons (tName 3) (tsCons (tName 4) tsNil)))
   (fSeq (fSet 2 (fList F__law_plus (aCons (fVar 2) (aCons (fList gTupOf (a1 (fLC [5, 6] (iS (fVar 1)) (tTupG 2 (tsCons (tName 5) (tsCons (tName 6) tsNil))) (fYes) (fList gTuple (aCons (fOp gAdd (fVar 3) (fVar 5)) (aCons (fOp gMulI (fVar 4) (fVar 6)) aNil)))))) aNil))))
    (fNx)))
    (fSeq (fRet (fVar 2))
    (fNx)))
def F__law_times : GL := runB 7 b__law_times
def b__law_power : SF :=
  fSeq (fSet 2 (fList gTuple (aCons (fList gTuple (aCons (fC (.int 0)) (aCons (fC (.int 1)) aNil))) aNil)))
    (fSeq (fFor (iR1 (fVar 1)) (tName 3)
   (fSeq (fSet 2 (fList F__law_times (aCons (fVar 2) (aCons (fVar 0) aNil))))
    (fNx)))
    (fSeq (fRet (fVar 2))
    (fNx)))
def F__law_power : GL := runB 4 b__law_power

/-! ### plain trees of polynomials -/
def encT (t : Int × Int) : PV := .tup [.int t.1, .int t.2]
def encP (p : Poly) : PV := .tup (p.map encT)
def encK (t : Int × Int) : PV × PV := (.int t.1, .int t.2)
def encD (d : Poly) : PV := .dct (d.map encK)
/-- d.get(k, 0) -/
def dget (d : Poly) (k : Int) : Int := match d with
  | [] => 0
  | t :: d => if t.1 = k then t.2 else dget d k
def dhas (d : Poly) (k : Int) : Bool := d.any fun t => t.1 == k
def putD (d : Poly) (k v : Int) : Poly := if dhas d k = true then d.map fun t => if t.1 = k then (t.1, v) else t else d ++ [(k, v)]
theorem beq_int (a b : Int) : (a == b) = decide (a = b) := by
  by_cases h : a = b <;> simp [h]
theorem any_encK (d : Poly) (k : Int) : ((d.map encK).any fun kv => keyEqb kv.1 (.int k)) = dhas d k := by
  unfold dhas
  rw [List.any_map]
  rfl
theorem findP_enc (d : Poly) (k : Int) : findP (d.map encK) (.int k) = if dhas d k = true then some (.int (dget d k)) else none := by
  induction d with
  | nil => rfl
  | cons t d ih =>
    unfold findP at ih ⊢
    rw [List.map_cons, List.find?_cons]
    have e : keyEqb (encK t).1 (.int k) = (t.1 == k) := rfl
    rw [e]
    by_cases h : t.1 = k
    · have : (t.1 == k) = true := by simp [h]
      rw [this]
      simp only [dhas, List.any_cons, this, Bool.true_or, if_true, dget, if_pos h]
      rfl
    · have h' : (t.1 == k) = false := by simp [h]
      rw [h']
      simp only [dhas, List.any_cons, h', Bool.false_or, dget, if_neg h]
      exact ih
theorem putP_enc (d : Poly) (k v : Int) : putP (d.map encK) (.int k) (.int v) = (putD d k v).map encK := by
  unfold putP putD
  rw [any_encK]
  split
  · rw [List.map_map, List.map_map]
    apply List.map_congr_left
    intro t _
    simp only [Function.comp]
    have e : keyEqb (encK t).1 (.int k) = (t.1 == k) := rfl
    rw [e]
    by_cases h : t.1 = k
    · simp [h, encK]
    · simp [h]
  · simp [encK]
theorem dget_none {d : Poly} {k : Int} (h : dhas d k = false) : dget d k = 0 := by
  induction d with
  | nil => rfl
  | cons t d ih =>
    simp only [dhas, List.any_cons, Bool.or_eq_false_iff] at h
    have : t.1 ≠ k := by simpa using h.1
    rw [dget, if_neg this, ih h.2]
theorem dhas_iff {d : Poly} {k : Int} : dhas d k = true ↔ k ∈ d.map (·.1) := by
  unfold dhas
  simp [List.any_eq_true]
theorem gGet_enc (d : Poly) (k : Int) : gGet (encD d) (.int k) (.int 0) = some (.int (dget d k)) := by
  unfold gGet encD
  dsimp only
  rw [if_pos (show isKey (.int k) = true from rfl), findP_enc]
  split
  · rfl
  · rename_i h
    rw [dget_none (by simpa using h)]
    rfl
theorem gIxAll_enc {d : Poly} {k : Int} (h : dhas d k = true) : gIxAll (encD d) (.int k) = some (.int (dget d k)) := by
  have : gIxAll (encD d) (.int k) = findP (d.map encK) (.int k) := by
    unfold gIxAll orG gIxT gIxL gIxS gIxD encD
    rfl
  rw [this, findP_enc, if_pos h]
theorem gSet_enc {d : Poly} {k v : Int} (h : d.length < 1000000) : gSet (encD d) (.int k) (.int v) = some (encD (putD d k v)) := by
  unfold gSet orS gSetL gSetD encD
  dsimp only
  have : (isKey (.int k) && decide ((d.map encK).length < 1000000)) = true := by simp [isKey, keyK, h]
  rw [if_pos this, putP_enc]
theorem putD_keys (d : Poly) (k v : Int) : (putD d k v).map (·.1) = if dhas d k = true then d.map (·.1) else d.map (·.1) ++ [k] := by
  unfold putD
  split
  · rw [List.map_map]
    apply List.map_congr_left
    intro t _
    simp only [Function.comp]
    split <;> rfl
  · simp
theorem putD_nodup {d : Poly} (k v : Int) (h : (d.map (·.1)).Nodup) : ((putD d k v).map (·.1)).Nodup := by
  rw [putD_keys]
  split
  · exact h
  · rename_i hn
    rw [List.nodup_append]
    refine ⟨h, by simp, fun a ha b hb => ?_⟩
    simp only [List.mem_singleton] at hb
    subst hb
    intro e
    subst e
    exact hn (dhas_iff.mpr ha)
theorem putD_len (d : Poly) (k v : Int) : (putD d k v).length ≤ d.length + 1 := by
  unfold putD
  split <;> simp
theorem dget_put (d : Poly) (k v j : Int) : dget (putD d k v) j = if j = k then v else dget d j := by
  unfold putD
  split
  · rename_i h
    induction d with
    | nil => simp [dhas] at h
    | cons t d ih =>
      simp only [dhas, List.any_cons, Bool.or_eq_true] at h
      by_cases e : t.1 = k
      · by_cases ej : j = k
        · simp [dget, e, ej]
        · rw [if_neg ej]
          simp only [List.map_cons, if_pos e, dget]
          rw [if_neg (by omega), if_neg (by omega)]
          clear ih h
          induction d with
          | nil => rfl
          | cons u d ih =>
            simp only [List.map_cons, dget]
            by_cases eu : u.1 = k
            · rw [if_pos eu, if_neg (by dsimp only; omega), if_neg (by omega), ih]
            · rw [if_neg eu, ih]
      · have h2 : dhas d k = true := by
          rcases h with h | h
          · exact absurd (by simpa using h) e
          · exact h
        simp only [List.map_cons, if_neg e, dget]
        rw [ih h2]
        by_cases ej : j = k
        · rw [if_pos ej, if_pos ej, if_neg (by omega)]
        · simp [ej]
  · rename_i h
    have h : dhas d k = false := by simpa using h
    induction d with
    | nil =>
      simp only [List.nil_append, dget]
      by_cases ej : j = k
      · simp [ej]
      · rw [if_neg (by omega), if_neg ej]
    | cons t d ih =>
      simp only [dhas, List.any_cons, Bool.or_eq_false_iff] at h
      have e : t.1 ≠ k := by simpa using h.1
      simp only [List.cons_append, dget]
      rw [ih (by unfold dhas; simp [h.2]) h.2]
      by_cases ej : j = k
      · rw [if_pos ej, if_neg (by omega), if_pos ej]
      · simp [ej]
/-- with keys once each, what is found is what is summed -/
theorem cf_dget {d : Poly} (h : (d.map (·.1)).Nodup) (e : Int) : cf d e = dget d e := by
  induction d with
  | nil => rfl
  | cons t d ih =>
    rw [List.map_cons, List.nodup_cons] at h
    rw [cf_cons, dget]
    by_cases he : t.1 = e
    · rw [if_pos he, if_pos he, cf_zero fun u hu hue => h.1 (by rw [he, ← hue]; exact List.mem_map_of_mem hu)]; omega
    · rw [if_neg he, if_neg he, ih h.2]; omega
def addD (d : Poly) (t : Int × Int) : Poly := putD d t.1 (dget d t.1 + t.2)
theorem addD_nodup {d : Poly} (t : Int × Int) (h : (d.map (·.1)).Nodup) : ((addD d t).map (·.1)).Nodup := putD_nodup _ _ h
theorem cf_addD {d : Poly} (t : Int × Int) (h : (d.map (·.1)).Nodup) (e : Int) : cf (addD d t) e = cf d e + (if t.1 = e then t.2 else 0) := by
  rw [cf_dget (addD_nodup t h), cf_dget h, addD, dget_put]
  by_cases he : e = t.1
  · rw [if_pos he, if_pos he.symm, he]
  · rw [if_neg he, if_neg (by omega)]; omega
theorem addD_len (d : Poly) (t : Int × Int) : (addD d t).length ≤ d.length + 1 := putD_len _ _ _
theorem addDs_nodup {p : Poly} : ∀ {d : Poly}, (d.map (·.1)).Nodup → ((p.foldl addD d).map (·.1)).Nodup := by
  induction p with
  | nil => exact fun h => h
  | cons t p ih => exact fun h => ih (addD_nodup t h)
theorem cf_addDs (e : Int) : ∀ {p d : Poly}, (d.map (·.1)).Nodup → cf (p.foldl addD d) e = cf d e + cf p e
  | [], d, h => by simp
  | t :: p, d, h => by rw [List.foldl_cons, cf_addDs e (addD_nodup t h), cf_addD t h, cf_cons]; omega
theorem addDs_len : ∀ (p d : Poly), (p.foldl addD d).length ≤ d.length + p.length
  | [], d => by simp
  | t :: p, d => by
    have h1 := addDs_len p (addD d t)
    have h2 := putD_len d t.1 (dget d t.1 + t.2)
    rw [List.foldl_cons, List.length_cons]
    unfold addD at h1 ⊢
    omega

/-! ### sorted, of numbers -/
theorem leP_int (a b : Int) : leP (.int a) (.int b) = decide (a ≤ b) := by
  unfold leP
  simp only [toD]
  rw [PySem.W.dataLt_int]
  by_cases h : b < a
  · simp [h]
  · simp [h]; omega
theorem isortP_int (is : List Int) : isortP leP (is.map PV.int) = (isortI is).map PV.int := by
  have ins : ∀ (x : Int) (l : List Int), insP leP (.int x) (l.map PV.int) = (insP (fun a b : Int => decide (a ≤ b)) x l).map PV.int := fun x l => by
    induction l with
    | nil => rfl
    | cons y ys ih =>
      simp only [List.map_cons, insP, leP_int]
      split
      · simp
      · rw [ih]; simp
  induction is with
  | nil => rfl
  | cons x xs ih => unfold isortI at ih ⊢; rw [List.map_cons, isortP, ih, ins]; rfl
theorem sortOk_int {is : List Int} (h : is.length ≤ 1000000) : sortOk (is.map PV.int) = true := by
  unfold sortOk
  have h1 : ∀ n : Nat, okDs n (is.map PV.int) = true := fun n => by
    induction is with
    | nil => rfl
    | cons x xs ih => simp only [List.map_cons, okDs, okD, Bool.true_and]; exact ih (by simp at h; omega)
  have h2 : (is.map PV.int).all isAtom = true := by simp [isAtom]
  have h3 : ((is.map PV.int).all fun x => (is.map PV.int).all fun y => PySem.W.alike (toD x) (toD y)) = true := by
    rw [List.all_eq_true]
    intro x hx
    rw [List.all_eq_true]
    intro y hy
    obtain ⟨i, _, rfl⟩ := List.mem_map.mp hx
    obtain ⟨j, _, rfl⟩ := List.mem_map.mp hy
    simp [toD, PySem.W.alike]
  rw [h1, h2, h3]
  simp [h]
theorem gSorted_int {is : List Int} (h : is.length ≤ 1000000) : gSorted [.lst (is.map PV.int)] = some (.lst ((isortI is).map PV.int)) := by
  unfold gSorted orL gSortL
  dsimp only
  rw [if_pos (sortOk_int h), isortP_int]

/-! ### gathered -/
def gath (d : Poly) : Poly := ((isortI (d.map (·.1))).filter fun k => decide (dget d k ≠ 0)).map fun k => (k, dget d k)
theorem gath_norm {d : Poly} (h : (d.map (·.1)).Nodup) : gath d = norm d := by
  have hs : (isortI (d.map (·.1))).Pairwise (· < ·) := by
    have h1 := sortI_pair (d.map (·.1))
    have h2 : (isortI (d.map (·.1))).Nodup := (sortI_perm _).nodup_iff.mpr h
    exact (h1.and h2).imp fun ⟨a, b⟩ => by omega
  have hc : Canon (gath d) := by
    refine ⟨?_, fun t ht => ?_⟩
    · unfold gath
      rw [List.pairwise_map]
      exact hs.filter _
    · obtain ⟨k, hk, rfl⟩ := List.mem_map.mp ht
      simpa using (List.mem_filter.mp hk).2
  refine canon_norm_eq hc fun e => ?_
  have hnd : ((gath d).map (·.1)).Nodup := by
    refine List.Pairwise.imp (R := fun a b : Int => a < b) (fun h => by omega) ?_
    rw [List.pairwise_map]
    exact hc.1
  rw [cf_dget hnd, cf_dget h]
  have key : ∀ l : List Int, dget ((l.filter fun k => decide (dget d k ≠ 0)).map fun k => (k, dget d k)) e = if e ∈ l then dget d e else 0 := fun l => by
    induction l with
    | nil => rfl
    | cons k l ih =>
      rw [List.filter_cons]
      by_cases hk : dget d k = 0
      · simp only [hk, ne_eq, not_true_eq_false, decide_false, Bool.false_eq_true, if_false]
        rw [ih]
        by_cases hke : e = k
        · subst hke; simp [hk]
        · simp [hke]
      · simp only [ne_eq, hk, not_false_eq_true, decide_true, if_true, List.map_cons, dget]
        rw [ih]
        by_cases hke : e = k
        · subst hke; simp
        · rw [if_neg (by omega)]; simp [hke]
  unfold gath
  rw [key]
  by_cases hm : e ∈ isortI (d.map (·.1))
  · rw [if_pos hm]
  · rw [if_neg hm, dget_none]
    have : e ∉ d.map (·.1) := fun z => hm ((sortI_perm _).mem_iff.mpr z)
    rw [← dhas_iff] at this
    simpa using this
section
@[local simp] def zsPM21_ap_seq := @ap_seq
@[local simp] def zsPM21_ap_nx := @ap_nx
@[local simp] def zsPM21_ap_ret := @ap_ret
@[local simp] def zsPM21_ap_drop := @ap_drop
@[local simp] def zsPM21_ap_set := @ap_set
@[local simp] def zsPM21_ap_list := @ap_list
@[local simp] def zsPM21_ap_aNil := @ap_aNil
@[local simp] def zsPM21_ap_aCons := @ap_aCons
@[local simp] def zsPM21_ap_a1 := @ap_a1
@[local simp] def zsPM21_ap_var := @ap_var
@[local simp] def zsPM21_ap_look := @ap_look
@[local simp] def zsPM21_ap_c := @ap_c
@[local simp] def zsPM21_ap_op := @ap_op
@[local simp] def zsPM21_ap_opO := @ap_opO
@[local simp] def zsPM21_ap_un := @ap_un
@[local simp] def zsPM21_ap_test := @ap_test
@[local simp] def zsPM21_ap_if := @ap_if
@[local simp] def zsPM21_ap_notT := @ap_notT
@[local simp] def zsPM21_ap_andT := @ap_andT
@[local simp] def zsPM21_ap_orT := @ap_orT
@[local simp] def zsPM21_ap_tru := @ap_tru
@[local simp] def zsPM21_ap_notV := @ap_notV
@[local simp] def zsPM21_ap_andV := @ap_andV
@[local simp] def zsPM21_ap_orV := @ap_orV
@[local simp] def zsPM21_ap_for := @ap_for
@[local simp] def zsPM21_ap_iS := @ap_iS
@[local simp] def zsPM21_ap_iR1 := @ap_iR1
@[local simp] def zsPM21_ap_iR2 := @ap_iR2
@[local simp] def zsPM21_ap_name := @ap_name
@[local simp] def zsPM21_ap_tup := @ap_tup
@[local simp] def zsPM21_ap_tsNil := @ap_tsNil
@[local simp] def zsPM21_ap_tsCons := @ap_tsCons
@[local simp] def zsPM21_ap_asg := @ap_asg
@[local simp] def zsPM21_ap_sub := @ap_sub
@[local simp] def zsPM21_ap_par := @ap_par
@[local simp] def zsPM21_ap_aug := @ap_aug
@[local simp] def zsPM21_ap_get := @ap_get
@[local simp] def zsPM21_ap_getO := @ap_getO
@[local simp] def zsPM21_ap_yes := @ap_yes
@[local simp] def zsPM21_ap_mut := @ap_mut
@[local simp] theorem zsPM21_startP (n : Nat) (args : List PV) : startP n args = args.map some ++ List.replicate (n - args.length) none := rfl
@[local simp] theorem zsPM21_rowOfa (xs : List PV) : rowOf (.lst xs) = some xs := rfl
@[local simp] theorem zsPM21_rowOfb (xs : List PV) : rowOf (.tup xs) = some xs := rfl
@[local simp] def zsPM21_gTup0 := @gTup0
@[local simp] def zsPM21_gTup1 := @gTup1
@[local simp] def zsPM21_gTup2 := @gTup2
@[local simp] def zsPM21_gLst0 := @gLst0
@[local simp] def zsPM21_gLst1 := @gLst1
@[local simp] def zsPM21_gLst2 := @gLst2
theorem gNeD_int (a b : Int) : gNeD (.int a) (.int b) = some (.bl (decide (a ≠ b))) := by
  unfold gNeD
  simp only [okD, Bool.and_self, if_true, toD, PySem.PyData.eqv, beq_int]
  by_cases h : a = b <;> simp [h]
theorem gEqD_int (a b : Int) : gEqD (.int a) (.int b) = some (.bl (decide (a = b))) := by
  unfold gEqD
  simp only [okD, Bool.and_self, if_true, toD, PySem.PyData.eqv, beq_int]
theorem F_gathered_gath {d : Poly} (hl : d.length ≤ 1000000) : F_gathered [encD d] = some (encP (gath d)) := by
  have hk : (d.map encK).map (·.1) = (d.map (·.1)).map PV.int := by simp [encK]
  have hs := gSorted_int (is := d.map (·.1)) (by simpa using hl)
  have hlen : (isortI (d.map (·.1))).length = d.length := by rw [(sortI_perm _).length_eq, List.length_map]
  have hl2 := lc_map (vs := [1]) (t := tName 1) (ft := fTest (fOp gNeD (fOp gIxAll (fVar 0) (fVar 1)) (fC (.int 0)))) (fe := fList gTuple (aCons (fVar 1) (aCons (fOp gIxAll (fVar 0) (fVar 1)) aNil))) (ρ := [some (encD d), none]) PV.int (fun k => decide (dget d k ≠ 0)) (fun k => encT (k, dget d k)) (isortI (d.map (·.1))) [] (fun k hk => by
    have hh : dhas d k = true := dhas_iff.mpr ((sortI_perm _).mem_iff.mp hk)
    refine ⟨[some (encD d), some (.int k)], rfl, ?_, fun _ => ?_, rfl⟩
    · simp [gIxAll_enc hh, gNeD_int]
    · simp [gIxAll_enc hh, encT]) (by simp [hlen, hl])
  have hit : (iS (fList gSorted (a1 (fList gListAll (a1 (fVar 0)))))) [some (encD d), none] = some ((isortI (d.map (·.1))).map PV.int, [some (encD d), none]) := by
    simp only [iS, fList, a1, fVar, look, List.getElem?_cons_zero, Option.map_some, Option.bind_some, gListAll, orL, gListOf, gListD', encD, hk, hs, rowOf]
  have e1 := lc_of (vs := [1]) hit hl2
  simp only [List.nil_append] at e1
  refine run_rt (ρ' := [some (encD d), none]) ?_
  show b_gathered [some (encD d), none] = _
  simp [b_gathered, e1, gTupOf, encP, gath, Function.comp_def]
theorem F_gathered_eq {d : Poly} (h : (d.map (·.1)).Nodup) (hl : d.length ≤ 1000000) : F_gathered [encD d] = some (encP (norm d)) := by rw [F_gathered_gath hl, gath_norm h]
end
end Lau
end PT

set_option Elab.async false
set_option linter.all false
set_option autoImplicit false
set_option maxRecDepth 100000
set_option maxHeartbeats 4000000
/-! PM3: plus, scaled, minus, times and the law's own. -/
namespace PT
namespace Lau
section
@[local simp] def zsPM31_ap_seq := @ap_seq
@[local simp] def zsPM31_ap_nx := @ap_nx
@[local simp] def zsPM31_ap_ret := @ap_ret
@[local simp] def zsPM31_ap_drop := @ap_drop
@[local simp] def zsPM31_ap_set := @ap_set
@[local simp] def zsPM31_ap_list := @ap_list
@[local simp] def zsPM31_ap_aNil := @ap_aNil
@[local simp] def zsPM31_ap_aCons := @ap_aCons
@[local simp] def zsPM31_ap_a1 := @ap_a1
@[local simp] def zsPM31_ap_var := @ap_var
@[local simp] def zsPM31_ap_look := @ap_look
@[local simp] def zsPM31_ap_c := @ap_c
@[local simp] def zsPM31_ap_op := @ap_op
@[local simp] def zsPM31_ap_opO := @ap_opO
@[local simp] def zsPM31_ap_un := @ap_un
@[local simp] def zsPM31_ap_test := @ap_test
@[local simp] def zsPM31_ap_if := @ap_if
@[local simp] def zsPM31_ap_notT := @ap_notT
@[local simp] def zsPM31_ap_andT := @ap_andT
@[local simp] def zsPM31_ap_orT := @ap_orT
@[local simp] def zsPM31_ap_tru := @ap_tru
@[local simp] def zsPM31_ap_notV := @ap_notV
@[local simp] def zsPM31_ap_andV := @ap_andV
@[local simp] def zsPM31_ap_orV := @ap_orV
@[local simp] def zsPM31_ap_for := @ap_for
@[local simp] def zsPM31_ap_iS := @ap_iS
@[local simp] def zsPM31_ap_iR1 := @ap_iR1
@[local simp] def zsPM31_ap_iR2 := @ap_iR2
@[local simp] def zsPM31_ap_name := @ap_name
@[local simp] def zsPM31_ap_tup := @ap_tup
@[local simp] def zsPM31_ap_tsNil := @ap_tsNil
@[local simp] def zsPM31_ap_tsCons := @ap_tsCons
@[local simp] def zsPM31_ap_asg := @ap_asg
@[local simp] def zsPM31_ap_sub := @ap_sub
@[local simp] def zsPM31_ap_par := @ap_par
@[local simp] def zsPM31_ap_aug := @ap_aug
@[local simp] def zsPM31_ap_get := @ap_get
@[local simp] def zsPM31_ap_getO := @ap_getO
@[local simp] def zsPM31_ap_yes := @ap_yes
@[local simp] def zsPM31_ap_mut := @ap_mut
@[local simp] theorem zsPM31_startP (n : Nat) (args : List PV) : startP n args = args.map some ++ List.replicate (n - args.length) none := rfl
@[local simp] theorem zsPM31_rowOfa (xs : List PV) : rowOf (.lst xs) = some xs := rfl
@[local simp] theorem zsPM31_rowOfb (xs : List PV) : rowOf (.tup xs) = some xs := rfl
@[local simp] def zsPM31_gTup0 := @gTup0
@[local simp] def zsPM31_gTup1 := @gTup1
@[local simp] def zsPM31_gTup2 := @gTup2
@[local simp] def zsPM31_gLst0 := @gLst0
@[local simp] def zsPM31_gLst1 := @gLst1
@[local simp] def zsPM31_gLst2 := @gLst2
theorem gAdd_int (a b : Int) : gAdd (.int a) (.int b) = some (.int (a + b)) := rfl
theorem gAdd_tup {a b : List PV} (h : a.length + b.length ≤ 1000000) : gAdd (.tup a) (.tup b) = some (.tup (a ++ b)) := by
  unfold gAdd orG gAddT
  simp [gI, h]
theorem gMul_wide {a b : Int} (ha : wideI a = true) (hb : wideI b = true) : gMulI (.int a) (.int b) = some (.int (a * b)) := by
  simp [gI, ha, hb]
def WideP (p : Poly) : Prop := ∀ t ∈ p, wideI t.2 = true
theorem F_plus_eq {p q : Poly} (hl : p.length + q.length ≤ 1000000) : F_plus [encP p, encP q] = some (encP (norm (p ++ q))) := by
  have hadd : gAdd (encP p) (encP q) = some (.tup ((p ++ q).map encT)) := by
    unfold encP
    rw [gAdd_tup (by simpa using hl), List.map_append]
  obtain ⟨ρ', e, hlen, hnd, x, y, rfl⟩ := loop_invN (t := tTupG 2 (tsCons (tName 3) (tsCons (tName 4) tsNil))) (body := fSeq (fAsg (fOp gAdd (fGetO 2 (fVar 3) (fC (.int 0))) (fVar 4)) (tSub 2 (fVar 3) gSet)) fNx) encT
    (fun k d ρ => d.length ≤ k ∧ (d.map (·.1)).Nodup ∧ ∃ x y, ρ = [some (encP p), some (encP q), some (encD d), x, y]) addD 1000000 (p ++ q) 0 [] [some (encP p), some (encP q), some (encD []), none, none] (by simpa using hl)
    (fun k d a ρ hk _ ⟨h1, h2, x, y, e⟩ => by
      subst e
      have hg := gSet_enc (d := d) (k := a.1) (v := dget d a.1 + a.2) (by omega)
      refine ⟨[some (encP p), some (encP q), some (encD d), some (.int a.1), some (.int a.2)], [some (encP p), some (encP q), some (encD (addD d a)), some (.int a.1), some (.int a.2)], rfl, .inl ?_, ?_, addD_nodup a h2, _, _, rfl⟩
      · simp [gGet_enc, gAdd_int, hg, show isDct (encD d) = true from rfl, addD]
      · have := addD_len d a
        omega) ⟨Nat.le_refl _, .nil, none, none, rfl⟩
  have hg := F_gathered_eq hnd (by rw [Nat.zero_add, List.length_append] at hlen; omega)
  refine run_rt (ρ' := [some (encP p), some (encP q), some (encD ((p ++ q).foldl addD [])), x, y]) ?_
  show b_plus [some (encP p), some (encP q), none, none, none] = _
  have e' : loopF (tTupG 2 (tsCons (tName 3) (tsCons (tName 4) tsNil))) (fSeq (fAsg (fOp gAdd (fGetO 2 (fVar 3) (fC (.int 0))) (fVar 4)) (tSub 2 (fVar 3) gSet)) fNx) ((p ++ q).map encT) [some (encP p), some (encP q), some (.dct []), none, none] = _ := e
  simp only [b_plus, ap_seq, ap_set, ap_c, ap_for, ap_iS, ap_op, ap_var, ap_look, Option.bind_some, Option.map_some, List.set_cons_succ, List.set_cons_zero, List.getElem?_cons_zero, List.getElem?_cons_succ, hadd, rowOf, e', ap_ret, ap_list, ap_aCons, ap_aNil, hg]
  rw [norm_eq (q := p ++ q) fun e => by rw [cf_addDs e (d := []) (by simp)]; simp]
theorem F_scaled_eq {p : Poly} {n : Int} (hl : p.length ≤ 1000000) (hw : n = 0 ∨ (WideP p ∧ wideI n = true)) : F_scaled [encP p, .int n] = some (encP (if n = 0 then [] else sclT n p)) := by
  have hlc := lc_map (vs := [2, 3]) (t := tTupG 2 (tsCons (tName 2) (tsCons (tName 3) tsNil))) (ft := fTest (fOp gNeD (fVar 1) (fC (.int 0)))) (fe := fList gTuple (aCons (fVar 2) (aCons (fOp gMulI (fVar 3) (fVar 1)) aNil))) (ρ := [some (encP p), some (.int n), none, none]) encT (fun _ => decide (n ≠ 0)) (fun t => encT (t.1, t.2 * n)) p [] (fun t ht => by
    refine ⟨[some (encP p), some (.int n), some (.int t.1), some (.int t.2)], rfl, ?_, fun hk => ?_, rfl⟩
    · simp [gNeD_int]
    · have hn : n ≠ 0 := by simpa using hk
      obtain ⟨h1, h2⟩ := hw.resolve_left hn
      simp [gMul_wide (h1 t ht) h2, encT]) (by simpa using hl)
  have e1 := lc_of (vs := [2, 3]) (its := iS (fVar 0)) (l := p.map encT) rfl hlc
  simp only [List.nil_append] at e1
  refine run_rt (ρ' := [some (encP p), some (.int n), none, none]) ?_
  show b_scaled [some (encP p), some (.int n), none, none] = _
  simp only [b_scaled, ap_seq, ap_ret, ap_list, ap_a1, e1, Option.bind_some, gTupOf, Option.map_some]
  by_cases h : n = 0
  · simp [h, encP]
  · have hf : (p.filter fun _ => decide (n ≠ 0)) = p := List.filter_eq_self.mpr (by simp [h])
    rw [hf, if_neg h]
    simp [encP, sclT, Function.comp_def]
theorem wideI_neg1 : wideI (-1) = true := by decide +kernel
theorem F_minus_eq {p q : Poly} (hl : p.length + q.length ≤ 1000000) (hw : WideP q) : F_minus [encP p, encP q] = some (encP (norm (p ++ sclT (-1) q))) := by
  have h1 := F_scaled_eq (p := q) (n := -1) (by omega) (.inr ⟨hw, wideI_neg1⟩)
  rw [if_neg (by decide)] at h1
  have h2 := F_plus_eq (p := p) (q := sclT (-1) q) (by simpa [sclT] using hl)
  refine run_rt (ρ' := [some (encP p), some (encP q)]) ?_
  show b_minus [some (encP p), some (encP q)] = _
  have hn : gNeg (.int 1) = some (.int (-1)) := rfl
  simp [b_minus, hn, h1, h2]
theorem mulT_fold (p q d : Poly) : (mulT p q).foldl addD d = p.foldl (fun d t => q.foldl (fun d u => addD d (t.1 + u.1, t.2 * u.2)) d) d := by
  induction p generalizing d with
  | nil => rfl
  | cons t p ih =>
    have h1 : mulT (t :: p) q = (q.map fun u => (t.1 + u.1, t.2 * u.2)) ++ mulT p q := rfl
    rw [h1, List.foldl_append, List.foldl_map, ih]; rfl
theorem F_times_eq {p q : Poly} (hl : p.length * q.length < 1000000) (hp : WideP p) (hq : WideP q) : F_times [encP p, encP q] = some (encP (norm (mulT p q))) := by
  let inner : SF := fSeq (fAsg (fOp gAdd (fGetO 2 (fOp gAdd (fVar 3) (fVar 5)) (fC (.int 0))) (fOp gMulI (fVar 4) (fVar 6))) (tSub 2 (fOp gAdd (fVar 3) (fVar 5)) gSet)) fNx
  let outer : SF := fSeq (fFor (iS (fVar 1)) (tTupG 2 (tsCons (tName 5) (tsCons (tName 6) tsNil))) inner) fNx
  obtain ⟨ρ', e, hlen, hnd, x, y, x', y', rfl⟩ := loop_invN (t := tTupG 2 (tsCons (tName 3) (tsCons (tName 4) tsNil))) (body := outer) encT
    (fun k d ρ => d.length ≤ k * q.length ∧ (d.map (·.1)).Nodup ∧ ∃ x y x' y', ρ = [some (encP p), some (encP q), some (encD d), x, y, x', y']) (fun d t => q.foldl (fun d u => addD d (t.1 + u.1, t.2 * u.2)) d) p.length p 0 [] [some (encP p), some (encP q), some (encD []), none, none, none, none] (by omega)
    (fun k d a ρ hk ha ⟨h1, h2, x, y, x', y', e⟩ => by
      subst e
      have hkq : k * q.length + q.length ≤ p.length * q.length := by
        have : (k + 1) * q.length ≤ p.length * q.length := Nat.mul_le_mul_right _ hk
        rwa [Nat.succ_mul] at this
      obtain ⟨ρ2, e2, hlen2, hnd2, z, z', rfl⟩ := loop_invN (t := tTupG 2 (tsCons (tName 5) (tsCons (tName 6) tsNil))) (body := inner) encT
        (fun j d ρ => d.length ≤ k * q.length + j ∧ (d.map (·.1)).Nodup ∧ ∃ z z', ρ = [some (encP p), some (encP q), some (encD d), some (.int a.1), some (.int a.2), z, z']) (fun d u => addD d (a.1 + u.1, a.2 * u.2)) q.length q 0 d [some (encP p), some (encP q), some (encD d), some (.int a.1), some (.int a.2), x', y'] (by omega)
        (fun j d u ρ hj hu ⟨h1, h2, z, z', e⟩ => by
          subst e
          have hg := gSet_enc (d := d) (k := a.1 + u.1) (v := dget d (a.1 + u.1) + a.2 * u.2) (by omega)
          refine ⟨[some (encP p), some (encP q), some (encD d), some (.int a.1), some (.int a.2), some (.int u.1), some (.int u.2)], [some (encP p), some (encP q), some (encD (addD d (a.1 + u.1, a.2 * u.2))), some (.int a.1), some (.int a.2), some (.int u.1), some (.int u.2)], rfl, .inl ?_, ?_, addD_nodup _ h2, _, _, rfl⟩
          · simp [inner, gGet_enc, gAdd_int, hg, show isDct (encD d) = true from rfl, addD, gMul_wide (hp a ha) (hq u hu)]
          · have := addD_len d (a.1 + u.1, a.2 * u.2)
            omega) ⟨by omega, h2, x', y', rfl⟩
      refine ⟨[some (encP p), some (encP q), some (encD d), some (.int a.1), some (.int a.2), x', y'], [some (encP p), some (encP q), some (encD (q.foldl (fun d u => addD d (a.1 + u.1, a.2 * u.2)) d)), some (.int a.1), some (.int a.2), z, z'], rfl, .inl ?_, ?_, hnd2, some (.int a.1), some (.int a.2), z, z', rfl⟩
      · have hit : rowOf (encP q) = some (q.map encT) := rfl
        simp only [outer, ap_seq, ap_for, ap_iS, ap_var, ap_look, List.getElem?_cons_zero, List.getElem?_cons_succ, Option.map_some, Option.bind_some, hit, e2, ap_nx]
      · rw [Nat.succ_mul]; omega) ⟨by simp, .nil, none, none, none, none, rfl⟩
  have hnd0 := hnd
  rw [← mulT_fold] at hnd0
  have hg := F_gathered_eq hnd (by rw [Nat.zero_add] at hlen; omega)
  refine run_rt (ρ' := [some (encP p), some (encP q), some (encD (p.foldl (fun d t => q.foldl (fun d u => addD d (t.1 + u.1, t.2 * u.2)) d) [])), x, y, x', y']) ?_
  · have e' : loopF (tTupG 2 (tsCons (tName 3) (tsCons (tName 4) tsNil))) outer (p.map encT) [some (encP p), some (encP q), some (.dct []), none, none, none, none] = _ := e
    have hit : rowOf (encP p) = some (p.map encT) := rfl
    show b_times [some (encP p), some (encP q), none, none, none, none, none] = _
    simp only [b_times, ap_seq, ap_set, ap_c, ap_for, ap_iS, ap_var, ap_look, Option.bind_some, Option.map_some, List.set_cons_succ, List.set_cons_zero, List.getElem?_cons_zero, List.getElem?_cons_succ, hit]
    rw [show (fSeq (fFor (iS (fVar 1)) (tTupG 2 (tsCons (tName 5) (tsCons (tName 6) tsNil))) (fSeq (fAsg (fOp gAdd (fGetO 2 (fOp gAdd (fVar 3) (fVar 5)) (fC (.int 0))) (fOp gMulI (fVar 4) (fVar 6))) (tSub 2 (fOp gAdd (fVar 3) (fVar 5)) gSet)) fNx)) fNx) = outer from rfl, e']
    simp only [Option.bind_some, ap_ret, ap_list, ap_aCons, ap_aNil, ap_var, ap_look, List.getElem?_cons_zero, List.getElem?_cons_succ, Option.map_some, hg]
    rw [norm_eq (q := mulT p q) fun e => by rw [← mulT_fold, cf_addDs e (d := []) (by simp)]; simp]
end
end Lau
end PT

set_option Elab.async false
set_option linter.all false
set_option autoImplicit false
set_option maxRecDepth 100000
set_option maxHeartbeats 4000000
/-! PM4: the law's own plus, times, power. -/
namespace PT
namespace Lau
/-- all exponents within a list -/
def Keys (S : List Int) (p : Poly) : Prop := ∀ t ∈ p, t.1 ∈ S
theorem nodup_sub_len : ∀ {a b : List Int}, a.Nodup → (∀ x ∈ a, x ∈ b) → a.length ≤ b.length
  | [], b, _, _ => Nat.zero_le _
  | x :: a, b, h, hs => by
    rw [List.nodup_cons] at h
    have hx := hs x (by simp)
    have h2 := nodup_sub_len (b := b.erase x) h.2 (fun y hy => by
      have hne : y ≠ x := fun e => h.1 (e ▸ hy)
      exact (List.mem_erase_of_ne hne).mpr (hs y (by simp [hy])))
    rw [List.length_erase_of_mem hx] at h2
    have : 0 < b.length := List.length_pos_of_mem hx
    rw [List.length_cons]; omega
theorem keys_putD {d : Poly} {k v : Int} {S : List Int} (h : Keys S d) (hk : k ∈ S) : Keys S (putD d k v) := fun t ht => by
  have h1 : t.1 ∈ (putD d k v).map (·.1) := List.mem_map_of_mem ht
  rw [putD_keys] at h1
  split at h1
  · obtain ⟨u, hu, e⟩ := List.mem_map.mp h1
    rw [← e]; exact h u hu
  · rcases List.mem_append.mp h1 with h1 | h1
    · obtain ⟨u, hu, e⟩ := List.mem_map.mp h1
      rw [← e]; exact h u hu
    · simp only [List.mem_singleton] at h1
      rw [h1]; exact hk
theorem keys_addDs {S : List Int} : ∀ {p d : Poly}, Keys S d → Keys S p → Keys S (p.foldl addD d)
  | [], d, h, _ => h
  | t :: p, d, h, hp => keys_addDs (d := addD d t) (keys_putD h (hp t (by simp))) fun u hu => hp u (by simp [hu])
theorem len_of_keys {S : List Int} {d : Poly} (h : Keys S d) (hn : (d.map (·.1)).Nodup) : d.length ≤ S.length := by
  have := nodup_sub_len hn (b := S) (fun x hx => by
    obtain ⟨u, hu, e⟩ := List.mem_map.mp hx
    rw [← e]; exact h u hu)
  simpa using this
theorem insT_keys {S : List Int} {e c : Int} {q : Poly} (h : Keys S q) (he : e ∈ S) : Keys S (insT e c q) := fun u hu => by
  rcases insT_mem hu with h1 | h1
  · rw [h1]; exact he
  · exact h u h1
theorem norm_keys {S : List Int} : ∀ {p : Poly}, Keys S p → Keys S (norm p)
  | [], _ => by intro t ht; cases ht
  | t :: p, h => insT_keys (norm_keys fun u hu => h u (by simp [hu])) (h t (by simp))
theorem Canon.nodup {p : Poly} (h : Canon p) : (p.map (·.1)).Nodup := by
  refine List.Pairwise.imp (R := fun a b : Int => a < b) (fun h => by omega) ?_
  rw [List.pairwise_map]
  exact h.1
/-! dict(p) -/
theorem pairsP_enc (p : Poly) : pairsP (p.map encT) = some (p.map encK) := by
  induction p with
  | nil => rfl
  | cons t p ih => simp only [List.map_cons, encT, pairsP, ih]; rfl
theorem mergeP_enc (d : Poly) : ∀ p : Poly, mergeP (d.map encK) (p.map encK) = ((p.foldl (fun d t => putD d t.1 t.2) d)).map encK := fun p => by
  unfold mergeP
  induction p generalizing d with
  | nil => rfl
  | cons t p ih =>
    rw [List.map_cons, List.foldl_cons, List.foldl_cons]
    have : putP (d.map encK) (encK t).1 (encK t).2 = (putD d t.1 t.2).map encK := putP_enc d t.1 t.2
    rw [this, ih]
theorem puts_nodup : ∀ {p d : Poly}, ((d ++ p).map (·.1)).Nodup → p.foldl (fun d t => putD d t.1 t.2) d = d ++ p
  | [], d, h => by simp
  | t :: p, d, h => by
    have hn : dhas d t.1 = false := by
      rw [Bool.eq_false_iff]
      intro hh
      rw [dhas_iff] at hh
      rw [List.map_append, List.nodup_append] at h
      exact h.2.2 _ hh t.1 (by simp) rfl
    rw [List.foldl_cons]
    have e : putD d t.1 t.2 = d ++ [t] := by unfold putD; rw [hn]; simp
    rw [e, puts_nodup (by simpa using h)]
    simp
theorem gDictP_enc {p : Poly} (h : (p.map (·.1)).Nodup) (hl : p.length ≤ 1000000) : gDictP [encP p] = some (encD p) := by
  unfold gDictP encP
  dsimp only
  rw [if_pos (by simpa using hl), pairsP_enc]
  have := mergeP_enc [] p
  rw [puts_nodup (by simpa using h)] at this
  simp only [Option.map_some]
  rw [show mergeP [] (p.map encK) = (([] : Poly) ++ p).map encK from this]
  rfl
theorem keysI_enc (d : Poly) : keysI (d.map encK) = some (d.map (·.1)) := by
  induction d with
  | nil => rfl
  | cons t d ih =>
    show (keysI (d.map encK)).map _ = _
    rw [ih]; rfl
theorem gSorted_dct {d : Poly} (h : d.length < 64) : gSorted [encD d] = some (.lst ((isortI (d.map (·.1))).map PV.int)) := by
  unfold gSorted orL gSortL gSortD encD
  dsimp only
  rw [keysI_enc]
  simp [h]
section
@[local simp] def zsPM41_ap_seq := @ap_seq
@[local simp] def zsPM41_ap_nx := @ap_nx
@[local simp] def zsPM41_ap_ret := @ap_ret
@[local simp] def zsPM41_ap_drop := @ap_drop
@[local simp] def zsPM41_ap_set := @ap_set
@[local simp] def zsPM41_ap_list := @ap_list
@[local simp] def zsPM41_ap_aNil := @ap_aNil
@[local simp] def zsPM41_ap_aCons := @ap_aCons
@[local simp] def zsPM41_ap_a1 := @ap_a1
@[local simp] def zsPM41_ap_var := @ap_var
@[local simp] def zsPM41_ap_look := @ap_look
@[local simp] def zsPM41_ap_c := @ap_c
@[local simp] def zsPM41_ap_op := @ap_op
@[local simp] def zsPM41_ap_opO := @ap_opO
@[local simp] def zsPM41_ap_un := @ap_un
@[local simp] def zsPM41_ap_test := @ap_test
@[local simp] def zsPM41_ap_if := @ap_if
@[local simp] def zsPM41_ap_notT := @ap_notT
@[local simp] def zsPM41_ap_andT := @ap_andT
@[local simp] def zsPM41_ap_orT := @ap_orT
@[local simp] def zsPM41_ap_tru := @ap_tru
@[local simp] def zsPM41_ap_notV := @ap_notV
@[local simp] def zsPM41_ap_andV := @ap_andV
@[local simp] def zsPM41_ap_orV := @ap_orV
@[local simp] def zsPM41_ap_for := @ap_for
@[local simp] def zsPM41_ap_iS := @ap_iS
@[local simp] def zsPM41_ap_iR1 := @ap_iR1
@[local simp] def zsPM41_ap_iR2 := @ap_iR2
@[local simp] def zsPM41_ap_name := @ap_name
@[local simp] def zsPM41_ap_tup := @ap_tup
@[local simp] def zsPM41_ap_tsNil := @ap_tsNil
@[local simp] def zsPM41_ap_tsCons := @ap_tsCons
@[local simp] def zsPM41_ap_asg := @ap_asg
@[local simp] def zsPM41_ap_sub := @ap_sub
@[local simp] def zsPM41_ap_par := @ap_par
@[local simp] def zsPM41_ap_aug := @ap_aug
@[local simp] def zsPM41_ap_get := @ap_get
@[local simp] def zsPM41_ap_getO := @ap_getO
@[local simp] def zsPM41_ap_yes := @ap_yes
@[local simp] def zsPM41_ap_mut := @ap_mut
@[local simp] theorem zsPM41_startP (n : Nat) (args : List PV) : startP n args = args.map some ++ List.replicate (n - args.length) none := rfl
@[local simp] theorem zsPM41_rowOfa (xs : List PV) : rowOf (.lst xs) = some xs := rfl
@[local simp] theorem zsPM41_rowOfb (xs : List PV) : rowOf (.tup xs) = some xs := rfl
@[local simp] def zsPM41_gTup0 := @gTup0
@[local simp] def zsPM41_gTup1 := @gTup1
@[local simp] def zsPM41_gTup2 := @gTup2
@[local simp] def zsPM41_gLst0 := @gLst0
@[local simp] def zsPM41_gLst1 := @gLst1
@[local simp] def zsPM41_gLst2 := @gLst2
theorem F__law_plus_eq {p q : Poly} {S : List Int} (hp : (p.map (·.1)).Nodup) (hS : S.length < 64) (kp : Keys S p) (kq : Keys S q) (hl : q.length ≤ 900000) : F__law_plus [encP p, encP q] = some (encP (norm (p ++ q))) := by
  have hpl : p.length < 64 := Nat.lt_of_le_of_lt (len_of_keys kp hp) hS
  have hdict := gDictP_enc hp (by omega)
  obtain ⟨ρ', e, hlen, hkd, hnd, x, y, rfl⟩ := loop_invN (t := tTupG 2 (tsCons (tName 3) (tsCons (tName 4) tsNil))) (body := fSeq (fAsg (fOp gAdd (fGetO 2 (fVar 3) (fC (.int 0))) (fVar 4)) (tSub 2 (fVar 3) gSet)) fNx) encT
    (fun k d ρ => d.length ≤ 64 + k ∧ Keys S d ∧ (d.map (·.1)).Nodup ∧ ∃ x y, ρ = [some (encP p), some (encP q), some (encD d), x, y]) addD 900000 q 0 p [some (encP p), some (encP q), some (encD p), none, none] (by omega)
    (fun k d a ρ hk ha ⟨h1, h3, h2, x, y, e⟩ => by
      subst e
      have hg := gSet_enc (d := d) (k := a.1) (v := dget d a.1 + a.2) (by omega)
      refine ⟨[some (encP p), some (encP q), some (encD d), some (.int a.1), some (.int a.2)], [some (encP p), some (encP q), some (encD (addD d a)), some (.int a.1), some (.int a.2)], rfl, .inl ?_, ?_, keys_putD h3 (kq a ha), addD_nodup a h2, _, _, rfl⟩
      · simp [gGet_enc, gAdd_int, hg, show isDct (encD d) = true from rfl, addD]
      · have := addD_len d a
        omega) ⟨by omega, kp, hp, none, none, rfl⟩
  have hd64 : (q.foldl addD p).length < 64 := Nat.lt_of_le_of_lt (len_of_keys hkd hnd) hS
  have hs := gSorted_dct hd64
  have hlc := lc_map (vs := [3]) (t := tName 3) (ft := fTest (fOp gNeD (fOpO gIxAll 2 (fVar 3)) (fC (.int 0)))) (fe := fList gTuple (aCons (fVar 3) (aCons (fOpO gIxAll 2 (fVar 3)) aNil))) (ρ := [some (encP p), some (encP q), some (encD (q.foldl addD p)), x, y]) PV.int (fun k => decide (dget (q.foldl addD p) k ≠ 0)) (fun k => encT (k, dget (q.foldl addD p) k)) (isortI ((q.foldl addD p).map (·.1))) [] (fun k hk => by
    have hh : dhas (q.foldl addD p) k = true := dhas_iff.mpr ((sortI_perm _).mem_iff.mp hk)
    refine ⟨[some (encP p), some (encP q), some (encD (q.foldl addD p)), some (.int k), y], rfl, ?_, fun _ => ?_, rfl⟩
    · simp [gIxAll_enc hh, gNeD_int]
    · simp [gIxAll_enc hh, encT]) (by rw [(sortI_perm _).length_eq, List.length_map, List.length_nil]; omega)
  have e1 := lc_of (vs := [3]) (its := iS (fList gSorted (a1 (fVar 2)))) (l := (isortI ((q.foldl addD p).map (·.1))).map PV.int) (by simp [hs]) hlc
  simp only [List.nil_append] at e1
  refine run_rt (ρ' := [some (encP p), some (encP q), some (encD (q.foldl addD p)), x, y]) ?_
  show b__law_plus [some (encP p), some (encP q), none, none, none] = _
  have hit : rowOf (encP q) = some (q.map encT) := rfl
  simp only [b__law_plus, ap_seq, ap_set, ap_list, ap_a1, ap_var, ap_look, List.getElem?_cons_zero, List.getElem?_cons_succ, Option.map_some, Option.bind_some, hdict, List.set_cons_succ, List.set_cons_zero, ap_for, ap_iS, hit, e, ap_ret, e1, gTupOf]
  rw [show (encP (norm (p ++ q))) = .tup ((norm (p ++ q)).map encT) from rfl, norm_eq (q := q.foldl addD p) fun e => by rw [cf_append, cf_addDs e hp], ← gath_norm hnd]
  simp [gath, Function.comp_def]
/-- products of terms stay within S -/
theorem F__law_times_eq {p q : Poly} {S : List Int} (hS : S.length < 64) (kpq : Keys S (mulT p q)) (hl : q.length ≤ 900000) (hp : WideP p) (hq : WideP q) : F__law_times [encP p, encP q] = some (encP (norm (mulT p q))) := by
  have hrow : ∀ t ∈ p, Keys S (q.map fun u => (t.1 + u.1, t.2 * u.2)) := fun t ht u hu => by
    refine kpq u ?_
    unfold mulT
    exact List.mem_flatMap.mpr ⟨t, ht, hu⟩
  obtain ⟨ρ', e, _, _, _, x, y, rfl⟩ := loop_invM (t := tTupG 2 (tsCons (tName 3) (tsCons (tName 4) tsNil))) (body := fSeq (fSet 2 (fList F__law_plus (aCons (fVar 2) (aCons (fList gTupOf (a1 (fLC [5, 6] (iS (fVar 1)) (tTupG 2 (tsCons (tName 5) (tsCons (tName 6) tsNil))) (fYes) (fList gTuple (aCons (fOp gAdd (fVar 3) (fVar 5)) (aCons (fOp gMulI (fVar 4) (fVar 6)) aNil)))))) aNil)))) fNx) encT
    (fun (d : Poly × Poly) ρ => Canon d.1 ∧ Keys S d.1 ∧ (∀ e, cf d.1 e = cf d.2 e) ∧ ∃ x y, ρ = [some (encP p), some (encP q), some (encP d.1), x, y, none, none]) (fun d t => (norm (d.1 ++ q.map fun u => (t.1 + u.1, t.2 * u.2)), d.2 ++ q.map fun u => (t.1 + u.1, t.2 * u.2))) p ([], []) [some (encP p), some (encP q), some (encP []), none, none, none, none]
    (fun d a ρ ha ⟨hc, hk, hcf, x, y, e⟩ => by
      subst e
      have hplus := F__law_plus_eq (p := d.1) (q := q.map fun u => (a.1 + u.1, a.2 * u.2)) hc.nodup hS hk (hrow a ha) (by simpa using hl)
      have hlc := lc_map (vs := [5, 6]) (t := tTupG 2 (tsCons (tName 5) (tsCons (tName 6) tsNil))) (ft := fYes) (fe := fList gTuple (aCons (fOp gAdd (fVar 3) (fVar 5)) (aCons (fOp gMulI (fVar 4) (fVar 6)) aNil))) (ρ := [some (encP p), some (encP q), some (encP d.1), some (.int a.1), some (.int a.2), none, none]) encT (fun _ => true) (fun u => encT (a.1 + u.1, a.2 * u.2)) q [] (fun u hu => by
        refine ⟨[some (encP p), some (encP q), some (encP d.1), some (.int a.1), some (.int a.2), some (.int u.1), some (.int u.2)], rfl, rfl, fun _ => ?_, rfl⟩
        simp [gAdd_int, gMul_wide (hp a ha) (hq u hu), encT]) (by simp; omega)
      have e1 := lc_of (vs := [5, 6]) (its := iS (fVar 1)) (l := q.map encT) rfl hlc
      have hft : (q.filter fun _ => true) = q := List.filter_eq_self.mpr (by simp)
      simp only [List.nil_append, hft] at e1
      have ht : PV.tup (q.map fun u => encT (a.1 + u.1, a.2 * u.2)) = encP (q.map fun u => (a.1 + u.1, a.2 * u.2)) := by simp [encP, Function.comp_def]
      refine ⟨[some (encP p), some (encP q), some (encP d.1), some (.int a.1), some (.int a.2), none, none], [some (encP p), some (encP q), some (encP (norm (d.1 ++ q.map fun u => (a.1 + u.1, a.2 * u.2)))), some (.int a.1), some (.int a.2), none, none], rfl, .inl ?_, canon_norm _, norm_keys ?_, fun e => ?_, _, _, rfl⟩
      · simp only [ap_seq, ap_set, ap_list, ap_aCons, ap_aNil, ap_a1, ap_var, ap_look, List.getElem?_cons_zero, List.getElem?_cons_succ, Option.map_some, Option.bind_some, e1, gTupOf, ht, hplus, List.set_cons_succ, List.set_cons_zero, ap_nx]
      · intro t ht
        rcases List.mem_append.mp ht with ht | ht
        · exact hk t ht
        · exact hrow a ha t ht
      · rw [cf_norm, cf_append, cf_append, hcf]) ⟨.nil, (by intro t ht; cases ht), fun _ => rfl, none, none, rfl⟩
  have hfold : ∀ (l : Poly) (d : Poly × Poly), Canon d.1 → (∀ e, cf d.1 e = cf d.2 e) → (l.foldl (fun (d : Poly × Poly) t => (norm (d.1 ++ q.map fun u => (t.1 + u.1, t.2 * u.2)), d.2 ++ q.map fun u => (t.1 + u.1, t.2 * u.2))) d).1 = norm (d.2 ++ mulT l q) := fun l => by
    induction l with
    | nil =>
      intro d hc h
      rw [List.foldl_nil]
      exact canon_norm_eq hc fun e => by rw [h, cf_append]; simp [mulT]
    | cons t l ih =>
      intro d hc h
      have h1 : mulT (t :: l) q = (q.map fun u => (t.1 + u.1, t.2 * u.2)) ++ mulT l q := rfl
      rw [List.foldl_cons, ih _ (canon_norm _) (fun e => by rw [cf_norm, cf_append, cf_append, h]), h1, ← List.append_assoc]
  refine run_rt (ρ' := [some (encP p), some (encP q), some (encP (norm (mulT p q))), x, y, none, none]) ?_
  show b__law_times [some (encP p), some (encP q), none, none, none, none, none] = _
  have hit : rowOf (encP p) = some (p.map encT) := rfl
  have h0 : gTuple [] = some (encP []) := rfl
  rw [hfold p ([], []) .nil fun _ => rfl] at e
  simp only [b__law_times, ap_seq, ap_set, ap_list, ap_aNil, h0, ap_var, ap_look, List.getElem?_cons_zero, List.getElem?_cons_succ, Option.map_some, Option.bind_some, List.set_cons_succ, List.set_cons_zero, ap_for, ap_iS, hit, e, ap_ret, List.nil_append]
end
end Lau
end PT

set_option Elab.async false
set_option linter.all false
set_option autoImplicit false
set_option maxRecDepth 100000
set_option maxHeartbeats 4000000
/-! PM5: the law's tape; its own equality. -/
namespace PT
namespace Lau
section
@[local simp] def zsPM51_ap_seq := @ap_seq
@[local simp] def zsPM51_ap_nx := @ap_nx
@[local simp] def zsPM51_ap_ret := @ap_ret
@[local simp] def zsPM51_ap_drop := @ap_drop
@[local simp] def zsPM51_ap_set := @ap_set
@[local simp] def zsPM51_ap_list := @ap_list
@[local simp] def zsPM51_ap_aNil := @ap_aNil
@[local simp] def zsPM51_ap_aCons := @ap_aCons
@[local simp] def zsPM51_ap_a1 := @ap_a1
@[local simp] def zsPM51_ap_var := @ap_var
@[local simp] def zsPM51_ap_look := @ap_look
@[local simp] def zsPM51_ap_c := @ap_c
@[local simp] def zsPM51_ap_op := @ap_op
@[local simp] def zsPM51_ap_opO := @ap_opO
@[local simp] def zsPM51_ap_un := @ap_un
@[local simp] def zsPM51_ap_test := @ap_test
@[local simp] def zsPM51_ap_if := @ap_if
@[local simp] def zsPM51_ap_notT := @ap_notT
@[local simp] def zsPM51_ap_andT := @ap_andT
@[local simp] def zsPM51_ap_orT := @ap_orT
@[local simp] def zsPM51_ap_tru := @ap_tru
@[local simp] def zsPM51_ap_notV := @ap_notV
@[local simp] def zsPM51_ap_andV := @ap_andV
@[local simp] def zsPM51_ap_orV := @ap_orV
@[local simp] def zsPM51_ap_for := @ap_for
@[local simp] def zsPM51_ap_iS := @ap_iS
@[local simp] def zsPM51_ap_iR1 := @ap_iR1
@[local simp] def zsPM51_ap_iR2 := @ap_iR2
@[local simp] def zsPM51_ap_name := @ap_name
@[local simp] def zsPM51_ap_tup := @ap_tup
@[local simp] def zsPM51_ap_tsNil := @ap_tsNil
@[local simp] def zsPM51_ap_tsCons := @ap_tsCons
@[local simp] def zsPM51_ap_asg := @ap_asg
@[local simp] def zsPM51_ap_sub := @ap_sub
@[local simp] def zsPM51_ap_par := @ap_par
@[local simp] def zsPM51_ap_aug := @ap_aug
@[local simp] def zsPM51_ap_get := @ap_get
@[local simp] def zsPM51_ap_getO := @ap_getO
@[local simp] def zsPM51_ap_yes := @ap_yes
@[local simp] def zsPM51_ap_mut := @ap_mut
@[local simp] theorem zsPM51_startP (n : Nat) (args : List PV) : startP n args = args.map some ++ List.replicate (n - args.length) none := rfl
@[local simp] theorem zsPM51_rowOfa (xs : List PV) : rowOf (.lst xs) = some xs := rfl
@[local simp] theorem zsPM51_rowOfb (xs : List PV) : rowOf (.tup xs) = some xs := rfl
@[local simp] def zsPM51_gTup0 := @gTup0
@[local simp] def zsPM51_gTup1 := @gTup1
@[local simp] def zsPM51_gTup2 := @gTup2
@[local simp] def zsPM51_gLst0 := @gLst0
@[local simp] def zsPM51_gLst1 := @gLst1
@[local simp] def zsPM51_gLst2 := @gLst2
/-! ### the tape -/
def tapeP (xs : List Int) (i r s : Int) : PV := .lst [.lst (xs.map PV.int), .int i, .int r, .int s]
def TapeOk (t : PV) : Prop := ∃ (xs : List Int) (i r s : Int), t = tapeP xs i r s ∧ 0 ≤ i ∧ 0 ≤ r ∧ 0 ≤ s ∧ s < 2147483647
theorem wide_lt {a : Int} (h1 : -(2 ^ 200) < a) (h2 : a < 2 ^ 200) : wideI a = true := by
  unfold wideI
  rw [decide_eq_true_eq]
  by_cases h : a.natAbs = 0
  · rw [h]; decide +kernel
  · have : a.natAbs < 2 ^ 200 := by omega
    have := (Nat.log2_lt h).mpr this
    omega
theorem gDiv_int {a b : Int} (h : b ≠ 0) (h2 : b.natAbs < 1073741824) : gDivI (.int a) (.int b) = some (.int (a.fdiv b)) := by simp [gI, h, h2]
theorem gMod_int {a b : Int} (h : b ≠ 0) : gModI (.int a) (.int b) = some (.int (a.fmod b)) := by simp [gI, h]
theorem gIx_at {xs : List PV} {i : Nat} {v : PV} (h : xs[i]? = some v) : gIxAll (.lst xs) (.int i) = some v := by
  have hlt := (List.getElem?_eq_some_iff.mp h).1
  unfold gIxAll orG gIxT gIxL
  simp only [L2.atI, L2.ixN]
  rw [if_pos (by omega), if_pos (by omega)]
  simp [h]
theorem fmod_lt {a b : Int} (h : 0 < b) : 0 ≤ a.fmod b ∧ a.fmod b < b := ⟨Int.fmod_nonneg_of_pos a h, Int.fmod_lt_of_pos a h⟩
theorem F__law_next_ok {t : PV} {m : Int} (h : TapeOk t) (hm : 0 < m) (hm2 : m < 1073741824) : ∃ r t', F__law_next [t, .int m] = some (.int r, t') ∧ 0 ≤ r ∧ r < m ∧ TapeOk t' := by
  obtain ⟨xs, i, rest, s, rfl, hi, hr, hs, hs2⟩ := h
  have hm0 : m ≠ 0 := by omega
  have hmn : m.natAbs < 1073741824 := by omega
  have g0 : ∀ a b c d : PV, gIxAll (.lst [a, b, c, d]) (.int 0) = some a := fun a b c d => rfl
  have g1 : ∀ a b c d : PV, gIxAll (.lst [a, b, c, d]) (.int 1) = some b := fun a b c d => rfl
  have g2 : ∀ a b c d : PV, gIxAll (.lst [a, b, c, d]) (.int 2) = some c := fun a b c d => rfl
  have g3 : ∀ a b c d : PV, gIxAll (.lst [a, b, c, d]) (.int 3) = some d := fun a b c d => rfl
  have s1 : ∀ a b c d v : PV, gSet (.lst [a, b, c, d]) (.int 1) v = some (.lst [a, v, c, d]) := fun a b c d v => rfl
  have s2 : ∀ a b c d v : PV, gSet (.lst [a, b, c, d]) (.int 2) v = some (.lst [a, b, v, d]) := fun a b c d v => rfl
  have s3 : ∀ a b c d v : PV, gSet (.lst [a, b, c, d]) (.int 3) v = some (.lst [a, b, c, v]) := fun a b c d v => rfl
  have lt_ : ∀ a b : Int, gLt (.int a) (.int b) = some (.bl (decide (a < b))) := fun a b => rfl
  have pw : gPowI (.int 10) (.int 18) = some (.int 1000000000000000000) := isV_eq (by decide +kernel)
  have ii : ∀ a : Int, gInt [.int a] = some (.int a) := fun a => rfl
  have len_ : gLenAll [.lst (xs.map PV.int)] = some (.int xs.length) := by simp [gLenAll, orL, gLen]
  have sub_ : ∀ a b : Int, gSubI (.int a) (.int b) = some (.int (a - b)) := fun a b => rfl
  have abs_ : ∀ a : Int, gAbs [.int a] = some (.int (if a < 0 then -a else a)) := fun a => rfl
  suffices hb : ∃ r t' ρ', b__law_next [some (tapeP xs i rest s), some (.int m), none, none] = some (.rt (.int r), some t' :: ρ') ∧ 0 ≤ r ∧ r < m ∧ TapeOk t' by
    obtain ⟨r, t', ρ', e, q1, q2, q3⟩ := hb
    refine ⟨r, t', ?_, q1, q2, q3⟩
    show ((b__law_next [some (tapeP xs i rest s), some (.int m), none, none]).bind fun r => (outF r.1).bind fun v => (look r.2 0).map fun w => (v, w)) = _
    rw [e]; rfl
  by_cases hr0 : rest = 0
  · subst hr0
    -- a cell is drawn
    have tail : ∀ (cell i' : Int), 0 ≤ cell → 0 ≤ i' → cell < 1000000000000000000 → ∃ s', 0 ≤ s' ∧ s' < 2147483647 ∧ gMulI (.int s) (.int 69621) = some (.int (s * 69621)) ∧ gMulI (.int cell) (.int 40692) = some (.int (cell * 40692)) ∧ (s * 69621 + cell * 40692 + 17).fmod 2147483647 = s' ∧ gMulI (.int (s'.fdiv 5)) (.int 48271) = some (.int (s'.fdiv 5 * 48271)) := by
      intro cell i' hc hi' hlt
      obtain ⟨m1, m2⟩ := fmod_lt (a := s * 69621 + cell * 40692 + 17) (b := 2147483647) (by decide)
      refine ⟨_, m1, m2, gMul_wide (wide_lt (by omega) (by omega)) (by decide +kernel), gMul_wide (wide_lt (by omega) (by omega)) (by decide +kernel), rfl, ?_⟩
      generalize (s * 69621 + cell * 40692 + 17).fmod 2147483647 = s' at m1 m2
      have : s'.fdiv 5 = s' / 5 := Int.fdiv_eq_ediv_of_nonneg _ (by decide)
      refine gMul_wide (wide_lt ?_ ?_) (by decide +kernel)
      · rw [this]; omega
      · rw [this]; omega
    by_cases hlen : i < (xs.length : Int)
    · obtain ⟨j, rfl⟩ := Int.eq_ofNat_of_zero_le hi
      have hj : j < xs.length := by omega
      have gx : gIxAll (.lst (xs.map PV.int)) (.int (j : Int)) = some (.int xs[j]) := gIx_at (by simp [hj])
      generalize xs[j] = x at gx
      have hx : 0 ≤ (if x < 0 then -x else x) := by split <;> omega
      generalize hcell : (if x < 0 then -x else x) = cell at hx
      by_cases hlt : cell < 1000000000000000000
      · obtain ⟨s', m1, m2, w1, w2, hs', w3⟩ := tail cell (j + 1) hx (by omega) hlt
        obtain ⟨q1, q2⟩ := fmod_lt (a := (s'.fdiv 5 * 48271).fmod 2147483647) (b := m) hm
        refine ⟨((s'.fdiv 5 * 48271).fmod 2147483647).fmod m, tapeP xs (j + 1) 0 s', [some (.int m), some (.int cell), some (.int cell)], ?_, q1, q2, xs, j + 1, 0, s', rfl, by omega, by omega, m1, m2⟩
        simp [b__law_next, tapeP, gEqD_int, g0, g1, g2, lt_, len_, hlen, gx, ii, abs_, hcell, gAdd_int, s1, pw, hlt, g3, w1, w2, gMod_int, hs', s3, gDiv_int, w3, hm0]
      · obtain ⟨q1, q2⟩ := fmod_lt (a := cell) (b := m) hm
        refine ⟨cell.fmod m, tapeP xs (j + 1) (cell.fdiv m) s, [some (.int m), some (.int cell), some (.int cell)], ?_, q1, q2, xs, j + 1, cell.fdiv m, s, rfl, by omega, Int.fdiv_nonneg hx (by omega), hs, hs2⟩
        simp [b__law_next, tapeP, gEqD_int, g0, g1, g2, lt_, len_, hlen, gx, ii, abs_, hcell, gAdd_int, s1, s2, pw, hlt, gMod_int hm0, gDiv_int hm0 hmn]
    · obtain ⟨s', m1, m2, w1, w2, hs', w3⟩ := tail 0 i (by omega) hi (by decide)
      obtain ⟨q1, q2⟩ := fmod_lt (a := (s'.fdiv 5 * 48271).fmod 2147483647) (b := m) hm
      refine ⟨((s'.fdiv 5 * 48271).fmod 2147483647).fmod m, tapeP xs i 0 s', [some (.int m), some (.int 0), some (.int 0)], ?_, q1, q2, xs, i, 0, s', rfl, hi, by omega, m1, m2⟩
      have hs'' : (s * 69621 + 17).fmod 2147483647 = s' := by rw [← hs']; simp
      have w2' : gMulI (.int 0) (.int 40692) = some (.int 0) := by simpa using w2
      simp [b__law_next, tapeP, gEqD_int, g0, g1, g2, lt_, len_, hlen, gAdd_int, ii, pw, g3, w1, w2', gMod_int, hs'', s3, gDiv_int, w3, hm0]
  · obtain ⟨q1, q2⟩ := fmod_lt (a := rest) (b := m) hm
    refine ⟨rest.fmod m, tapeP xs i (rest.fdiv m) s, [some (.int m), some (.int rest), none], ?_, q1, q2, xs, i, rest.fdiv m, s, rfl, hi, Int.fdiv_nonneg hr (by omega), hs, hs2⟩
    simp [b__law_next, tapeP, gEqD_int, g2, hr0, ii, s2, gMod_int hm0, gDiv_int hm0 hmn]

/-! ### the law's equality of a thing with itself -/
mutual
def okS : Nat → PV → Bool
  | 0, _ => false
  | _ + 1, .non => true
  | _ + 1, .bl _ => true
  | _ + 1, .int _ => true
  | _ + 1, .str s => PySem.PyData.strOk s
  | n + 1, .tup xs => decide (xs.length ≤ 1000000) && okSs n xs
  | n + 1, .lst xs => decide (xs.length ≤ 1000000) && okSs n xs
  | _ + 1, .dct _ => false
  | _ + 1, .obj _ _ => false
def okSs : Nat → List PV → Bool
  | _, [] => true
  | n, x :: xs => okS n x && okSs n xs
end
theorem okSs_get {n : Nat} {xs : List PV} {i : Nat} {v : PV} (h : okSs n xs = true) (e : xs[i]? = some v) : okS n v = true := by
  induction xs generalizing i with
  | nil => simp at e
  | cons x xs ih =>
    simp only [okSs, Bool.and_eq_true] at h
    cases i with
    | zero => simp at e; rw [← e]; exact h.1
    | succ i => exact ih h.2 (by simpa using e)
theorem i62_len {n : Nat} (h : n ≤ 1000000) : i62 (n : Int) = true := by
  unfold i62
  simp only [Bool.and_eq_true, decide_eq_true_eq]
  omega
theorem gEqD_lst0 : gEqD (.lst []) (.lst []) = some (.bl true) := isV_eq (by decide +kernel)
theorem gEqD_bl (b : Bool) : gEqD (.bl b) (.bl b) = some (.bl true) := by cases b <;> exact isV_eq (by decide +kernel)
theorem gEqD_str {s : PySem.Str} (h : PySem.PyData.strOk s = true) : gEqD (.str s) (.str s) = some (.bl true) := by
  unfold gEqD
  simp [okD, h, toD, PySem.PyData.eqv]
theorem same_loop {n : Nat} (F : GL) (xs : List PV) (w : PV) (hl : xs.length ≤ 1000000) (hF : ∀ (i : Nat) (h : i < xs.length), F [xs[i], xs[i]] = some (.bl true)) (hix : ∀ (i : Nat) v, xs[i]? = some v → gIxAll w (.int i) = some v) (hlen : gLenAll [w] = some (.int xs.length)) :
    (fAndV (fOp gEqD (fList gLenAll (a1 (fVar 0))) (fList gLenAll (a1 (fVar 1)))) (fOp gEqD (fLC [2] (iR1 (fList gLenAll (a1 (fVar 1)))) (tName 2) (fNotT (fTru (fList F (aCons (fOp gIxAll (fVar 0) (fVar 2)) (aCons (fOp gIxAll (fVar 1) (fVar 2)) aNil))))) (fC (.int 1))) (fList gListD aNil))) [some w, some w, none] = some (.bl true, [some w, some w, none]) := by
  have hlc := lc_map (vs := [2]) (t := tName 2) (ft := fNotT (fTru (fList F (aCons (fOp gIxAll (fVar 0) (fVar 2)) (aCons (fOp gIxAll (fVar 1) (fVar 2)) aNil))))) (fe := fC (.int 1)) (ρ := [some w, some w, none]) (fun i : Nat => PV.int (0 + (i : Int))) (fun _ => false) (fun _ => PV.int 1) (List.range xs.length) [] (fun i hi => by
    have hi' : i < xs.length := by simpa using hi
    have hx : gIxAll w (.int (i : Int)) = some xs[i] := hix i _ (List.getElem?_eq_getElem hi')
    have ih := hF i hi'
    refine ⟨[some w, some w, some (.int (0 + (i : Int)))], rfl, ?_, fun hk => Bool.noConfusion hk, rfl⟩
    simp [hx, ih, gTru]) (by rw [List.length_range, List.length_nil]; omega)
  have hit : iR1 (fList gLenAll (a1 (fVar 1))) [some w, some w, none] = some (rngP 0 xs.length, [some w, some w, none]) :=
    iR1_of (j := (xs.length : Int)) (by simp only [ap_list, ap_a1, ap_var, ap_look, List.getElem?_cons_zero, List.getElem?_cons_succ, Option.map_some, Option.bind_some, hlen]) (i62_len hl)
  have e1 := lc_of (vs := [2]) hit hlc
  have hft : ((List.range xs.length).filter fun _ => false) = [] := List.filter_eq_nil_iff.mpr (by simp)
  rw [hft] at e1
  have hg : gListD [] = some (.lst []) := if_pos (Nat.zero_le _)
  simp only [List.map_nil, List.append_nil] at e1
  simp only [ap_andV, ap_op, ap_list, ap_a1, ap_var, ap_look, List.getElem?_cons_zero, List.getElem?_cons_succ, Option.map_some, Option.bind_some, hlen, gEqD_int, decide_true, e1, ap_aNil, hg, gEqD_lst0]
theorem F__law_same_refl (n : Nat) : ∀ (v : PV), okS n v = true → F__law_same n [v, v] = some (.bl true) := by
  induction n with
  | zero => exact fun v h => by simp [okS] at h
  | succ n IH =>
    intro v h
    have isn : ∀ (p : PV), p ≠ .non → gIsN p .non = some (.bl false) := fun p hp => by cases p <;> first | rfl | exact absurd rfl hp
    have hF : F__law_same (n + 1) = runB 3 (b__law_same (F__law_same n)) := rfl
    rw [hF]
    have loop := same_loop (n := n) (F__law_same n)
    generalize F__law_same n = F at *
    refine run_rt (ρ' := [some v, some v, none]) ?_
    show b__law_same F [some v, some v, none] = _
    cases v with
    | non => simp [b__law_same, gIsN]
    | bl b => simp [b__law_same, gIsN, gIsi, tyP, isTy, gTru, gEqD_bl]
    | int i => simp [b__law_same, gIsN, gIsi, tyP, isTy, gTru, gEqD_int]
    | str s => simp [b__law_same, gIsN, gIsi, tyP, isTy, gTru, gEqD_str (show PySem.PyData.strOk s = true by simpa [okS] using h)]
    | tup xs =>
      rw [okS, Bool.and_eq_true, decide_eq_true_eq] at h
      have := loop xs (.tup xs) h.1 (fun i hi => IH _ (okSs_get h.2 (List.getElem?_eq_getElem hi))) (fun i v e => by
        have hlt := (List.getElem?_eq_some_iff.mp e).1
        unfold gIxAll orG gIxT
        simp only [L2.atI, L2.ixN]
        rw [if_pos (by omega), if_pos (by omega)]
        simp [e]) (by simp [gLenAll, orL, gLen])
      simp [b__law_same, gIsN, gIsi, tyP, isTy, gTru, -zsPM51_ap_andV, this]
    | lst xs =>
      rw [okS, Bool.and_eq_true, decide_eq_true_eq] at h
      have := loop xs (.lst xs) h.1 (fun i hi => IH _ (okSs_get h.2 (List.getElem?_eq_getElem hi))) (fun i v e => gIx_at e) (by simp [gLenAll, orL, gLen])
      simp [b__law_same, gIsN, gIsi, tyP, isTy, gTru, -zsPM51_ap_andV, this]
    | dct _ => simp [okS] at h
    | obj _ _ => simp [okS] at h
end
end Lau
end PT

set_option Elab.async false
set_option linter.all false
set_option autoImplicit false
set_option maxRecDepth 100000
set_option maxHeartbeats 4000000
/-! PM6: exact division. -/
namespace PT
namespace Lau
/-! ### ends of a product -/
theorem cf_above {p : Poly} {a : Int} {x : Int} (h : Canon (p ++ [(a, x)])) {e : Int} (he : a < e) : cf (p ++ [(a, x)]) e = 0 := cf_zero fun t ht => by
  rcases List.mem_append.mp ht with ht | ht
  · have := (List.pairwise_append.mp h.1).2.2 t ht (a, x) (by simp)
    dsimp only at this; omega
  · simp only [List.mem_singleton] at ht
    rw [ht]; dsimp only; omega
theorem cf_top {p : Poly} {a : Int} {x : Int} (h : Canon (p ++ [(a, x)])) : cf (p ++ [(a, x)]) a = x := by
  rw [cf_append, cf_zero fun t ht => by
    have := (List.pairwise_append.mp h.1).2.2 t ht (a, x) (by simp)
    dsimp only at this; omega]
  simp
theorem sumT_append (q r : Poly) (f : Int → Int) (e : Int) : sumT (q ++ r) f e = sumT q f e + sumT r f e := by
  induction q with
  | nil => simp [sumT]
  | cons t q ih => simp only [List.cons_append, sumT, ih]; omega
theorem sumT_zero {q : Poly} {f : Int → Int} {e : Int} (h : ∀ t ∈ q, f (e - t.1) = 0) : sumT q f e = 0 := by
  induction q with
  | nil => rfl
  | cons t q ih =>
    rw [sumT, h t (by simp), ih fun u hu => h u (by simp [hu])]
    simp
theorem Canon.left {p q : Poly} (h : Canon (p ++ q)) : Canon p := ⟨(List.pairwise_append.mp h.1).1, fun t ht => h.2 t (by simp [ht])⟩
theorem Canon.before {p : Poly} {a x : Int} (h : Canon (p ++ [(a, x)])) : ∀ t ∈ p, t.1 < a := fun t ht => (List.pairwise_append.mp h.1).2.2 t ht (a, x) (by simp)
theorem mul_top {p r : Poly} {a x b y : Int} (hp : Canon (p ++ [(a, x)])) (hr : Canon (r ++ [(b, y)])) : cf (mulT (p ++ [(a, x)]) (r ++ [(b, y)])) (a + b) = x * y := by
  rw [cf_mul', sumT_append, sumT_zero fun t ht => cf_above hp (by have := hr.before t ht; omega)]
  simp only [sumT]
  rw [show a + b - b = a from by omega, cf_top hp]
  rw [Int.mul_comm]; omega
theorem mul_above {p r : Poly} {a x b y : Int} (hp : Canon (p ++ [(a, x)])) (hr : Canon (r ++ [(b, y)])) {e : Int} (he : a + b < e) : cf (mulT (p ++ [(a, x)]) (r ++ [(b, y)])) e = 0 := by
  rw [cf_mul']
  refine sumT_zero fun t ht => cf_above hp ?_
  rcases List.mem_append.mp ht with ht | ht
  · have := hr.before t ht; omega
  · simp only [List.mem_singleton] at ht
    rw [ht]; dsimp only; omega
theorem mul_low {p r : Poly} {t u : Int × Int} (hp : Canon (t :: p)) (hr : Canon (u :: r)) : cf (mulT (t :: p) (u :: r)) (t.1 + u.1) = t.2 * u.2 := by
  rw [cf_mul', sumT, sumT_zero fun v hv => cf_low hp (by have := hr.lt v hv; omega), show t.1 + u.1 - u.1 = t.1 from by omega, cf_head hp, Int.mul_comm]; omega
theorem mul_below {p r : Poly} {t u : Int × Int} (hp : Canon (t :: p)) (hr : Canon (u :: r)) {e : Int} (he : e < t.1 + u.1) : cf (mulT (t :: p) (u :: r)) e = 0 := by
  rw [cf_mul']
  refine sumT_zero fun v hv => cf_low hp ?_
  rcases List.mem_cons.mp hv with rfl | hv
  · omega
  · have := hr.lt v hv; omega
/-! ### a dict without zeros -/
def NZ (d : Poly) : Prop := (d.map (·.1)).Nodup ∧ ∀ t ∈ d, t.2 ≠ 0
theorem NZ.cf {d : Poly} (h : NZ d) {t : Int × Int} (ht : t ∈ d) : Lau.cf d t.1 = t.2 := by
  obtain ⟨h1, h2⟩ := h
  induction d with
  | nil => cases ht
  | cons u d ih =>
    rw [List.map_cons, List.nodup_cons] at h1
    rcases List.mem_cons.mp ht with rfl | ht
    · rw [cf_cons, if_pos rfl, cf_zero fun v hv e => h1.1 (by rw [← e]; exact List.mem_map_of_mem hv)]; omega
    · rw [cf_cons, if_neg fun e => h1.1 (by rw [e]; exact List.mem_map_of_mem ht), ih ht h1.2 fun v hv => h2 v (by simp [hv])]; omega
theorem NZ.mem {d : Poly} (h : NZ d) {e : Int} : Lau.cf d e ≠ 0 ↔ e ∈ d.map (·.1) := by
  constructor
  · intro hc
    apply Classical.byContradiction
    intro hn
    exact hc (cf_zero fun t ht he => hn (by rw [← he]; exact List.mem_map_of_mem ht))
  · intro hm
    obtain ⟨t, ht, rfl⟩ := List.mem_map.mp hm
    rw [h.cf ht]; exact h.2 t ht
theorem Canon.nz {p : Poly} (h : Canon p) : NZ p := ⟨h.nodup, h.2⟩
def dropD (d : Poly) (k : Int) : Poly := d.filter fun t => !(t.1 == k)
theorem dropP_enc (d : Poly) (k : Int) : dropP (d.map encK) (.int k) = (dropD d k).map encK := by
  unfold dropP dropD
  rw [List.filter_map]
  rfl
def subD (d : Poly) (k v : Int) : Poly := if dget d k - v = 0 then dropD d k else putD d k (dget d k - v)
theorem dget_drop (d : Poly) (k j : Int) : dget (dropD d k) j = if j = k then 0 else dget d j := by
  induction d with
  | nil => simp [dropD, dget]
  | cons t d ih =>
    unfold dropD at ih ⊢
    rw [List.filter_cons]
    by_cases h : t.1 = k
    · have : (t.1 == k) = true := by simp [h]
      rw [this]
      simp only [Bool.not_true, Bool.false_eq_true, if_false]
      rw [ih]
      by_cases hj : j = k
      · simp [hj]
      · rw [if_neg hj, if_neg hj, dget, if_neg (by omega)]
    · have : (t.1 == k) = false := by simp [h]
      rw [this]
      simp only [Bool.not_false, if_true, dget]
      rw [ih]
      by_cases hj : j = k
      · rw [if_pos hj, if_neg (by omega)]
        simp [hj]
      · simp [hj]
theorem putD_mem {d : Poly} {k v : Int} {t : Int × Int} (h : t ∈ putD d k v) : t = (k, v) ∨ t ∈ d := by
  unfold putD at h
  split at h
  · obtain ⟨u, hu, e⟩ := List.mem_map.mp h
    split at e
    · rename_i hk
      left; rw [← e, hk]
    · right; rw [← e]; exact hu
  · rcases List.mem_append.mp h with h | h
    · exact .inr h
    · left; simpa using h
theorem subD_nz {d : Poly} (k v : Int) (h : NZ d) : NZ (subD d k v) := by
  unfold subD
  split
  · refine ⟨?_, fun t ht => h.2 t ((List.mem_filter.mp ht).1)⟩
    unfold dropD
    exact List.Nodup.sublist ((List.filter_sublist).map _) h.1
  · rename_i hn
    refine ⟨putD_nodup _ _ h.1, fun t ht => ?_⟩
    rcases putD_mem ht with rfl | ht
    · exact hn
    · exact h.2 t ht
theorem cf_subD {d : Poly} (k v : Int) (h : NZ d) (e : Int) : cf (subD d k v) e = cf d e - (if k = e then v else 0) := by
  rw [cf_dget (subD_nz k v h).1, cf_dget h.1]
  unfold subD
  split
  · rename_i h0
    rw [dget_drop]
    by_cases he : e = k
    · rw [if_pos he, if_pos he.symm, he]; omega
    · rw [if_neg he, if_neg (by omega)]; omega
  · rw [dget_put]
    by_cases he : e = k
    · rw [if_pos he, if_pos he.symm, he]
    · rw [if_neg he, if_neg (by omega)]; omega
theorem keys_subD {d : Poly} {k v : Int} {S : List Int} (h : Keys S d) (hk : k ∈ S) : Keys S (subD d k v) := by
  unfold subD
  split
  · exact fun t ht => h t ((List.mem_filter.mp ht).1)
  · exact keys_putD h hk
/-! ### max, min of the keys -/
theorem intsP_int : ∀ is : List Int, intsP (is.map PV.int) = some is
  | [] => rfl
  | i :: is => by rw [List.map_cons, intsP, intsP_int is]; rfl
theorem gMax_int {is : List Int} {m : Int} (hm : m ∈ is) (h : ∀ x ∈ is, x ≤ m) : gMax [.lst (is.map PV.int)] = some (.int m) := by
  cases is with
  | nil => cases hm
  | cons i is =>
    unfold gMax
    simp only [intsP_int]
    obtain ⟨h1, h2, h3⟩ := maxI_ge is i
    have : maxI i is = m := by
      have a : maxI i is ≤ m := by
        rcases h3 with h3 | h3
        · rw [h3]; exact h i (by simp)
        · exact h _ (by simp [h3])
      have b : m ≤ maxI i is := by
        rcases List.mem_cons.mp hm with rfl | hm
        · exact h1
        · exact h2 m hm
      omega
    rw [this]
theorem gMin_int {is : List Int} {m : Int} (hm : m ∈ is) (h : ∀ x ∈ is, m ≤ x) : gMin [.lst (is.map PV.int)] = some (.int m) := by
  cases is with
  | nil => cases hm
  | cons i is =>
    unfold gMin
    simp only [intsP_int]
    obtain ⟨h1, h2, h3⟩ := minI_le is i
    have : minI i is = m := by
      have a : m ≤ minI i is := by
        rcases h3 with h3 | h3
        · rw [h3]; exact h i (by simp)
        · exact h _ (by simp [h3])
      have b : minI i is ≤ m := by
        rcases List.mem_cons.mp hm with rfl | hm
        · exact h1
        · exact h2 m hm
      omega
    rw [this]
theorem gListAll_enc (d : Poly) : gListAll [encD d] = some (.lst ((d.map (·.1)).map PV.int)) := by
  unfold gListAll orL gListOf gListD' encD
  simp [encK, Function.comp_def]
theorem gLenAll_enc (d : Poly) : gLenAll [encD d] = some (.int d.length) := by
  unfold gLenAll orL gLen gLenD encD
  simp
theorem gIx_tupAt {xs : List PV} {i : Nat} {v : PV} (h : xs[i]? = some v) : gIxAll (.tup xs) (.int i) = some v := by
  have hlt := (List.getElem?_eq_some_iff.mp h).1
  unfold gIxAll orG gIxT
  simp only [L2.atI, L2.ixN]
  rw [if_pos (by omega), if_pos (by omega)]
  simp [h]
theorem gIx_tupLast {xs : List PV} {v : PV} : gIxAll (.tup (xs ++ [v])) (.int (-1)) = some v := by
  unfold gIxAll orG gIxT
  simp only [L2.atI, L2.ixN]
  rw [if_neg (by omega), if_pos (by simp; omega)]
  have : ((-1 : Int) + ((xs ++ [v]).length : Nat)).toNat = xs.length := by simp; omega
  rw [this]
  simp
section
@[local simp] def zsPM61_ap_seq := @ap_seq
@[local simp] def zsPM61_ap_nx := @ap_nx
@[local simp] def zsPM61_ap_ret := @ap_ret
@[local simp] def zsPM61_ap_drop := @ap_drop
@[local simp] def zsPM61_ap_set := @ap_set
@[local simp] def zsPM61_ap_list := @ap_list
@[local simp] def zsPM61_ap_aNil := @ap_aNil
@[local simp] def zsPM61_ap_aCons := @ap_aCons
@[local simp] def zsPM61_ap_a1 := @ap_a1
@[local simp] def zsPM61_ap_var := @ap_var
@[local simp] def zsPM61_ap_look := @ap_look
@[local simp] def zsPM61_ap_c := @ap_c
@[local simp] def zsPM61_ap_op := @ap_op
@[local simp] def zsPM61_ap_opO := @ap_opO
@[local simp] def zsPM61_ap_un := @ap_un
@[local simp] def zsPM61_ap_test := @ap_test
@[local simp] def zsPM61_ap_if := @ap_if
@[local simp] def zsPM61_ap_notT := @ap_notT
@[local simp] def zsPM61_ap_andT := @ap_andT
@[local simp] def zsPM61_ap_orT := @ap_orT
@[local simp] def zsPM61_ap_tru := @ap_tru
@[local simp] def zsPM61_ap_notV := @ap_notV
@[local simp] def zsPM61_ap_andV := @ap_andV
@[local simp] def zsPM61_ap_orV := @ap_orV
@[local simp] def zsPM61_ap_for := @ap_for
@[local simp] def zsPM61_ap_iS := @ap_iS
@[local simp] def zsPM61_ap_name := @ap_name
@[local simp] def zsPM61_ap_tup := @ap_tup
@[local simp] def zsPM61_ap_tsNil := @ap_tsNil
@[local simp] def zsPM61_ap_tsCons := @ap_tsCons
@[local simp] def zsPM61_ap_asg := @ap_asg
@[local simp] def zsPM61_ap_sub := @ap_sub
@[local simp] def zsPM61_ap_par := @ap_par
@[local simp] def zsPM61_ap_aug := @ap_aug
@[local simp] def zsPM61_ap_get := @ap_get
@[local simp] def zsPM61_ap_getO := @ap_getO
@[local simp] def zsPM61_ap_yes := @ap_yes
@[local simp] def zsPM61_ap_mut := @ap_mut
@[local simp] theorem zsPM61_startP (n : Nat) (args : List PV) : startP n args = args.map some ++ List.replicate (n - args.length) none := rfl
@[local simp] theorem zsPM61_rowOfa (xs : List PV) : rowOf (.lst xs) = some xs := rfl
@[local simp] theorem zsPM61_rowOfb (xs : List PV) : rowOf (.tup xs) = some xs := rfl
@[local simp] def zsPM61_gTup0 := @gTup0
@[local simp] def zsPM61_gTup1 := @gTup1
@[local simp] def zsPM61_gTup2 := @gTup2
@[local simp] def zsPM61_gLst0 := @gLst0
@[local simp] def zsPM61_gLst1 := @gLst1
@[local simp] def zsPM61_gLst2 := @gLst2
theorem ap_del {i : Nat} {f : EF} {ρ : Env} : fDel i f ρ = (look ρ i).bind fun _ => (f ρ).bind fun r => (look r.2 i).bind fun p => match p with
  | .dct ks => if (isKey r.1 && (findP ks r.1).isSome) = true then some (.nx, r.2.set i (some (.dct (dropP ks r.1)))) else none
  | _ => none := rfl
theorem del_enc {d : Poly} {k : Int} {i : Nat} {ρ : Env} {f : EF} (h : dhas d k = true) (hl : look ρ i = some (encD d)) (hf : f ρ = some (.int k, ρ)) : fDel i f ρ = some (.nx, ρ.set i (some (encD (dropD d k)))) := by
  rw [ap_del, hl]
  simp only [Option.bind_some, hf, hl, encD]
  have : (isKey (.int k) && (findP (d.map encK) (.int k)).isSome) = true := by
    rw [findP_enc, if_pos h]; rfl
  rw [if_pos this, dropP_enc]
def divInner : SF := fSeq (fSet 10 (fOp gAdd (fOp gSubI (fVar 6) (fVar 4)) (fVar 8)))
    (fSeq (fSet 11 (fOp gSubI (fGetO 2 (fVar 10) (fC (.int 0))) (fOp gMulI (fVar 7) (fVar 9))))
    (fSeq (fIf (fTest (fOp gEqD (fVar 11) (fC (.int 0)))) (fSeq (fDel 2 (fVar 10))
    (fNx)) (fSeq (fAsg (fVar 11) (tSub 2 (fVar 10) gSet))
    (fNx)))
    (fNx)))
def divBody : SF := (fSeq (fSet 6 (fList gMax (a1 (fList gListAll (a1 (fVar 2))))))
    (fSeq (fIf (fOrT (fTest (fOp gNeD (fOp gModI (fList gInt (a1 (fOpO gIxAll 2 (fVar 6)))) (fVar 5)) (fC (.int 0)))) (fTest (fOp gLt (fOp gSubI (fVar 6) (fVar 4)) (fOp gSubI (fList gMin (a1 (fList gListAll (a1 (fVar 2))))) (fOp gIxAll (fOp gIxAll (fVar 1) (fC (.int 0))) (fC (.int 0))))))) (fSeq (fRet (fC .non))
    (fNx)) (fNx))
    (fSeq (fSet 7 (fOp gDivI (fOpO gIxAll 2 (fVar 6)) (fVar 5)))
    (fSeq (fAsg (fVar 7) (tSub 3 (fOp gSubI (fVar 6) (fVar 4)) gSet))
    (fSeq (fFor (iS (fVar 1)) (tTupG 2 (tsCons (tName 8) (tsCons (tName 9) tsNil))) divInner)
    (fNx))))))
theorem gSub_int (a b : Int) : gSubI (.int a) (.int b) = some (.int (a - b)) := rfl
theorem gLt_int (a b : Int) : gLt (.int a) (.int b) = some (.bl (decide (a < b))) := rfl
theorem gGt_int (a b : Int) : gGt (.int a) (.int b) = some (.bl (decide (b < a))) := rfl
theorem gInt_int (a : Int) : gInt [.int a] = some (.int a) := rfl
theorem dhas_of_ne {d : Poly} {k : Int} (h : dget d k ≠ 0) : dhas d k = true := by
  cases e : dhas d k with
  | true => rfl
  | false => exact absurd (dget_none e) h
/-- the inner loop: the shifted, scaled second is taken off -/
theorem div_inner {P : PV} {q : Poly} {S : List Int} {top lead b c : Int} (hS : S.length < 900000) (hql : q.length ≤ 90000) (hc : c ≠ 0) (hcw : wideI c = true) (hq : Canon q) (hqw : WideP q) (hk : ∀ t ∈ q, b + t.1 ∈ S) {d f : Poly} (hd : NZ d) (kd : Keys S d) (x8 x9 x10 x11 : Option PV) :
    ∃ d' y8 y9 y10 y11, loopF (tTupG 2 (tsCons (tName 8) (tsCons (tName 9) tsNil))) divInner (q.map encT) [some P, some (encP q), some (encD d), some (encD f), some (.int top), some (.int lead), some (.int (top + b)), some (.int c), x8, x9, x10, x11] =
      some (.nx, [some P, some (encP q), some (encD d'), some (encD f), some (.int top), some (.int lead), some (.int (top + b)), some (.int c), y8, y9, y10, y11]) ∧ NZ d' ∧ Keys S d' ∧ ∀ e, cf d' e = cf d e - c * cf q (e - b) := by
  obtain ⟨ρ', e, hnz, hks, y8, y9, y10, y11, rfl⟩ := loop_invM (t := tTupG 2 (tsCons (tName 8) (tsCons (tName 9) tsNil))) (body := divInner) encT
    (fun d ρ => NZ d ∧ Keys S d ∧ ∃ y8 y9 y10 y11, ρ = [some P, some (encP q), some (encD d), some (encD f), some (.int top), some (.int lead), some (.int (top + b)), some (.int c), y8, y9, y10, y11]) (fun d t => subD d (b + t.1) (c * t.2)) q d [some P, some (encP q), some (encD d), some (encD f), some (.int top), some (.int lead), some (.int (top + b)), some (.int c), x8, x9, x10, x11]
    (fun d a ρ ha ⟨h1, h2, y8, y9, y10, y11, er⟩ => by
      subst er
      have hdl : d.length < 900000 := Nat.lt_of_le_of_lt (len_of_keys h2 h1.1) hS
      have e1 : top + b - top + a.1 = b + a.1 := by omega
      refine ⟨[some P, some (encP q), some (encD d), some (encD f), some (.int top), some (.int lead), some (.int (top + b)), some (.int c), some (.int a.1), some (.int a.2), y10, y11],
        [some P, some (encP q), some (encD (subD d (b + a.1) (c * a.2))), some (encD f), some (.int top), some (.int lead), some (.int (top + b)), some (.int c), some (.int a.1), some (.int a.2), some (.int (b + a.1)), some (.int (dget d (b + a.1) - c * a.2))], rfl, .inl ?_, subD_nz _ _ h1, keys_subD h2 (hk a ha), _, _, _, _, rfl⟩
      have gm := gMul_wide hcw (hqw a ha)
      by_cases h0 : dget d (b + a.1) - c * a.2 = 0
      · have hne : dget d (b + a.1) ≠ 0 := by
          have : c * a.2 ≠ 0 := Int.mul_ne_zero hc (hq.2 a ha)
          omega
        have hdel := del_enc (d := d) (k := b + a.1) (i := 2) (f := fVar 10) (ρ := [some P, some (encP q), some (encD d), some (encD f), some (.int top), some (.int lead), some (.int (top + b)), some (.int c), some (.int a.1), some (.int a.2), some (.int (b + a.1)), some (.int 0)]) (dhas_of_ne hne) rfl rfl
        simp [divInner, gSub_int, gAdd_int, e1, show isDct (encD d) = true from rfl, gGet_enc, gm, gEqD_int, h0, hdel, subD]
      · have hg := gSet_enc (d := d) (k := b + a.1) (v := dget d (b + a.1) - c * a.2) (by omega)
        simp [divInner, gSub_int, gAdd_int, e1, show isDct (encD d) = true from rfl, gGet_enc, gm, gEqD_int, h0, hg, subD]) ⟨hd, kd, x8, x9, x10, x11, rfl⟩
  refine ⟨_, y8, y9, y10, y11, e, hnz, hks, fun e => ?_⟩
  clear hnz hks kd hk hq hqw
  have key : ∀ (l : Poly) (d : Poly), NZ d → cf (l.foldl (fun d t => subD d (b + t.1) (c * t.2)) d) e = cf d e - c * cf l (e - b) := fun l => by
    induction l with
    | nil => intro d _; simp
    | cons t l ih =>
      intro d h
      rw [List.foldl_cons, ih _ (subD_nz _ _ h), cf_subD _ _ h, cf_cons, Int.mul_add]
      by_cases he : b + t.1 = e
      · rw [if_pos he, if_pos (by omega)]; omega
      · rw [if_neg he, if_neg (by omega)]; simp
  exact key q d hd
theorem div_step {P : PV} {q : Poly} {S : List Int} {top lead b c : Int} {q0 r : Poly} (hS : S.length < 900000) (hql : q.length ≤ 90000) (hcw : wideI c = true) (hq : Canon q) (hqe : q = q0 ++ [(top, lead)]) (hqw : WideP q) (hlead : lead.natAbs < 1073741824) (hr : Canon (r ++ [(b, c)])) (hk : ∀ t ∈ q, b + t.1 ∈ S) {d f : Poly} (hd : NZ d) (kd : Keys S d) (hf : f.length < 900000) (hcf : ∀ e, cf d e = cf (mulT q (r ++ [(b, c)])) e) (x6 x7 x8 x9 x10 x11 : Option PV) :
    ∃ d' y8 y9 y10 y11, divBody [some P, some (encP q), some (encD d), some (encD f), some (.int top), some (.int lead), x6, x7, x8, x9, x10, x11] =
      some (.nx, [some P, some (encP q), some (encD d'), some (encD (putD f b c)), some (.int top), some (.int lead), some (.int (top + b)), some (.int c), y8, y9, y10, y11]) ∧ NZ d' ∧ Keys S d' ∧ (∀ e, cf d' e = cf (mulT q r) e) ∧ 0 < d.length := by
  have hc : c ≠ 0 := hr.2 (b, c) (by simp)
  have hl0 : lead ≠ 0 := by subst hqe; exact hq.2 (top, lead) (by simp)
  have htop : cf d (top + b) = lead * c := by rw [hcf, hqe]; exact mul_top (hqe ▸ hq) hr
  have htm : top + b ∈ d.map (·.1) := hd.mem.mp (by rw [htop]; exact Int.mul_ne_zero hl0 hc)
  have hmax : ∀ x ∈ d.map (·.1), x ≤ top + b := fun x hx => by
    have h1 := hd.mem.mpr hx
    apply Classical.byContradiction
    intro hn
    refine h1 ?_
    rw [hcf, hqe]
    exact mul_above (hqe ▸ hq) hr (by omega)
  have hdl : 0 < d.length := by
    cases d with
    | nil => cases htm
    | cons _ _ => simp
  obtain ⟨t0, q', hq'⟩ : ∃ t0 q', q = t0 :: q' := by
    cases q with
    | nil => simp at hqe
    | cons t q => exact ⟨_, _, rfl⟩
  obtain ⟨u0, r', hr'⟩ : ∃ u0 r', r ++ [(b, c)] = u0 :: r' := by
    cases r with
    | nil => exact ⟨_, _, rfl⟩
    | cons t q => exact ⟨_, _, rfl⟩
  have hlow : cf d (t0.1 + u0.1) = t0.2 * u0.2 := by rw [hcf, hq', hr']; exact mul_low (hq' ▸ hq) (hr' ▸ hr)
  have hlm : t0.1 + u0.1 ∈ d.map (·.1) := hd.mem.mp (by
    rw [hlow]
    refine Int.mul_ne_zero (hq.2 t0 (by rw [hq']; simp)) (hr.2 u0 (by rw [hr']; simp)))
  have hmin : ∀ x ∈ d.map (·.1), t0.1 + u0.1 ≤ x := fun x hx => by
    have h1 := hd.mem.mpr hx
    apply Classical.byContradiction
    intro hn
    refine h1 ?_
    rw [hcf, hq', hr']
    exact mul_below (hq' ▸ hq) (hr' ▸ hr) (by omega)
  have hub : u0.1 ≤ b := by
    have h1 : u0 ∈ r ++ [(b, c)] := by rw [hr']; simp
    rcases List.mem_append.mp h1 with h1 | h1
    · have := hr.before u0 h1; omega
    · simp only [List.mem_singleton] at h1; rw [h1]; dsimp only; omega
  have hdv : dget d (top + b) = lead * c := by rw [← cf_dget hd.1]; exact htop
  have hix := gIxAll_enc (d := d) (k := top + b) (dhas_iff.mpr htm)
  rw [hdv] at hix
  have hmx := gMax_int htm hmax
  have hmn := gMin_int hlm hmin
  have hq0 : gIxAll (encP q) (.int 0) = some (encT t0) := gIx_tupAt (i := 0) (by rw [hq']; rfl)
  have ht0 : gIxAll (encT t0) (.int 0) = some (.int t0.1) := gIx_tupAt (xs := [.int t0.1, .int t0.2]) (i := 0) rfl
  have hmod : gModI (.int (lead * c)) (.int lead) = some (.int 0) := by rw [gMod_int hl0, Int.mul_fmod_right]
  have hdiv : gDivI (.int (lead * c)) (.int lead) = some (.int c) := by rw [gDiv_int hl0 hlead, Int.mul_fdiv_cancel_left _ hl0]
  have hsub : top + b - top = b := by omega
  have hnl : ¬ (b < t0.1 + u0.1 - t0.1) := by omega
  have hset := gSet_enc (d := f) (k := b) (v := c) (by omega)
  obtain ⟨d', y8, y9, y10, y11, e, n1, n2, n3⟩ := div_inner (P := P) (top := top) (lead := lead) (f := putD f b c) hS hql hc hcw hq hqw hk hd kd x8 x9 x10 x11
  have hit : rowOf (encP q) = some (q.map encT) := rfl
  refine ⟨d', y8, y9, y10, y11, ?_, n1, n2, fun e => ?_, hdl⟩
  · simp [divBody, gListAll_enc, hmx, hix, gInt_int, hmod, gNeD_int, gSub_int, hsub, hmn, hq0, ht0, gLt_int, hnl, hdiv, hset, hit, e, -List.map_map, -rowOf]
  · have h1 := mul_add_r q r [(b, c)] e
    have h2 : cf (mulT q [(b, c)]) e = c * cf q (e - b) := by rw [cf_mul']; simp [sumT]
    rw [n3, hcf, h1, h2]; omega
theorem div_while {P : PV} {q : Poly} {S : List Int} {top lead : Int} {q0 : Poly} (hS : S.length < 900000) (hql : q.length ≤ 90000) (hq : Canon q) (hqe : q = q0 ++ [(top, lead)]) (hqw : WideP q) (hlead : lead.natAbs < 1073741824) :
    ∀ (n : Nat) (r d f : Poly) (m : Nat) (x6 x7 x8 x9 x10 x11 : Option PV), r.length = n → n < m → Canon r → WideP r → (∀ u ∈ r, ∀ t ∈ q, u.1 + t.1 ∈ S) → NZ d → Keys S d → (f.map (·.1)).Nodup → (∀ u ∈ r, dhas f u.1 = false) → f.length + n < 900000 → (∀ e, cf d e = cf (mulT q r) e) →
    ∃ f' d' y6 y7 y8 y9 y10 y11, fWhile (fTest (fOp gGt (fList gLenAll (a1 (fVar 2))) (fC (.int 0)))) divBody m [some P, some (encP q), some (encD d), some (encD f), some (.int top), some (.int lead), x6, x7, x8, x9, x10, x11] =
      some (.nx, [some P, some (encP q), some (encD d'), some (encD f'), some (.int top), some (.int lead), y6, y7, y8, y9, y10, y11]) ∧ (f'.map (·.1)).Nodup ∧ f'.length ≤ f.length + n ∧ ∀ e, cf f' e = cf f e + cf r e := by
  intro n
  induction n with
  | zero =>
    intro r d f m x6 x7 x8 x9 x10 x11 hrn hm hr hrw hk hd kd hfn hfr hfl hcf
    have hr0 : r = [] := List.length_eq_zero_iff.mp hrn
    subst hr0
    have hd0 : d = [] := by
      cases d with
      | nil => rfl
      | cons t d =>
        have h1 := hd.cf (t := t) (by simp)
        have h2 := hcf t.1
        rw [h1, cf_mul'] at h2
        exact absurd h2 (hd.2 t (by simp))
    subst hd0
    obtain ⟨m, rfl⟩ : ∃ k, m = k + 1 := ⟨m - 1, by omega⟩
    refine ⟨f, [], x6, x7, x8, x9, x10, x11, ?_, hfn, by omega, fun e => by simp⟩
    unfold fWhile
    simp [gLenAll_enc, gGt_int]
  | succ n ih =>
    intro r d f m x6 x7 x8 x9 x10 x11 hrn hm hr hrw hk hd kd hfn hfr hfl hcf
    obtain ⟨r1, t, rfl⟩ : ∃ r1 t, r = r1 ++ [t] := ⟨r.dropLast, r.getLast (by intro h; rw [h] at hrn; cases hrn), (List.dropLast_concat_getLast _).symm⟩
    obtain ⟨b, c⟩ := t
    obtain ⟨m, rfl⟩ : ∃ k, m = k + 1 := ⟨m - 1, by omega⟩
    have hl1 : r1.length = n := by simpa using hrn
    obtain ⟨d', y8, y9, y10, y11, e, n1, n2, n3, n4⟩ := div_step (P := P) (f := f) hS hql (hrw (b, c) (by simp)) hq hqe hqw hlead hr (hk (b, c) (by simp)) hd kd (by omega) hcf x6 x7 x8 x9 x10 x11
    have hfb : dhas f b = false := hfr (b, c) (by simp)
    have hfl2 : (putD f b c).length = f.length + 1 := by unfold putD; rw [hfb]; simp
    obtain ⟨f', d'', z6, z7, z8, z9, z10, z11, e2, k1, k2, k3⟩ := ih r1 d' (putD f b c) m (some (.int (top + b))) (some (.int c)) y8 y9 y10 y11 hl1 (by omega) hr.left (fun t ht => hrw t (by simp [ht])) (fun u hu => hk u (by simp [hu])) n1 n2 (putD_nodup _ _ hfn) (fun u hu => by
      have h1 := hfr u (by simp [hu])
      have h2 := hr.before u hu
      rw [Bool.eq_false_iff] at h1 ⊢
      intro h3
      rw [dhas_iff, putD_keys, hfb] at h3
      simp only [Bool.false_eq_true, if_false, List.mem_append, List.mem_singleton] at h3
      rcases h3 with h3 | h3
      · exact h1 (dhas_iff.mpr h3)
      · omega) (by omega) n3
    refine ⟨f', d'', z6, z7, z8, z9, z10, z11, ?_, k1, by omega, fun e => ?_⟩
    · unfold fWhile
      have hpos : (0 : Int) < (d.length : Int) := by omega
      have ht : fTest (fOp gGt (fList gLenAll (a1 (fVar 2))) (fC (.int 0))) [some P, some (encP q), some (encD d), some (encD f), some (.int top), some (.int lead), x6, x7, x8, x9, x10, x11] = some (true, [some P, some (encP q), some (encD d), some (encD f), some (.int top), some (.int lead), x6, x7, x8, x9, x10, x11]) := by
        simp [gLenAll_enc, gGt_int]; omega
      rw [ht]
      simp only [Option.bind_some, if_true, e]
      exact e2
    · rw [k3, cf_dget (putD_nodup _ _ hfn), dget_put, cf_append, cf_cons, cf_nil, cf_dget hfn]
      by_cases he : e = b
      · rw [if_pos he, if_pos he.symm, he, dget_none hfb]; omega
      · rw [if_neg he, if_neg (by dsimp only; omega)]; omega
theorem F_divided_eq {p q r : Poly} (hp : Canon p) (hq : Canon q) (hq0 : q ≠ []) (hr : Canon r) (hqw : WideP q) (hrw : WideP r) (hlead : ∀ t ∈ q, t.2.natAbs < 1073741824) (hn : q.length * r.length < 900000) (hql : q.length ≤ 90000) (hrl : r.length < 10000) (h : ∀ e, cf p e = cf (mulT q r) e) (hpl : p.length ≤ 900000) : F_divided [encP p, encP q] = some (encP r) := by
  obtain ⟨q0, t, rfl⟩ : ∃ q0 t, q = q0 ++ [t] := ⟨q.dropLast, q.getLast hq0, (List.dropLast_concat_getLast _).symm⟩
  obtain ⟨top, lead⟩ := t
  have hS : (((q0 ++ [(top, lead)]).flatMap fun t => r.map fun u => u.1 + t.1)).length < 900000 := by
    rw [List.length_flatMap]
    simp only [List.length_map, List.map_const', List.sum_replicate_nat]
    exact hn
  have hkp : Keys ((q0 ++ [(top, lead)]).flatMap fun t => r.map fun u => u.1 + t.1) p := fun t ht => by
    have h1 := hp.nz.cf ht
    rw [h] at h1
    apply Classical.byContradiction
    intro hn
    refine hp.2 t ht ?_
    rw [← h1]
    refine cf_zero fun v hv he => hn ?_
    unfold mulT at hv
    obtain ⟨a, ha, hv⟩ := List.mem_flatMap.mp hv
    obtain ⟨b, hb, rfl⟩ := List.mem_map.mp hv
    refine List.mem_flatMap.mpr ⟨a, ha, List.mem_map.mpr ⟨b, hb, ?_⟩⟩
    dsimp only at he; omega
  obtain ⟨f', d', y6, y7, y8, y9, y10, y11, e, n1, n2, n3⟩ := div_while (P := encP p) hS hql hq rfl hqw (hlead (top, lead) (by simp)) r.length r p [] 10000 none none none none none none rfl hrl hr hrw (fun u hu t ht => List.mem_flatMap.mpr ⟨t, ht, List.mem_map.mpr ⟨u, hu, rfl⟩⟩) hp.nz hkp .nil (fun u hu => rfl) (by simp; omega) h
  have hdict := gDictP_enc hp.nodup (by omega)
  have hlast : gIxAll (encP (q0 ++ [(top, lead)])) (.int (-1)) = some (encT (top, lead)) := by
    unfold encP
    rw [List.map_append]
    exact gIx_tupLast
  have hneg : gNeg (.int 1) = some (.int (-1)) := rfl
  have hg := F_gathered_eq n1 (by simp at n2; omega)
  have hfr : norm f' = r := by
    rw [norm_eq (q := r) fun e => by rw [n3]; simp, norm_of_canon hr]
  rw [hfr] at hg
  refine run_rt (ρ' := [some (encP p), some (encP (q0 ++ [(top, lead)])), some (encD d'), some (encD f'), some (.int top), some (.int lead), y6, y7, y8, y9, y10, y11]) ?_
  show b_divided [some (encP p), some (encP (q0 ++ [(top, lead)])), none, none, none, none, none, none, none, none, none, none] = _
  have e' : fWhile (fTest (fOp gGt (fList gLenAll (a1 (fVar 2))) (fC (.int 0)))) divBody 10000 [some (encP p), some (encP (q0 ++ [(top, lead)])), some (encD p), some (.dct []), some (.int top), some (.int lead), none, none, none, none, none, none] = _ := e
  have hb : b_divided = fSeq (fSet 2 (fList gDictP (a1 (fVar 0)))) (fSeq (fSet 3 (fC (.dct []))) (fSeq (fAsg (fOp gIxAll (fVar 1) (fUn gNeg (fC (.int 1)))) (tTupG 2 (tsCons (tName 4) (tsCons (tName 5) tsNil)))) (fSeq (fWhile (fTest (fOp gGt (fList gLenAll (a1 (fVar 2))) (fC (.int 0)))) divBody 10000) (fSeq (fRet (fList F_gathered (aCons (fVar 3) aNil))) fNx)))) := rfl
  rw [hb]
  simp [hdict, hneg, hlast, encT, e', hg]
end
end Lau
end PT

set_option Elab.async false
set_option linter.all false
set_option autoImplicit false
set_option maxRecDepth 100000
set_option maxHeartbeats 4000000
/-! k75_m1: elimination without fractions. -/
namespace PT
namespace k75
open Lau
theorem e_gathered : k75.F_gathered = Lau.F_gathered := rfl
theorem e_plus : k75.F_plus = Lau.F_plus := rfl
theorem e_scaled : k75.F_scaled = Lau.F_scaled := rfl
theorem e_minus : k75.F_minus = Lau.F_minus := rfl
theorem e_times : k75.F_times = Lau.F_times := rfl
theorem e_divided : k75.F_divided = Lau.F_divided := rfl
/-! ### the value at a big number -/
def evX (X : Int) : Poly → Int
  | [] => 0
  | t :: p => t.2 * X ^ t.1.toNat + evX X p
def NN (p : Poly) : Prop := ∀ t ∈ p, 0 ≤ t.1
theorem ev_append (X : Int) (p q : Poly) : evX X (p ++ q) = evX X p + evX X q := by
  induction p with
  | nil => simp [evX]
  | cons t p ih => simp only [List.cons_append, evX, ih]; omega
theorem ev_scl (X n : Int) (p : Poly) : evX X (sclT n p) = evX X p * n := by
  induction p with
  | nil => simp [sclT, evX]
  | cons t p ih =>
    have : evX X (sclT n (t :: p)) = t.2 * n * X ^ t.1.toNat + evX X (sclT n p) := rfl
    rw [this, ih, evX, Int.add_mul, Int.mul_right_comm]
theorem ev_mul (X : Int) {p q : Poly} (hp : NN p) (hq : NN q) : evX X (mulT p q) = evX X p * evX X q := by
  induction p with
  | nil => simp [mulT, evX]
  | cons t p ih =>
    have h1 : mulT (t :: p) q = (q.map fun u => (t.1 + u.1, t.2 * u.2)) ++ mulT p q := rfl
    rw [h1, ev_append, ih fun u hu => hp u (by simp [hu]), evX, Int.add_mul]
    congr 1
    clear ih h1
    have ht := hp t (by simp)
    induction q with
    | nil => simp [evX]
    | cons u q ih =>
      have hu := hq u (by simp)
      simp only [List.map_cons, evX]
      rw [ih fun v hv => hq v (by simp [hv]), Int.mul_add, show (t.1 + u.1).toNat = t.1.toNat + u.1.toNat from by omega, Int.pow_add]
      congr 1
      rw [Int.mul_assoc, Int.mul_assoc]
      congr 1
      rw [← Int.mul_assoc, Int.mul_comm u.2, Int.mul_assoc, Int.mul_comm u.2]
theorem ev_insT (X e c : Int) : ∀ q : Poly, evX X (insT e c q) = c * X ^ e.toNat + evX X q
  | [] => by
    unfold insT
    split
    · rename_i h; simp [evX, h]
    · simp [evX]
  | (f, d) :: q => by
    unfold insT
    split
    · split
      · rename_i h; simp [evX, h]
      · simp [evX]
    · split
      · rename_i h2
        subst h2
        split
        · rename_i h3
          rw [evX, ← Int.add_assoc, ← Int.add_mul, h3]; simp
        · rw [evX, evX]; dsimp only; rw [Int.add_mul]; omega
      · rw [evX, ev_insT X e c q, evX]; omega
theorem ev_norm (X : Int) : ∀ p : Poly, evX X (norm p) = evX X p
  | [] => rfl
  | t :: p => by rw [norm, ev_insT, ev_norm X p, evX]
theorem ev_high {X : Int} {m : Nat} : ∀ {p : Poly}, (∀ t ∈ p, (m : Int) < t.1) → ∃ z, evX X p = X ^ (m + 1) * z
  | [], _ => ⟨0, by simp [evX]⟩
  | t :: p, h => by
    obtain ⟨z, hz⟩ := ev_high (X := X) (p := p) fun u hu => h u (by simp [hu])
    have ht := h t (by simp)
    refine ⟨t.2 * X ^ (t.1.toNat - (m + 1)) + z, ?_⟩
    rw [evX, hz, Int.mul_add]
    congr 1
    have : t.1.toNat = (m + 1) + (t.1.toNat - (m + 1)) := by omega
    rw [this, Int.pow_add]
    rw [show (m + 1) + (t.1.toNat - (m + 1)) - (m + 1) = t.1.toNat - (m + 1) from by omega]
    rw [← Int.mul_assoc, Int.mul_comm t.2, Int.mul_assoc]
/-- a polynomial with small numbers that is 0 at X is 0 -/
theorem ev_zero {X : Int} (hX : 0 < X) {p : Poly} (hc : Canon p) (hn : NN p) (hb : ∀ t ∈ p, t.2.natAbs < X.natAbs) (h : evX X p = 0) : p = [] := by
  cases p with
  | nil => rfl
  | cons t p =>
    exfalso
    have ht := hn t (by simp)
    obtain ⟨m, hm⟩ := Int.eq_ofNat_of_zero_le ht
    obtain ⟨z, hz⟩ := ev_high (X := X) (m := m) (p := p) fun u hu => by have := hc.lt u hu; omega
    rw [evX, hz, hm] at h
    simp only [Int.toNat_natCast] at h
    rw [Int.pow_succ, Int.mul_comm t.2, Int.mul_assoc, ← Int.mul_add] at h
    have hp : X ^ m ≠ 0 := Int.pow_ne_zero (by omega)
    rcases Int.mul_eq_zero.mp h with h | h
    · exact hp h
    · have h1 : t.2 = X * (-z) := by rw [Int.mul_neg]; omega
      have h2 := hb t (by simp)
      rw [h1, Int.natAbs_mul] at h2
      have h3 : (-z).natAbs = 0 := by
        apply Classical.byContradiction
        intro h4
        have : X.natAbs * 1 ≤ X.natAbs * (-z).natAbs := Nat.mul_le_mul_left _ (by omega)
        omega
      have : t.2 = 0 := by rw [h1, Int.natAbs_eq_zero.mp h3]; simp
      exact hc.2 t (by simp) this
/-! ### how big the numbers are -/
def l1 : Poly → Nat
  | [] => 0
  | t :: p => t.2.natAbs + l1 p
theorem l1_append (p q : Poly) : l1 (p ++ q) = l1 p + l1 q := by
  induction p with
  | nil => simp [l1]
  | cons t p ih => simp only [List.cons_append, l1, ih]; omega
theorem l1_scl (n : Int) (p : Poly) : l1 (sclT n p) = l1 p * n.natAbs := by
  induction p with
  | nil => simp [sclT, l1]
  | cons t p ih =>
    have : l1 (sclT n (t :: p)) = (t.2 * n).natAbs + l1 (sclT n p) := rfl
    rw [this, ih, l1, Nat.add_mul, Int.natAbs_mul]
theorem l1_mul (p q : Poly) : l1 (mulT p q) = l1 p * l1 q := by
  induction p with
  | nil => simp [mulT, l1]
  | cons t p ih =>
    have h1 : mulT (t :: p) q = (q.map fun u => (t.1 + u.1, t.2 * u.2)) ++ mulT p q := rfl
    rw [h1, l1_append, ih, l1, Nat.add_mul]
    congr 1
    clear ih h1
    induction q with
    | nil => simp [l1]
    | cons u q ih => simp only [List.map_cons, l1, ih, Int.natAbs_mul, Nat.mul_add]
theorem cf_l1 (p : Poly) (e : Int) : (cf p e).natAbs ≤ l1 p := by
  induction p with
  | nil => simp [l1]
  | cons t p ih =>
    rw [cf_cons, l1]
    split
    · omega
    · omega
theorem norm_l1 {p : Poly} {t : Int × Int} (h : t ∈ norm p) : t.2.natAbs ≤ l1 p := by
  rw [← (canon_norm p).nz.cf h, cf_norm]
  exact cf_l1 p t.1
/-! ### one cell -/
def allB (p : Poly) : Bool := p.all fun t => decide (0 ≤ t.1)
def canonB : Poly → Bool
  | [] => true
  | [t] => decide (t.2 ≠ 0)
  | t :: u :: p => decide (t.1 < u.1) && (decide (t.2 ≠ 0) && canonB (u :: p))
theorem canonB_iff : ∀ {p : Poly}, canonB p = true → Canon p
  | [], _ => .nil
  | [t], h => canon_cons (by simpa [canonB] using h) (by simp) .nil
  | t :: u :: p, h => by
    simp only [canonB, Bool.and_eq_true, decide_eq_true_eq] at h
    have hc := canonB_iff h.2.2
    refine canon_cons h.2.1 (fun v hv => ?_) hc
    rcases List.mem_cons.mp hv with rfl | hv
    · exact h.1
    · have := hc.lt v hv; omega
def XX : Int := 2 ^ 300
def unpack : Nat → Int → Int → Poly
  | 0, _, _ => []
  | n + 1, e, N => if N = 0 then [] else
    let c := if N % XX < XX / 2 then N % XX else N % XX - XX
    if c = 0 then unpack n (e + 1) ((N - c) / XX) else (e, c) :: unpack n (e + 1) ((N - c) / XX)
def okP (p : Poly) : Bool := canonB p && (allB p && (decide (l1 p < 2 ^ 100) && decide (p.length < 300)))
def ldB (p : Poly) : Bool := p.all fun t => decide (t.2.natAbs < 1073741824)
def cell (a p c d b : Poly) : Option Poly :=
  let N := evX XX a * evX XX p - evX XX c * evX XX d
  let q := unpack 100 0 (N / evX XX b)
  if decide (evX XX b * evX XX q = N) && okP q then some q else none
theorem okP_iff {p : Poly} (h : okP p = true) : Canon p ∧ NN p ∧ l1 p < 2 ^ 100 ∧ p.length < 300 := by
  unfold okP allB at h
  simp only [Bool.and_eq_true, decide_eq_true_eq, List.all_eq_true] at h
  exact ⟨canonB_iff h.1, h.2.1, h.2.2.1, h.2.2.2⟩
theorem l1_mem {p : Poly} {t : Int × Int} (h : t ∈ p) : t.2.natAbs ≤ l1 p := by
  induction p with
  | nil => cases h
  | cons u p ih =>
    rw [l1]
    rcases List.mem_cons.mp h with rfl | h
    · omega
    · have := ih h; omega
theorem wide_of {p : Poly} (h : l1 p < 2 ^ 199) : WideP p := fun t ht => by
  have := l1_mem ht
  exact wide_lt (by omega) (by omega)
theorem cell_ok {a p c d b q : Poly} (h : cell a p c d b = some q) (ha : okP a = true) (hp : okP p = true) (hc : okP c = true) (hd : okP d = true) (hb : okP b = true) (hb0 : b ≠ []) (hbl : ldB b = true) :
    okP q = true ∧ Lau.F_divided [encP (norm (norm (mulT a p) ++ sclT (-1) (norm (mulT c d)))), encP b] = some (encP q) := by
  unfold cell at h
  simp only at h
  split at h
  · rename_i hk
    injection h with h
    rw [h] at hk
    simp only [Bool.and_eq_true, decide_eq_true_eq] at hk
    obtain ⟨hev, hq⟩ := hk
    refine ⟨hq, ?_⟩
    obtain ⟨a1, a2, a3, a4⟩ := okP_iff ha
    obtain ⟨p1, p2, p3, p4⟩ := okP_iff hp
    obtain ⟨c1, c2, c3, c4⟩ := okP_iff hc
    obtain ⟨d1, d2, d3, d4⟩ := okP_iff hd
    obtain ⟨b1, b2, b3, b4⟩ := okP_iff hb
    obtain ⟨q1, q2, q3, q4⟩ := okP_iff hq
    let D : Poly := mulT a p ++ (sclT (-1) (mulT c d) ++ sclT (-1) (mulT b q))
    have hD : norm D = [] := by
      have nnmul : ∀ {x y : Poly}, NN x → NN y → NN (mulT x y) := fun hx hy t ht => by
        obtain ⟨u, hu, ht⟩ := List.mem_flatMap.mp ht
        obtain ⟨v, hv, rfl⟩ := List.mem_map.mp ht
        have := hx u hu
        have := hy v hv
        dsimp only; omega
      have nnscl : ∀ {x : Poly}, NN x → NN (sclT (-1) x) := fun hx t ht => by
        obtain ⟨u, hu, rfl⟩ := List.mem_map.mp ht
        exact hx u hu
      have hDn : NN D := fun t ht => by
        rcases List.mem_append.mp ht with ht | ht
        · exact nnmul a2 p2 t ht
        · rcases List.mem_append.mp ht with ht | ht
          · exact nnscl (nnmul c2 d2) t ht
          · exact nnscl (nnmul b2 q2) t ht
      refine ev_zero (X := XX) (by unfold XX; decide +kernel) (canon_norm D) (fun t ht => ?_) (fun t ht => ?_) ?_
      · have h1 := (canon_norm D).nz.cf ht
        rw [cf_norm] at h1
        apply Classical.byContradiction
        intro hneg
        refine (canon_norm D).2 t ht ?_
        rw [← h1]
        exact cf_zero fun u hu e => by have := hDn u hu; omega
      · refine Nat.lt_of_le_of_lt (norm_l1 ht) ?_
        show l1 (mulT a p ++ (sclT (-1) (mulT c d) ++ sclT (-1) (mulT b q))) < _
        rw [l1_append, l1_append, l1_scl, l1_scl, l1_mul, l1_mul, l1_mul]
        have m1 : l1 a * l1 p ≤ 2 ^ 100 * 2 ^ 100 := Nat.mul_le_mul (by omega) (by omega)
        have m2 : l1 c * l1 d ≤ 2 ^ 100 * 2 ^ 100 := Nat.mul_le_mul (by omega) (by omega)
        have m3 : l1 b * l1 q ≤ 2 ^ 100 * 2 ^ 100 := Nat.mul_le_mul (by omega) (by omega)
        have e1 : (-1 : Int).natAbs = 1 := rfl
        have e2 : XX.natAbs = 2 ^ 300 := by unfold XX; decide +kernel
        rw [e1, e2]
        have : 2 ^ 100 * 2 ^ 100 + (2 ^ 100 * 2 ^ 100 * 1 + 2 ^ 100 * 2 ^ 100 * 1) < 2 ^ 300 := by decide +kernel
        omega
      · rw [ev_norm]
        show evX XX (mulT a p ++ (sclT (-1) (mulT c d) ++ sclT (-1) (mulT b q))) = 0
        rw [ev_append, ev_append, ev_scl, ev_scl, ev_mul XX a2 p2, ev_mul XX c2 d2, ev_mul XX b2 q2, hev]
        generalize evX XX a * evX XX p = x
        generalize evX XX c * evX XX d = y
        omega
    refine F_divided_eq (canon_norm _) b1 hb0 q1 (wide_of (Nat.lt_trans b3 (by decide +kernel))) (wide_of (Nat.lt_trans q3 (by decide +kernel))) (fun t ht => ?_) ?_ (by omega) (by omega) (fun e => ?_) ?_
    · unfold ldB at hbl
      simp only [List.all_eq_true, decide_eq_true_eq] at hbl
      exact hbl t ht
    · have : b.length * q.length ≤ 300 * 300 := Nat.mul_le_mul (by omega) (by omega)
      omega
    · have h0 : cf D e = 0 := by rw [← cf_norm, hD]; rfl
      have h1 : cf D e = cf (mulT a p) e + (cf (mulT c d) e * (-1) + cf (mulT b q) e * (-1)) := by
        show cf (mulT a p ++ (sclT (-1) (mulT c d) ++ sclT (-1) (mulT b q))) e = _
        rw [cf_append, cf_append, cf_scl, cf_scl]
      rw [cf_norm, cf_append, cf_scl, cf_norm, cf_norm]
      omega
    · have hk : Keys ((mulT a p ++ sclT (-1) (mulT c d)).map (·.1)) (norm (norm (mulT a p) ++ sclT (-1) (norm (mulT c d)))) := by
        refine norm_keys fun t ht => ?_
        rcases List.mem_append.mp ht with ht | ht
        · have := norm_keys (S := (mulT a p ++ sclT (-1) (mulT c d)).map (·.1)) (p := mulT a p) (fun u hu => List.mem_map_of_mem (List.mem_append.mpr (.inl hu)))
          exact this t ht
        · obtain ⟨u, hu, rfl⟩ := List.mem_map.mp ht
          have := norm_keys (S := (mulT a p ++ sclT (-1) (mulT c d)).map (·.1)) (p := mulT c d) (fun v hv => by
            refine List.mem_map.mpr ⟨(v.1, v.2 * -1), List.mem_append.mpr (.inr (List.mem_map.mpr ⟨v, hv, rfl⟩)), rfl⟩)
          exact this u hu
      have hl := len_of_keys hk (canon_norm _).nodup
      have lm : ∀ x y : Poly, (mulT x y).length = x.length * y.length := fun x y => by
        unfold mulT
        rw [List.length_flatMap]
        simp only [List.length_map, List.map_const', List.sum_replicate_nat]
      rw [List.length_map, List.length_append, lm] at hl
      have h2 : (sclT (-1) (mulT c d)).length = c.length * d.length := by rw [← lm]; simp [sclT]
      rw [h2] at hl
      have m1 : a.length * p.length ≤ 300 * 300 := Nat.mul_le_mul (by omega) (by omega)
      have m2 : c.length * d.length ≤ 300 * 300 := Nat.mul_le_mul (by omega) (by omega)
      omega
  · cases h
end k75
end PT

set_option Elab.async false
set_option linter.all false
set_option autoImplicit false
set_option maxRecDepth 100000
set_option maxHeartbeats 4000000
/-! k75_m2: the table's determinant. -/
namespace PT
namespace k75
open Lau
abbrev Row := List Poly
abbrev Mat := List Row
def rowO (b p c : Poly) : List (Poly × Poly) → Option Row
  | [] => some []
  | x :: l => match cell x.1 p c x.2 b with
    | none => none
    | some q => (rowO b p c l).map fun r => q :: r
def matO (b p : Poly) (Rk : Row) (k : Nat) : Nat → Mat → Option Mat
  | _, [] => some []
  | j, r :: rs => (if j ≤ k then some r else rowO b p (r[k]?.getD []) (r.zip Rk)).bind fun r' => (matO b p Rk k (j + 1) rs).map fun t => r' :: t
def detO : Nat → Nat → Poly → Mat → Option Poly
  | 0, _, b, _ => some b
  | n + 1, k, b, R => match R[k]? with
    | none => none
    | some Rk => let p := Rk[k]?.getD []
      if p.isEmpty || !ldB b then none else (matO b p Rk k 0 R).bind fun R' => detO n (k + 1) p R'
def encR (r : Row) : PV := .lst (r.map encP)
def encM (R : Mat) : PV := .lst (R.map encR)
theorem ix_row {r : Row} {m : Nat} {q : Poly} (h : r[m]? = some q) : gIxAll (encR r) (.int m) = some (encP q) := gIx_at (by simp [h])
theorem ix_mat {R : Mat} {j : Nat} {r : Row} (h : R[j]? = some r) : gIxAll (encM R) (.int j) = some (encR r) := gIx_at (by simp [h])
theorem rowO_get {b p c : Poly} : ∀ {l : List (Poly × Poly)} {r : Row}, rowO b p c l = some r → r.length = l.length ∧ ∀ (m : Nat) (x : Poly × Poly), l[m]? = some x → ∃ q, r[m]? = some q ∧ cell x.1 p c x.2 b = some q
  | [], r, h => by cases h; exact ⟨rfl, fun m x hx => by simp at hx⟩
  | y :: l, r, h => by
    unfold rowO at h
    split at h
    · cases h
    · rename_i q hq
      obtain ⟨r', h1, h2⟩ := Option.map_eq_some_iff.mp h
      obtain ⟨i1, i2⟩ := rowO_get h1
      subst h2
      refine ⟨by simp [i1], fun m x hx => ?_⟩
      cases m with
      | zero => simp at hx; exact ⟨q, rfl, by rw [← hx]; exact hq⟩
      | succ m => simpa using i2 m x (by simpa using hx)
theorem matO_get {b p : Poly} {Rk : Row} {k : Nat} : ∀ {j : Nat} {R R' : Mat}, matO b p Rk k j R = some R' → R'.length = R.length ∧ ∀ (i : Nat) (r : Row), R[i]? = some r → ∃ r', R'[i]? = some r' ∧ (if j + i ≤ k then r' = r else rowO b p (r[k]?.getD []) (r.zip Rk) = some r')
  | j, [], R', h => by cases h; exact ⟨rfl, fun m x hx => by simp at hx⟩
  | j, y :: R, R', h => by
    unfold matO at h
    obtain ⟨r', h1, h2⟩ := Option.bind_eq_some_iff.mp h
    obtain ⟨t, h3, h4⟩ := Option.map_eq_some_iff.mp h2
    obtain ⟨i1, i2⟩ := matO_get h3
    subst h4
    refine ⟨by simp [i1], fun i r hr => ?_⟩
    cases i with
    | zero =>
      simp at hr
      subst hr
      refine ⟨r', rfl, ?_⟩
      simp only [Nat.add_zero]
      split
      · rename_i hk
        rw [if_pos hk] at h1
        injection h1 with h1; exact h1.symm
      · rename_i hk
        rw [if_neg hk] at h1
        exact h1
    | succ i =>
      obtain ⟨r'', q1, q2⟩ := i2 i r (by simpa using hr)
      exact ⟨r'', by simpa using q1, by rw [show j + (i + 1) = j + 1 + i from by omega]; exact q2⟩
def OkM (n : Nat) (R : Mat) : Prop := R.length = n ∧ ∀ r ∈ R, r.length = n ∧ ∀ q ∈ r, okP q = true
theorem OkM.row {n : Nat} {R : Mat} (h : OkM n R) {j : Nat} (hj : j < n) : ∃ r, R[j]? = some r ∧ r.length = n ∧ ∀ q ∈ r, okP q = true := by
  obtain ⟨h1, h2⟩ := h
  exact ⟨R[j], List.getElem?_eq_getElem (by omega), h2 _ (List.getElem_mem _)⟩
theorem get_of_lt {α : Type} {r : List α} {m n : Nat} (h : r.length = n) (hm : m < n) : ∃ q, r[m]? = some q := ⟨r[m], List.getElem?_eq_getElem (by omega)⟩
section
@[local simp] def zsk75m21_ap_seq := @ap_seq
@[local simp] def zsk75m21_ap_nx := @ap_nx
@[local simp] def zsk75m21_ap_ret := @ap_ret
@[local simp] def zsk75m21_ap_drop := @ap_drop
@[local simp] def zsk75m21_ap_set := @ap_set
@[local simp] def zsk75m21_ap_list := @ap_list
@[local simp] def zsk75m21_ap_aNil := @ap_aNil
@[local simp] def zsk75m21_ap_aCons := @ap_aCons
@[local simp] def zsk75m21_ap_a1 := @ap_a1
@[local simp] def zsk75m21_ap_var := @ap_var
@[local simp] def zsk75m21_ap_look := @ap_look
@[local simp] def zsk75m21_ap_c := @ap_c
@[local simp] def zsk75m21_ap_op := @ap_op
@[local simp] def zsk75m21_ap_opO := @ap_opO
@[local simp] def zsk75m21_ap_un := @ap_un
@[local simp] def zsk75m21_ap_test := @ap_test
@[local simp] def zsk75m21_ap_if := @ap_if
@[local simp] def zsk75m21_ap_notT := @ap_notT
@[local simp] def zsk75m21_ap_andT := @ap_andT
@[local simp] def zsk75m21_ap_orT := @ap_orT
@[local simp] def zsk75m21_ap_tru := @ap_tru
@[local simp] def zsk75m21_ap_notV := @ap_notV
@[local simp] def zsk75m21_ap_andV := @ap_andV
@[local simp] def zsk75m21_ap_orV := @ap_orV
@[local simp] def zsk75m21_ap_for := @ap_for
@[local simp] def zsk75m21_ap_iS := @ap_iS
@[local simp] def zsk75m21_ap_name := @ap_name
@[local simp] def zsk75m21_ap_tup := @ap_tup
@[local simp] def zsk75m21_ap_tsNil := @ap_tsNil
@[local simp] def zsk75m21_ap_tsCons := @ap_tsCons
@[local simp] def zsk75m21_ap_asg := @ap_asg
@[local simp] def zsk75m21_ap_sub := @ap_sub
@[local simp] def zsk75m21_ap_par := @ap_par
@[local simp] def zsk75m21_ap_aug := @ap_aug
@[local simp] def zsk75m21_ap_get := @ap_get
@[local simp] def zsk75m21_ap_getO := @ap_getO
@[local simp] def zsk75m21_ap_yes := @ap_yes
@[local simp] def zsk75m21_ap_mut := @ap_mut
@[local simp] theorem zsk75m21_startP (n : Nat) (args : List PV) : startP n args = args.map some ++ List.replicate (n - args.length) none := rfl
@[local simp] theorem zsk75m21_rowOfa (xs : List PV) : rowOf (.lst xs) = some xs := rfl
@[local simp] theorem zsk75m21_rowOfb (xs : List PV) : rowOf (.tup xs) = some xs := rfl
@[local simp] def zsk75m21_gTup0 := @gTup0
@[local simp] def zsk75m21_gTup1 := @gTup1
@[local simp] def zsk75m21_gTup2 := @gTup2
@[local simp] def zsk75m21_gLst0 := @gLst0
@[local simp] def zsk75m21_gLst1 := @gLst1
@[local simp] def zsk75m21_gLst2 := @gLst2
theorem len_lst (xs : List PV) : gLenAll [.lst xs] = some (.int xs.length) := by simp [gLenAll, orL, gLen]
theorem len_encR (r : Row) : gLenAll [encR r] = some (.int r.length) := by unfold encR; rw [len_lst]; simp
theorem len_encM (r : Mat) : gLenAll [encM r] = some (.int r.length) := by unfold encM; rw [len_lst]; simp
theorem len_encP (p : Poly) : gLenAll [encP p] = some (.int p.length) := by unfold encP; simp [gLenAll, orL, gLen]
def cellE : EF := fList F_divided (aCons (fList F_minus (aCons (fList F_times (aCons (fOp gIxAll (fOpO gIxAll 1 (fVar 7)) (fVar 9)) (aCons (fOp gIxAll (fOpO gIxAll 1 (fVar 5)) (fVar 5)) aNil))) (aCons (fList F_times (aCons (fOp gIxAll (fOpO gIxAll 1 (fVar 7)) (fVar 5)) (aCons (fOp gIxAll (fOpO gIxAll 1 (fVar 5)) (fVar 9)) aNil))) aNil))) (aCons (fVar 4) aNil))
def lineB : SF := fSeq (fDrop (fMut isLst 8 gAppend (aCons cellE aNil))) fNx
def rowB : SF := fSeq (fSet 8 (fList gListD aNil)) (fSeq (fFor (iR1 (fList gLenAll (a1 (fVar 1)))) (tName 9) lineB) (fSeq (fAsg (fVar 8) (tSub 1 (fVar 7) gSet)) fNx))
def swapE : EF := fLC [7] (iR2 (fVar 5) (fList gLenAll (a1 (fVar 1)))) (tName 7) (fTest (fOp gGt (fList gLenAll (a1 (fOp gIxAll (fOpO gIxAll 1 (fVar 7)) (fVar 5)))) (fC (.int 0)))) (fVar 7)
def swapB : SF := fSeq (fAsg (fList gTuple (aCons (fOpO gIxAll 1 (fOp gIxAll (fVar 6) (fC (.int 0)))) (aCons (fOpO gIxAll 1 (fVar 5)) aNil))) (tTupG 2 (tsCons (tSub 1 (fVar 5) gSet) (tsCons (tSub 1 (fOp gIxAll (fVar 6) (fC (.int 0))) gSet) tsNil)))) (fSeq (fSet 3 (fOp gSubI (fC (.int 0)) (fVar 3))) fNx)
def outB : SF := fSeq (fSet 6 swapE) (fSeq (fIf (fTest (fOp gEqD (fList gLenAll (a1 (fVar 6))) (fC (.int 0)))) (fSeq (fRet (fList gTuple aNil)) fNx) fNx) (fSeq (fIf (fTest (fOp gNeD (fOp gIxAll (fVar 6) (fC (.int 0))) (fVar 5))) swapB fNx)
  (fSeq (fFor (iR2 (fOp gAdd (fVar 5) (fC (.int 1))) (fList gLenAll (a1 (fVar 1)))) (tName 7) rowB) (fSeq (fSet 4 (fOp gIxAll (fOpO gIxAll 1 (fVar 5)) (fVar 5))) fNx))))
theorem b_table_eq : b_table_determinant = fSeq (fSet 1 (fLC [2] (iS (fVar 0)) (tName 2) (fYes) (fList gListAll (a1 (fVar 2))))) (fSeq (fPar 3 4 (fC (.int 1)) (fC c_ONE)) (fSeq (fFor (iR1 (fList gLenAll (a1 (fVar 1)))) (tName 5) outB) (fSeq (fRet (fList F_scaled (aCons (fVar 4) (aCons (fVar 3) aNil)))) fNx))) := rfl
/-- one cell of the program -/
theorem cellE_eq {T : PV} {M : Mat} {k j m n : Nat} {rj rk : Row} {a p c d b q : Poly} {x2 x3 x6 x8 : Option PV} (hj : M[j]? = some rj) (hk : M[k]? = some rk) (ha : rj[m]? = some a) (hp : rk[k]? = some p) (hc : rj[k]? = some c) (hd : rk[m]? = some d) (h : cell a p c d b = some q) (oa : okP a = true) (op : okP p = true) (oc : okP c = true) (od : okP d = true) (ob : okP b = true) (hb0 : b ≠ []) (hbl : ldB b = true) :
    cellE [some T, some (encM M), x2, x3, some (encP b), some (.int k), x6, some (.int j), x8, some (.int m)] = some (encP q, [some T, some (encM M), x2, x3, some (encP b), some (.int k), x6, some (.int j), x8, some (.int m)]) := by
  obtain ⟨_, hdv⟩ := cell_ok h oa op oc od ob hb0 hbl
  obtain ⟨_, _, a3, a4⟩ := okP_iff oa
  obtain ⟨_, _, p3, p4⟩ := okP_iff op
  obtain ⟨_, _, c3, c4⟩ := okP_iff oc
  obtain ⟨_, _, d3, d4⟩ := okP_iff od
  have bnd : ∀ {x : Poly}, l1 x < 2 ^ 100 → WideP x := fun h => wide_of (Nat.lt_trans h (by decide +kernel))
  have lm : ∀ x y : Poly, (mulT x y).length = x.length * y.length := fun x y => by
    unfold mulT
    rw [List.length_flatMap]
    simp only [List.length_map, List.map_const', List.sum_replicate_nat]
  have m1 : a.length * p.length ≤ 300 * 300 := Nat.mul_le_mul (by omega) (by omega)
  have m2 : c.length * d.length ≤ 300 * 300 := Nat.mul_le_mul (by omega) (by omega)
  have t1 := F_times_eq (p := a) (q := p) (by omega) (bnd a3) (bnd p3)
  have t2 := F_times_eq (p := c) (q := d) (by omega) (bnd c3) (bnd d3)
  have nl : ∀ x : Poly, (norm x).length ≤ x.length := fun x => by
    have hk : Keys (x.map (·.1)) (norm x) := norm_keys fun u hu => List.mem_map_of_mem hu
    have := len_of_keys hk (canon_norm x).nodup
    simpa using this
  have w2 : WideP (norm (mulT c d)) := fun t ht => by
    have h1 := norm_l1 ht
    rw [l1_mul] at h1
    have h2 : l1 c * l1 d ≤ 2 ^ 100 * 2 ^ 100 := Nat.mul_le_mul (by omega) (by omega)
    have h3 : (2 : Nat) ^ 100 * 2 ^ 100 = 2 ^ 200 := by decide +kernel
    have h4 : t.2.natAbs ≤ 2 ^ 200 := by omega
    unfold wideI
    rw [decide_eq_true_eq]
    by_cases h0 : t.2.natAbs = 0
    · rw [h0]; decide +kernel
    · have : t.2.natAbs < 2 ^ 201 := Nat.lt_of_le_of_lt h4 (by decide +kernel)
      have := (Nat.log2_lt h0).mpr this
      omega
  have n1 := nl (mulT a p)
  have n2 := nl (mulT c d)
  rw [lm] at n1 n2
  have t3 := F_minus_eq (p := norm (mulT a p)) (q := norm (mulT c d)) (by omega) w2
  rw [← e_times] at t1 t2
  rw [← e_minus] at t3
  rw [← e_divided] at hdv
  simp [cellE, ix_mat hj, ix_mat hk, ix_row ha, ix_row hp, ix_row hc, ix_row hd, t1, t2, t3, hdv]
theorem append_lst (xs : List PV) (v : PV) (h : xs.length < 1000000) : gAppend (.lst xs) [v] = some (.non, .lst (xs ++ [v])) := by
  unfold gAppend
  simp [h]
theorem set_row {R : Mat} {j : Nat} {r : Row} (h : j < R.length) : gSet (encM R) (.int j) (encR r) = some (encM (R.set j r)) := by
  unfold gSet orS gSetL encM
  simp only [L2.ixN]
  rw [if_pos (by omega), if_pos (by simp; omega)]
  simp [List.map_set]
theorem i62_nat {n : Nat} (h : n ≤ 1000000) : i62 (n : Int) = true := i62_len h
/-- one line -/
theorem row_eq {T : PV} {M : Mat} {k j n : Nat} {rj rk r' : Row} {p c b : Poly} {x2 x3 x6 x8 x9 : Option PV} (hn : n ≤ 1000) (hM : M.length = n) (hjn : j < n) (hj : M[j]? = some rj) (hk : M[k]? = some rk) (lj : rj.length = n) (lk : rk.length = n) (hp : rk[k]? = some p) (hc : rj[k]? = some c) (h : rowO b p c (rj.zip rk) = some r') (oj : ∀ q ∈ rj, okP q = true) (ok : ∀ q ∈ rk, okP q = true) (ob : okP b = true) (hb0 : b ≠ []) (hbl : ldB b = true) :
    ∃ x8' x9', rowB [some T, some (encM M), x2, x3, some (encP b), some (.int k), x6, some (.int j), x8, x9] = some (.nx, [some T, some (encM (M.set j r')), x2, x3, some (encP b), some (.int k), x6, some (.int j), x8', x9']) := by
  obtain ⟨g1, g2⟩ := rowO_get h
  have hlen : r'.length = n := by rw [g1, List.length_zip]; omega
  have op := ok p (List.mem_of_getElem? hp)
  have oc := oj c (List.mem_of_getElem? hc)
  obtain ⟨ρ', e, x9', er⟩ := loop_at (t := tName 9) (body := lineB) (fun m ρ => ∃ x9, ρ = [some T, some (encM M), x2, x3, some (encP b), some (.int k), x6, some (.int j), some (encR (r'.take m)), x9]) (rngP 0 n) 0 [some T, some (encM M), x2, x3, some (encP b), some (.int k), x6, some (.int j), some (.lst []), x9] ⟨x9, rfl⟩
    (fun m v ρ hv ⟨x9, er⟩ => by
      obtain ⟨hm, rfl⟩ := rngP_get hv
      rw [Nat.zero_add] at er
      subst er
      obtain ⟨a, ha⟩ := get_of_lt lj hm
      obtain ⟨d, hd⟩ := get_of_lt lk hm
      obtain ⟨q, hq, hcell⟩ := g2 m (a, d) (by rw [List.getElem?_zip_eq_some]; exact ⟨ha, hd⟩)
      have e0 : (0 : Int) + (m : Int) = (m : Int) := by omega
      rw [e0]
      have hce := cellE_eq (T := T) (k := k) (j := j) (m := m) (n := n) (x2 := x2) (x3 := x3) (x6 := x6) (x8 := some (encR (r'.take m))) hj hk ha hp hc hd hcell (oj a (List.mem_of_getElem? ha)) op oc (ok d (List.mem_of_getElem? hd)) ob hb0 hbl
      have htk : r'.take (m + 1) = r'.take m ++ [q] := by
        have hm' : m < r'.length := by omega
        rw [List.take_succ, hq]; rfl
      have hap : gAppend (encR (r'.take m)) [encP q] = some (.non, encR (r'.take (m + 1))) := by
        unfold encR
        rw [append_lst _ _ (by simp; omega), htk]
        simp
      refine ⟨[some T, some (encM M), x2, x3, some (encP b), some (.int k), x6, some (.int j), some (encR (r'.take m)), some (.int m)], [some T, some (encM M), x2, x3, some (encP b), some (.int k), x6, some (.int j), some (encR (r'.take (m + 1))), some (.int m)], rfl, .inl ?_, some (.int m), by rw [Nat.zero_add]⟩
      have hl : isLst (encR (r'.take m)) = true := rfl
      simp [lineB, hl, hce, hap, -rowOf])
  rw [rngP_length, Nat.zero_add, List.take_of_length_le (by omega)] at er
  subst er
  refine ⟨some (encR r'), x9', ?_⟩
  have hit : iR1 (fList gLenAll (a1 (fVar 1))) [some T, some (encM M), x2, x3, some (encP b), some (.int k), x6, some (.int j), some (.lst []), x9] = some (rngP 0 n, [some T, some (encM M), x2, x3, some (encP b), some (.int k), x6, some (.int j), some (.lst []), x9]) :=
    iR1_of (j := (n : Int)) (by simp [len_encM, hM]) (i62_nat (by omega))
  have hg : gListD [] = some (.lst []) := rfl
  have hs := set_row (R := M) (j := j) (r := r') (by omega)
  have h1 : fSet 8 (fList gListD aNil) [some T, some (encM M), x2, x3, some (encP b), some (.int k), x6, some (.int j), x8, x9] = some (.nx, [some T, some (encM M), x2, x3, some (encP b), some (.int k), x6, some (.int j), some (.lst []), x9]) := rfl
  have h2 := for_of hit e
  have h3 : fAsg (fVar 8) (tSub 1 (fVar 7) gSet) [some T, some (encM M), x2, x3, some (encP b), some (.int k), x6, some (.int j), some (encR r'), x9'] = some (.nx, [some T, some (encM (M.set j r')), x2, x3, some (encP b), some (.int k), x6, some (.int j), some (encR r'), x9']) := by simp [hs]
  unfold rowB
  rw [seq_nx h1, seq_nx h2, seq_nx h3]
  rfl
/-- one turn of the outer loop -/
theorem out_eq {T : PV} {R R' : Mat} {k n : Nat} {rk : Row} {p b : Poly} {x2 x6 x7 x8 x9 x5 : Option PV} (hn : n ≤ 1000) (hR : OkM n R) (hkn : k < n) (hk : R[k]? = some rk) (hp : rk[k]? = some p) (hp0 : p ≠ []) (h : matO b p rk k 0 R = some R') (ob : okP b = true) (hb0 : b ≠ []) (hbl : ldB b = true) :
    OkM n R' ∧ ∃ x6' x7' x8' x9', outB [some T, some (encM R), x2, some (.int 1), some (encP b), some (.int k), x6, x7, x8, x9] = some (.nx, [some T, some (encM R'), x2, some (.int 1), some (encP p), some (.int k), x6', x7', x8', x9']) := by
  obtain ⟨g1, g2⟩ := matO_get h
  obtain ⟨hR1, hR2⟩ := hR
  have hR1' : R'.length = n := by rw [g1, hR1]
  have lk := (hR2 rk (List.mem_of_getElem? hk)).1
  have ok := (hR2 rk (List.mem_of_getElem? hk)).2
  have op := ok p (List.mem_of_getElem? hp)
  have hk' : R'[k]? = some rk := by
    obtain ⟨r', q1, q2⟩ := g2 k rk hk
    rw [if_pos (by omega)] at q2
    rw [q1, q2]
  have hrow : ∀ j, k < j → j < n → ∃ rj c r', R[j]? = some rj ∧ R'[j]? = some r' ∧ rj.length = n ∧ (∀ q ∈ rj, okP q = true) ∧ rj[k]? = some c ∧ rowO b p c (rj.zip rk) = some r' := fun j hkj hjn => by
    obtain ⟨rj, hj⟩ := get_of_lt hR1 hjn
    obtain ⟨r', q1, q2⟩ := g2 j rj hj
    rw [if_neg (by omega)] at q2
    have lj := (hR2 rj (List.mem_of_getElem? hj)).1
    obtain ⟨c, hc⟩ := get_of_lt lj hkn
    rw [hc] at q2
    exact ⟨rj, c, r', hj, q1, lj, (hR2 rj (List.mem_of_getElem? hj)).2, hc, q2⟩
  have hOk' : OkM n R' := by
    refine ⟨hR1', fun r hr => ?_⟩
    obtain ⟨j, hjl, rfl⟩ := List.getElem_of_mem hr
    have hjn : j < n := by omega
    by_cases hjk : j ≤ k
    · obtain ⟨rj, hj⟩ := get_of_lt hR1 hjn
      obtain ⟨r', q1, q2⟩ := g2 j rj hj
      rw [if_pos (by omega)] at q2
      rw [List.getElem?_eq_getElem hjl] at q1
      injection q1 with q1
      rw [q1, q2]
      exact hR2 rj (List.mem_of_getElem? hj)
    · obtain ⟨rj, c, r', hj, hj', lj, oj, hc, hro⟩ := hrow j (by omega) hjn
      rw [List.getElem?_eq_getElem hjl] at hj'
      injection hj' with hj'
      rw [hj']
      obtain ⟨w1, w2⟩ := rowO_get hro
      have wl : r'.length = n := by rw [w1, List.length_zip]; omega
      refine ⟨wl, fun q hq => ?_⟩
      obtain ⟨m, hml, rfl⟩ := List.getElem_of_mem hq
      obtain ⟨a, ha⟩ := get_of_lt lj (show m < n by omega)
      obtain ⟨d, hd⟩ := get_of_lt lk (show m < n by omega)
      obtain ⟨q, hq1, hcell⟩ := w2 m (a, d) (by rw [List.getElem?_zip_eq_some]; exact ⟨ha, hd⟩)
      rw [List.getElem?_eq_getElem hml] at hq1
      injection hq1 with hq1
      rw [hq1]
      exact (cell_ok hcell (oj a (List.mem_of_getElem? ha)) op (oj c (List.mem_of_getElem? hc)) (ok d (List.mem_of_getElem? hd)) ob hb0 hbl).1
  refine ⟨hOk', ?_⟩
  -- the rows that may stand first
  have hswap : ∃ rest, swapE [some T, some (encM R), x2, some (.int 1), some (encP b), some (.int k), x6, x7, x8, x9] = some (.lst (.int k :: rest), [some T, some (encM R), x2, some (.int 1), some (encP b), some (.int k), x6, x7, x8, x9]) := by
    have hlc := lc_map (vs := [7]) (t := tName 7) (ft := fTest (fOp gGt (fList gLenAll (a1 (fOp gIxAll (fOpO gIxAll 1 (fVar 7)) (fVar 5)))) (fC (.int 0)))) (fe := fVar 7) (ρ := [some T, some (encM R), x2, some (.int 1), some (encP b), some (.int k), x6, x7, x8, x9]) (fun i : Nat => PV.int ((k : Int) + (i : Int))) (fun i => decide (0 < ((R[k + i]?.getD [])[k]?.getD []).length)) (fun i => PV.int ((k : Int) + (i : Int))) (List.range (n - k)) [] (fun i hi => by
      have hi' : k + i < n := by have := List.mem_range.mp hi; omega
      obtain ⟨rj, hj⟩ := get_of_lt hR1 hi'
      have lj := (hR2 rj (List.mem_of_getElem? hj)).1
      obtain ⟨c, hc⟩ := get_of_lt lj hkn
      have e0 : (k : Int) + (i : Int) = ((k + i : Nat) : Int) := by omega
      refine ⟨[some T, some (encM R), x2, some (.int 1), some (encP b), some (.int k), x6, some (.int ((k : Int) + (i : Int))), x8, x9], rfl, ?_, fun _ => rfl, rfl⟩
      have hx : gIxAll (encM R) (.int ((k : Int) + (i : Int))) = some (encR rj) := by rw [e0]; exact ix_mat hj
      simp [hx, ix_row hc, len_encP, gGt_int, hj, hc]) (by simp; omega)
    have hit : iR2 (fVar 5) (fList gLenAll (a1 (fVar 1))) [some T, some (encM R), x2, some (.int 1), some (encP b), some (.int k), x6, x7, x8, x9] = some (rngP (k : Int) (n - k), [some T, some (encM R), x2, some (.int 1), some (encP b), some (.int k), x6, x7, x8, x9]) := by
      have := iR2_of (f := fVar 5) (g := fList gLenAll (a1 (fVar 1))) (ρ := [some T, some (encM R), x2, some (.int 1), some (encP b), some (.int k), x6, x7, x8, x9]) (ρ' := [some T, some (encM R), x2, some (.int 1), some (encP b), some (.int k), x6, x7, x8, x9]) (ρ'' := [some T, some (encM R), x2, some (.int 1), some (encP b), some (.int k), x6, x7, x8, x9]) (i := (k : Int)) (j := (n : Int)) rfl (by simp [len_encM, hR1]) (i62_nat (by omega)) (i62_nat (by omega))
      rw [this, show ((n : Int) - (k : Int)).toNat = n - k from by omega]
    have e1 := lc_of (vs := [7]) hit hlc
    obtain ⟨t, ht⟩ : ∃ t, n - k = t + 1 := ⟨n - k - 1, by omega⟩
    have hpl : 0 < p.length := List.length_pos_iff.mpr hp0
    have hfil : ∃ rest, ([] ++ ((List.range (n - k)).filter fun i => decide (0 < ((R[k + i]?.getD [])[k]?.getD []).length)).map fun (i : Nat) => PV.int ((k : Int) + (i : Int))) = .int k :: rest := by
      rw [ht, List.range_succ_eq_map, List.filter_cons]
      have : decide (0 < ((R[k + 0]?.getD [])[k]?.getD []).length) = true := by
        rw [Nat.add_zero, hk]
        simp [hp, hpl]
      rw [this]
      simp only [if_true, List.map_cons, List.nil_append]
      exact ⟨_, by rw [show (k : Int) + ((0 : Nat) : Int) = (k : Int) from by omega]⟩
    obtain ⟨rest, hr⟩ := hfil
    rw [hr] at e1
    exact ⟨rest, e1⟩
  obtain ⟨rest, hsw⟩ := hswap
  -- the lines below
  obtain ⟨ρ', e, x7', x8', x9', er⟩ := loop_at (t := tName 7) (body := rowB) (fun i ρ => ∃ x7 x8 x9, ρ = [some T, some (encM (R'.take (k + 1 + i) ++ R.drop (k + 1 + i))), x2, some (.int 1), some (encP b), some (.int k), some (.lst (.int k :: rest)), x7, x8, x9]) (rngP ((k : Int) + 1) (n - (k + 1))) 0 [some T, some (encM R), x2, some (.int 1), some (encP b), some (.int k), some (.lst (.int k :: rest)), x7, x8, x9] (by
      refine ⟨x7, x8, x9, ?_⟩
      have : R'.take (k + 1 + 0) ++ R.drop (k + 1 + 0) = R := by
        apply List.ext_getElem?
        intro i
        by_cases hi : i < k + 1
        · rw [List.getElem?_append_left (by rw [List.length_take]; omega), List.getElem?_take, if_pos (by omega)]
          obtain ⟨ri, hi'⟩ := get_of_lt hR1 (show i < n by omega)
          obtain ⟨r', q1, q2⟩ := g2 i ri hi'
          rw [if_pos (by omega)] at q2
          rw [q1, q2, hi']
        · rw [List.getElem?_append_right (by rw [List.length_take]; omega), List.length_take, List.getElem?_drop]
          exact congrArg (fun i => R[i]?) (by omega)
      rw [this])
    (fun i v ρ hv ⟨x7, x8, x9, er⟩ => by
      obtain ⟨hi, rfl⟩ := rngP_get hv
      rw [Nat.zero_add] at er
      subst er
      have hjn : k + 1 + i < n := by omega
      obtain ⟨rj, c, r', hj, hj', lj, oj, hc, hro⟩ := hrow (k + 1 + i) (by omega) hjn
      have hMl : (R'.take (k + 1 + i) ++ R.drop (k + 1 + i)).length = n := by rw [List.length_append, List.length_take, List.length_drop]; omega
      have hMj : (R'.take (k + 1 + i) ++ R.drop (k + 1 + i))[k + 1 + i]? = some rj := by
        rw [List.getElem?_append_right (by rw [List.length_take]; omega), List.length_take, List.getElem?_drop, ← hj]
        exact congrArg (fun i => R[i]?) (by omega)
      have hMk : (R'.take (k + 1 + i) ++ R.drop (k + 1 + i))[k]? = some rk := by
        rw [List.getElem?_append_left (by rw [List.length_take]; omega), List.getElem?_take, if_pos (by omega), hk']
      obtain ⟨x8', x9', er⟩ := row_eq (T := T) (k := k) (j := k + 1 + i) (x2 := x2) (x3 := some (.int 1)) (x6 := some (.lst (.int k :: rest))) (x8 := x8) (x9 := x9) hn hMl hjn hMj hMk lj lk hp hc hro oj ok ob hb0 hbl
      have hset : (R'.take (k + 1 + i) ++ R.drop (k + 1 + i)).set (k + 1 + i) r' = R'.take (k + 1 + (0 + i + 1)) ++ R.drop (k + 1 + (0 + i + 1)) := by
        apply List.ext_getElem?
        intro l
        by_cases hl : l = k + 1 + i
        · subst hl
          rw [List.getElem?_set_self (by omega), List.getElem?_append_left (by rw [List.length_take]; omega), List.getElem?_take, if_pos (by omega), hj']
        · rw [List.getElem?_set_ne (by omega)]
          by_cases hl2 : l < k + 1 + i
          · rw [List.getElem?_append_left (by rw [List.length_take]; omega), List.getElem?_append_left (by rw [List.length_take]; omega), List.getElem?_take, List.getElem?_take, if_pos (by omega), if_pos (by omega)]
          · rw [List.getElem?_append_right (by rw [List.length_take]; omega), List.getElem?_append_right (by rw [List.length_take]; omega), List.length_take, List.length_take, List.getElem?_drop, List.getElem?_drop]
            exact congrArg (fun i => R[i]?) (by omega)
      rw [hset] at er
      have e0 : (k : Int) + 1 + (i : Int) = ((k + 1 + i : Nat) : Int) := by omega
      rw [e0]
      exact ⟨_, _, rfl, .inl er, _, _, _, rfl⟩)
  have hfin : R'.take (k + 1 + (0 + (n - (k + 1)))) ++ R.drop (k + 1 + (0 + (n - (k + 1)))) = R' := by
    rw [show k + 1 + (0 + (n - (k + 1))) = n from by omega, List.take_of_length_le (by omega), List.drop_of_length_le (by omega), List.append_nil]
  rw [rngP_length, hfin] at er
  subst er
  refine ⟨some (.lst (.int k :: rest)), x7', x8', x9', ?_⟩
  have hit : iR2 (fOp gAdd (fVar 5) (fC (.int 1))) (fList gLenAll (a1 (fVar 1))) [some T, some (encM R), x2, some (.int 1), some (encP b), some (.int k), some (.lst (.int k :: rest)), x7, x8, x9] = some (rngP ((k : Int) + 1) (n - (k + 1)), [some T, some (encM R), x2, some (.int 1), some (encP b), some (.int k), some (.lst (.int k :: rest)), x7, x8, x9]) := by
    have := iR2_of (f := fOp gAdd (fVar 5) (fC (.int 1))) (g := fList gLenAll (a1 (fVar 1))) (ρ := [some T, some (encM R), x2, some (.int 1), some (encP b), some (.int k), some (.lst (.int k :: rest)), x7, x8, x9]) (ρ' := [some T, some (encM R), x2, some (.int 1), some (encP b), some (.int k), some (.lst (.int k :: rest)), x7, x8, x9]) (ρ'' := [some T, some (encM R), x2, some (.int 1), some (encP b), some (.int k), some (.lst (.int k :: rest)), x7, x8, x9]) (i := (k : Int) + 1) (j := (n : Int)) (by simp [gAdd_int]) (by simp [len_encM, hR1]) (by
      have := i62_nat (n := k + 1) (by omega)
      rwa [show ((k + 1 : Nat) : Int) = (k : Int) + 1 from by omega] at this) (i62_nat (by omega))
    rw [this, show ((n : Int) - ((k : Int) + 1)).toNat = n - (k + 1) from by omega]
  have hlen2 : gLenAll [.lst (.int k :: rest)] = some (.int ((rest.length : Int) + 1)) := by rw [len_lst]; simp
  have hix0 : gIxAll (.lst (.int k :: rest)) (.int 0) = some (.int k) := gIx_at (i := 0) rfl
  have hne : ¬ ((rest.length : Int) + 1 = 0) := by omega
  have h1 : fSet 6 swapE [some T, some (encM R), x2, some (.int 1), some (encP b), some (.int k), x6, x7, x8, x9] = some (.nx, [some T, some (encM R), x2, some (.int 1), some (encP b), some (.int k), some (.lst (.int k :: rest)), x7, x8, x9]) := by rw [ap_set, hsw]; rfl
  have h2 : fIf (fTest (fOp gEqD (fList gLenAll (a1 (fVar 6))) (fC (.int 0)))) (fSeq (fRet (fList gTuple aNil)) fNx) fNx [some T, some (encM R), x2, some (.int 1), some (encP b), some (.int k), some (.lst (.int k :: rest)), x7, x8, x9] = some (.nx, [some T, some (encM R), x2, some (.int 1), some (encP b), some (.int k), some (.lst (.int k :: rest)), x7, x8, x9]) := by
    rw [if_ff (ρ' := [some T, some (encM R), x2, some (.int 1), some (encP b), some (.int k), some (.lst (.int k :: rest)), x7, x8, x9]) (by simp [hlen2, gEqD_int, hne])]; rfl
  have h3 : fIf (fTest (fOp gNeD (fOp gIxAll (fVar 6) (fC (.int 0))) (fVar 5))) swapB fNx [some T, some (encM R), x2, some (.int 1), some (encP b), some (.int k), some (.lst (.int k :: rest)), x7, x8, x9] = some (.nx, [some T, some (encM R), x2, some (.int 1), some (encP b), some (.int k), some (.lst (.int k :: rest)), x7, x8, x9]) := by
    rw [if_ff (ρ' := [some T, some (encM R), x2, some (.int 1), some (encP b), some (.int k), some (.lst (.int k :: rest)), x7, x8, x9]) (by simp [hix0, gNeD_int])]; rfl
  have h4 := for_of hit e
  have h5 : fSet 4 (fOp gIxAll (fOpO gIxAll 1 (fVar 5)) (fVar 5)) [some T, some (encM R'), x2, some (.int 1), some (encP b), some (.int k), some (.lst (.int k :: rest)), x7', x8', x9'] = some (.nx, [some T, some (encM R'), x2, some (.int 1), some (encP p), some (.int k), some (.lst (.int k :: rest)), x7', x8', x9']) := by simp [ix_mat hk', ix_row hp]
  unfold outB
  rw [seq_nx h1, seq_nx h2, seq_nx h3, seq_nx h4, seq_nx h5]
  rfl
theorem det_loop {T : PV} {n : Nat} {d : Poly} (hn : n ≤ 1000) : ∀ (m k : Nat) (b : Poly) (R : Mat) (x2 x5 x6 x7 x8 x9 : Option PV), k + m = n → OkM n R → okP b = true → b ≠ [] → detO m k b R = some d →
    ∃ R' x5' x6' x7' x8' x9', loopF (tName 5) outB (rngP (k : Int) m) [some T, some (encM R), x2, some (.int 1), some (encP b), x5, x6, x7, x8, x9] = some (.nx, [some T, some (encM R'), x2, some (.int 1), some (encP d), x5', x6', x7', x8', x9']) ∧ okP d = true := by
  intro m
  induction m with
  | zero =>
    intro k b R x2 x5 x6 x7 x8 x9 hk hR ob hb0 h
    cases h
    exact ⟨R, x5, x6, x7, x8, x9, rfl, ob⟩
  | succ m ih =>
    intro k b R x2 x5 x6 x7 x8 x9 hk hR ob hb0 h
    obtain ⟨rk, hrk⟩ := get_of_lt hR.1 (show k < n by omega)
    obtain ⟨p, hp⟩ := get_of_lt (hR.2 rk (List.mem_of_getElem? hrk)).1 (show k < n by omega)
    unfold detO at h
    rw [hrk] at h
    simp only [hp, Option.getD_some] at h
    split at h
    · cases h
    · rename_i hc
      simp only [Bool.or_eq_true, Bool.not_eq_true', not_or, Bool.not_eq_true, Bool.not_eq_false] at hc
      obtain ⟨R', h1, h2⟩ := Option.bind_eq_some_iff.mp h
      have hp0 : p ≠ [] := by
        intro hz
        rw [hz] at hc
        exact absurd hc.1 (by simp)
      have op := (hR.2 rk (List.mem_of_getElem? hrk)).2 p (List.mem_of_getElem? hp)
      obtain ⟨hR', x6', x7', x8', x9', eo⟩ := out_eq (T := T) (x2 := x2) (x5 := x5) (x6 := x6) (x7 := x7) (x8 := x8) (x9 := x9) hn hR (by omega) hrk hp hp0 h1 ob hb0 hc.2
      obtain ⟨R'', y5, y6, y7, y8, y9, e2, od⟩ := ih (k + 1) p R' x2 (some (.int k)) x6' x7' x8' x9' (by omega) hR' op hp0 h2
      refine ⟨R'', y5, y6, y7, y8, y9, ?_, od⟩
      have hr : rngP (k : Int) (m + 1) = .int k :: rngP ((k + 1 : Nat) : Int) m := by
        unfold rngP
        rw [List.range_succ_eq_map, List.map_cons, List.map_map]
        have h1 : (PV.int ((k : Int) + ((0 : Nat) : Int))) = .int k := by rw [show (k : Int) + ((0 : Nat) : Int) = (k : Int) from by omega]
        rw [h1]
        refine congrArg (fun l => PV.int (k : Int) :: l) (List.map_congr_left fun i _ => ?_)
        show PV.int ((k : Int) + ((i + 1 : Nat) : Int)) = PV.int (((k + 1 : Nat) : Int) + (i : Int))
        rw [show (k : Int) + ((i + 1 : Nat) : Int) = ((k + 1 : Nat) : Int) + (i : Int) from by omega]
      have h1 : tName 5 (.int (k : Int)) [some T, some (encM R), x2, some (.int 1), some (encP b), x5, x6, x7, x8, x9] = some [some T, some (encM R), x2, some (.int 1), some (encP b), some (.int k), x6, x7, x8, x9] := rfl
      rw [hr, loop_cons h1 eo]
      exact e2
theorem F_table_eq {R : Mat} {n : Nat} {d : Poly} (hn : n ≤ 1000) (hR : OkM n R) (h : detO n 0 [(0, 1)] R = some d) : F_table_determinant [encM R] = some (encP d) := by
  obtain ⟨R', x5, x6, x7, x8, x9, e, od⟩ := det_loop (T := encM R) hn n 0 [(0, 1)] R none none none none none none (by omega) hR (by decide +kernel) (by simp) h
  have hlc := lc_map (vs := [2]) (t := tName 2) (ft := fYes) (fe := fList gListAll (a1 (fVar 2))) (ρ := [some (encM R), none, none, none, none, none, none, none, none, none]) encR (fun _ => true) encR R [] (fun r hr => by
    refine ⟨[some (encM R), none, some (encR r), none, none, none, none, none, none, none], rfl, rfl, fun _ => ?_, rfl⟩
    have : gListAll [encR r] = some (encR r) := rfl
    simp [this]) (by simp [hR.1]; omega)
  have hft : (R.filter fun _ => true) = R := List.filter_eq_self.mpr (by simp)
  rw [hft, List.nil_append] at hlc
  have e1 := lc_of (vs := [2]) (its := iS (fVar 0)) (l := R.map encR) rfl hlc
  have hM : (PV.lst (R.map encR)) = encM R := rfl
  rw [hM] at e1
  have hit : iR1 (fList gLenAll (a1 (fVar 1))) [some (encM R), some (encM R), none, some (.int 1), some c_ONE, none, none, none, none, none] = some (rngP 0 n, [some (encM R), some (encM R), none, some (.int 1), some c_ONE, none, none, none, none, none]) :=
    iR1_of (j := (n : Int)) (by simp [len_encM, hR.1]) (i62_nat (by omega))
  have e' : loopF (tName 5) outB (rngP 0 n) [some (encM R), some (encM R), none, some (.int 1), some c_ONE, none, none, none, none, none] = _ := e
  obtain ⟨_, _, d3, d4⟩ := okP_iff od
  have hs := F_scaled_eq (p := d) (n := 1) (by omega) (.inr ⟨wide_of (Nat.lt_trans d3 (by decide +kernel)), by decide +kernel⟩)
  have hs1 : sclT 1 d = d := by simp [sclT]
  rw [if_neg (by decide), hs1, ← e_scaled] at hs
  refine run_rt (ρ' := [some (encM R), some (encM R'), none, some (.int 1), some (encP d), x5, x6, x7, x8, x9]) ?_
  show b_table_determinant [some (encM R), none, none, none, none, none, none, none, none, none] = _
  rw [b_table_eq]
  have h1 : fSet 1 (fLC [2] (iS (fVar 0)) (tName 2) (fYes) (fList gListAll (a1 (fVar 2)))) [some (encM R), none, none, none, none, none, none, none, none, none] = some (.nx, [some (encM R), some (encM R), none, none, none, none, none, none, none, none]) := by rw [ap_set, e1]; rfl
  have h2 : fPar 3 4 (fC (.int 1)) (fC c_ONE) [some (encM R), some (encM R), none, none, none, none, none, none, none, none] = some (.nx, [some (encM R), some (encM R), none, some (.int 1), some c_ONE, none, none, none, none, none]) := rfl
  have h3 := for_of hit e'
  have h4 : fRet (fList F_scaled (aCons (fVar 4) (aCons (fVar 3) aNil))) [some (encM R), some (encM R'), none, some (.int 1), some (encP d), x5, x6, x7, x8, x9] = some (.rt (encP d), [some (encM R), some (encM R'), none, some (.int 1), some (encP d), x5, x6, x7, x8, x9]) := by simp [hs]
  rw [seq_nx h1, seq_nx h2, seq_nx h3, seq_rt h4]
end
end k75
end PT

set_option Elab.async false
set_option linter.all false
set_option autoImplicit false
set_option maxRecDepth 100000
set_option maxHeartbeats 4000000
/-! k75_m3: the facts that are counted out. -/
namespace PT
namespace k75
open Lau
def rowsL : Nat → List (List Int)
  | 1 => [[1, 0]]
  | 2 => [[1, 0, 3, 2], [3, 2, 1, 0]]
  | 3 => [[1, 0, 3, 2, 5, 4], [1, 0, 5, 4, 3, 2], [3, 2, 1, 0, 5, 4], [5, 2, 1, 4, 3, 0], [5, 4, 3, 2, 1, 0]]
  | 4 => [[1, 0, 3, 2, 5, 4, 7, 6], [1, 0, 3, 2, 7, 6, 5, 4], [1, 0, 5, 4, 3, 2, 7, 6], [1, 0, 7, 4, 3, 6, 5, 2], [1, 0, 7, 6, 5, 4, 3, 2], [3, 2, 1, 0, 5, 4, 7, 6], [3, 2, 1, 0, 7, 6, 5, 4], [5, 2, 1, 4, 3, 0, 7, 6], [5, 4, 3, 2, 1, 0, 7, 6], [7, 2, 1, 4, 3, 6, 5, 0], [7, 2, 1, 6, 5, 4, 3, 0], [7, 4, 3, 2, 1, 6, 5, 0], [7, 6, 3, 2, 5, 4, 1, 0], [7, 6, 5, 4, 3, 2, 1, 0]]
  | _ => []
def gramL : Nat → Mat
  | 1 => [[[(1, 1)]]]
  | 2 => [[[(2, 1)], [(1, 1)]], [[(1, 1)], [(2, 1)]]]
  | 3 => [[[(3, 1)], [(2, 1)], [(2, 1)], [(1, 1)], [(2, 1)]], [[(2, 1)], [(3, 1)], [(1, 1)], [(2, 1)], [(1, 1)]], [[(2, 1)], [(1, 1)], [(3, 1)], [(2, 1)], [(1, 1)]], [[(1, 1)], [(2, 1)], [(2, 1)], [(3, 1)], [(2, 1)]], [[(2, 1)], [(1, 1)], [(1, 1)], [(2, 1)], [(3, 1)]]]
  | 4 => [[[(4, 1)], [(3, 1)], [(3, 1)], [(2, 1)], [(3, 1)], [(3, 1)], [(2, 1)], [(2, 1)], [(3, 1)], [(1, 1)], [(2, 1)], [(2, 1)], [(3, 1)], [(2, 1)]], [[(3, 1)], [(4, 1)], [(2, 1)], [(3, 1)], [(2, 1)], [(2, 1)], [(3, 1)], [(1, 1)], [(2, 1)], [(2, 1)], [(1, 1)], [(3, 1)], [(2, 1)], [(1, 1)]], [[(3, 1)], [(2, 1)], [(4, 1)], [(3, 1)], [(2, 1)], [(2, 1)], [(1, 1)], [(3, 1)], [(2, 1)], [(2, 1)], [(1, 1)], [(1, 1)], [(2, 1)], [(3, 1)]], [[(2, 1)], [(3, 1)], [(3, 1)], [(4, 1)], [(3, 1)], [(1, 1)], [(2, 1)], [(2, 1)], [(1, 1)], [(3, 1)], [(2, 1)], [(2, 1)], [(1, 1)], [(2, 1)]], [[(3, 1)], [(2, 1)], [(2, 1)], [(3, 1)], [(4, 1)], [(2, 1)], [(1, 1)], [(1, 1)], [(2, 1)], [(2, 1)], [(3, 1)], [(1, 1)], [(2, 1)], [(1, 1)]], [[(3, 1)], [(2, 1)], [(2, 1)], [(1, 1)], [(2, 1)], [(4, 1)], [(3, 1)], [(3, 1)], [(2, 1)], [(2, 1)], [(3, 1)], [(1, 1)], [(2, 1)], [(1, 1)]], [[(2, 1)], [(3, 1)], [(1, 1)], [(2, 1)], [(1, 1)], [(3, 1)], [(4, 1)], [(2, 1)], [(1, 1)], [(3, 1)], [(2, 1)], [(2, 1)], [(1, 1)], [(2, 1)]], [[(2, 1)], [(1, 1)], [(3, 1)], [(2, 1)], [(1, 1)], [(3, 1)], [(2, 1)], [(4, 1)], [(3, 1)], [(3, 1)], [(2, 1)], [(2, 1)], [(1, 1)], [(2, 1)]], [[(3, 1)], [(2, 1)], [(2, 1)], [(1, 1)], [(2, 1)], [(2, 1)], [(1, 1)], [(3, 1)], [(4, 1)], [(2, 1)], [(1, 1)], [(3, 1)], [(2, 1)], [(1, 1)]], [[(1, 1)], [(2, 1)], [(2, 1)], [(3, 1)], [(2, 1)], [(2, 1)], [(3, 1)], [(3, 1)], [(2, 1)], [(4, 1)], [(3, 1)], [(3, 1)], [(2, 1)], [(3, 1)]], [[(2, 1)], [(1, 1)], [(1, 1)], [(2, 1)], [(3, 1)], [(3, 1)], [(2, 1)], [(2, 1)], [(1, 1)], [(3, 1)], [(4, 1)], [(2, 1)], [(3, 1)], [(2, 1)]], [[(2, 1)], [(3, 1)], [(1, 1)], [(2, 1)], [(1, 1)], [(1, 1)], [(2, 1)], [(2, 1)], [(3, 1)], [(3, 1)], [(2, 1)], [(4, 1)], [(3, 1)], [(2, 1)]], [[(3, 1)], [(2, 1)], [(2, 1)], [(1, 1)], [(2, 1)], [(2, 1)], [(1, 1)], [(1, 1)], [(2, 1)], [(2, 1)], [(3, 1)], [(3, 1)], [(4, 1)], [(3, 1)]], [[(2, 1)], [(1, 1)], [(3, 1)], [(2, 1)], [(1, 1)], [(1, 1)], [(2, 1)], [(2, 1)], [(1, 1)], [(3, 1)], [(2, 1)], [(2, 1)], [(3, 1)], [(4, 1)]]]
  | _ => []
def toldL : Nat → Poly
  | 1 => [(1, 1)]
  | 2 => [(2, -1), (4, 1)]
  | 3 => [(5, -2), (7, 9), (9, -16), (11, 14), (13, -6), (15, 1)]
  | 4 => [(14, -64), (16, 1216), (18, -10864), (20, 60768), (22, -238940), (24, 702716), (26, -1605337), (28, 2919620), (30, -4297190), (32, 5174065), (34, -5130203), (36, 4202042), (38, -2843308), (40, 1584491), (42, -722495), (44, 266704), (46, -78422), (48, 17927), (50, -3069), (52, 370), (54, -28), (56, 1)]
  | _ => []
def chebL : Nat → Poly
  | 0 => [(0, 1)]
  | 1 => [(1, 1)]
  | 2 => [(0, -1), (2, 1)]
  | 3 => [(1, -2), (3, 1)]
  | 4 => [(0, 1), (2, -3), (4, 1)]
  | 5 => [(1, 3), (3, -4), (5, 1)]
  | 6 => [(0, -1), (2, 6), (4, -5), (6, 1)]
  | 7 => [(1, -4), (3, 10), (5, -6), (7, 1)]
  | 8 => [(0, 1), (2, -10), (4, 15), (6, -7), (8, 1)]
  | 9 => [(1, 5), (3, -20), (5, 21), (7, -8), (9, 1)]
  | 10 => [(0, -1), (2, 15), (4, -35), (6, 28), (8, -9), (10, 1)]
  | 11 => [(1, -6), (3, 35), (5, -56), (7, 36), (9, -10), (11, 1)]
  | 12 => [(0, 1), (2, -21), (4, 70), (6, -84), (8, 45), (10, -11), (12, 1)]
  | 13 => [(1, 7), (3, -56), (5, 126), (7, -120), (9, 55), (11, -12), (13, 1)]
  | _ => []
def pwL : Nat → Nat → Int
  | 1, 1 => 1
  | 2, 1 => 2
  | 2, 2 => 1
  | 3, 1 => 4
  | 3, 2 => 4
  | 3, 3 => 1
  | 4, 1 => 8
  | 4, 2 => 13
  | 4, 3 => 6
  | 4, 4 => 1
  | _, _ => 0
def powL : Nat → Nat → Poly
  | 1, 1 => [(1, 1)]
  | 2, 1 => [(2, 1)]
  | 2, 2 => [(0, -1), (2, 1)]
  | 3, 1 => [(4, 1)]
  | 3, 2 => [(0, 1), (2, -4), (4, 6), (6, -4), (8, 1)]
  | 3, 3 => [(1, -2), (3, 1)]
  | 4, 1 => [(8, 1)]
  | 4, 2 => [(0, -1), (2, 13), (4, -78), (6, 286), (8, -715), (10, 1287), (12, -1716), (14, 1716), (16, -1287), (18, 715), (20, -286), (22, 78), (24, -13), (26, 1)]
  | 4, 3 => [(6, 64), (8, -192), (10, 240), (12, -160), (14, 60), (16, -12), (18, 1)]
  | 4, 4 => [(0, 1), (2, -3), (4, 1)]
  | _, _ => []
def prodL : Nat → Nat → Poly
  | 1, 0 => [(0, 1)]
  | 1, 1 => [(1, 1)]
  | 2, 0 => [(0, 1)]
  | 2, 1 => [(2, 1)]
  | 2, 2 => [(2, -1), (4, 1)]
  | 3, 0 => [(0, 1)]
  | 3, 1 => [(4, 1)]
  | 3, 2 => [(4, 1), (6, -4), (8, 6), (10, -4), (12, 1)]
  | 3, 3 => [(5, -2), (7, 9), (9, -16), (11, 14), (13, -6), (15, 1)]
  | 4, 0 => [(0, 1)]
  | 4, 1 => [(8, 1)]
  | 4, 2 => [(8, -1), (10, 13), (12, -78), (14, 286), (16, -715), (18, 1287), (20, -1716), (22, 1716), (24, -1287), (26, 715), (28, -286), (30, 78), (32, -13), (34, 1)]
  | 4, 3 => [(14, -64), (16, 1024), (18, -7728), (20, 36560), (22, -121532), (24, 301560), (26, -579125), (28, 880685), (30, -1076010), (32, 1065350), (34, -858143), (36, 562263), (38, -298376), (40, 127100), (42, -42819), (44, 11147), (46, -2162), (48, 294), (50, -25), (52, 1)]
  | 4, 4 => [(14, -64), (16, 1216), (18, -10864), (20, 60768), (22, -238940), (24, 702716), (26, -1605337), (28, 2919620), (30, -4297190), (32, 5174065), (34, -5130203), (36, 4202042), (38, -2843308), (40, 1584491), (42, -722495), (44, 266704), (46, -78422), (48, 17927), (50, -3069), (52, 370), (54, -28), (56, 1)]
  | _, _ => []
def rowP (r : List Int) : PV := .tup (r.map PV.int)
def encH (m : Nat) : PV := .lst ((rowsL m).map rowP)
def circ (r s : List Int) : Int := match F_circles_of [rowP r, rowP s] with
  | some (.int c) => c
  | _ => 0
def gramOf (m : Nat) : Mat := (rowsL m).map fun r => (rowsL m).map fun s => [(circ r s, 1)]
def M4 (P : Nat → Prop) : Prop := P 1 ∧ P 2 ∧ P 3 ∧ P 4
theorem M4.all {P : Nat → Prop} (h : M4 P) {m : Nat} (h1 : 1 ≤ m) (h2 : m ≤ 4) : P m := by
  obtain ⟨a, b, c, d⟩ := h
  match m, h1, h2 with
  | 1, _, _ => exact a
  | 2, _, _ => exact b
  | 3, _, _ => exact c
  | 4, _, _ => exact d
def okMB (n : Nat) (R : Mat) : Bool := decide (R.length = n) && R.all fun r => decide (r.length = n) && r.all okP
theorem okMB_iff {n : Nat} {R : Mat} (h : okMB n R = true) : OkM n R := by
  unfold okMB at h
  simp only [Bool.and_eq_true, decide_eq_true_eq, List.all_eq_true] at h
  exact ⟨h.1, fun r hr => ⟨(h.2 r hr).1, (h.2 r hr).2⟩⟩
def negT (p : Poly) : Poly := p.map fun t => (t.1, 0 - t.2)
def stepC (k : Nat) : Bool := match F__law_times [encP [(1, 1)], encP (chebL (k + 1))] with
  | some v => isV (F__law_plus [v, encP (negT (chebL k))]) (encP (chebL (k + 2)))
  | none => false
def stepH (m k : Nat) : Bool := isV (F__law_power [encP (chebL k), .int (pwL m k)]) (encP (powL m k)) && isV (F__law_times [encP (prodL m (k - 1)), encP (powL m k)]) (encP (prodL m k))
def chC (a b : Int) : Int := match F__law_choices [.int a, .int b] with
  | some (.int c) => c
  | _ => 0
def stepP (m k : Nat) : Bool := isV (F__law_choices [.int (2 * m), .int (m - k)]) (.int (chC (2 * m) (m - k))) && isV (F__law_choices [.int (2 * m), .int (m - k - 1)]) (.int (chC (2 * m) (m - k - 1))) && isV (F__law_choices [.int (2 * m), .int (m - k - 2)]) (.int (chC (2 * m) (m - k - 2))) &&
  decide (chC (2 * m) (m - k) - 2 * chC (2 * m) (m - k - 1) + chC (2 * m) (m - k - 2) = pwL m k) && wideI (chC (2 * m) (m - k - 1))
/-- before, now after k turns -/
def recV (x : Int) : Nat → Int × Int
  | 0 => (0, 1)
  | k + 1 => ((recV x k).2, x * (recV x k).2 - (recV x k).1)

end k75
end PT

set_option Elab.async false
set_option linter.all false
set_option autoImplicit false
set_option maxRecDepth 100000
set_option maxHeartbeats 4000000
/-! k75_m3e: Pascal's rows. -/
namespace PT
namespace k75
open Lau
def pas : Nat → List Int
  | 0 => [1]
  | n + 1 => 1 :: ((List.range ((pas n).length - 1)).map fun k => (pas n)[k]?.getD 0 + (pas n)[k + 1]?.getD 0) ++ [1]
theorem pas_len : ∀ n, (pas n).length = n + 1
  | 0 => rfl
  | n + 1 => by simp [pas, pas_len n]
def rowE : EF := fOp gAdd (fOp gAdd (fList gListD (aCons (fC (.int 1)) aNil)) (fLC [4] (iR1 (fOp gSubI (fList gLenAll (a1 (fVar 2))) (fC (.int 1)))) (tName 4) (fYes) (fOp gAdd (fOp gIxAll (fVar 2) (fVar 4)) (fOp gIxAll (fVar 2) (fOp gAdd (fVar 4) (fC (.int 1))))))) (fList gListD (aCons (fC (.int 1)) aNil))
theorem b_choices_eq : b__law_choices = fSeq (fIf (fOrT (fTest (fOp gLt (fVar 1) (fC (.int 0)))) (fTest (fOp gGt (fVar 1) (fVar 0)))) (fSeq (fRet (fC (.int 0))) fNx) fNx) (fSeq (fSet 2 (fList gListD (aCons (fC (.int 1)) aNil))) (fSeq (fFor (iR1 (fVar 0)) (tName 3) (fSeq (fSet 2 rowE) fNx)) (fSeq (fRet (fOp gIxAll (fVar 2) (fVar 1))) fNx))) := rfl
def pasP (n : Nat) : PV := .lst ((pas n).map PV.int)
theorem gAdd_lst {a b : List PV} (h : a.length + b.length ≤ 1000000) : gAdd (.lst a) (.lst b) = some (.lst (a ++ b)) := by
  unfold gAdd orG gAddT gAddS gAddL
  simp [gI, h]
section
@[local simp] def zsk75m3e1_ap_seq := @ap_seq
@[local simp] def zsk75m3e1_ap_nx := @ap_nx
@[local simp] def zsk75m3e1_ap_ret := @ap_ret
@[local simp] def zsk75m3e1_ap_drop := @ap_drop
@[local simp] def zsk75m3e1_ap_set := @ap_set
@[local simp] def zsk75m3e1_ap_list := @ap_list
@[local simp] def zsk75m3e1_ap_aNil := @ap_aNil
@[local simp] def zsk75m3e1_ap_aCons := @ap_aCons
@[local simp] def zsk75m3e1_ap_a1 := @ap_a1
@[local simp] def zsk75m3e1_ap_var := @ap_var
@[local simp] def zsk75m3e1_ap_look := @ap_look
@[local simp] def zsk75m3e1_ap_c := @ap_c
@[local simp] def zsk75m3e1_ap_op := @ap_op
@[local simp] def zsk75m3e1_ap_opO := @ap_opO
@[local simp] def zsk75m3e1_ap_un := @ap_un
@[local simp] def zsk75m3e1_ap_test := @ap_test
@[local simp] def zsk75m3e1_ap_if := @ap_if
@[local simp] def zsk75m3e1_ap_notT := @ap_notT
@[local simp] def zsk75m3e1_ap_andT := @ap_andT
@[local simp] def zsk75m3e1_ap_orT := @ap_orT
@[local simp] def zsk75m3e1_ap_tru := @ap_tru
@[local simp] def zsk75m3e1_ap_for := @ap_for
@[local simp] def zsk75m3e1_ap_iS := @ap_iS
@[local simp] def zsk75m3e1_ap_name := @ap_name
@[local simp] def zsk75m3e1_ap_yes := @ap_yes
theorem gListD1 (v : PV) : gListD [v] = some (.lst [v]) := rfl
theorem rowE_eq {n : Nat} (hn : n ≤ 1000) (t s u k : Option PV) : rowE [t, s, some (pasP n), u, k] = some (pasP (n + 1), [t, s, some (pasP n), u, k]) := by
  have hl := pas_len n
  have hlc := lc_map (vs := [4]) (t := tName 4) (ft := fYes) (fe := fOp gAdd (fOp gIxAll (fVar 2) (fVar 4)) (fOp gIxAll (fVar 2) (fOp gAdd (fVar 4) (fC (.int 1))))) (ρ := [t, s, some (pasP n), u, k]) (fun i : Nat => PV.int (0 + (i : Int))) (fun _ => true) (fun i => PV.int ((pas n)[i]?.getD 0 + (pas n)[i + 1]?.getD 0)) (List.range n) [] (fun i hi => by
    have hi' : i < n := List.mem_range.mp hi
    obtain ⟨x, hx⟩ : ∃ x, (pas n)[i]? = some x := ⟨(pas n)[i], List.getElem?_eq_getElem (by omega)⟩
    obtain ⟨y, hy⟩ : ∃ y, (pas n)[i + 1]? = some y := ⟨(pas n)[i + 1], List.getElem?_eq_getElem (by omega)⟩
    have h1 : gIxAll (pasP n) (.int (i : Int)) = some (.int x) := gIx_at (by simp [hx])
    have h2 : gIxAll (pasP n) (.int ((i : Int) + 1)) = some (.int y) := by
      have : gIxAll (pasP n) (.int ((i + 1 : Nat) : Int)) = some (.int y) := gIx_at (by simp [hy])
      rwa [show ((i + 1 : Nat) : Int) = (i : Int) + 1 from by omega] at this
    have e0 : (0 : Int) + (i : Int) = (i : Int) := by omega
    refine ⟨[t, s, some (pasP n), u, some (.int (0 + (i : Int)))], rfl, rfl, fun _ => ?_, by first | rfl | (cases k <;> rfl)⟩
    rw [e0, hx, hy]
    simp [h1, h2, gAdd_int]) (by simp; omega)
  have hf : ((List.range n).filter fun _ => true) = List.range n := List.filter_eq_self.mpr (by simp)
  rw [hf, List.nil_append] at hlc
  have hlen : gLenAll [pasP n] = some (.int ((n : Int) + 1)) := by unfold pasP; rw [len_lst]; simp [hl]
  have hs : (n : Int) + 1 - 1 = (n : Int) := by omega
  have hit : iR1 (fOp gSubI (fList gLenAll (a1 (fVar 2))) (fC (.int 1))) [t, s, some (pasP n), u, k] = some (rngP 0 n, [t, s, some (pasP n), u, k]) :=
    iR1_of (j := (n : Int)) (by simp [hlen, gSub_int, hs]) (i62_nat (by omega))
  have e1 := lc_of (vs := [4]) hit hlc
  have a1' := gAdd_lst (a := [.int 1]) (b := (List.range n).map fun i => PV.int ((pas n)[i]?.getD 0 + (pas n)[i + 1]?.getD 0)) (by simp; omega)
  have a2' := gAdd_lst (a := [.int 1] ++ (List.range n).map fun i => PV.int ((pas n)[i]?.getD 0 + (pas n)[i + 1]?.getD 0)) (b := [.int 1]) (by simp; omega)
  unfold rowE
  have l1 : fList gListD (aCons (fC (.int 1)) aNil) [t, s, some (pasP n), u, k] = some (.lst [.int 1], [t, s, some (pasP n), u, k]) := rfl
  rw [ap_op, ap_op, l1]
  simp only [Option.bind_some, e1, a1', Option.map_some, l1, a2']
  simp [pasP, pas, hl, Function.comp_def]
theorem law_choices_eq {n : Nat} (hn : n ≤ 1000) (s : Int) : F__law_choices [.int n, .int s] = some (.int (if s < 0 ∨ (n : Int) < s then 0 else (pas n)[s.toNat]?.getD 0)) := by
  by_cases hc : s < 0 ∨ (n : Int) < s
  · rw [if_pos hc]
    refine run_rt (ρ' := [some (.int n), some (.int s), none, none, none]) ?_
    show b__law_choices [some (.int n), some (.int s), none, none, none] = _
    have ht : fOrT (fTest (fOp gLt (fVar 1) (fC (.int 0)))) (fTest (fOp gGt (fVar 1) (fVar 0))) [some (.int n), some (.int s), none, none, none] = some (true, [some (.int n), some (.int s), none, none, none]) := by
      by_cases h1 : s < 0
      · simp [gLt_int, h1]
      · have h2 : (n : Int) < s := hc.resolve_left h1
        simp [gLt_int, gGt_int, h1, h2]
    rw [b_choices_eq]
    refine seq_rt ?_
    rw [if_tt ht]; rfl
  · rw [if_neg hc]
    obtain ⟨ρ', e, u, er⟩ := loop_at (t := tName 3) (body := fSeq (fSet 2 rowE) fNx) (fun i ρ => ∃ u, ρ = [some (.int n), some (.int s), some (pasP i), u, none]) (rngP 0 n) 0 [some (.int n), some (.int s), some (pasP 0), none, none] ⟨none, rfl⟩ (fun i v ρ hv ⟨u, er⟩ => by
      obtain ⟨hi, rfl⟩ := rngP_get hv
      rw [Nat.zero_add] at er
      subst er
      have h1 : fSet 2 rowE [some (.int n), some (.int s), some (pasP i), some (.int (0 + (i : Int))), none] = some (.nx, [some (.int n), some (.int s), some (pasP (i + 1)), some (.int (0 + (i : Int))), none]) := by
        rw [ap_set, rowE_eq (by omega)]; rfl
      exact ⟨_, _, rfl, .inl (seq_nx h1), _, by rw [Nat.zero_add]⟩)
    rw [rngP_length, Nat.zero_add] at er
    subst er
    have h0 : ¬ s < 0 := fun z => hc (.inl z)
    have h1 : ¬ (n : Int) < s := fun z => hc (.inr z)
    obtain ⟨j, rfl⟩ := Int.eq_ofNat_of_zero_le (show 0 ≤ s by omega)
    obtain ⟨x, hx⟩ : ∃ x, (pas n)[j]? = some x := ⟨(pas n)[j]'(by rw [pas_len]; omega), List.getElem?_eq_getElem _⟩
    have hix : gIxAll (pasP n) (.int (j : Int)) = some (.int x) := gIx_at (by simp [hx])
    have ht : fOrT (fTest (fOp gLt (fVar 1) (fC (.int 0)))) (fTest (fOp gGt (fVar 1) (fVar 0))) [some (.int n), some (.int j), none, none, none] = some (false, [some (.int n), some (.int j), none, none, none]) := by
      simp only [ap_orT, ap_test, ap_op, ap_var, ap_look, List.getElem?_cons_zero, List.getElem?_cons_succ, Option.map_some, Option.bind_some, ap_c, gLt_int, gGt_int, h0, h1, decide_false, Bool.false_eq_true, if_false]
    have g1 : fIf (fOrT (fTest (fOp gLt (fVar 1) (fC (.int 0)))) (fTest (fOp gGt (fVar 1) (fVar 0)))) (fSeq (fRet (fC (.int 0))) fNx) fNx [some (.int n), some (.int j), none, none, none] = some (.nx, [some (.int n), some (.int j), none, none, none]) := by rw [if_ff ht]; rfl
    have g2 : fSet 2 (fList gListD (aCons (fC (.int 1)) aNil)) [some (.int n), some (.int j), none, none, none] = some (.nx, [some (.int n), some (.int j), some (pasP 0), none, none]) := rfl
    have hit : iR1 (fVar 0) [some (.int n), some (.int j), some (pasP 0), none, none] = some (rngP 0 n, [some (.int n), some (.int j), some (pasP 0), none, none]) := iR1_of (j := (n : Int)) rfl (i62_nat (by omega))
    have g3 := for_of hit e
    have g4 : fRet (fOp gIxAll (fVar 2) (fVar 1)) [some (.int n), some (.int j), some (pasP n), u, none] = some (.rt (.int x), [some (.int n), some (.int j), some (pasP n), u, none]) := by
      rw [ap_ret, ap_op]
      simp only [ap_var, ap_look, List.getElem?_cons_zero, List.getElem?_cons_succ, Option.map_some, Option.bind_some, hix]
    refine run_rt (ρ' := [some (.int n), some (.int j), some (pasP n), u, none]) ?_
    show b__law_choices [some (.int n), some (.int j), none, none, none] = _
    rw [b_choices_eq, seq_nx g1, seq_nx g2, seq_nx g3, seq_rt g4]
    simp [hx]
end
def chL (n : Nat) (s : Int) : Int := if s < 0 ∨ (n : Int) < s then 0 else (pas n)[s.toNat]?.getD 0
theorem ctJ : ((List.range 21).all fun t => (List.range 25).all fun s => isV (F_choices [.int t, .int ((s : Int) - 3)]) (.int (chL t ((s : Int) - 3)))) = true := by decide +kernel
end k75
end PT

set_option Elab.async false
set_option linter.all false
set_option autoImplicit false
set_option maxRecDepth 100000
set_option maxHeartbeats 4000000
/-! k75_m3: the facts that are counted out. -/
namespace PT
namespace k75
open Lau
theorem ctA : M4 fun m => F_half_diagrams [.int m] = some (encH m) := ⟨isV_eq (by decide +kernel), isV_eq (by decide +kernel), isV_eq (by decide +kernel), isV_eq (by decide +kernel)⟩
theorem ctB1 : M4 fun m => gramOf m = gramL m := ⟨by decide +kernel, by decide +kernel, by decide +kernel, by decide +kernel⟩
theorem ctB2 : M4 fun m => ((rowsL m).all fun r => (rowsL m).all fun s => isV (F_circles_of [rowP r, rowP s]) (.int (circ r s))) = true := ⟨by decide +kernel, by decide +kernel, by decide +kernel, by decide +kernel⟩
theorem ctC : M4 fun m => ((rowsL m).all fun r => isV (F_circles_of [rowP r, rowP r]) (.int m)) = true := ⟨by decide +kernel, by decide +kernel, by decide +kernel, by decide +kernel⟩
theorem ctL : M4 fun m => (rowsL m).length ≤ 1000 := ⟨by decide +kernel, by decide +kernel, by decide +kernel, by decide +kernel⟩
theorem ctD : M4 fun m => F_gram_determinant [.int m] = some (encP (toldL m)) := ⟨isV_eq (by decide +kernel), isV_eq (by decide +kernel), isV_eq (by decide +kernel), isV_eq (by decide +kernel)⟩
theorem ctE : M4 fun m => detO (gramL m).length 0 [(0, 1)] (gramL m) = some (toldL m) := ⟨by decide +kernel, by decide +kernel, by decide +kernel, by decide +kernel⟩
theorem ctE2 : M4 fun m => okMB (gramL m).length (gramL m) = true ∧ (gramL m).length ≤ 1000 := ⟨by decide +kernel, by decide +kernel, by decide +kernel, by decide +kernel⟩
theorem ctF : F__law_determinant 8 [encM (gramL 1)] = some (encP (toldL 1)) ∧ F__law_determinant 8 [encM (gramL 2)] = some (encP (toldL 2)) ∧ F__law_determinant 8 [encM (gramL 3)] = some (encP (toldL 3)) := ⟨isV_eq (by decide +kernel), isV_eq (by decide +kernel), isV_eq (by decide +kernel)⟩
theorem ctS : M4 fun m => okS 8 (encM (gramL m)) = true ∧ okS 8 (encP (toldL m)) = true := ⟨by decide +kernel, by decide +kernel, by decide +kernel, by decide +kernel⟩
theorem ctG : ((List.range 12).all stepC) = true := by decide +kernel
theorem ctI : ((List.range 13).all fun k => isV (F_chebyshev [.int k]) (encP (chebL k)) && okS 7 (encP (chebL k))) = true := by decide +kernel
theorem ctH : M4 fun m => ((List.range m).all fun i => stepP m (i + 1) && stepH m (i + 1)) = true := ⟨by decide +kernel, by decide +kernel, by decide +kernel, by decide +kernel⟩
theorem ctH2 : M4 fun m => prodL m 0 = [(0, 1)] ∧ prodL m m = toldL m := ⟨by decide +kernel, by decide +kernel, by decide +kernel, by decide +kernel⟩
theorem ctK : ((List.range 13).all fun k => (List.range 9).all fun p => isV (F__law_value [encP (chebL k), .int ((p : Int) - 4)]) (.int (recV ((p : Int) - 4) k).2)) = true := by decide +kernel
theorem ctK2 : ((List.range 13).all fun k => (List.range 9).all fun p => wideI (recV ((p : Int) - 4) k).2) = true := by decide +kernel
end k75
end PT

set_option Elab.async false
set_option linter.all false
set_option autoImplicit false
set_option maxRecDepth 100000
set_option maxHeartbeats 4000000
/-! k75_m4: the law's def. -/
namespace PT
namespace k75
open Lau
theorem e_law_plus : k75.F__law_plus = Lau.F__law_plus := rfl
theorem e_law_times : k75.F__law_times = Lau.F__law_times := rfl
theorem e_law_next : k75.F__law_next = Lau.F__law_next := rfl
theorem e_law_same : k75.F__law_same = Lau.F__law_same := by
  funext n
  induction n with
  | zero => rfl
  | succ n ih =>
    show runB 3 (k75.b__law_same (k75.F__law_same n)) = runB 3 (Lau.b__law_same (Lau.F__law_same n))
    rw [ih]; rfl
theorem next_ok {t : PV} {m : Int} (h : TapeOk t) (hm : 0 < m) (hm2 : m < 1073741824) : ∃ r t', F__law_next [t, .int m] = some (.int r, t') ∧ 0 ≤ r ∧ r < m ∧ TapeOk t' := by
  rw [e_law_next]; exact F__law_next_ok h hm hm2
theorem same_refl {v : PV} (h : okS 8 v = true) : F__law_same 8 [v, v] = some (.bl true) := by
  rw [e_law_same]; exact F__law_same_refl 8 v h
theorem circ_get {m : Nat} (h1 : 1 ≤ m) (h2 : m ≤ 4) {r s : List Int} (hr : r ∈ rowsL m) (hs : s ∈ rowsL m) : F_circles_of [rowP r, rowP s] = some (.int (circ r s)) := by
  have := ctB2.all h1 h2
  rw [List.all_eq_true] at this
  have := this r hr
  rw [List.all_eq_true] at this
  exact isV_eq (this s hs)
section
@[local simp] def zsk75m41_ap_seq := @ap_seq
@[local simp] def zsk75m41_ap_nx := @ap_nx
@[local simp] def zsk75m41_ap_ret := @ap_ret
@[local simp] def zsk75m41_ap_drop := @ap_drop
@[local simp] def zsk75m41_ap_set := @ap_set
@[local simp] def zsk75m41_ap_list := @ap_list
@[local simp] def zsk75m41_ap_aNil := @ap_aNil
@[local simp] def zsk75m41_ap_aCons := @ap_aCons
@[local simp] def zsk75m41_ap_a1 := @ap_a1
@[local simp] def zsk75m41_ap_var := @ap_var
@[local simp] def zsk75m41_ap_look := @ap_look
@[local simp] def zsk75m41_ap_c := @ap_c
@[local simp] def zsk75m41_ap_op := @ap_op
@[local simp] def zsk75m41_ap_opO := @ap_opO
@[local simp] def zsk75m41_ap_un := @ap_un
@[local simp] def zsk75m41_ap_test := @ap_test
@[local simp] def zsk75m41_ap_if := @ap_if
@[local simp] def zsk75m41_ap_notT := @ap_notT
@[local simp] def zsk75m41_ap_andT := @ap_andT
@[local simp] def zsk75m41_ap_orT := @ap_orT
@[local simp] def zsk75m41_ap_tru := @ap_tru
@[local simp] def zsk75m41_ap_notV := @ap_notV
@[local simp] def zsk75m41_ap_andV := @ap_andV
@[local simp] def zsk75m41_ap_orV := @ap_orV
@[local simp] def zsk75m41_ap_for := @ap_for
@[local simp] def zsk75m41_ap_iS := @ap_iS
@[local simp] def zsk75m41_ap_name := @ap_name
@[local simp] def zsk75m41_ap_tup := @ap_tup
@[local simp] def zsk75m41_ap_tsNil := @ap_tsNil
@[local simp] def zsk75m41_ap_tsCons := @ap_tsCons
@[local simp] def zsk75m41_ap_asg := @ap_asg
@[local simp] def zsk75m41_ap_sub := @ap_sub
@[local simp] def zsk75m41_ap_par := @ap_par
@[local simp] def zsk75m41_ap_aug := @ap_aug
@[local simp] def zsk75m41_ap_get := @ap_get
@[local simp] def zsk75m41_ap_getO := @ap_getO
@[local simp] def zsk75m41_ap_yes := @ap_yes
@[local simp] def zsk75m41_ap_mut := @ap_mut
@[local simp] theorem zsk75m41_startP (n : Nat) (args : List PV) : startP n args = args.map some ++ List.replicate (n - args.length) none := rfl
@[local simp] def zsk75m41_gTup0 := @gTup0
@[local simp] def zsk75m41_gTup1 := @gTup1
@[local simp] def zsk75m41_gTup2 := @gTup2
@[local simp] def zsk75m41_gLst0 := @gLst0
@[local simp] def zsk75m41_gLst1 := @gLst1
@[local simp] def zsk75m41_gLst2 := @gLst2
theorem one_cell (c : Int) : (PV.tup [.tup [.int c, .int 1]]) = encP [(c, 1)] := rfl
theorem filt_true {α : Type} (l : List α) : (l.filter fun _ => true) = l := List.filter_eq_self.mpr (by simp)
theorem encM_gram {m : Nat} (h1 : 1 ≤ m) (h2 : m ≤ 4) : PV.lst ((rowsL m).map fun r => PV.lst ((rowsL m).map fun s => encP [(circ r s, 1)])) = encM (gramL m) := by
  rw [← ctB1.all h1 h2]
  simp [encM, encR, gramOf, Function.comp_def]
theorem gram3 (F : GL) (cc : List Int → List Int → Int) (rows : List (List Int)) (R : PV) (hl : rows.length ≤ 1000) (hR : rowOf R = some (rows.map rowP)) (hF : ∀ r ∈ rows, ∀ q ∈ rows, F [rowP r, rowP q] = some (.int (cc r q))) (m : Option PV) :
    fLC [3] (iS (fVar 1)) (tName 3) (fYes) (fLC [2] (iS (fVar 1)) (tName 2) (fYes) (fList gTuple (aCons (fList gTuple (aCons (fList F (aCons (fVar 3) (aCons (fVar 2) aNil))) (aCons (fC (.int 1)) aNil))) aNil))) [m, some R, none, none] = some (.lst (rows.map fun r => PV.lst (rows.map fun q => encP [(cc r q, 1)])), [m, some R, none, none]) := by
  have hin : ∀ r ∈ rows, fLC [2] (iS (fVar 1)) (tName 2) (fYes) (fList gTuple (aCons (fList gTuple (aCons (fList F (aCons (fVar 3) (aCons (fVar 2) aNil))) (aCons (fC (.int 1)) aNil))) aNil)) [m, some R, none, some (rowP r)] = some (.lst (rows.map fun q => encP [(cc r q, 1)]), [m, some R, none, some (rowP r)]) := fun r hr => by
    have hlc := lc_map (vs := [2]) (t := tName 2) (ft := fYes) (fe := fList gTuple (aCons (fList gTuple (aCons (fList F (aCons (fVar 3) (aCons (fVar 2) aNil))) (aCons (fC (.int 1)) aNil))) aNil)) (ρ := [m, some R, none, some (rowP r)]) rowP (fun _ => true) (fun q => encP [(cc r q, 1)]) rows [] (fun q hs => by
      refine ⟨[m, some R, some (rowP q), some (rowP r)], rfl, rfl, fun _ => ?_, rfl⟩
      simp [hF r hr q hs, encP, encT]) (by rw [List.length_nil]; omega)
    rw [filt_true, List.nil_append] at hlc
    exact lc_of (vs := [2]) (its := iS (fVar 1)) (l := rows.map rowP) (by rw [ap_iS, ap_var]; simp [hR]) hlc
  have hout := lc_map (vs := [3]) (t := tName 3) (ft := fYes) (fe := fLC [2] (iS (fVar 1)) (tName 2) (fYes) (fList gTuple (aCons (fList gTuple (aCons (fList F (aCons (fVar 3) (aCons (fVar 2) aNil))) (aCons (fC (.int 1)) aNil))) aNil))) (ρ := [m, some R, none, none]) rowP (fun _ => true) (fun r => PV.lst (rows.map fun q => encP [(cc r q, 1)])) rows [] (fun r hr => ⟨[m, some R, none, some (rowP r)], rfl, rfl, fun _ => hin r hr, rfl⟩) (by rw [List.length_nil]; omega)
  rw [filt_true, List.nil_append] at hout
  exact lc_of (vs := [3]) (its := iS (fVar 1)) (l := rows.map rowP) (by rw [ap_iS, ap_var]; simp [hR]) hout
theorem F_gram_eq {m : Nat} (h1 : 1 ≤ m) (h2 : m ≤ 4) : F_gram_table [.int m] = some (encM (gramL m)) := by
  have hG := gram3 F_circles_of circ (rowsL m) (encH m) (ctL.all h1 h2) rfl (fun r hr q hq => circ_get h1 h2 hr hq) (some (.int m))
  rw [encM_gram h1 h2] at hG
  have hA := ctA.all h1 h2
  refine run_rt (ρ' := [some (.int m), some (encH m), none, none]) ?_
  show b_gram_table [some (.int m), none, none, none] = _
  have e1 : fSet 1 (fList F_half_diagrams (aCons (fVar 0) aNil)) [some (.int m), none, none, none] = some (.nx, [some (.int m), some (encH m), none, none]) := by
    clear hG
    generalize F_half_diagrams = G at *
    simp [hA]
  have e2 := hG
  unfold b_gram_table
  rw [seq_nx e1, ap_seq, ap_ret, e2]; rfl
theorem F_dog_eq {m : Nat} (h1 : 1 ≤ m) (h2 : m ≤ 4) : F_determinant_of_gram [.int m] = some (encP (toldL m)) := by
  have hd := F_table_eq (ctE2.all h1 h2).2 (okMB_iff (ctE2.all h1 h2).1) (ctE.all h1 h2)
  refine run_rt (ρ' := [some (.int m)]) ?_
  show b_determinant_of_gram [some (.int m)] = _
  have hg := F_gram_eq h1 h2
  unfold b_determinant_of_gram
  generalize F_gram_table = G1 at *
  generalize F_table_determinant = G2 at *
  simp [hg, hd]

theorem gram6 (F : GL) (cc : List Int → List Int → Int) (rows : List (List Int)) (R : PV) (hl : rows.length ≤ 1000) (hR : rowOf R = some (rows.map rowP)) (hF : ∀ r ∈ rows, ∀ q ∈ rows, F [rowP r, rowP q] = some (.int (cc r q))) (s t m : Option PV) :
    fLC [6] (iS (fVar 3)) (tName 6) (fYes) (fLC [5] (iS (fVar 3)) (tName 5) (fYes) (fList gTuple (aCons (fList gTuple (aCons (fList F (aCons (fVar 6) (aCons (fVar 5) aNil))) (aCons (fC (.int 1)) aNil))) aNil))) [s, t, m, some R, none, none, none, none, none, none, none, none, none, none, none, none, none, none, none, none, none] = some (.lst (rows.map fun r => PV.lst (rows.map fun q => encP [(cc r q, 1)])), [s, t, m, some R, none, none, none, none, none, none, none, none, none, none, none, none, none, none, none, none, none]) := by
  have hin : ∀ r ∈ rows, fLC [5] (iS (fVar 3)) (tName 5) (fYes) (fList gTuple (aCons (fList gTuple (aCons (fList F (aCons (fVar 6) (aCons (fVar 5) aNil))) (aCons (fC (.int 1)) aNil))) aNil)) [s, t, m, some R, none, none, some (rowP r), none, none, none, none, none, none, none, none, none, none, none, none, none, none] = some (.lst (rows.map fun q => encP [(cc r q, 1)]), [s, t, m, some R, none, none, some (rowP r), none, none, none, none, none, none, none, none, none, none, none, none, none, none]) := fun r hr => by
    have hlc := lc_map (vs := [5]) (t := tName 5) (ft := fYes) (fe := fList gTuple (aCons (fList gTuple (aCons (fList F (aCons (fVar 6) (aCons (fVar 5) aNil))) (aCons (fC (.int 1)) aNil))) aNil)) (ρ := [s, t, m, some R, none, none, some (rowP r), none, none, none, none, none, none, none, none, none, none, none, none, none, none]) rowP (fun _ => true) (fun q => encP [(cc r q, 1)]) rows [] (fun q hs => by
      refine ⟨[s, t, m, some R, none, some (rowP q), some (rowP r), none, none, none, none, none, none, none, none, none, none, none, none, none, none], rfl, rfl, fun _ => ?_, rfl⟩
      simp [hF r hr q hs, encP, encT]) (by rw [List.length_nil]; omega)
    rw [filt_true, List.nil_append] at hlc
    exact lc_of (vs := [5]) (its := iS (fVar 3)) (l := rows.map rowP) (by rw [ap_iS, ap_var]; simp [hR]) hlc
  have hout := lc_map (vs := [6]) (t := tName 6) (ft := fYes) (fe := fLC [5] (iS (fVar 3)) (tName 5) (fYes) (fList gTuple (aCons (fList gTuple (aCons (fList F (aCons (fVar 6) (aCons (fVar 5) aNil))) (aCons (fC (.int 1)) aNil))) aNil))) (ρ := [s, t, m, some R, none, none, none, none, none, none, none, none, none, none, none, none, none, none, none, none, none]) rowP (fun _ => true) (fun r => PV.lst (rows.map fun q => encP [(cc r q, 1)])) rows [] (fun r hr => ⟨[s, t, m, some R, none, none, some (rowP r), none, none, none, none, none, none, none, none, none, none, none, none, none, none], rfl, rfl, fun _ => hin r hr, rfl⟩) (by rw [List.length_nil]; omega)
  rw [filt_true, List.nil_append] at hout
  exact lc_of (vs := [6]) (its := iS (fVar 3)) (l := rows.map rowP) (by rw [ap_iS, ap_var]; simp [hR]) hout

/-- the law's own table -/
theorem due_eq {m : Nat} (h1 : 1 ≤ m) (h2 : m ≤ 4) (s t : Option PV) : fLC [6] (iS (fVar 3)) (tName 6) (fYes) (fLC [5] (iS (fVar 3)) (tName 5) (fYes) (fList gTuple (aCons (fList gTuple (aCons (fList F_circles_of (aCons (fVar 6) (aCons (fVar 5) aNil))) (aCons (fC (.int 1)) aNil))) aNil))) [s, t, some (.int m), some (encH m), none, none, none, none, none, none, none, none, none, none, none, none, none, none, none, none, none] = some (encM (gramL m), [s, t, some (.int m), some (encH m), none, none, none, none, none, none, none, none, none, none, none, none, none, none, none, none, none]) := by
  have hG := gram6 F_circles_of circ (rowsL m) (encH m) (ctL.all h1 h2) rfl (fun r hr q hq => circ_get h1 h2 hr hq) s t (some (.int m))
  rw [encM_gram h1 h2] at hG
  exact hG

theorem bad6 (F : GL) (rows : List (List Int)) (R : PV) (m : Int) (hl : rows.length ≤ 1000) (hix : ∀ (i : Nat) (h : i < rows.length), gIxAll R (.int i) = some (rowP rows[i])) (hlen : gLenAll [R] = some (.int rows.length)) (hC : ∀ r ∈ rows, F [rowP r, rowP r] = some (.int m)) (s t due : Option PV) :
    fLC [7] (iR1 (fList gLenAll (a1 (fVar 3)))) (tName 7) (fTest (fOp gNeD (fList F (aCons (fOp gIxAll (fVar 3) (fVar 7)) (aCons (fOp gIxAll (fVar 3) (fVar 7)) aNil))) (fVar 2))) (fVar 7) [s, t, some (.int m), some R, due, none, none, none, none, none, none, none, none, none, none, none, none, none, none, none, none] = some (.lst [], [s, t, some (.int m), some R, due, none, none, none, none, none, none, none, none, none, none, none, none, none, none, none, none]) := by
  have hlc := lc_map (vs := [7]) (t := tName 7) (ft := fTest (fOp gNeD (fList F (aCons (fOp gIxAll (fVar 3) (fVar 7)) (aCons (fOp gIxAll (fVar 3) (fVar 7)) aNil))) (fVar 2))) (fe := fVar 7) (ρ := [s, t, some (.int m), some R, due, none, none, none, none, none, none, none, none, none, none, none, none, none, none, none, none]) (fun i : Nat => PV.int (0 + (i : Int))) (fun _ => false) (fun _ => PV.non) (List.range rows.length) [] (fun i hi => by
    have hi' : i < rows.length := by simpa using hi
    have hx := hix i hi'
    have hc := hC _ (List.getElem_mem hi')
    refine ⟨[s, t, some (.int m), some R, due, none, none, some (.int (0 + (i : Int))), none, none, none, none, none, none, none, none, none, none, none, none, none], rfl, ?_, fun hk => Bool.noConfusion hk, rfl⟩
    have e0 : (0 : Int) + (i : Int) = (i : Int) := by omega
    simp [hx, hc, gNeD_int]) (by rw [List.length_range, List.length_nil]; omega)
  have hft : ((List.range rows.length).filter fun _ => false) = [] := List.filter_eq_nil_iff.mpr (by simp)
  rw [hft] at hlc
  have hit : iR1 (fList gLenAll (a1 (fVar 3))) [s, t, some (.int m), some R, due, none, none, none, none, none, none, none, none, none, none, none, none, none, none, none, none] = some (rngP 0 rows.length, [s, t, some (.int m), some R, due, none, none, none, none, none, none, none, none, none, none, none, none, none, none, none, none]) :=
    iR1_of (j := (rows.length : Int)) (by simp [hlen]) (i62_nat (by omega))
  exact lc_of (vs := [7]) hit hlc
theorem bad_eq {m : Nat} (h1 : 1 ≤ m) (h2 : m ≤ 4) (s t : Option PV) : fLC [7] (iR1 (fList gLenAll (a1 (fVar 3)))) (tName 7) (fTest (fOp gNeD (fList F_circles_of (aCons (fOp gIxAll (fVar 3) (fVar 7)) (aCons (fOp gIxAll (fVar 3) (fVar 7)) aNil))) (fVar 2))) (fVar 7) [s, t, some (.int m), some (encH m), some (encM (gramL m)), none, none, none, none, none, none, none, none, none, none, none, none, none, none, none, none] = some (.lst [], [s, t, some (.int m), some (encH m), some (encM (gramL m)), none, none, none, none, none, none, none, none, none, none, none, none, none, none, none, none]) := by
  have hC := ctC.all h1 h2
  rw [List.all_eq_true] at hC
  exact bad6 F_circles_of (rowsL m) (encH m) m (ctL.all h1 h2) (fun i h => gIx_at (by simp [h])) (by unfold encH; rw [len_lst]; simp) (fun r hr => isV_eq (hC r hr)) s t (some (encM (gramL m)))

end
end k75
end PT

set_option Elab.async false
set_option linter.all false
set_option autoImplicit false
set_option maxRecDepth 100000
set_option maxHeartbeats 4000000
/-! k75_m5: the law. -/
namespace PT
namespace k75
open Lau
section
@[local simp] def zsk75m51_ap_seq := @ap_seq
@[local simp] def zsk75m51_ap_nx := @ap_nx
@[local simp] def zsk75m51_ap_ret := @ap_ret
@[local simp] def zsk75m51_ap_drop := @ap_drop
@[local simp] def zsk75m51_ap_set := @ap_set
@[local simp] def zsk75m51_ap_list := @ap_list
@[local simp] def zsk75m51_ap_aNil := @ap_aNil
@[local simp] def zsk75m51_ap_aCons := @ap_aCons
@[local simp] def zsk75m51_ap_a1 := @ap_a1
@[local simp] def zsk75m51_ap_var := @ap_var
@[local simp] def zsk75m51_ap_look := @ap_look
@[local simp] def zsk75m51_ap_c := @ap_c
@[local simp] def zsk75m51_ap_op := @ap_op
@[local simp] def zsk75m51_ap_opO := @ap_opO
@[local simp] def zsk75m51_ap_un := @ap_un
@[local simp] def zsk75m51_ap_test := @ap_test
@[local simp] def zsk75m51_ap_if := @ap_if
@[local simp] def zsk75m51_ap_notT := @ap_notT
@[local simp] def zsk75m51_ap_andT := @ap_andT
@[local simp] def zsk75m51_ap_orT := @ap_orT
@[local simp] def zsk75m51_ap_tru := @ap_tru
@[local simp] def zsk75m51_ap_notV := @ap_notV
@[local simp] def zsk75m51_ap_andV := @ap_andV
@[local simp] def zsk75m51_ap_orV := @ap_orV
@[local simp] def zsk75m51_ap_for := @ap_for
@[local simp] def zsk75m51_ap_iS := @ap_iS
@[local simp] def zsk75m51_ap_name := @ap_name
@[local simp] def zsk75m51_ap_tup := @ap_tup
@[local simp] def zsk75m51_ap_tsNil := @ap_tsNil
@[local simp] def zsk75m51_ap_tsCons := @ap_tsCons
@[local simp] def zsk75m51_ap_asg := @ap_asg
@[local simp] def zsk75m51_ap_sub := @ap_sub
@[local simp] def zsk75m51_ap_par := @ap_par
@[local simp] def zsk75m51_ap_aug := @ap_aug
@[local simp] def zsk75m51_ap_get := @ap_get
@[local simp] def zsk75m51_ap_getO := @ap_getO
@[local simp] def zsk75m51_ap_yes := @ap_yes
@[local simp] def zsk75m51_ap_mut := @ap_mut
@[local simp] theorem zsk75m51_startP (n : Nat) (args : List PV) : startP n args = args.map some ++ List.replicate (n - args.length) none := rfl
@[local simp] theorem zsk75m51_rowOfa (xs : List PV) : rowOf (.lst xs) = some xs := rfl
@[local simp] theorem zsk75m51_rowOfb (xs : List PV) : rowOf (.tup xs) = some xs := rfl
@[local simp] def zsk75m51_gTup0 := @gTup0
@[local simp] def zsk75m51_gTup1 := @gTup1
@[local simp] def zsk75m51_gTup2 := @gTup2
@[local simp] def zsk75m51_gLst0 := @gLst0
@[local simp] def zsk75m51_gLst1 := @gLst1
@[local simp] def zsk75m51_gLst2 := @gLst2
theorem ap_callI {i : Nat} {F : GI} {f : AO} {ρ : Env} : fCallI i F f ρ = (f ρ).bind fun r => (look r.2 i).bind fun p => (F (fillP p r.1)).bind fun q => some (q.1, r.2.set i (some q.2)) := rfl
theorem ap_oNil {ρ : Env} : oNil ρ = some ([], ρ) := rfl
theorem ap_oCons {f : EF} {g : AO} {ρ : Env} : oCons f g ρ = (f ρ).bind fun r => (g r.2).bind fun s => some (some r.1 :: s.1, s.2) := rfl
theorem ap_oHole {i : Nat} {g : AO} {ρ : Env} : oHole i g ρ = (look ρ i).bind fun _ => (g ρ).bind fun s => some (none :: s.1, s.2) := rfl
theorem gIx_last2 {xs : List PV} {u v : PV} : gIxAll (.lst (xs ++ [u, v])) (.int (-2)) = some u := by
  unfold gIxAll orG gIxT gIxL
  simp only [L2.atI, L2.ixN]
  rw [if_neg (by omega), if_pos (by simp; omega)]
  have : ((-2 : Int) + ((xs ++ [u, v]).length : Nat)).toNat = xs.length := by simp; omega
  rw [this]
  simp
theorem gIx_last1 {xs : List PV} {v : PV} : gIxAll (.lst (xs ++ [v])) (.int (-1)) = some v := by
  unfold gIxAll orG gIxT gIxL
  simp only [L2.atI, L2.ixN]
  rw [if_neg (by omega), if_pos (by simp; omega)]
  have : ((-1 : Int) + ((xs ++ [v]).length : Nat)).toNat = xs.length := by simp; omega
  rw [this]
  simp
def polP (n : Nat) : PV := .lst ((List.range n).map fun i => encP (chebL i))
theorem polP_succ (n : Nat) : polP (n + 1) = .lst (((List.range n).map fun i => encP (chebL i)) ++ [encP (chebL n)]) := by
  unfold polP
  rw [List.range_succ, List.map_append]; rfl
theorem polP_two (n : Nat) : polP (n + 2) = .lst (((List.range n).map fun i => encP (chebL i)) ++ [encP (chebL n), encP (chebL (n + 1))]) := by
  rw [polP_succ, List.range_succ, List.map_append, List.append_assoc]; rfl
theorem polP_at {n k : Nat} (h : k < n) : gIxAll (polP n) (.int k) = some (encP (chebL k)) := gIx_at (by simp [h])
def polB : SF := (fSeq (fSet 11 (fList gTupOf (a1 (fLC [12, 13] (iS (fOpO gIxAll 10 (fUn gNeg (fC (.int 2))))) (tTupG 2 (tsCons (tName 12) (tsCons (tName 13) tsNil))) (fYes) (fList gTuple (aCons (fVar 12) (aCons (fOp gSubI (fC (.int 0)) (fVar 13)) aNil)))))))
    (fSeq (fDrop (fMut isLst 10 gAppend (aCons (fList F__law_plus (aCons (fList F__law_times (aCons (fList gTuple (aCons (fList gTuple (aCons (fC (.int 1)) (aCons (fC (.int 1)) aNil))) aNil)) (aCons (fOpO gIxAll 10 (fUn gNeg (fC (.int 1)))) aNil))) (aCons (fVar 11) aNil))) aNil)))
    (fNx)))
def prodB : SF := (fSeq (fSet 14 (fOp gAdd (fOp gSubI (fList F__law_choices (aCons (fOp gMulI (fC (.int 2)) (fVar 2)) (aCons (fOp gSubI (fVar 2) (fVar 7)) aNil))) (fOp gMulI (fC (.int 2)) (fList F__law_choices (aCons (fOp gMulI (fC (.int 2)) (fVar 2)) (aCons (fOp gSubI (fOp gSubI (fVar 2) (fVar 7)) (fC (.int 1))) aNil))))) (fList F__law_choices (aCons (fOp gMulI (fC (.int 2)) (fVar 2)) (aCons (fOp gSubI (fOp gSubI (fVar 2) (fVar 7)) (fC (.int 2))) aNil)))))
    (fSeq (fSet 9 (fList F__law_times (aCons (fVar 9) (aCons (fList F__law_power (aCons (fOpO gIxAll 10 (fVar 7)) (aCons (fVar 14) aNil))) aNil))))
    (fNx)))
theorem pol_loop {m : Nat} (s t : Option PV) : ∃ k mv, loopF (tName 7) polB (rngP 0 12) [s, t, some (.int m), some (encH m), some (encM (gramL m)), none, none, none, some (encP (toldL m)), some (encP [(0, 1)]), some (polP 2), none, none, none, none, none, none, none, none, none, none] = some (.nx, [s, t, some (.int m), some (encH m), some (encM (gramL m)), none, none, k, some (encP (toldL m)), some (encP [(0, 1)]), some (polP 14), mv, none, none, none, none, none, none, none, none, none]) := by
  obtain ⟨ρ', e, k, mv, er⟩ := loop_at (t := tName 7) (body := polB) (fun i ρ => ∃ k mv, ρ = [s, t, some (.int m), some (encH m), some (encM (gramL m)), none, none, k, some (encP (toldL m)), some (encP [(0, 1)]), some (polP (i + 2)), mv, none, none, none, none, none, none, none, none, none]) (rngP 0 12) 0 [s, t, some (.int m), some (encH m), some (encM (gramL m)), none, none, none, some (encP (toldL m)), some (encP [(0, 1)]), some (polP 2), none, none, none, none, none, none, none, none, none, none] ⟨none, none, rfl⟩ (fun i v ρ hv ⟨k, mv, er⟩ => by
    obtain ⟨hi, rfl⟩ := rngP_get hv
    subst er
    rw [Nat.zero_add]
    have hG := ctG
    rw [List.all_eq_true] at hG
    have hs := hG i (by simpa using hi)
    unfold stepC at hs
    split at hs
    · rename_i w hw
      have hp := isV_eq hs
      have hn : gNeg (.int 2) = some (.int (-2)) := rfl
      have hn1 : gNeg (.int 1) = some (.int (-1)) := rfl
      have hx2 : gIxAll (polP (i + 2)) (.int (-2)) = some (encP (chebL i)) := by rw [polP_two]; exact gIx_last2
      have hx1 : gIxAll (polP (i + 2)) (.int (-1)) = some (encP (chebL (i + 1))) := by rw [polP_succ]; exact gIx_last1
      have hlc := lc_map (vs := [12, 13]) (t := tTupG 2 (tsCons (tName 12) (tsCons (tName 13) tsNil))) (ft := fYes) (fe := fList gTuple (aCons (fVar 12) (aCons (fOp gSubI (fC (.int 0)) (fVar 13)) aNil))) (ρ := [s, t, some (.int m), some (encH m), some (encM (gramL m)), none, none, some (.int (0 + (i : Int))), some (encP (toldL m)), some (encP [(0, 1)]), some (polP (i + 2)), mv, none, none, none, none, none, none, none, none, none]) encT (fun _ => true) (fun u => encT (u.1, 0 - u.2)) (chebL i) [] (fun u hu => by
        refine ⟨[s, t, some (.int m), some (encH m), some (encM (gramL m)), none, none, some (.int (0 + (i : Int))), some (encP (toldL m)), some (encP [(0, 1)]), some (polP (i + 2)), mv, some (.int u.1), some (.int u.2), none, none, none, none, none, none, none], rfl, rfl, fun _ => ?_, rfl⟩
        simp [gSub_int, encT]) (by
          have hl : ((List.range 12).all fun i => decide ((chebL i).length ≤ 1000)) = true := by decide +kernel
          rw [List.all_eq_true] at hl
          have := hl i (by simpa using hi)
          simp at this ⊢; omega)
      rw [filt_true, List.nil_append] at hlc
      have e1 := lc_of (vs := [12, 13]) (its := iS (fOpO gIxAll 10 (fUn gNeg (fC (.int 2))))) (l := (chebL i).map encT) (by simp [hn, hx2]; rfl) hlc
      have hm : PV.tup ((chebL i).map fun u => encT (u.1, 0 - u.2)) = encP (negT (chebL i)) := by simp [encP, negT, Function.comp_def]
      have happ : gAppend (polP (i + 2)) [encP (chebL (i + 2))] = some (.non, polP (i + 3)) := by
        rw [polP_succ (i + 2)]
        unfold polP
        exact append_lst _ _ (by simp; omega)
      have hone : PV.tup [.tup [.int 1, .int 1]] = encP [(1, 1)] := rfl
      have hl : isLst (polP (i + 2)) = true := rfl
      have h1 : fSet 11 (fList gTupOf (a1 (fLC [12, 13] (iS (fOpO gIxAll 10 (fUn gNeg (fC (.int 2))))) (tTupG 2 (tsCons (tName 12) (tsCons (tName 13) tsNil))) (fYes) (fList gTuple (aCons (fVar 12) (aCons (fOp gSubI (fC (.int 0)) (fVar 13)) aNil)))))) [s, t, some (.int m), some (encH m), some (encM (gramL m)), none, none, some (.int (0 + (i : Int))), some (encP (toldL m)), some (encP [(0, 1)]), some (polP (i + 2)), mv, none, none, none, none, none, none, none, none, none] = some (.nx, [s, t, some (.int m), some (encH m), some (encM (gramL m)), none, none, some (.int (0 + (i : Int))), some (encP (toldL m)), some (encP [(0, 1)]), some (polP (i + 2)), some (encP (negT (chebL i))), none, none, none, none, none, none, none, none, none]) := by
        rw [ap_set, ap_list, ap_a1, e1]
        simp only [Option.bind_some, gTupOf, Option.map_some, hm]
        rfl
      refine ⟨_, [s, t, some (.int m), some (encH m), some (encM (gramL m)), none, none, some (.int (0 + (i : Int))), some (encP (toldL m)), some (encP [(0, 1)]), some (polP (i + 1 + 2)), some (encP (negT (chebL i))), none, none, none, none, none, none, none, none, none], rfl, .inl ?_, some (.int (0 + (i : Int))), some (encP (negT (chebL i))), rfl⟩
      have h2 : fDrop (fMut isLst 10 gAppend (aCons (fList F__law_plus (aCons (fList F__law_times (aCons (fList gTuple (aCons (fList gTuple (aCons (fC (.int 1)) (aCons (fC (.int 1)) aNil))) aNil)) (aCons (fOpO gIxAll 10 (fUn gNeg (fC (.int 1)))) aNil))) (aCons (fVar 11) aNil))) aNil)) [s, t, some (.int m), some (encH m), some (encM (gramL m)), none, none, some (.int (0 + (i : Int))), some (encP (toldL m)), some (encP [(0, 1)]), some (polP (i + 2)), some (encP (negT (chebL i))), none, none, none, none, none, none, none, none, none] = some (.nx, [s, t, some (.int m), some (encH m), some (encM (gramL m)), none, none, some (.int (0 + (i : Int))), some (encP (toldL m)), some (encP [(0, 1)]), some (polP (i + 1 + 2)), some (encP (negT (chebL i))), none, none, none, none, none, none, none, none, none]) := by
        clear h1 e1 hlc hs
        generalize F__law_plus = G1 at *
        generalize F__law_times = G2 at *
        simp [hn1, hx1, hw, hp, happ, hone, hl]
      exact (seq_nx h1).trans (seq_nx h2)
    · cases hs)
  rw [rngP_length, Nat.zero_add] at er
  subst er
  exact ⟨k, mv, e⟩
theorem prod_loop {m : Nat} (h1 : 1 ≤ m) (h2 : m ≤ 4) (s t k mv : Option PV) : ∃ k2 pw, loopF (tName 7) prodB (rngP 1 m) [s, t, some (.int m), some (encH m), some (encM (gramL m)), none, none, k, some (encP (toldL m)), some (encP [(0, 1)]), some (polP 14), mv, none, none, none, none, none, none, none, none, none] = some (.nx, [s, t, some (.int m), some (encH m), some (encM (gramL m)), none, none, k2, some (encP (toldL m)), some (encP (prodL m m)), some (polP 14), mv, none, none, pw, none, none, none, none, none, none]) := by
  have h0 := ctH2.all h1 h2
  have hH := ctH.all h1 h2
  rw [List.all_eq_true] at hH
  obtain ⟨ρ', e, k, pw, er⟩ := loop_at (t := tName 7) (body := prodB) (fun i ρ => ∃ k pw, ρ = [s, t, some (.int m), some (encH m), some (encM (gramL m)), none, none, k, some (encP (toldL m)), some (encP (prodL m i)), some (polP 14), mv, none, none, pw, none, none, none, none, none, none]) (rngP 1 m) 0 [s, t, some (.int m), some (encH m), some (encM (gramL m)), none, none, k, some (encP (toldL m)), some (encP [(0, 1)]), some (polP 14), mv, none, none, none, none, none, none, none, none, none] ⟨k, none, by rw [h0.1]⟩ (fun i v ρ hv ⟨k, pw, er⟩ => by
    obtain ⟨hi, rfl⟩ := rngP_get hv
    rw [Nat.zero_add] at er
    subst er
    rw [Nat.zero_add]
    have hs := hH i (by simpa using hi)
    unfold stepP stepH at hs
    simp only [Bool.and_eq_true, decide_eq_true_eq] at hs
    obtain ⟨⟨⟨⟨⟨q1, q2⟩, q3⟩, q4⟩, q5⟩, q6, q7⟩ := hs
    have q1 := isV_eq q1
    have q2 := isV_eq q2
    have q3 := isV_eq q3
    have q6 := isV_eq q6
    have q7 := isV_eq q7
    rw [Nat.add_sub_cancel] at q7
    have e0 : (1 : Int) + (i : Int) = ((i + 1 : Nat) : Int) := by omega
    rw [e0]
    have w1 : gMulI (.int 2) (.int (m : Int)) = some (.int (2 * m)) := gMul_wide (by decide +kernel) (wide_lt (by omega) (by omega))
    have w2 : gMulI (.int 2) (.int (chC (2 * m) (m - (i + 1 : Nat) - 1))) = some (.int (2 * chC (2 * m) (m - (i + 1 : Nat) - 1))) := gMul_wide (by decide +kernel) q5
    have hpol : gIxAll (polP 14) (.int ((i + 1 : Nat) : Int)) = some (encP (chebL (i + 1))) := polP_at (by omega)
    generalize ((i + 1 : Nat) : Int) = kk at *
    have g1 : fSet 14 (fOp gAdd (fOp gSubI (fList F__law_choices (aCons (fOp gMulI (fC (.int 2)) (fVar 2)) (aCons (fOp gSubI (fVar 2) (fVar 7)) aNil))) (fOp gMulI (fC (.int 2)) (fList F__law_choices (aCons (fOp gMulI (fC (.int 2)) (fVar 2)) (aCons (fOp gSubI (fOp gSubI (fVar 2) (fVar 7)) (fC (.int 1))) aNil))))) (fList F__law_choices (aCons (fOp gMulI (fC (.int 2)) (fVar 2)) (aCons (fOp gSubI (fOp gSubI (fVar 2) (fVar 7)) (fC (.int 2))) aNil)))) [s, t, some (.int m), some (encH m), some (encM (gramL m)), none, none, some (.int kk), some (encP (toldL m)), some (encP (prodL m i)), some (polP 14), mv, none, none, pw, none, none, none, none, none, none] = some (.nx, [s, t, some (.int m), some (encH m), some (encM (gramL m)), none, none, some (.int kk), some (encP (toldL m)), some (encP (prodL m i)), some (polP 14), mv, none, none, some (.int (pwL m (i + 1))), none, none, none, none, none, none]) := by
      clear q6 q7 hH
      generalize F__law_choices = G1 at q1 q2 q3 ⊢
      simp [w1, gSub_int, q1, q2, q3, w2, gAdd_int, q4]
    have g2 : fSet 9 (fList F__law_times (aCons (fVar 9) (aCons (fList F__law_power (aCons (fOpO gIxAll 10 (fVar 7)) (aCons (fVar 14) aNil))) aNil))) [s, t, some (.int m), some (encH m), some (encM (gramL m)), none, none, some (.int kk), some (encP (toldL m)), some (encP (prodL m i)), some (polP 14), mv, none, none, some (.int (pwL m (i + 1))), none, none, none, none, none, none] = some (.nx, [s, t, some (.int m), some (encH m), some (encM (gramL m)), none, none, some (.int kk), some (encP (toldL m)), some (encP (prodL m (i + 1))), some (polP 14), mv, none, none, some (.int (pwL m (i + 1))), none, none, none, none, none, none]) := by
      clear g1 q1 q2 q3 hH
      generalize F__law_power = G1 at *
      generalize F__law_times = G2 at *
      simp [hpol, q6, q7]
    refine ⟨_, [s, t, some (.int m), some (encH m), some (encM (gramL m)), none, none, some (.int kk), some (encP (toldL m)), some (encP (prodL m (i + 1))), some (polP 14), mv, none, none, some (.int (pwL m (i + 1))), none, none, none, none, none, none], rfl, .inl ?_, some (.int kk), some (.int (pwL m (i + 1))), rfl⟩
    exact (seq_nx g1).trans (seq_nx g2))
  rw [rngP_length, Nat.zero_add] at er
  subst er
  exact ⟨k, pw, e⟩
end
end k75
end PT

set_option Elab.async false
set_option linter.all false
set_option autoImplicit false
set_option maxRecDepth 100000
set_option maxHeartbeats 4000000
/-! k75_m6: the law holds. -/
namespace PT
namespace k75
open Lau
section
@[local simp] def zsk75m61_ap_seq := @ap_seq
@[local simp] def zsk75m61_ap_nx := @ap_nx
@[local simp] def zsk75m61_ap_ret := @ap_ret
@[local simp] def zsk75m61_ap_drop := @ap_drop
@[local simp] def zsk75m61_ap_set := @ap_set
@[local simp] def zsk75m61_ap_list := @ap_list
@[local simp] def zsk75m61_ap_aNil := @ap_aNil
@[local simp] def zsk75m61_ap_aCons := @ap_aCons
@[local simp] def zsk75m61_ap_a1 := @ap_a1
@[local simp] def zsk75m61_ap_var := @ap_var
@[local simp] def zsk75m61_ap_look := @ap_look
@[local simp] def zsk75m61_ap_c := @ap_c
@[local simp] def zsk75m61_ap_op := @ap_op
@[local simp] def zsk75m61_ap_opO := @ap_opO
@[local simp] def zsk75m61_ap_un := @ap_un
@[local simp] def zsk75m61_ap_test := @ap_test
@[local simp] def zsk75m61_ap_if := @ap_if
@[local simp] def zsk75m61_ap_notT := @ap_notT
@[local simp] def zsk75m61_ap_andT := @ap_andT
@[local simp] def zsk75m61_ap_orT := @ap_orT
@[local simp] def zsk75m61_ap_tru := @ap_tru
@[local simp] def zsk75m61_ap_notV := @ap_notV
@[local simp] def zsk75m61_ap_andV := @ap_andV
@[local simp] def zsk75m61_ap_orV := @ap_orV
@[local simp] def zsk75m61_ap_for := @ap_for
@[local simp] def zsk75m61_ap_iS := @ap_iS
@[local simp] def zsk75m61_ap_name := @ap_name
@[local simp] def zsk75m61_ap_tup := @ap_tup
@[local simp] def zsk75m61_ap_tsNil := @ap_tsNil
@[local simp] def zsk75m61_ap_tsCons := @ap_tsCons
@[local simp] def zsk75m61_ap_asg := @ap_asg
@[local simp] def zsk75m61_ap_sub := @ap_sub
@[local simp] def zsk75m61_ap_par := @ap_par
@[local simp] def zsk75m61_ap_aug := @ap_aug
@[local simp] def zsk75m61_ap_get := @ap_get
@[local simp] def zsk75m61_ap_getO := @ap_getO
@[local simp] def zsk75m61_ap_yes := @ap_yes
@[local simp] def zsk75m61_ap_mut := @ap_mut
@[local simp] theorem zsk75m61_startP (n : Nat) (args : List PV) : startP n args = args.map some ++ List.replicate (n - args.length) none := rfl
@[local simp] theorem zsk75m61_rowOfa (xs : List PV) : rowOf (.lst xs) = some xs := rfl
@[local simp] theorem zsk75m61_rowOfb (xs : List PV) : rowOf (.tup xs) = some xs := rfl
@[local simp] def zsk75m61_gTup0 := @gTup0
@[local simp] def zsk75m61_gTup1 := @gTup1
@[local simp] def zsk75m61_gTup2 := @gTup2
@[local simp] def zsk75m61_gLst0 := @gLst0
@[local simp] def zsk75m61_gLst1 := @gLst1
@[local simp] def zsk75m61_gLst2 := @gLst2
@[local simp] def zsk75m61_ap_callI := @ap_callI
@[local simp] def zsk75m61_ap_oNil := @ap_oNil
@[local simp] def zsk75m61_ap_oCons := @ap_oCons
@[local simp] def zsk75m61_ap_oHole := @ap_oHole
@[local simp] theorem zsk75m61_fillPa (p : PV) : fillP p [] = [] := rfl
@[local simp] theorem zsk75m61_fillPb (p q : PV) (r : List (Option PV)) : fillP p (some q :: r) = q :: fillP p r := rfl
@[local simp] theorem zsk75m61_fillPc (p : PV) (r : List (Option PV)) : fillP p (none :: r) = p :: fillP p r := rfl
section
variable {f g : EF} {c d : TF} {a b : AF} {ρ ρ1 ρ2 : Env} {i : Nat} {v w x : PV} {G : G2} {L : GL} {us vs : List PV} {p q : Bool}
theorem r_var (h : look ρ i = some v) : fVar i ρ = some (v, ρ) := by unfold fVar; rw [h]; rfl
theorem r_list (h : a ρ = some (vs, ρ1)) (hL : L vs = some v) : fList L a ρ = some (v, ρ1) := by rw [ap_list, h]; simp only [Option.bind_some, hL, Option.map_some]
theorem r_cons (h : f ρ = some (v, ρ1)) (h2 : a ρ1 = some (vs, ρ2)) : aCons f a ρ = some (v :: vs, ρ2) := by rw [ap_aCons, h]; simp only [Option.bind_some, h2]
theorem r_nil : aNil ρ = some ([], ρ) := rfl
theorem r_op (h : f ρ = some (v, ρ1)) (h2 : g ρ1 = some (w, ρ2)) (hG : G v w = some x) : fOp G f g ρ = some (x, ρ2) := by rw [ap_op, h]; simp only [Option.bind_some, h2, hG, Option.map_some]
theorem r_opO (h : look ρ i = some v) (h2 : g ρ = some (w, ρ2)) (h3 : look ρ2 i = some v) (hG : G v w = some x) : fOpO G i g ρ = some (x, ρ2) := by rw [ap_opO, h]; simp only [Option.bind_some, h2, h3, hG, Option.map_some]
theorem r_test (h : f ρ = some (.bl p, ρ1)) : fTest f ρ = some (p, ρ1) := by rw [ap_test, h]; rfl
theorem r_tru (h : f ρ = some (v, ρ1)) (ht : gTru v = some p) : fTru f ρ = some (p, ρ1) := by rw [ap_tru, h]; simp only [Option.bind_some, ht, Option.map_some]
theorem r_not (h : c ρ = some (p, ρ1)) : fNotT c ρ = some (!p, ρ1) := by rw [ap_notT, h]; rfl
theorem r_or (h : c ρ = some (false, ρ1)) (h2 : d ρ1 = some (q, ρ2)) : fOrT c d ρ = some (q, ρ2) := by rw [ap_orT, h]; simp only [Option.bind_some, Bool.false_eq_true, if_false, h2]
theorem r_set (h : f ρ = some (v, ρ1)) : fSet i f ρ = some (.nx, ρ1.set i (some v)) := by rw [ap_set, h]; rfl
theorem r_ret (h : f ρ = some (v, ρ1)) : fRet f ρ = some (.rt v, ρ1) := by rw [ap_ret, h]; rfl
end
theorem gNeD_lst0 : gNeD (.lst []) (.lst []) = some (.bl false) := isV_eq (by decide +kernel)
theorem gTru_bl (b : Bool) : gTru (.bl b) = some b := rfl
theorem gMul_small {a b : Int} (ha : wideI a = true) (hb : wideI b = true) : gMulI (.int a) (.int b) = some (.int (a * b)) := gMul_wide ha hb
theorem wide_pt {p : Nat} (h : p < 9) : wideI ((p : Int) - 4) = true := wide_lt (by omega) (by omega)
def turnB : SF := fSeq (fPar 16 17 (fVar 17) (fOp gSubI (fOp gMulI (fVar 15) (fVar 17)) (fVar 16))) fNx
theorem okS_pair {k : Nat} (hk : k < 13) (c : Int) : okS 8 (.lst [encP (chebL k), .int c]) = true := by
  have hI := ctI
  rw [List.all_eq_true] at hI
  have h := hI k (by simpa using hk)
  rw [Bool.and_eq_true] at h
  simp [okS, okSs, h.2]
theorem turn_loop {k p : Nat} (hk : k < 13) (hp : p < 9) (s t many rows due told prod pol mv pw kk : Option PV) : ∃ tn, loopF (tName 18) turnB (rngP 0 k) [s, t, many, rows, due, none, none, kk, told, prod, pol, mv, none, none, pw, some (.int ((p : Nat) - 4)), some (.int (recV ((p : Nat) - 4) 0).1), some (.int (recV ((p : Nat) - 4) 0).2), none, none, none] = some (.nx, [s, t, many, rows, due, none, none, kk, told, prod, pol, mv, none, none, pw, some (.int ((p : Nat) - 4)), some (.int (recV ((p : Nat) - 4) k).1), some (.int (recV ((p : Nat) - 4) k).2), tn, none, none]) := by
  obtain ⟨ρ', e, tn, er⟩ := loop_at (t := tName 18) (body := turnB) (fun i ρ => ∃ tn, ρ = [s, t, many, rows, due, none, none, kk, told, prod, pol, mv, none, none, pw, some (.int ((p : Nat) - 4)), some (.int (recV ((p : Nat) - 4) i).1), some (.int (recV ((p : Nat) - 4) i).2), tn, none, none]) (rngP 0 k) 0 [s, t, many, rows, due, none, none, kk, told, prod, pol, mv, none, none, pw, some (.int ((p : Nat) - 4)), some (.int (recV ((p : Nat) - 4) 0).1), some (.int (recV ((p : Nat) - 4) 0).2), none, none, none] ⟨none, rfl⟩ (fun i v ρ hv ⟨tn, er⟩ => by
    obtain ⟨hi, rfl⟩ := rngP_get hv
    rw [Nat.zero_add] at er
    subst er
    rw [Nat.zero_add]
    have hw := ctK2
    rw [List.all_eq_true] at hw
    have hw := hw i (by simp; omega)
    rw [List.all_eq_true] at hw
    have hw := hw p (by simpa using hp)
    have hm := gMul_small (wide_pt hp) hw
    refine ⟨_, [s, t, many, rows, due, none, none, kk, told, prod, pol, mv, none, none, pw, some (.int ((p : Nat) - 4)), some (.int (recV ((p : Nat) - 4) (i + 1)).1), some (.int (recV ((p : Nat) - 4) (i + 1)).2), some (.int (0 + (i : Int))), none, none], rfl, .inl ?_, some (.int (0 + (i : Int))), rfl⟩
    have h1 : fPar 16 17 (fVar 17) (fOp gSubI (fOp gMulI (fVar 15) (fVar 17)) (fVar 16)) [s, t, many, rows, due, none, none, kk, told, prod, pol, mv, none, none, pw, some (.int ((p : Nat) - 4)), some (.int (recV ((p : Nat) - 4) i).1), some (.int (recV ((p : Nat) - 4) i).2), some (.int (0 + (i : Int))), none, none] = some (.nx, [s, t, many, rows, due, none, none, kk, told, prod, pol, mv, none, none, pw, some (.int ((p : Nat) - 4)), some (.int (recV ((p : Nat) - 4) (i + 1)).1), some (.int (recV ((p : Nat) - 4) (i + 1)).2), some (.int (0 + (i : Int))), none, none]) := by
      simp [hm, gSub_int, recV]
    exact (seq_nx h1))
  rw [rngP_length, Nat.zero_add] at er
  subst er
  exact ⟨tn, e⟩
theorem law_true (ns : List Int) (h : ns.length ≤ 63) : F_law [.obj 0 (ns.map PV.int)] = some (.bl true) := by
  have g1 : (fSet 1 (fList gListD (aCons (fList gListAll (a1 (fVar 0))) (aCons (fC (.int 0)) (aCons (fC (.int 0)) (aCons (fC (.int 75)) aNil)))))) [some (.obj 0 (ns.map PV.int)), none, none, none, none, none, none, none, none, none, none, none, none, none, none, none, none, none, none, none, none] = some (.nx, [some (.obj 0 (ns.map PV.int)), some (tapeP ns 0 0 75), none, none, none, none, none, none, none, none, none, none, none, none, none, none, none, none, none, none, none]) := by
    simp [gListAll, orL, gListOf, gListD, tapeP]
  obtain ⟨r1, t1, n1, b1, b2, T1⟩ := next_ok (t := tapeP ns 0 0 75) (m := 4) ⟨ns, 0, 0, 75, rfl, by omega, by omega, by omega, by omega⟩ (by omega) (by omega)
  obtain ⟨m, hm⟩ := Int.eq_ofNat_of_zero_le (show 0 ≤ 1 + r1 by omega)
  have h1 : 1 ≤ m := by omega
  have h2 : m ≤ 4 := by omega
  have g2 : (fSet 2 (fOp gAdd (fC (.int 1)) (fCallI 1 F__law_next (oHole 1 (oCons (fC (.int 4)) oNil))))) [some (.obj 0 (ns.map PV.int)), some (tapeP ns 0 0 75), none, none, none, none, none, none, none, none, none, none, none, none, none, none, none, none, none, none, none] = some (.nx, [some (.obj 0 (ns.map PV.int)), some t1, some (.int m), none, none, none, none, none, none, none, none, none, none, none, none, none, none, none, none, none, none]) := by
    generalize F__law_next = G at *
    simp [n1, gAdd_int, hm]
  have g3 : (fSet 3 (fList F_half_diagrams (aCons (fVar 2) aNil))) [some (.obj 0 (ns.map PV.int)), some t1, some (.int m), none, none, none, none, none, none, none, none, none, none, none, none, none, none, none, none, none, none] = some (.nx, [some (.obj 0 (ns.map PV.int)), some t1, some (.int m), some (encH m), none, none, none, none, none, none, none, none, none, none, none, none, none, none, none, none, none]) := by
    have hA := ctA.all h1 h2
    generalize F_half_diagrams = G at *
    simp [hA]
  have g4 : (fSet 4 (fLC [6] (iS (fVar 3)) (tName 6) (fYes) (fLC [5] (iS (fVar 3)) (tName 5) (fYes) (fList gTuple (aCons (fList gTuple (aCons (fList F_circles_of (aCons (fVar 6) (aCons (fVar 5) aNil))) (aCons (fC (.int 1)) aNil))) aNil))))) [some (.obj 0 (ns.map PV.int)), some t1, some (.int m), some (encH m), none, none, none, none, none, none, none, none, none, none, none, none, none, none, none, none, none] = some (.nx, [some (.obj 0 (ns.map PV.int)), some t1, some (.int m), some (encH m), some (encM (gramL m)), none, none, none, none, none, none, none, none, none, none, none, none, none, none, none, none]) := by
    rw [ap_set, due_eq h1 h2]; rfl
  have g5 : (fIf (fOrT (fNotT (fTru (fList (F__law_same 8) (aCons (fList F_gram_table (aCons (fVar 2) aNil)) (aCons (fVar 4) aNil))))) (fTest (fOp gNeD (fLC [7] (iR1 (fList gLenAll (a1 (fVar 3)))) (tName 7) (fTest (fOp gNeD (fList F_circles_of (aCons (fOp gIxAll (fVar 3) (fVar 7)) (aCons (fOp gIxAll (fVar 3) (fVar 7)) aNil))) (fVar 2))) (fVar 7)) (fList gListD aNil)))) (fSeq (fRet (fC (.bl false)))
    (fNx)) (fNx)) [some (.obj 0 (ns.map PV.int)), some t1, some (.int m), some (encH m), some (encM (gramL m)), none, none, none, none, none, none, none, none, none, none, none, none, none, none, none, none] = some (.nx, [some (.obj 0 (ns.map PV.int)), some t1, some (.int m), some (encH m), some (encM (gramL m)), none, none, none, none, none, none, none, none, none, none, none, none, none, none, none, none]) := by
    have s1 := same_refl (ctS.all h1 h2).1
    have s2 := bad_eq h1 h2 (some (.obj 0 (ns.map PV.int))) (some t1)
    have hg := F_gram_eq h1 h2
    exact (if_ff (r_or (r_not (r_tru (r_list (r_cons (r_list (r_cons (r_var rfl) r_nil) hg) (r_cons (r_var rfl) r_nil)) s1) (gTru_bl true))) (r_test (r_op s2 (r_list r_nil gLst0) gNeD_lst0)))).trans rfl

  have g6 : (fSet 8 (fList F_gram_determinant (aCons (fVar 2) aNil))) [some (.obj 0 (ns.map PV.int)), some t1, some (.int m), some (encH m), some (encM (gramL m)), none, none, none, none, none, none, none, none, none, none, none, none, none, none, none, none] = some (.nx, [some (.obj 0 (ns.map PV.int)), some t1, some (.int m), some (encH m), some (encM (gramL m)), none, none, none, some (encP (toldL m)), none, none, none, none, none, none, none, none, none, none, none, none]) := by
    exact r_set (r_list (r_cons (r_var rfl) r_nil) (ctD.all h1 h2))
  have g7 : (fIf (fOrT (fNotT (fTru (fList (F__law_same 8) (aCons (fList F_determinant_of_gram (aCons (fVar 2) aNil)) (aCons (fVar 8) aNil))))) (fAndT (fTest (fOp gLt (fVar 2) (fC (.int 4)))) (fNotT (fTru (fList (F__law_same 8) (aCons (fVar 8) (aCons (fList (F__law_determinant 8) (aCons (fVar 4) aNil)) aNil))))))) (fSeq (fRet (fC (.bl false)))
    (fNx)) (fNx)) [some (.obj 0 (ns.map PV.int)), some t1, some (.int m), some (encH m), some (encM (gramL m)), none, none, none, some (encP (toldL m)), none, none, none, none, none, none, none, none, none, none, none, none] = some (.nx, [some (.obj 0 (ns.map PV.int)), some t1, some (.int m), some (encH m), some (encM (gramL m)), none, none, none, some (encP (toldL m)), none, none, none, none, none, none, none, none, none, none, none, none]) := by
    refine (if_ff (ρ' := [some (.obj 0 (ns.map PV.int)), some t1, some (.int m), some (encH m), some (encM (gramL m)), none, none, none, some (encP (toldL m)), none, none, none, none, none, none, none, none, none, none, none, none]) ?_).trans rfl
    have s1 := same_refl (ctS.all h1 h2).2
    have hg := F_dog_eq h1 h2
    have hF0 : (m : Int) < 4 → F__law_determinant 8 [encM (gramL m)] = some (encP (toldL m)) := fun hm4 => by
      have : m = 1 ∨ m = 2 ∨ m = 3 := by omega
      rcases this with rfl | rfl | rfl
      · exact ctF.1
      · exact ctF.2.1
      · exact ctF.2.2
    generalize F__law_same 8 = G1 at *
    generalize F_determinant_of_gram = G2 at *
    generalize F__law_determinant 8 = G3 at *
    rw [ap_orT, ap_notT, ap_tru, ap_list]
    simp only [ap_aCons, ap_list, ap_var, ap_look, ap_aNil, List.getElem?_cons_zero, List.getElem?_cons_succ, Option.map_some, Option.bind_some, hg, s1, gTru_bl, Bool.not_true, Bool.false_eq_true, if_false]
    by_cases hm4 : (m : Int) < 4
    · have hF := hF0 hm4
      simp [gLt_int, hm4, hF, s1, gTru_bl]
    · simp [gLt_int, hm4]
  have g8 : (fSet 9 (fList gTuple (aCons (fList gTuple (aCons (fC (.int 0)) (aCons (fC (.int 1)) aNil))) aNil))) [some (.obj 0 (ns.map PV.int)), some t1, some (.int m), some (encH m), some (encM (gramL m)), none, none, none, some (encP (toldL m)), none, none, none, none, none, none, none, none, none, none, none, none] = some (.nx, [some (.obj 0 (ns.map PV.int)), some t1, some (.int m), some (encH m), some (encM (gramL m)), none, none, none, some (encP (toldL m)), some (encP [(0, 1)]), none, none, none, none, none, none, none, none, none, none, none]) := by
    rfl
  have g9 : (fSet 10 (fList gListD (aCons (fList gTuple (aCons (fList gTuple (aCons (fC (.int 0)) (aCons (fC (.int 1)) aNil))) aNil)) (aCons (fList gTuple (aCons (fList gTuple (aCons (fC (.int 1)) (aCons (fC (.int 1)) aNil))) aNil)) aNil)))) [some (.obj 0 (ns.map PV.int)), some t1, some (.int m), some (encH m), some (encM (gramL m)), none, none, none, some (encP (toldL m)), some (encP [(0, 1)]), none, none, none, none, none, none, none, none, none, none, none] = some (.nx, [some (.obj 0 (ns.map PV.int)), some t1, some (.int m), some (encH m), some (encM (gramL m)), none, none, none, some (encP (toldL m)), some (encP [(0, 1)]), some (polP 2), none, none, none, none, none, none, none, none, none, none]) := by
    rfl
  obtain ⟨k1, mv1, e10⟩ := pol_loop (m := m) (some (.obj 0 (ns.map PV.int))) (some t1)
  have i10 : iR1 (fC (.int 12)) [some (.obj 0 (ns.map PV.int)), some t1, some (.int m), some (encH m), some (encM (gramL m)), none, none, none, some (encP (toldL m)), some (encP [(0, 1)]), some (polP 2), none, none, none, none, none, none, none, none, none, none] = some (rngP 0 12, [some (.obj 0 (ns.map PV.int)), some t1, some (.int m), some (encH m), some (encM (gramL m)), none, none, none, some (encP (toldL m)), some (encP [(0, 1)]), some (polP 2), none, none, none, none, none, none, none, none, none, none]) := iR1_of (j := 12) rfl (by decide +kernel)
  have g10 := for_of i10 e10
  obtain ⟨k2, pw2, e11⟩ := prod_loop h1 h2 (some (.obj 0 (ns.map PV.int))) (some t1) k1 mv1
  have i11 : iR2 (fC (.int 1)) (fOp gAdd (fVar 2) (fC (.int 1))) [some (.obj 0 (ns.map PV.int)), some t1, some (.int m), some (encH m), some (encM (gramL m)), none, none, k1, some (encP (toldL m)), some (encP [(0, 1)]), some (polP 14), mv1, none, none, none, none, none, none, none, none, none] = some (rngP 1 m, [some (.obj 0 (ns.map PV.int)), some t1, some (.int m), some (encH m), some (encM (gramL m)), none, none, k1, some (encP (toldL m)), some (encP [(0, 1)]), some (polP 14), mv1, none, none, none, none, none, none, none, none, none]) := by
    have := iR2_of (f := fC (.int 1)) (g := fOp gAdd (fVar 2) (fC (.int 1))) (ρ := [some (.obj 0 (ns.map PV.int)), some t1, some (.int m), some (encH m), some (encM (gramL m)), none, none, k1, some (encP (toldL m)), some (encP [(0, 1)]), some (polP 14), mv1, none, none, none, none, none, none, none, none, none]) (ρ' := [some (.obj 0 (ns.map PV.int)), some t1, some (.int m), some (encH m), some (encM (gramL m)), none, none, k1, some (encP (toldL m)), some (encP [(0, 1)]), some (polP 14), mv1, none, none, none, none, none, none, none, none, none]) (ρ'' := [some (.obj 0 (ns.map PV.int)), some t1, some (.int m), some (encH m), some (encM (gramL m)), none, none, k1, some (encP (toldL m)), some (encP [(0, 1)]), some (polP 14), mv1, none, none, none, none, none, none, none, none, none]) (i := 1) (j := (m : Int) + 1) rfl (by simp [gAdd_int]) (by decide +kernel) (by
      have := i62_nat (n := m + 1) (by omega)
      rwa [show ((m + 1 : Nat) : Int) = (m : Int) + 1 from by omega] at this)
    rw [this, show ((m : Int) + 1 - 1).toNat = m from by omega]
  have g11 := for_of i11 e11
  have g12 : (fIf (fNotT (fTru (fList (F__law_same 8) (aCons (fVar 8) (aCons (fVar 9) aNil))))) (fSeq (fRet (fC (.bl false)))
    (fNx)) (fNx)) [some (.obj 0 (ns.map PV.int)), some t1, some (.int m), some (encH m), some (encM (gramL m)), none, none, k2, some (encP (toldL m)), some (encP (prodL m m)), some (polP 14), mv1, none, none, pw2, none, none, none, none, none, none] = some (.nx, [some (.obj 0 (ns.map PV.int)), some t1, some (.int m), some (encH m), some (encM (gramL m)), none, none, k2, some (encP (toldL m)), some (encP (prodL m m)), some (polP 14), mv1, none, none, pw2, none, none, none, none, none, none]) := by
    refine (if_ff (ρ' := [some (.obj 0 (ns.map PV.int)), some t1, some (.int m), some (encH m), some (encM (gramL m)), none, none, k2, some (encP (toldL m)), some (encP (prodL m m)), some (polP 14), mv1, none, none, pw2, none, none, none, none, none, none]) ?_).trans rfl
    have s1 := same_refl (ctS.all h1 h2).2
    have hq := (ctH2.all h1 h2).2
    generalize F__law_same 8 = G at *
    simp [hq, s1, gTru_bl]
  obtain ⟨r2, t2, n2, b3, b4, T2⟩ := next_ok (m := 13) T1 (by omega) (by omega)
  obtain ⟨k, rfl⟩ := Int.eq_ofNat_of_zero_le b3
  obtain ⟨r3, t3, n3, b5, b6, T3⟩ := next_ok (m := 9) T2 (by omega) (by omega)
  obtain ⟨p, rfl⟩ := Int.eq_ofNat_of_zero_le b5
  have hk : k < 13 := by omega
  have hp : p < 9 := by omega
  have g13 : (fPar 7 15 (fCallI 1 F__law_next (oHole 1 (oCons (fC (.int 13)) oNil))) (fOp gSubI (fCallI 1 F__law_next (oHole 1 (oCons (fC (.int 9)) oNil))) (fC (.int 4)))) [some (.obj 0 (ns.map PV.int)), some t1, some (.int m), some (encH m), some (encM (gramL m)), none, none, k2, some (encP (toldL m)), some (encP (prodL m m)), some (polP 14), mv1, none, none, pw2, none, none, none, none, none, none] = some (.nx, [some (.obj 0 (ns.map PV.int)), some t3, some (.int m), some (encH m), some (encM (gramL m)), none, none, some (.int (k : Nat)), some (encP (toldL m)), some (encP (prodL m m)), some (polP 14), mv1, none, none, pw2, some (.int ((p : Nat) - 4)), none, none, none, none, none]) := by
    generalize F__law_next = G at *
    simp [n2, n3, gSub_int]
  have g14 : (fAsg (fList gTuple (aCons (fC (.int 0)) (aCons (fC (.int 1)) aNil))) (tTupG 2 (tsCons (tName 16) (tsCons (tName 17) tsNil)))) [some (.obj 0 (ns.map PV.int)), some t3, some (.int m), some (encH m), some (encM (gramL m)), none, none, some (.int (k : Nat)), some (encP (toldL m)), some (encP (prodL m m)), some (polP 14), mv1, none, none, pw2, some (.int ((p : Nat) - 4)), none, none, none, none, none] = some (.nx, [some (.obj 0 (ns.map PV.int)), some t3, some (.int m), some (encH m), some (encM (gramL m)), none, none, some (.int (k : Nat)), some (encP (toldL m)), some (encP (prodL m m)), some (polP 14), mv1, none, none, pw2, some (.int ((p : Nat) - 4)), some (.int 0), some (.int 1), none, none, none]) := by
    rfl
  obtain ⟨tn, e15⟩ := turn_loop hk hp (some (.obj 0 (ns.map PV.int))) (some t3) (some (.int m)) (some (encH m)) (some (encM (gramL m))) (some (encP (toldL m))) (some (encP (prodL m m))) (some (polP 14)) mv1 pw2 (some (.int (k : Int)))
  have i15 : iR1 (fVar 7) [some (.obj 0 (ns.map PV.int)), some t3, some (.int m), some (encH m), some (encM (gramL m)), none, none, some (.int (k : Nat)), some (encP (toldL m)), some (encP (prodL m m)), some (polP 14), mv1, none, none, pw2, some (.int ((p : Nat) - 4)), some (.int 0), some (.int 1), none, none, none] = some (rngP 0 k, [some (.obj 0 (ns.map PV.int)), some t3, some (.int m), some (encH m), some (encM (gramL m)), none, none, some (.int (k : Nat)), some (encP (toldL m)), some (encP (prodL m m)), some (polP 14), mv1, none, none, pw2, some (.int ((p : Nat) - 4)), some (.int 0), some (.int 1), none, none, none]) := iR1_of (j := (k : Int)) rfl (i62_nat (by omega))
  have g15 := for_of i15 e15
  obtain ⟨r4, t4, n4, b7, b8, T4⟩ := next_ok (m := 21) T3 (by omega) (by omega)
  obtain ⟨u, rfl⟩ := Int.eq_ofNat_of_zero_le b7
  obtain ⟨r5, t5, n5, b9, b10, T5⟩ := next_ok (m := 25) T4 (by omega) (by omega)
  obtain ⟨v, rfl⟩ := Int.eq_ofNat_of_zero_le b9
  have hu : u < 21 := by omega
  have hv : v < 25 := by omega
  have hI := ctI
  rw [List.all_eq_true] at hI
  have hI := hI k (by simpa using hk)
  rw [Bool.and_eq_true] at hI
  have hI := isV_eq hI.1
  have hJ := ctJ
  rw [List.all_eq_true] at hJ
  have hJ := hJ u (by simpa using hu)
  rw [List.all_eq_true] at hJ
  have hJ := isV_eq (hJ v (by simpa using hv))
  have hJ2 : F__law_choices [.int (u : Int), .int ((v : Int) - 3)] = some (.int (chL u ((v : Int) - 3))) := law_choices_eq (by omega) _
  have hK := ctK
  rw [List.all_eq_true] at hK
  have hK := hK k (by simpa using hk)
  rw [List.all_eq_true] at hK
  have hK := isV_eq (hK p (by simpa using hp))
  have hpol : gIxAll (polP 14) (.int (k : Int)) = some (encP (chebL k)) := polP_at (by omega)
  have g16 : (fPar 19 20 (fCallI 1 F__law_next (oHole 1 (oCons (fC (.int 21)) oNil))) (fOp gSubI (fCallI 1 F__law_next (oHole 1 (oCons (fC (.int 25)) oNil))) (fC (.int 3)))) [some (.obj 0 (ns.map PV.int)), some t3, some (.int m), some (encH m), some (encM (gramL m)), none, none, some (.int (k : Nat)), some (encP (toldL m)), some (encP (prodL m m)), some (polP 14), mv1, none, none, pw2, some (.int ((p : Nat) - 4)), some (.int (recV ((p : Nat) - 4) k).1), some (.int (recV ((p : Nat) - 4) k).2), tn, none, none] = some (.nx, [some (.obj 0 (ns.map PV.int)), some t5, some (.int m), some (encH m), some (encM (gramL m)), none, none, some (.int (k : Nat)), some (encP (toldL m)), some (encP (prodL m m)), some (polP 14), mv1, none, none, pw2, some (.int ((p : Nat) - 4)), some (.int (recV ((p : Nat) - 4) k).1), some (.int (recV ((p : Nat) - 4) k).2), tn, some (.int (u : Nat)), some (.int ((v : Nat) - 3))]) := by
    generalize F__law_next = G at *
    simp [n4, n5, gSub_int]
  have g17 : (fIf (fNotT (fTru (fList (F__law_same 8) (aCons (fList gListD (aCons (fList F_chebyshev (aCons (fVar 7) aNil)) (aCons (fList F_choices (aCons (fVar 19) (aCons (fVar 20) aNil))) aNil))) (aCons (fList gListD (aCons (fOpO gIxAll 10 (fVar 7)) (aCons (fList F__law_choices (aCons (fVar 19) (aCons (fVar 20) aNil))) aNil))) aNil))))) (fSeq (fRet (fC (.bl false)))
    (fNx)) (fNx)) [some (.obj 0 (ns.map PV.int)), some t5, some (.int m), some (encH m), some (encM (gramL m)), none, none, some (.int (k : Nat)), some (encP (toldL m)), some (encP (prodL m m)), some (polP 14), mv1, none, none, pw2, some (.int ((p : Nat) - 4)), some (.int (recV ((p : Nat) - 4) k).1), some (.int (recV ((p : Nat) - 4) k).2), tn, some (.int (u : Nat)), some (.int ((v : Nat) - 3))] = some (.nx, [some (.obj 0 (ns.map PV.int)), some t5, some (.int m), some (encH m), some (encM (gramL m)), none, none, some (.int (k : Nat)), some (encP (toldL m)), some (encP (prodL m m)), some (polP 14), mv1, none, none, pw2, some (.int ((p : Nat) - 4)), some (.int (recV ((p : Nat) - 4) k).1), some (.int (recV ((p : Nat) - 4) k).2), tn, some (.int (u : Nat)), some (.int ((v : Nat) - 3))]) := by
    have s1 := same_refl (okS_pair hk (chL u ((v : Int) - 3)))
    have l2 : ∀ a b : PV, gListD [a, b] = some (.lst [a, b]) := fun a b => rfl
    exact (if_ff (r_not (r_tru (r_list (r_cons (r_list (r_cons (r_list (r_cons (r_var rfl) r_nil) hI) (r_cons (r_list (r_cons (r_var rfl) (r_cons (r_var rfl) r_nil)) hJ) r_nil)) (l2 _ _)) (r_cons (r_list (r_cons (r_opO rfl (r_var rfl) rfl hpol) (r_cons (r_list (r_cons (r_var rfl) (r_cons (r_var rfl) r_nil)) hJ2) r_nil)) (l2 _ _)) r_nil)) s1) (gTru_bl true)))).trans rfl

  have g18 : (fRet (fOp gEqD (fList F__law_value (aCons (fList F_chebyshev (aCons (fVar 7) aNil)) (aCons (fVar 15) aNil))) (fVar 17))) [some (.obj 0 (ns.map PV.int)), some t5, some (.int m), some (encH m), some (encM (gramL m)), none, none, some (.int (k : Nat)), some (encP (toldL m)), some (encP (prodL m m)), some (polP 14), mv1, none, none, pw2, some (.int ((p : Nat) - 4)), some (.int (recV ((p : Nat) - 4) k).1), some (.int (recV ((p : Nat) - 4) k).2), tn, some (.int (u : Nat)), some (.int ((v : Nat) - 3))] = some (.rt (.bl true), [some (.obj 0 (ns.map PV.int)), some t5, some (.int m), some (encH m), some (encM (gramL m)), none, none, some (.int (k : Nat)), some (encP (toldL m)), some (encP (prodL m m)), some (polP 14), mv1, none, none, pw2, some (.int ((p : Nat) - 4)), some (.int (recV ((p : Nat) - 4) k).1), some (.int (recV ((p : Nat) - 4) k).2), tn, some (.int (u : Nat)), some (.int ((v : Nat) - 3))]) := by
    have hq : gEqD (.int (recV ((p : Int) - 4) k).2) (.int (recV ((p : Int) - 4) k).2) = some (.bl true) := by rw [gEqD_int]; simp
    exact r_ret (r_op (r_list (r_cons (r_list (r_cons (r_var rfl) r_nil) hI) (r_cons (r_var rfl) r_nil)) hK) (r_var rfl) hq)
  refine run_rt (ρ' := [some (.obj 0 (ns.map PV.int)), some t5, some (.int m), some (encH m), some (encM (gramL m)), none, none, some (.int (k : Nat)), some (encP (toldL m)), some (encP (prodL m m)), some (polP 14), mv1, none, none, pw2, some (.int ((p : Nat) - 4)), some (.int (recV ((p : Nat) - 4) k).1), some (.int (recV ((p : Nat) - 4) k).2), tn, some (.int (u : Nat)), some (.int ((v : Nat) - 3))]) ?_
  show b_law [some (.obj 0 (ns.map PV.int)), none, none, none, none, none, none, none, none, none, none, none, none, none, none, none, none, none, none, none, none] = _
  unfold b_law
  rw [seq_nx g1, seq_nx g2, seq_nx g3, seq_nx g4, seq_nx g5, seq_nx g6, seq_nx g7, seq_nx g8, seq_nx g9]
  refine (seq_nx g10).trans ?_
  refine (seq_nx g11).trans ?_
  rw [seq_nx g12, seq_nx g13, seq_nx g14]
  refine (seq_nx g15).trans ?_
  rw [seq_nx g16, seq_nx g17, seq_rt g18]
end
end k75
end PT

set_option Elab.async false
set_option linter.all false
set_option autoImplicit false
set_option maxRecDepth 100000
set_option maxHeartbeats 4000000
namespace PT.k75
open PySem PySem.Spec PyProof.Rows L2 PT
theorem all {l : PySem.W.OpenLaw} {w : World} {K : PySem.W.Frag} {h : Heap} {mg : Str → Option Value} {fa : Addr} {t2 : _} {t3 : _} {a1 : Addr} {n1 : Nat} {sl1 : Array (Option Value)} {a0 : Addr} {n0 : Nat} {sl0 : Array (Option Value)} (X : K.In h) (G : h.Ns mainGlobals mg) (hfa : mg "law" = some (.ref fa))
    (z_abs : PySem.W.nsIn K mainGlobals "abs" = some none)
    (z_bool : PySem.W.nsIn K mainGlobals "bool" = some none)
    (z_dict : PySem.W.nsIn K mainGlobals "dict" = some none)
    (z_int : PySem.W.nsIn K mainGlobals "int" = some none)
    (z_isinstance : PySem.W.nsIn K mainGlobals "isinstance" = some none)
    (z_len : PySem.W.nsIn K mainGlobals "len" = some none)
    (z_list : PySem.W.nsIn K mainGlobals "list" = some none)
    (z_max : PySem.W.nsIn K mainGlobals "max" = some none)
    (z_min : PySem.W.nsIn K mainGlobals "min" = some none)
    (z_range : PySem.W.nsIn K mainGlobals "range" = some none)
    (z_sorted : PySem.W.nsIn K mainGlobals "sorted" = some none)
    (z_str : PySem.W.nsIn K mainGlobals "str" = some none)
    (z_tuple : PySem.W.nsIn K mainGlobals "tuple" = some none)
    (g_ONE : PySem.W.nsIn K mainGlobals "ONE" = some (some (.ref a0)))
    (l_ONE_0 : K.lookup a0 = some ⟨.type "tuple", none, .seq #[.ref a1] n0, sl0⟩)
    (l_ONE_1 : K.lookup a1 = some ⟨.type "tuple", none, .seq #[.int 0 t2, .int 1 t3] n1, sl1⟩)
    (r_gathered : RawAt K "gathered" s_gathered)
    (r_plus : RawAt K "plus" s_plus)
    (r_scaled : RawAt K "scaled" s_scaled)
    (r_minus : RawAt K "minus" s_minus)
    (r_times : RawAt K "times" s_times)
    (r_divided : RawAt K "divided" s_divided)
    (r_table_determinant : RawAt K "table_determinant" s_table_determinant)
    (r_matchings : RawAt K "matchings" s_matchings)
    (r_chebyshev : RawAt K "chebyshev" s_chebyshev)
    (r_half_diagrams : RawAt K "half_diagrams" s_half_diagrams)
    (r_circles_of : RawAt K "circles_of" s_circles_of)
    (r_gram_table : RawAt K "gram_table" s_gram_table)
    (r_choices : RawAt K "choices" s_choices)
    (r_gram_determinant : RawAt K "gram_determinant" s_gram_determinant)
    (r_determinant_of_gram : RawAt K "determinant_of_gram" s_determinant_of_gram)
    (r__law_next : RawAt K "_law_next" s__law_next)
    (r__law_same : RawAt K "_law_same" s__law_same)
    (r__law_plus : RawAt K "_law_plus" s__law_plus)
    (r__law_times : RawAt K "_law_times" s__law_times)
    (r__law_power : RawAt K "_law_power" s__law_power)
    (r__law_determinant : RawAt K "_law_determinant" s__law_determinant)
    (r__law_choices : RawAt K "_law_choices" s__law_choices)
    (r__law_value : RawAt K "_law_value" s__law_value)
    (r_law : RawAt K "law" s_law)
    : ∃ fd : FuncData, (∀ (s : Shared) (v : Value), BindsTo s fd ⟨[v], []⟩ [("script", v)]) ∧ ∀ base : Heap, K.In base → base.Ns mainGlobals mg → FnOk l.prog w K mg base CX0 17 fa fd ["script"] (spF K 1 F_law) := by
  have T : Txt K mg := { n_abs := PySem.W.mg_none_of X G z_abs, n_bool := PySem.W.mg_none_of X G z_bool, n_dict := PySem.W.mg_none_of X G z_dict, n_int := PySem.W.mg_none_of X G z_int, n_isinstance := PySem.W.mg_none_of X G z_isinstance, n_len := PySem.W.mg_none_of X G z_len, n_list := PySem.W.mg_none_of X G z_list, n_max := PySem.W.mg_none_of X G z_max, n_min := PySem.W.mg_none_of X G z_min, n_range := PySem.W.mg_none_of X G z_range, n_sorted := PySem.W.mg_none_of X G z_sorted, n_str := PySem.W.mg_none_of X G z_str, n_tuple := PySem.W.mg_none_of X G z_tuple, g_ONE := ⟨_, PySem.W.mg_of X G g_ONE, (rep_tupK (vs := [.ref a1]) l_ONE_0 (size_ok (n := 1) rfl (by decide)) (.cons rfl .nil) (repL_consK (rep_tupK (vs := [.int 0, .int 1]) l_ONE_1 (size_ok (n := 2) rfl (by decide)) (.cons ⟨_, rfl⟩ (.cons ⟨_, rfl⟩ .nil)) (repL_consK rep_intK (repL_consK rep_intK repL_nilK))) repL_nilK))⟩ }
  obtain ⟨f_gathered, fd_gathered, d_gathered⟩ := r_gathered.at (ps := ["terms"]) X G (fun _ _ _ _ _ _ us hl => match us, hl with | [_], _ => rfl)
  obtain ⟨f_plus, fd_plus, d_plus⟩ := r_plus.at (ps := ["first", "second"]) X G (fun _ _ _ _ _ _ us hl => match us, hl with | [_, _], _ => rfl)
  obtain ⟨f_scaled, fd_scaled, d_scaled⟩ := r_scaled.at (ps := ["polynomial", "number"]) X G (fun _ _ _ _ _ _ us hl => match us, hl with | [_, _], _ => rfl)
  obtain ⟨f_minus, fd_minus, d_minus⟩ := r_minus.at (ps := ["first", "second"]) X G (fun _ _ _ _ _ _ us hl => match us, hl with | [_, _], _ => rfl)
  obtain ⟨f_times, fd_times, d_times⟩ := r_times.at (ps := ["first", "second"]) X G (fun _ _ _ _ _ _ us hl => match us, hl with | [_, _], _ => rfl)
  obtain ⟨f_divided, fd_divided, d_divided⟩ := r_divided.at (ps := ["first", "second"]) X G (fun _ _ _ _ _ _ us hl => match us, hl with | [_, _], _ => rfl)
  obtain ⟨f_table_determinant, fd_table_determinant, d_table_determinant⟩ := r_table_determinant.at (ps := ["table"]) X G (fun _ _ _ _ _ _ us hl => match us, hl with | [_], _ => rfl)
  obtain ⟨f_matchings, fd_matchings, d_matchings⟩ := r_matchings.at (ps := ["start", "end"]) X G (fun _ _ _ _ _ _ us hl => match us, hl with | [_, _], _ => rfl)
  obtain ⟨f_chebyshev, fd_chebyshev, d_chebyshev⟩ := r_chebyshev.at (ps := ["many"]) X G (fun _ _ _ _ _ _ us hl => match us, hl with | [_], _ => rfl)
  obtain ⟨f_half_diagrams, fd_half_diagrams, d_half_diagrams⟩ := r_half_diagrams.at (ps := ["many"]) X G (fun _ _ _ _ _ _ us hl => match us, hl with | [_], _ => rfl)
  obtain ⟨f_circles_of, fd_circles_of, d_circles_of⟩ := r_circles_of.at (ps := ["first", "second"]) X G (fun _ _ _ _ _ _ us hl => match us, hl with | [_, _], _ => rfl)
  obtain ⟨f_gram_table, fd_gram_table, d_gram_table⟩ := r_gram_table.at (ps := ["many"]) X G (fun _ _ _ _ _ _ us hl => match us, hl with | [_], _ => rfl)
  obtain ⟨f_choices, fd_choices, d_choices⟩ := r_choices.at (ps := ["total", "some"]) X G (fun _ _ _ _ _ _ us hl => match us, hl with | [_, _], _ => rfl)
  obtain ⟨f_gram_determinant, fd_gram_determinant, d_gram_determinant⟩ := r_gram_determinant.at (ps := ["many"]) X G (fun _ _ _ _ _ _ us hl => match us, hl with | [_], _ => rfl)
  obtain ⟨f_determinant_of_gram, fd_determinant_of_gram, d_determinant_of_gram⟩ := r_determinant_of_gram.at (ps := ["many"]) X G (fun _ _ _ _ _ _ us hl => match us, hl with | [_], _ => rfl)
  obtain ⟨f__law_next, fd__law_next, d__law_next⟩ := r__law_next.at (ps := ["tape", "many"]) X G (fun _ _ _ _ _ _ us hl => match us, hl with | [_, _], _ => rfl)
  obtain ⟨f__law_same, fd__law_same, d__law_same⟩ := r__law_same.at (ps := ["told", "due"]) X G (fun _ _ _ _ _ _ us hl => match us, hl with | [_, _], _ => rfl)
  obtain ⟨f__law_plus, fd__law_plus, d__law_plus⟩ := r__law_plus.at (ps := ["first", "second"]) X G (fun _ _ _ _ _ _ us hl => match us, hl with | [_, _], _ => rfl)
  obtain ⟨f__law_times, fd__law_times, d__law_times⟩ := r__law_times.at (ps := ["first", "second"]) X G (fun _ _ _ _ _ _ us hl => match us, hl with | [_, _], _ => rfl)
  obtain ⟨f__law_power, fd__law_power, d__law_power⟩ := r__law_power.at (ps := ["polynomial", "many"]) X G (fun _ _ _ _ _ _ us hl => match us, hl with | [_, _], _ => rfl)
  obtain ⟨f__law_determinant, fd__law_determinant, d__law_determinant⟩ := r__law_determinant.at (ps := ["rows"]) X G (fun _ _ _ _ _ _ us hl => match us, hl with | [_], _ => rfl)
  obtain ⟨f__law_choices, fd__law_choices, d__law_choices⟩ := r__law_choices.at (ps := ["total", "some"]) X G (fun _ _ _ _ _ _ us hl => match us, hl with | [_, _], _ => rfl)
  obtain ⟨f__law_value, fd__law_value, d__law_value⟩ := r__law_value.at (ps := ["polynomial", "point"]) X G (fun _ _ _ _ _ _ us hl => match us, hl with | [_, _], _ => rfl)
  obtain ⟨f_law, fd_law, d_law, hb⟩ := r_law.law X G (fun _ _ _ _ _ _ us hl => match us, hl with | [_], _ => rfl)
  have e := hfa.symm.trans d_law.mg
  cases e
  refine ⟨fd_law, hb, fun base _ _ => ?_⟩
  have c_gathered : CallOk l.prog w K mg base 1 "gathered" 1 F_gathered := d_gathered.call (ok_gathered d_gathered.fn T ) rfl
  have c_plus : CallOk l.prog w K mg base 2 "plus" 2 F_plus := d_plus.call (ok_plus d_plus.fn T c_gathered) rfl
  have c_scaled : CallOk l.prog w K mg base 1 "scaled" 2 F_scaled := d_scaled.call (ok_scaled d_scaled.fn T ) rfl
  have c_minus : CallOk l.prog w K mg base 3 "minus" 2 F_minus := d_minus.call (ok_minus d_minus.fn T c_plus c_scaled) rfl
  have c_times : CallOk l.prog w K mg base 2 "times" 2 F_times := d_times.call (ok_times d_times.fn T c_gathered) rfl
  have c_divided : CallOk l.prog w K mg base 2 "divided" 2 F_divided := d_divided.call (ok_divided d_divided.fn T c_gathered) rfl
  have c_table_determinant : CallOk l.prog w K mg base 4 "table_determinant" 1 F_table_determinant := d_table_determinant.call (ok_table_determinant d_table_determinant.fn T c_scaled c_divided c_minus c_times) rfl
  have c_matchings : CallOk l.prog w K mg base 13 "matchings" 2 (F_matchings 12) := d_matchings.call (ok_matchings d_matchings.fn T d_matchings.mg d_matchings.bi  12) rfl
  have c_chebyshev : CallOk l.prog w K mg base 4 "chebyshev" 1 F_chebyshev := d_chebyshev.call (ok_chebyshev d_chebyshev.fn T c_minus c_times) rfl
  have c_half_diagrams : CallOk l.prog w K mg base 14 "half_diagrams" 1 F_half_diagrams := d_half_diagrams.call (ok_half_diagrams d_half_diagrams.fn T c_matchings) rfl
  have c_circles_of : CallOk l.prog w K mg base 1 "circles_of" 2 F_circles_of := d_circles_of.call (ok_circles_of d_circles_of.fn T ) rfl
  have c_gram_table : CallOk l.prog w K mg base 15 "gram_table" 1 F_gram_table := d_gram_table.call (ok_gram_table d_gram_table.fn T c_half_diagrams c_circles_of) rfl
  have c_choices : CallOk l.prog w K mg base 1 "choices" 2 F_choices := d_choices.call (ok_choices d_choices.fn T ) rfl
  have c_gram_determinant : CallOk l.prog w K mg base 5 "gram_determinant" 1 F_gram_determinant := d_gram_determinant.call (ok_gram_determinant d_gram_determinant.fn T c_choices c_times c_chebyshev) rfl
  have c_determinant_of_gram : CallOk l.prog w K mg base 16 "determinant_of_gram" 1 F_determinant_of_gram := d_determinant_of_gram.call (ok_determinant_of_gram d_determinant_of_gram.fn T c_table_determinant c_gram_table) rfl
  have c__law_next : CallIo l.prog w K mg base 1 "_law_next" 2 0 F__law_next := d__law_next.callI (ok__law_next d__law_next.fn T ) rfl
  have c__law_same : CallOk l.prog w K mg base 9 "_law_same" 2 (F__law_same 8) := d__law_same.call (ok__law_same d__law_same.fn T d__law_same.mg d__law_same.bi  8) rfl
  have c__law_plus : CallOk l.prog w K mg base 1 "_law_plus" 2 F__law_plus := d__law_plus.call (ok__law_plus d__law_plus.fn T ) rfl
  have c__law_times : CallOk l.prog w K mg base 2 "_law_times" 2 F__law_times := d__law_times.call (ok__law_times d__law_times.fn T c__law_plus) rfl
  have c__law_power : CallOk l.prog w K mg base 3 "_law_power" 2 F__law_power := d__law_power.call (ok__law_power d__law_power.fn T c__law_times) rfl
  have c__law_determinant : CallOk l.prog w K mg base 11 "_law_determinant" 1 (F__law_determinant 8) := d__law_determinant.call (ok__law_determinant d__law_determinant.fn T d__law_determinant.mg d__law_determinant.bi c__law_times c__law_plus 8) rfl
  have c__law_choices : CallOk l.prog w K mg base 1 "_law_choices" 2 F__law_choices := d__law_choices.call (ok__law_choices d__law_choices.fn T ) rfl
  have c__law_value : CallOk l.prog w K mg base 1 "_law_value" 2 F__law_value := d__law_value.call (ok__law_value d__law_value.fn T ) rfl
  exact ok_law d_law.fn T c_half_diagrams c_gram_determinant c__law_next c__law_times c__law_same c__law_value c__law_plus c__law_choices c__law_power c_chebyshev c_gram_table c_determinant_of_gram c_choices c_circles_of c__law_determinant
end PT.k75
open PySem PySem.W PyProof.Rows in
set_option maxRecDepth 100000 in
set_option maxHeartbeats 0 in
theorem PySem.Challenge.cw_knotpapers_k75_whole_tables_of_circles_holds : PySem.Challenge.rw_knotpapers_k75_whole_tables_of_circles.Holds := by
  w_on; o_law; k_head; (case hw => w_witness2)
  k_fill
  refine PT.walkP (l := PySem.Challenge.rw_knotpapers_k75_whole_tables_of_circles) (k := 17) (F := PT.k75.F_law) rfl rfl (by decide) (fun w h Y => PySem.W.kIn_of Y) ?G PT.k75.law_true
  case G =>
    intro w mg fa h KX G hmg
    refine' PT.k75.all KX G hmg ?z_abs ?z_bool ?z_dict ?z_int ?z_isinstance ?z_len ?z_list ?z_max ?z_min ?z_range ?z_sorted ?z_str ?z_tuple ?g_ONE ?l_ONE_0 ?l_ONE_1 (.mk ?a_gathered ?l_gathered ?c_gathered ?k_gathered) (.mk ?a_plus ?l_plus ?c_plus ?k_plus) (.mk ?a_scaled ?l_scaled ?c_scaled ?k_scaled) (.mk ?a_minus ?l_minus ?c_minus ?k_minus) (.mk ?a_times ?l_times ?c_times ?k_times) (.mk ?a_divided ?l_divided ?c_divided ?k_divided) (.mk ?a_table_determinant ?l_table_determinant ?c_table_determinant ?k_table_determinant) (.mk ?a_matchings ?l_matchings ?c_matchings ?k_matchings) (.mk ?a_chebyshev ?l_chebyshev ?c_chebyshev ?k_chebyshev) (.mk ?a_half_diagrams ?l_half_diagrams ?c_half_diagrams ?k_half_diagrams) (.mk ?a_circles_of ?l_circles_of ?c_circles_of ?k_circles_of) (.mk ?a_gram_table ?l_gram_table ?c_gram_table ?k_gram_table) (.mk ?a_choices ?l_choices ?c_choices ?k_choices) (.mk ?a_gram_determinant ?l_gram_determinant ?c_gram_determinant ?k_gram_determinant) (.mk ?a_determinant_of_gram ?l_determinant_of_gram ?c_determinant_of_gram ?k_determinant_of_gram) (.mk ?a__law_next ?l__law_next ?c__law_next ?k__law_next) (.mk ?a__law_same ?l__law_same ?c__law_same ?k__law_same) (.mk ?a__law_plus ?l__law_plus ?c__law_plus ?k__law_plus) (.mk ?a__law_times ?l__law_times ?c__law_times ?k__law_times) (.mk ?a__law_power ?l__law_power ?c__law_power ?k__law_power) (.mk ?a__law_determinant ?l__law_determinant ?c__law_determinant ?k__law_determinant) (.mk ?a__law_choices ?l__law_choices ?c__law_choices ?k__law_choices) (.mk ?a__law_value ?l__law_value ?c__law_value ?k__law_value) (.mk ?a_law ?l_law ?c_law ?k_law)
    (case z_abs => k_is)
    (case z_bool => k_is)
    (case z_dict => k_is)
    (case z_int => k_is)
    (case z_isinstance => k_is)
    (case z_len => k_is)
    (case z_list => k_is)
    (case z_max => k_is)
    (case z_min => k_is)
    (case z_range => k_is)
    (case z_sorted => k_is)
    (case z_str => k_is)
    (case z_tuple => k_is)
    (case g_ONE => k_is)
    (case l_ONE_0 => k_is)
    (case l_ONE_1 => k_is)
    (case a_gathered => k_is)
    (case l_gathered => k_is)
    (case c_gathered => k_is)
    (case k_gathered => k_is)
    (case a_plus => k_is)
    (case l_plus => k_is)
    (case c_plus => k_is)
    (case k_plus => k_is)
    (case a_scaled => k_is)
    (case l_scaled => k_is)
    (case c_scaled => k_is)
    (case k_scaled => k_is)
    (case a_minus => k_is)
    (case l_minus => k_is)
    (case c_minus => k_is)
    (case k_minus => k_is)
    (case a_times => k_is)
    (case l_times => k_is)
    (case c_times => k_is)
    (case k_times => k_is)
    (case a_divided => k_is)
    (case l_divided => k_is)
    (case c_divided => k_is)
    (case k_divided => k_is)
    (case a_table_determinant => k_is)
    (case l_table_determinant => k_is)
    (case c_table_determinant => k_is)
    (case k_table_determinant => k_is)
    (case a_matchings => k_is)
    (case l_matchings => k_is)
    (case c_matchings => k_is)
    (case k_matchings => k_is)
    (case a_chebyshev => k_is)
    (case l_chebyshev => k_is)
    (case c_chebyshev => k_is)
    (case k_chebyshev => k_is)
    (case a_half_diagrams => k_is)
    (case l_half_diagrams => k_is)
    (case c_half_diagrams => k_is)
    (case k_half_diagrams => k_is)
    (case a_circles_of => k_is)
    (case l_circles_of => k_is)
    (case c_circles_of => k_is)
    (case k_circles_of => k_is)
    (case a_gram_table => k_is)
    (case l_gram_table => k_is)
    (case c_gram_table => k_is)
    (case k_gram_table => k_is)
    (case a_choices => k_is)
    (case l_choices => k_is)
    (case c_choices => k_is)
    (case k_choices => k_is)
    (case a_gram_determinant => k_is)
    (case l_gram_determinant => k_is)
    (case c_gram_determinant => k_is)
    (case k_gram_determinant => k_is)
    (case a_determinant_of_gram => k_is)
    (case l_determinant_of_gram => k_is)
    (case c_determinant_of_gram => k_is)
    (case k_determinant_of_gram => k_is)
    (case a__law_next => k_is)
    (case l__law_next => k_is)
    (case c__law_next => k_is)
    (case k__law_next => k_is)
    (case a__law_same => k_is)
    (case l__law_same => k_is)
    (case c__law_same => k_is)
    (case k__law_same => k_is)
    (case a__law_plus => k_is)
    (case l__law_plus => k_is)
    (case c__law_plus => k_is)
    (case k__law_plus => k_is)
    (case a__law_times => k_is)
    (case l__law_times => k_is)
    (case c__law_times => k_is)
    (case k__law_times => k_is)
    (case a__law_power => k_is)
    (case l__law_power => k_is)
    (case c__law_power => k_is)
    (case k__law_power => k_is)
    (case a__law_determinant => k_is)
    (case l__law_determinant => k_is)
    (case c__law_determinant => k_is)
    (case k__law_determinant => k_is)
    (case a__law_choices => k_is)
    (case l__law_choices => k_is)
    (case c__law_choices => k_is)
    (case k__law_choices => k_is)
    (case a__law_value => k_is)
    (case l__law_value => k_is)
    (case c__law_value => k_is)
    (case k__law_value => k_is)
    (case a_law => k_is)
    (case l_law => k_is)
    (case c_law => k_is)
    (case k_law => k_is)

