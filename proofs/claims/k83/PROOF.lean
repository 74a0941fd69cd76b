import PyProof.Rows.All
import Wide.All
import OpenK.AllK
import Wide.FinOn
import HandS.ForMost
import HandS.Flow
import HandS.SortInts
import KE.KDictKeyed
import KE.KDictDisplayH
import HandS.TupAny
import HandS.Style
import HandS.Conv
import HandS.NoneIn
import HandS.Wide
import HandS.IsInst
import HandS.Deep
import KE.SortData
import HandS.More
import KE.KDictPairs
import HandS.Iter
import KE.KDictCopyH
import KE.KDictSum
import HandS.TupLen
import HandS.DictComp
import KE.KEqDict
import KE.KDictOf
import PyProof.Transfer
import HandS.Exc
import HandS.TupLe
import PySem.Challenge.RW_knotpapers_k83_whole_ways_to_lesser_word
set_option Elab.async false
set_option linter.all false
set_option maxRecDepth 100000
set_option maxHeartbeats 4000000
/-! PT1: values as plain trees, how the abstract heap bears them, the state of a def's body. -/
namespace PT
open PySem PySem.Spec PyProof.Rows L2

/-- a value, a plain tree -/
inductive PV where
  | non | bl (b : Bool) | int (i : Int) | str (x : Str) | tup (xs : List PV) | lst (xs : List PV) | dct (kvs : List (PV × PV))
  | dit (kvs : List (PV × PV)) | obj (c : Nat) (fs : List PV)

/-! ### keys that are tuples of numbers and of such tuples -/
mutual
def nkey : PV → Option NestedKey
  | .int i => some (.num i)
  | .tup xs => (nkeys xs).map NestedKey.tup
  | _ => none
def nkeys : List PV → Option (List NestedKey)
  | [] => some []
  | x :: xs => match nkey x, nkeys xs with
    | some k, some ks => some (k :: ks)
    | _, _ => none
end
/-- a key of a dict: a tuple, not too deep -/
def tkey : PV → Option NestedKey
  | .tup xs => match nkeys xs with
    | some ks => if decide (NestedKey.depth (.tup ks) ≤ 8) = true then some (.tup ks) else none
    | none => none
  | _ => none
mutual
/-- hash of a key without texts -/
def khash : NestedKey → Int
  | .num i => hashInt i
  | .tup ks => reduceHash (Builtin.Tuple.tupleHashOf (khashes ks))
  | _ => 0
def khashes : List NestedKey → List Int
  | [] => []
  | k :: ks => khash k :: khashes ks
end
abbrev TX3 := List (NestedKey × Addr × V)
abbrev TU3 := List (NestedKey × Addr × Value)
def TRel : TX3 → TU3 → Prop := Paired fun p q => p.1 = q.1 ∧ p.2.1 = q.2.1 ∧ RelV p.2.2 q.2.2
/-- a dict whose keys are tuples: its object, its entries -/
structure DitOk (a : Addr) (o : Obj) (xs : TX3) : Prop where
  nsys : (a == sysModules) = false
  size : xs.length ≤ sizeLine
  exact : o.ExactDict
  ent : ∃ (us : TU3) (es : Array DictEntry) (ep : Nat), TRel xs us ∧ o.data = .dict es ep ∧ es.toList = us.map (fun x => ⟨khash x.1, .ref x.2.1, x.2.2⟩) ∧ (us.map (·.1)).Nodup
def DitO (a : Addr) (o : Obj) (xs : TX3) : HO := .ext fun h => h.get? a = some o ∧ DitOk a o xs

abbrev Env := List (Option PV)
abbrev EF := Env → Option (PV × Env)
abbrev TF := Env → Option (Bool × Env)
abbrev AF := Env → Option (List PV × Env)
inductive Fl where
  | nx | bk | ct | rt (v : PV)
abbrev SF := Env → Option (Fl × Env)

def keyK : PV → Option Key
  | .int i => some (.inl i)
  | .str s => some (.inr s)
  | _ => none
def keysK : List PV → Option (List Key)
  | [] => some []
  | x :: xs => match keyK x, keysK xs with
    | some k, some ks => some (k :: ks)
    | _, _ => none
def keyT : PV → Option (List Key)
  | .tup xs => keysK xs
  | _ => none

/-- a tuple, its own object known -/
def TupAt (K : PySem.W.Frag) (H : Hp) (a : Addr) (vs : List V) : Prop := (∃ o, H a = some (.frz o (.tup vs)) ∧ o.dict = none) ∨
  (∃ (o : Obj) (its : Array Value) (n : Nat), K.lookup a = some o ∧ o.cls = .type "tuple" ∧ o.dict = none ∧ o.data = .seq its n ∧ its.size ≤ sizeLine ∧ Vals vs its.toList)
theorem TupAt.sq {K : PySem.W.Frag} {H : Hp} {a : Addr} {vs : List V} (t : TupAt K H a vs) : SqT K H a vs := by
  rcases t with ⟨o, h, _⟩ | ⟨o, its, n, h1, h2, h3, h4, h5, h6⟩
  · exact .inl (.inr ⟨o, h⟩)
  · exact .inr ⟨o, its, n, h1, h2, h4, h5, h6⟩
mutual
def Rep (K : PySem.W.Frag) (H : Hp) : PV → V → Prop
  | .non, x => x = .non
  | .bl b, x => x = .bl b
  | .int i, x => x = .int i
  | .str s, x => x = .str s
  | .tup xs, x => ∃ a vs, x = .ref a ∧ TupAt K H a vs ∧ RepL K H xs vs
  | .lst xs, x => ∃ a vs, x = .ref a ∧ Rd H a (.lst vs) ∧ RepL K H xs vs
  | .dct ks, x => ∃ a kv, x = .ref a ∧ Rd H a (.dK kv) ∧ RepK K H ks kv
  | .dit ks, x => ∃ a o xs, x = .ref a ∧ H a = some (DitO a o xs) ∧ RepX K H ks xs
  | .obj c xs, x => c = 0 ∧ ∃ a vs, x = .ref a ∧ SqL K H a vs ∧ RepL K H xs vs
def RepL (K : PySem.W.Frag) (H : Hp) : List PV → List V → Prop
  | [], vs => vs = []
  | x :: xs, vs => ∃ v r, vs = v :: r ∧ Rep K H x v ∧ RepL K H xs r
def RepK (K : PySem.W.Frag) (H : Hp) : List (PV × PV) → List (Key × V) → Prop
  | [], kv => kv = []
  | (k, v) :: ks, kv => ∃ k' x r, kv = (k', x) :: r ∧ keyK k = some k' ∧ Rep K H v x ∧ RepK K H ks r
def RepX (K : PySem.W.Frag) (H : Hp) : List (PV × PV) → TX3 → Prop
  | [], kv => kv = []
  | (k, v) :: ks, kv => ∃ k' b x r, kv = (k', b, x) :: r ∧ tkey k = some k' ∧ Rep K H k (.ref b) ∧ Rep K H v x ∧ RepX K H ks r
end

/-- what stands stays so -/
structure LeR (H H' : Hp) : Prop where
  all : ∀ a o, H a = some o → H' a = some o
theorem LeR.rd {H H' : Hp} (l : LeR H H') : ∀ a u, Rd H a u → Rd H' a u := fun a u h => by
  rcases h with h | ⟨o, h⟩
  · exact .inl (l.all _ _ h)
  · exact .inr ⟨o, l.all _ _ h⟩
theorem LeR.tp {H H' : Hp} (l : LeR H H') : ∀ a o vs, H a = some (.frz o (.tup vs)) → H' a = some (.frz o (.tup vs)) := fun a o vs h => l.all _ _ h
theorem LeR.refl (H : Hp) : LeR H H := ⟨fun _ _ h => h⟩
theorem LeR.trans {H H1 H2 : Hp} (a : LeR H H1) (b : LeR H1 H2) : LeR H H2 := ⟨fun c o h => b.all c o (a.all c o h)⟩
/-- a part -/
def Sub (H H' : Hp) : Prop := ∀ b o, H b = some o → H' b = some o
theorem Sub.refl (H : Hp) : Sub H H := fun _ _ h => h
theorem Sub.trans {H H1 H2 : Hp} (a : Sub H H1) (b : Sub H1 H2) : Sub H H2 := fun c o h => b c o (a c o h)
theorem Sub.le {H H' : Hp} (s : Sub H H') : LeR H H' := ⟨s⟩
theorem Sub.free {H H' : Hp} (e : Sub H H') {l : Addr} (h : H' l = none) : H l = none := by
  cases q : H l with
  | none => rfl
  | some o => rw [e l o q] at h; cases h

section
variable {K : PySem.W.Frag} {H H' : Hp}
theorem LeR.sqL (le : LeR H H') {a : Addr} {vs : List V} (h : SqL K H a vs) : SqL K H' a vs := by
  rcases h with h | h
  · exact .inl (le.rd _ _ h)
  · exact .inr h
theorem LeR.sqT (le : LeR H H') {a : Addr} {vs : List V} (h : SqT K H a vs) : SqT K H' a vs := by
  rcases h with h | h
  · exact .inl (le.rd _ _ h)
  · exact .inr h
theorem LeR.tup (le : LeR H H') {a : Addr} {vs : List V} (h : TupAt K H a vs) : TupAt K H' a vs := by
  rcases h with ⟨o, h, d⟩ | h
  · exact .inl ⟨o, le.tp _ _ _ h, d⟩
  · exact .inr h
mutual
theorem Rep.mono (le : LeR H H') : ∀ (p : PV) (x : V), Rep K H p x → Rep K H' p x
  | .non, _, h => by simpa [Rep] using h
  | .bl _, _, h => by simpa [Rep] using h
  | .int _, _, h => by simpa [Rep] using h
  | .str _, _, h => by simpa [Rep] using h
  | .tup xs, x, h => by
    simp only [Rep] at h ⊢
    obtain ⟨a, vs, e, q, r⟩ := h
    exact ⟨a, vs, e, le.tup q, RepL.mono le xs vs r⟩
  | .lst xs, x, h => by
    simp only [Rep] at h ⊢
    obtain ⟨a, vs, e, q, r⟩ := h
    exact ⟨a, vs, e, le.rd _ _ q, RepL.mono le xs vs r⟩
  | .dct ks, x, h => by
    simp only [Rep] at h ⊢
    obtain ⟨a, kv, e, q, r⟩ := h
    exact ⟨a, kv, e, le.rd _ _ q, RepK.mono le ks kv r⟩
  | .dit ks, x, h => by
    simp only [Rep] at h ⊢
    obtain ⟨a, o, kv, e, q, r⟩ := h
    exact ⟨a, o, kv, e, le.all _ _ q, RepX.mono le ks kv r⟩
  | .obj _ xs, x, h => by
    simp only [Rep] at h ⊢
    obtain ⟨c, a, vs, e, q, r⟩ := h
    exact ⟨c, a, vs, e, le.sqL q, RepL.mono le xs vs r⟩
theorem RepL.mono (le : LeR H H') : ∀ (p : List PV) (x : List V), RepL K H p x → RepL K H' p x
  | [], _, h => by simpa [RepL] using h
  | p :: ps, x, h => by
    simp only [RepL] at h ⊢
    obtain ⟨v, r, e, a, b⟩ := h
    exact ⟨v, r, e, Rep.mono le p v a, RepL.mono le ps r b⟩
theorem RepK.mono (le : LeR H H') : ∀ (p : List (PV × PV)) (x : List (Key × V)), RepK K H p x → RepK K H' p x
  | [], _, h => by simpa [RepK] using h
  | (k, p) :: ps, x, h => by
    simp only [RepK] at h ⊢
    obtain ⟨k', v, r, e, ek, a, b⟩ := h
    exact ⟨k', v, r, e, ek, Rep.mono le p v a, RepK.mono le ps r b⟩
theorem RepX.mono (le : LeR H H') : ∀ (p : List (PV × PV)) (x : TX3), RepX K H p x → RepX K H' p x
  | [], _, h => by simpa [RepX] using h
  | (k, p) :: ps, x, h => by
    simp only [RepX] at h ⊢
    obtain ⟨k', b, v, r, e, ek, c, a, d⟩ := h
    exact ⟨k', b, v, r, e, ek, Rep.mono le k _ c, Rep.mono le p v a, RepX.mono le ps r d⟩
end
end

end PT

set_option Elab.async false
set_option linter.all false
set_option autoImplicit false
set_option maxRecDepth 100000
set_option maxHeartbeats 4000000
/-! PT2: lists of values, a readable top, the state of a body. -/
namespace PT
open PySem PySem.Spec PyProof.Rows L2

section
variable {K : PySem.W.Frag} {H H' : Hp}
theorem RepL.cons_iff {p : PV} {ps : List PV} {vs : List V} : RepL K H (p :: ps) vs ↔ ∃ v r, vs = v :: r ∧ Rep K H p v ∧ RepL K H ps r := by simp only [RepL]
theorem RepL.nil_iff {vs : List V} : RepL K H [] vs ↔ vs = [] := by simp only [RepL]
theorem RepL.nil : RepL K H [] [] := by simp only [RepL]
theorem RepL.cons {p : PV} {ps : List PV} {v : V} {vs : List V} (a : Rep K H p v) (b : RepL K H ps vs) : RepL K H (p :: ps) (v :: vs) := by
  simp only [RepL]; exact ⟨v, vs, rfl, a, b⟩
theorem RepL.length : ∀ {ps : List PV} {vs : List V}, RepL K H ps vs → vs.length = ps.length
  | [], _, h => by rw [RepL.nil_iff.mp h]; rfl
  | p :: ps, _, h => by
    obtain ⟨v, r, rfl, _, b⟩ := RepL.cons_iff.mp h
    simp [RepL.length b]
theorem RepL.get : ∀ {ps : List PV} {vs : List V} {i : Nat} {p : PV}, RepL K H ps vs → ps[i]? = some p → ∃ v, vs[i]? = some v ∧ Rep K H p v
  | [], _, _, _, _, e => by simp at e
  | q :: ps, _, i, p, h, e => by
    obtain ⟨v, r, rfl, a, b⟩ := RepL.cons_iff.mp h
    cases i with
    | zero => simp at e; subst e; exact ⟨v, by simp, a⟩
    | succ i =>
      obtain ⟨x, h1, h2⟩ := RepL.get (i := i) b (by simpa using e)
      exact ⟨x, by simpa using h1, h2⟩
theorem RepL.get' {ps : List PV} {vs : List V} {i : Nat} {v : V} (h : RepL K H ps vs) (e : vs[i]? = some v) : ∃ p, ps[i]? = some p ∧ Rep K H p v := by
  have hl := h.length
  obtain ⟨hi, _⟩ := List.getElem?_eq_some_iff.mp e
  have : ps[i]? = some (ps[i]'(by omega)) := List.getElem?_eq_getElem (by omega)
  obtain ⟨x, h1, h2⟩ := h.get this
  rw [e] at h1; cases h1
  exact ⟨_, this, h2⟩
theorem RepL.append : ∀ {ps qs : List PV} {vs ws : List V}, RepL K H ps vs → RepL K H qs ws → RepL K H (ps ++ qs) (vs ++ ws)
  | [], _, _, _, h, q => by rw [RepL.nil_iff.mp h]; exact q
  | p :: ps, _, _, _, h, q => by
    obtain ⟨v, r, rfl, a, b⟩ := RepL.cons_iff.mp h
    exact RepL.cons a (RepL.append b q)
theorem RepL.take : ∀ {ps : List PV} {vs : List V} (n : Nat), RepL K H ps vs → RepL K H (ps.take n) (vs.take n)
  | _, _, 0, _ => by simp [RepL.nil]
  | [], _, n + 1, h => by rw [RepL.nil_iff.mp h]; simp [RepL.nil]
  | p :: ps, _, n + 1, h => by
    obtain ⟨v, r, rfl, a, b⟩ := RepL.cons_iff.mp h
    exact RepL.cons a (RepL.take n b)
theorem RepL.drop : ∀ {ps : List PV} {vs : List V} (n : Nat), RepL K H ps vs → RepL K H (ps.drop n) (vs.drop n)
  | _, _, 0, h => h
  | [], _, n + 1, h => by rw [RepL.nil_iff.mp h]; simp [RepL.nil]
  | p :: ps, _, n + 1, h => by
    obtain ⟨v, r, rfl, a, b⟩ := RepL.cons_iff.mp h
    exact RepL.drop n b
theorem RepL.set : ∀ {ps : List PV} {vs : List V} {p : PV} {v : V} (n : Nat), RepL K H ps vs → Rep K H p v → RepL K H (ps.set n p) (vs.set n v)
  | [], _, _, _, n, h, _ => by rw [RepL.nil_iff.mp h]; simp [RepL.nil]
  | q :: ps, _, p, v, n, h, r => by
    obtain ⟨w, t, rfl, a, b⟩ := RepL.cons_iff.mp h
    cases n with
    | zero => exact RepL.cons r b
    | succ n => exact RepL.cons a (RepL.set n b r)
theorem RepL.dropLast {ps : List PV} {vs : List V} (h : RepL K H ps vs) : RepL K H ps.dropLast vs.dropLast := by
  rw [List.dropLast_eq_take, List.dropLast_eq_take, h.length]
  exact h.take _
theorem RepL.reverse : ∀ {ps : List PV} {vs : List V}, RepL K H ps vs → RepL K H ps.reverse vs.reverse
  | [], _, h => by rw [RepL.nil_iff.mp h]; simp [RepL.nil]
  | p :: ps, _, h => by
    obtain ⟨v, r, rfl, a, b⟩ := RepL.cons_iff.mp h
    simp only [List.reverse_cons]
    exact RepL.append (RepL.reverse b) (RepL.cons a RepL.nil)
theorem RepL.replicate {p : PV} {v : V} (r : Rep K H p v) : ∀ n : Nat, RepL K H (List.replicate n p) (List.replicate n v)
  | 0 => RepL.nil
  | n + 1 => RepL.cons r (RepL.replicate r n)
end

/-- a value whose top may be read in H, what stands in it in H1 -/
def RT (K : PySem.W.Frag) (H1 H : Hp) : PV → V → Prop
  | .lst xs, x => ∃ a vs, x = .ref a ∧ Rd H a (.lst vs) ∧ RepL K H1 xs vs
  | .dct ks, x => ∃ a kv, x = .ref a ∧ Rd H a (.dK kv) ∧ RepK K H1 ks kv
  | .dit ks, x => ∃ a o kv, x = .ref a ∧ H a = some (DitO a o kv) ∧ RepX K H1 ks kv
  | p, x => Rep K H1 p x
theorem Rep.rt {K : PySem.W.Frag} {H1 H : Hp} (le : LeR H1 H) {p : PV} {x : V} (h : Rep K H1 p x) : RT K H1 H p x := by
  cases p with
  | lst xs => simp only [Rep] at h; obtain ⟨a, vs, e, q, r⟩ := h; exact ⟨a, vs, e, le.rd _ _ q, r⟩
  | dct ks =>
    simp only [Rep] at h
    obtain ⟨a, kv, e, q, r⟩ := h
    exact ⟨a, kv, e, le.rd _ _ q, r⟩
  | dit ks =>
    simp only [Rep] at h
    obtain ⟨a, o, kv, e, q, r⟩ := h
    exact ⟨a, o, kv, e, le.all _ _ q, r⟩
  | _ => exact h
theorem RT.scal {K : PySem.W.Frag} {H1 H : Hp} {p : PV} {x : V} (h : RT K H1 H p x) : match p with | .non => x = .non | .bl b => x = .bl b | .int i => x = .int i | .str s => x = .str s | _ => True := by
  cases p <;> first | exact True.intro | (have h' := h; simpa only [RT, Rep] using h')
/-- a value as a whole readable in the wide heap -/
theorem RT.rep {K : PySem.W.Frag} {H1 H : Hp} (s : LeR H1 H) {p : PV} {x : V} (h : RT K H1 H p x) : Rep K H p x := by
  cases p with
  | lst xs => obtain ⟨a, vs, e, q, r⟩ := h; simp only [Rep]; exact ⟨a, vs, e, q, r.mono s _ _⟩
  | dct ks =>
    simp only [Rep]
    obtain ⟨a, kv, e, q, r⟩ := h
    exact ⟨a, kv, e, q, r.mono s _ _⟩
  | dit ks =>
    simp only [Rep]
    obtain ⟨a, o, kv, e, q, r⟩ := h
    exact ⟨a, o, kv, e, q, r.mono s _ _⟩
  | _ => exact Rep.mono s _ _ h

/-- an owned thing: its top stands in H, unlocked, what stands in it in H1 -/
def ORep (K : PySem.W.Frag) (H1 H : Hp) (a : Addr) : PV → Prop
  | .lst xs => ∃ vs, H a = some (.lst vs) ∧ RepL K H1 xs vs
  | .dct ks => ∃ kv, H a = some (.dK kv) ∧ RepK K H1 ks kv
  | .dit ks => ∃ o kv, H a = some (DitO a o kv) ∧ RepX K H1 ks kv
  | _ => False
theorem ORep.rt {K : PySem.W.Frag} {H1 H : Hp} {a : Addr} {p : PV} (h : ORep K H1 H a p) : RT K H1 H p (.ref a) := by
  cases p with
  | lst xs => obtain ⟨vs, q, r⟩ := h; exact ⟨a, vs, rfl, .inl q, r⟩
  | dct ks =>
    obtain ⟨kv, q, r⟩ := h
    exact ⟨a, kv, rfl, .inl q, r⟩
  | dit ks =>
    obtain ⟨o, kv, q, r⟩ := h
    exact ⟨a, o, kv, rfl, q, r⟩
  | _ => exact h.elim
theorem ORep.some {K : PySem.W.Frag} {H1 H : Hp} {a : Addr} {p : PV} (h : ORep K H1 H a p) : ∃ o, H a = some o := by
  cases p with
  | lst xs => obtain ⟨vs, q, r⟩ := h; exact ⟨_, q⟩
  | dct ks =>
    obtain ⟨kv, q, r⟩ := h
    exact ⟨_, q⟩
  | dit ks =>
    obtain ⟨o, kv, q, r⟩ := h
    exact ⟨_, q⟩
  | _ => exact h.elim
theorem ORep.move {K : PySem.W.Frag} {H1 H H1' H' : Hp} (le : LeR H1 H1') {a : Addr} {p : PV} (h : ORep K H1 H a p) (e : H' a = H a) : ORep K H1' H' a p := by
  cases p with
  | lst xs => obtain ⟨vs, q, r⟩ := h; exact ⟨vs, by rw [e]; exact q, r.mono le _ _⟩
  | dct ks =>
    obtain ⟨kv, q, r⟩ := h
    exact ⟨kv, by rw [e]; exact q, r.mono le _ _⟩
  | dit ks =>
    obtain ⟨o, kv, q, r⟩ := h
    exact ⟨o, kv, by rw [e]; exact q, r.mono le _ _⟩
  | _ => exact h.elim

/-- a pure step: what stood stands, the new part is shared -/
structure Ext (H1 H H1' H' : Hp) : Prop where
  le : LeR H1 H1'
  sub : Sub H1' H'
  fr : ∀ b o, H b = some o → H' b = some o ∧ H1' b = H1 b
theorem Ext.refl {H1 H : Hp} (s : Sub H1 H) : Ext H1 H H1 H := ⟨LeR.refl _, s, fun _ _ h => ⟨h, rfl⟩⟩
theorem Ext.trans {H1 H H1' H' H1'' H'' : Hp} (a : Ext H1 H H1' H') (b : Ext H1' H' H1'' H'') : Ext H1 H H1'' H'' :=
  ⟨a.le.trans b.le, b.sub, fun c o h => by
    obtain ⟨h1, h2⟩ := a.fr c o h
    obtain ⟨h3, h4⟩ := b.fr c o h1
    exact ⟨h3, h4.trans h2⟩⟩
theorem LeR.upd {H : Hp} {p : Addr} {o : HO} (n : H p = none) : LeR H (L2.upd H p o) := ⟨fun a u h => by rw [upd_ne (ne_of_none h n)]; exact h⟩
theorem Sub.upd {H1 H : Hp} (s : Sub H1 H) {p : Addr} {o : HO} : Sub (L2.upd H1 p o) (L2.upd H p o) := fun b u h => by
  by_cases e : b = p
  · subst e; rw [upd_same] at h ⊢; exact h
  · rw [upd_ne e] at h ⊢; exact s _ _ h
/-- a new shared object -/
theorem Ext.alloc {H1 H : Hp} (s : Sub H1 H) {p : Addr} {o : HO} (n : H p = none) : Ext H1 H (upd H1 p o) (upd H p o) :=
  ⟨LeR.upd (s.free n), s.upd, fun b u h => by
    have e := ne_of_none h n
    exact ⟨by rw [upd_ne e]; exact h, by rw [upd_ne e]⟩⟩

structure Base where
  H0 : Hp
  H1 : Hp
  io : List (Nat × Addr)

/-- the state of a body: ρ the slots' values, σ their words; own: the slots that hold things of the body's own; H1: what is shared -/
structure SR (K : PySem.W.Frag) (B : Base) (own : List Nat) (ρ : Env) (σ : L2.St) (H1 H : Hp) : Prop where
  len : σ.length = ρ.length
  sub : Sub H1 H
  fr : ∀ b o, B.H0 b = some o → H b = some o ∧ H1 b = B.H1 b
  sh : ∀ (i : Nat) v, i ∉ own → ρ[i]? = some (some v) → ∃ x, σ[i]? = some (some x) ∧ Rep K H1 v x
  ow : ∀ (i : Nat) v, i ∈ own → ρ[i]? = some (some v) → ∃ a, σ[i]? = some (some (.ref a)) ∧ B.H0 a = none ∧ H1 a = none ∧ ORep K H1 H a v
  ds : ∀ (i j : Nat) v w a, i ∈ own → j ∈ own → ρ[i]? = some (some v) → ρ[j]? = some (some w) → σ[i]? = some (some (.ref a)) → σ[j]? = some (some (.ref a)) → i = j
  io : ∀ p ∈ B.io, σ[p.1]? = some (some (.ref p.2)) ∧ p.1 ∈ own ∧ ∃ v, ρ[p.1]? = some (some v)

section
variable {K : PySem.W.Frag} {B : Base} {own : List Nat} {ρ : Env} {σ : L2.St} {H1 H H1' H' : Hp}
theorem SR.ext (S : SR K B own ρ σ H1 H) (e : Ext H1 H H1' H') : SR K B own ρ σ H1' H' where
  len := S.len
  sub := e.sub
  fr := fun b o h => by
    obtain ⟨h1, h2⟩ := S.fr b o h
    obtain ⟨h3, h4⟩ := e.fr b o h1
    exact ⟨h3, h4.trans h2⟩
  sh := fun i v hi hv => by
    obtain ⟨x, h1, h2⟩ := S.sh i v hi hv
    exact ⟨x, h1, h2.mono e.le _ _⟩
  ow := fun i v hi hv => by
    obtain ⟨a, h1, h2, h3, h4⟩ := S.ow i v hi hv
    obtain ⟨o, ho⟩ := h4.some
    obtain ⟨e1, e2⟩ := e.fr a o ho
    exact ⟨a, h1, h2, by rw [e2]; exact h3, h4.move e.le (by rw [e1, ho])⟩
  ds := S.ds
  io := S.io
theorem SR.name (S : SR K B own ρ σ H1 H) {i : Nat} {v : PV} (hi : i ∉ own) (hv : ρ[i]? = some (some v)) : ∃ x, σ[i]? = some (some x) ∧ Rep K H1 v x := S.sh i v hi hv
/-- a shared slot gets a value -/
theorem SR.set (S : SR K B own ρ σ H1 H) {i : Nat} {v : PV} {x : V} (hi : i ∉ own) (r : Rep K H1 v x) : SR K B own (ρ.set i (some v)) (σ.set i (some x)) H1 H where
  len := by simpa using S.len
  sub := S.sub
  fr := S.fr
  sh := fun j w hj hw => by
    by_cases e : j = i
    · subst e
      have hlt : j < ρ.length := by
        have := (List.getElem?_eq_some_iff.mp hw).1
        simpa using this
      rw [List.getElem?_set_self hlt] at hw
      cases hw
      exact ⟨x, List.getElem?_set_self (by rw [S.len]; exact hlt), r⟩
    · rw [List.getElem?_set_ne (Ne.symm e)] at hw
      obtain ⟨y, h1, h2⟩ := S.sh j w hj hw
      exact ⟨y, by rw [List.getElem?_set_ne (Ne.symm e)]; exact h1, h2⟩
  ow := fun j w hj hw => by
    have e : j ≠ i := fun e => hi (e ▸ hj)
    rw [List.getElem?_set_ne (Ne.symm e)] at hw ⊢
    exact S.ow j w hj hw
  ds := fun j k v w a hj hk h1 h2 h3 h4 => by
    have e : j ≠ i := fun e => hi (e ▸ hj)
    have e' : k ≠ i := fun e => hi (e ▸ hk)
    rw [List.getElem?_set_ne (Ne.symm e)] at h1 h3
    rw [List.getElem?_set_ne (Ne.symm e')] at h2 h4
    exact S.ds j k v w a hj hk h1 h2 h3 h4
  io := fun p hp => by
    obtain ⟨h1, h2, h3⟩ := S.io p hp
    have e : p.1 ≠ i := fun e => hi (e ▸ h2)
    rw [List.getElem?_set_ne (Ne.symm e), List.getElem?_set_ne (Ne.symm e)]
    exact ⟨h1, h2, h3⟩
/-- a slot gets a thing of its own -/
theorem SR.setO {own' : List Nat} (S : SR K B own ρ σ H1 H) {i : Nat} {v : PV} {a : Addr} (hio : ∀ p ∈ B.io, p.1 ≠ i) (hown : ∀ j, j ∈ own' ↔ j = i ∨ j ∈ own) (h0 : B.H0 a = none) (h1 : H1 a = none) (r : ORep K H1 H a v)
    (hd : ∀ (j : Nat) w, j ∈ own → ρ[j]? = some (some w) → σ[j]? ≠ some (some (.ref a))) : SR K B own' (ρ.set i (some v)) (σ.set i (some (.ref a))) H1 H where
  len := by simpa using S.len
  sub := S.sub
  fr := S.fr
  sh := fun j w hj hw => by
    have e : j ≠ i := fun e => hj ((hown j).mpr (.inl e))
    rw [List.getElem?_set_ne (Ne.symm e)] at hw ⊢
    exact S.sh j w (fun z => hj ((hown j).mpr (.inr z))) hw
  ow := fun j w hj hw => by
    by_cases e : j = i
    · subst e
      have hlt : j < ρ.length := by
        have := (List.getElem?_eq_some_iff.mp hw).1
        simpa using this
      rw [List.getElem?_set_self hlt] at hw
      cases hw
      exact ⟨a, List.getElem?_set_self (by rw [S.len]; exact hlt), h0, h1, r⟩
    · rw [List.getElem?_set_ne (Ne.symm e)] at hw ⊢
      exact S.ow j w (((hown j).mp hj).resolve_left e) hw
  ds := fun j k v' w b hj hk e1 e2 e3 e4 => by
    by_cases ej : j = i
    · by_cases ek : k = i
      · rw [ej, ek]
      · rw [List.getElem?_set_ne (Ne.symm ek)] at e2 e4
        have hlt : i < σ.length := by
          have := (List.getElem?_eq_some_iff.mp e3).1
          rw [ej] at this
          simpa using this
        rw [ej, List.getElem?_set_self hlt] at e3
        cases e3
        exact absurd e4 (hd k w (((hown k).mp hk).resolve_left ek) e2)
    · by_cases ek : k = i
      · rw [List.getElem?_set_ne (Ne.symm ej)] at e1 e3
        have hlt : i < σ.length := by
          have := (List.getElem?_eq_some_iff.mp e4).1
          rw [ek] at this
          simpa using this
        rw [ek, List.getElem?_set_self hlt] at e4
        cases e4
        exact absurd e3 (hd j v' (((hown j).mp hj).resolve_left ej) e1)
      · rw [List.getElem?_set_ne (Ne.symm ej)] at e1 e3
        rw [List.getElem?_set_ne (Ne.symm ek)] at e2 e4
        exact S.ds j k v' w b (((hown j).mp hj).resolve_left ej) (((hown k).mp hk).resolve_left ek) e1 e2 e3 e4
  io := fun p hp => by
    obtain ⟨e1, e2, e3⟩ := S.io p hp
    have e := hio p hp
    rw [List.getElem?_set_ne (Ne.symm e), List.getElem?_set_ne (Ne.symm e)]
    exact ⟨e1, (hown _).mpr (.inr e2), e3⟩
/-- an own thing is changed -/
theorem SR.write (S : SR K B own ρ σ H1 H) {i : Nat} {v v' : PV} {a : Addr} {o : HO} (hi : i ∈ own) (hv : ρ[i]? = some (some v)) (hx : σ[i]? = some (some (.ref a)))
    (r : ORep K H1 (upd H a o) a v') : SR K B own (ρ.set i (some v')) σ H1 (upd H a o) := by
  obtain ⟨a', ha', h0, h1, r0⟩ := S.ow i v hi hv
  rw [hx] at ha'
  obtain rfl : a = a' := by injection ha' with q; injection q with q; injection q
  refine ⟨by simpa using S.len, fun b u h => ?_, fun b u h => ?_, fun j w hj hw => ?_, fun j w hj hw => ?_, fun j k v1 w b hj hk e1 e2 e3 e4 => ?_, fun p hp => ?_⟩
  · have : b ≠ a := fun e => by rw [e, h1] at h; cases h
    rw [upd_ne this]; exact S.sub b u h
  · obtain ⟨q1, q2⟩ := S.fr b u h
    have : b ≠ a := fun e => by rw [e, h0] at h; cases h
    exact ⟨by rw [upd_ne this]; exact q1, q2⟩
  · have e : j ≠ i := fun e => hj (e ▸ hi)
    rw [List.getElem?_set_ne (Ne.symm e)] at hw
    exact S.sh j w hj hw
  · by_cases e : j = i
    · subst e
      have hlt : j < ρ.length := by
        have := (List.getElem?_eq_some_iff.mp hw).1
        simpa using this
      rw [List.getElem?_set_self hlt] at hw
      cases hw
      exact ⟨a, hx, h0, h1, r⟩
    · rw [List.getElem?_set_ne (Ne.symm e)] at hw
      obtain ⟨b, q1, q2, q3, q4⟩ := S.ow j w hj hw
      have nb : b ≠ a := fun z => by
        subst z
        exact e (S.ds j i w v b hj hi hw hv q1 hx)
      exact ⟨b, q1, q2, q3, q4.move (LeR.refl _) (upd_ne nb)⟩
  · have back : ∀ (j : Nat) (w : PV), (ρ.set i (some v'))[j]? = some (some w) → ∃ w', ρ[j]? = some (some w') := fun j w h => by
      by_cases e : j = i
      · rw [e]; exact ⟨v, hv⟩
      · rw [List.getElem?_set_ne (Ne.symm e)] at h; exact ⟨w, h⟩
    obtain ⟨v2, e1'⟩ := back j v1 e1
    obtain ⟨w1, e2'⟩ := back k w e2
    exact S.ds j k v2 w1 b hj hk e1' e2' e3 e4
  · obtain ⟨q1, q2, w, q3⟩ := S.io p hp
    refine ⟨q1, q2, ?_⟩
    by_cases e : p.1 = i
    · refine ⟨v', ?_⟩
      rw [e]
      exact List.getElem?_set_self (List.getElem?_eq_some_iff.mp hv).1
    · exact ⟨w, by rw [List.getElem?_set_ne (Ne.symm e)]; exact q3⟩
/-- an own thing becomes a shared one -/
theorem SR.freeze {own' : List Nat} (S : SR K B own ρ σ H1 H) {i : Nat} (hio : ∀ p ∈ B.io, p.1 ≠ i) (hown : ∀ j, j ∈ own ↔ j = i ∨ j ∈ own') (hni : i ∉ own') :
    ∃ H1', LeR H1 H1' ∧ SR K B own' ρ σ H1' H := by
  have hi : i ∈ own := (hown i).mpr (.inl rfl)
  by_cases hq : ∃ v, ρ[i]? = some (some v)
  · obtain ⟨v, hv⟩ := hq
    obtain ⟨a, hx, h0, h1, r⟩ := S.ow i v hi hv
    obtain ⟨o, ho⟩ := r.some
    have le : LeR H1 (upd H1 a o) := LeR.upd h1
    have sub : Sub (upd H1 a o) H := fun b u h => by
      by_cases e : b = a
      · rw [e, upd_same] at h; cases h; rw [e]; exact ho
      · rw [upd_ne e] at h; exact S.sub b u h
    refine ⟨upd H1 a o, le, S.len, sub, fun b u h => ?_, fun j w hj hw => ?_, fun j w hj hw => ?_, fun j k v w b hj hk => S.ds j k v w b ((hown j).mpr (.inr hj)) ((hown k).mpr (.inr hk)), fun p hp => ?_⟩
    · obtain ⟨q1, q2⟩ := S.fr b u h
      have : b ≠ a := fun e => by rw [e, h0] at h; cases h
      exact ⟨q1, by rw [upd_ne this]; exact q2⟩
    · by_cases e : j = i
      · subst e
        rw [hv] at hw; cases hw
        refine ⟨.ref a, hx, ?_⟩
        have r2 : RT K (upd H1 a o) (upd H1 a o) v (.ref a) := by
          have : ORep K (upd H1 a o) (upd H1 a o) a v := r.move le (by rw [upd_same, ho])
          exact this.rt
        exact r2.rep (LeR.refl _)
      · obtain ⟨x, q1, q2⟩ := S.sh j w (fun z => ((hown j).mp z).elim e hj) hw
        exact ⟨x, q1, q2.mono le _ _⟩
    · have e : j ≠ i := fun e => hni (e ▸ hj)
      obtain ⟨b, q1, q2, q3, q4⟩ := S.ow j w ((hown j).mpr (.inr hj)) hw
      have nb : b ≠ a := fun z => by
        subst z
        exact e (S.ds j i w v b ((hown j).mpr (.inr hj)) hi hw hv q1 hx)
      exact ⟨b, q1, q2, by rw [upd_ne nb]; exact q3, q4.move le rfl⟩
    · obtain ⟨q1, q2, q3⟩ := S.io p hp
      exact ⟨q1, ((hown _).mp q2).resolve_left (hio p hp), q3⟩
  · refine ⟨H1, LeR.refl _, S.len, S.sub, S.fr, fun j w hj hw => ?_, fun j w hj hw => S.ow j w ((hown j).mpr (.inr hj)) hw, fun j k v w b hj hk => S.ds j k v w b ((hown j).mpr (.inr hj)) ((hown k).mpr (.inr hk)), fun p hp => ?_⟩
    · have e : j ≠ i := fun e => hq ⟨w, e ▸ hw⟩
      exact S.sh j w (fun z => ((hown j).mp z).elim e hj) hw
    · obtain ⟨q1, q2, q3⟩ := S.io p hp
      exact ⟨q1, ((hown _).mp q2).resolve_left (hio p hp), q3⟩
end
end PT

set_option Elab.async false
set_option linter.all false
set_option autoImplicit false
set_option maxRecDepth 100000
set_option maxHeartbeats 4000000
/-! PT3: what is said of expressions, tests, arguments; rules by values; the rules of expressions. -/
namespace PT
open PySem PySem.Spec PyProof.Rows L2

/-! ### new tuples, their own objects known -/
section
variable {X : Cx}
theorem Inv.tnew {pins : List (Addr × Obj)} {σ : L2.St} {H : Hp} {s : Shared} {xs : List V} {us : List Value} (t' : Nat) (I : Inv X pins σ H s) (r : Vals xs us) (z : xs.length ≤ sizeLine) {ob : Obj} (hob : ob = { cls := .type "tuple", data := .seq us.toArray }) :
    Inv X pins σ (upd H s.heap.objs.size (.frz ob (.tup xs))) { s with heap := s.heap.push ob, toks := t' } := by
  subst hob
  exact I.laid (t' := t') (o := .frz _ (.tup xs)) (fun b o q => Heap.get?_push_of_some _ q) (Nat.le_refl _) ⟨Heap.get?_push_size _ rfl, z, us, r, IsTup.new _ _⟩
def kTup' (xs : List V) (H : Hp) (Q : VK) : Prop := ∀ p o, H p = none → o.dict = none → Q (.ref p) (upd H p (.frz o (.tup xs)))
def tTupF (t : TA) : TE := fun σ H Q => t σ H fun xs H1 => xs.length ≤ sizeLine ∧ kTup' xs H1 Q
theorem pe_tupF {es : List Expr} {t : TA} {pos : Pos} {x1} (h : L2.PA X es t) : PE X (.Tuple es x1 pos) (tTupF t) := by
  refine ⟨fun pins s σ H Q I hq => ?_⟩
  refine wpAny_Tuple_spliced (L2.thn (h.run pos pins s σ H _ I hq) fun us s1 ⟨xs, H1, I1, r, z, q⟩ => ⟨by rw [← r.length]; exact z, ?_⟩)
  exact ⟨.ref s1.heap.objs.size, _, Inv.tnew s1.toks I1 r z rfl, rfl, q _ _ (I1.hok.fresh (Nat.le_refl _)) rfl⟩
theorem call_tuple_ofF : CallR X (.type "tuple") (fun xs H Q => ∃ p ys, xs = [.ref p] ∧ ((SqL X.K H p ys ∧ kTup' ys H Q) ∨ (SqT X.K H p ys ∧ Q (.ref p) H))) := by
  intro pins s σ H xs us Q I r h
  obtain ⟨p, ys, rfl, h⟩ := h
  obtain ⟨u, rfl, rx⟩ := vals1 r
  cases rx
  rcases h with ⟨hq, q⟩ | ⟨hq, q⟩
  · obtain ⟨its, r', pl, hz⟩ := I.list hq
    have hlen := r'.length
    refine call_tuple_list pl.isList (fun h' kp => ?_) (by simp only [List.size_toArray] <;> omega)
    have I1 : Inv X pins σ H { s with heap := h' } := I.kept (t' := s.toks) kp
    exact ⟨.ref h'.objs.size, _, Inv.tnew s.toks I1 r' hz rfl, rfl, q _ _ (I1.hok.fresh (Nat.le_refl _)) rfl⟩
  · obtain ⟨its, r', pl, hz⟩ := I.tuple hq
    exact call_tuple_same pl ⟨.ref p, H, I, rfl, q⟩
def rCatF (K : PySem.W.Frag) : R2 := fun x y H Q => ∃ a b xs ys, x = .ref a ∧ y = .ref b ∧ SqT K H a xs ∧ SqT K H b ys ∧ xs.length + ys.length ≤ sizeLine ∧
  (xs = [] → Q (.ref b) H) ∧ (xs ≠ [] → ys = [] → Q (.ref a) H) ∧ (xs ≠ [] → ys ≠ [] → kTup' (xs ++ ys) H Q)
theorem op_catF : OpR X (binaryOp .Add) (rCatF X.K) := by
  intro pins s σ H x y v u Q I rx ry h
  obtain ⟨a, b, xs, ys, rfl, rfl, ha, hb, hz, q0, q1, q2⟩ := h
  cases rx
  cases ry
  obtain ⟨its, r1, p1, _⟩ := I.tuple ha
  obtain ⟨its2, r2, p2, _⟩ := I.tuple hb
  by_cases hx : xs = []
  · subst hx
    cases r1
    exact cat_tup0 p1 p2 ⟨.ref b, H, I, rfl, q0 rfl⟩
  · refine HT.cat_tup p1 p2 (fun z => hx (r1.nil_iff.mp z)) (fun z => ⟨.ref a, H, I, rfl, q1 hx (r2.nil_iff.mp z)⟩) (fun z => ?_) (by rw [← r1.length, ← r2.length]; exact hz)
    exact ⟨.ref s.heap.objs.size, _, Inv.tnew s.toks I (r1.append r2) (by rw [List.length_append]; exact hz) rfl, rfl, q2 hx (fun w => z (r2.nil_iff.mpr w)) _ _ (I.hok.fresh (Nat.le_refl _)) rfl⟩
def rSlF (K : PySem.W.Frag) : V → Option Int → Option Int → Hp → VK → Prop := fun x lo hi H Q => ∃ a xs, x = .ref a ∧ SqT K H a xs ∧
  (HT.sIx xs.length 0 lo = 0 ∧ HT.sIx xs.length xs.length hi = xs.length → Q (.ref a) H) ∧ (¬ (HT.sIx xs.length 0 lo = 0 ∧ HT.sIx xs.length xs.length hi = xs.length) → kTup' (cutV xs lo hi) H Q)
theorem sl_tupF : SlR X (rSlF X.K) := by
  intro pins s σ H x v vl vu lo hi sl Q I rx hs pl pu h
  obtain ⟨a, xs, rfl, hx, q1, q2⟩ := h
  cases rx
  obtain ⟨its, r, ht, hz⟩ := I.tuple hx
  have hlen : its.toArray.size = xs.length := by rw [List.size_toArray]; exact r.length.symm
  refine ⟨"tuple", _, PyProof.Rows.slot_tuple_getitem.lookup, ht.typeIs, ?_⟩
  by_cases hw : HT.sIx xs.length 0 lo = 0 ∧ HT.sIx xs.length xs.length hi = xs.length
  · exact getItem_tuple_whole ht hs pl pu (by rw [hlen]; exact hw) ⟨.ref a, H, I, rfl, q1 hw⟩
  · refine HT.getItem_tuple_cut ht hs pl pu (by rw [hlen]; exact hw) ?_ (by rw [hlen]; exact hz)
    rw [hlen]
    exact ⟨.ref s.heap.objs.size, _, Inv.tnew s.toks I ((r.drop (HT.sIx xs.length 0 lo)).take (HT.sIx xs.length xs.length hi - HT.sIx xs.length 0 lo)) (Nat.le_trans (cutV_length xs lo hi) hz) rfl, rfl, q2 hw _ _ (I.hok.fresh (Nat.le_refl _)) rfl⟩
theorem TupAt.new {K : PySem.W.Frag} {H : Hp} {p : Addr} {o : Obj} {vs : List V} (h : o.dict = none) : TupAt K (upd H p (.frz o (.tup vs))) p vs := .inl ⟨o, upd_same, h⟩
end

/-! ### readings -/
section
variable (K : PySem.W.Frag) (own : List Nat)
def tE (f : EF) : TE := fun σ H Q => ∃ B ρ v ρ' H1, SR K B own ρ σ H1 H ∧ f ρ = some (v, ρ') ∧ ∀ x H' H1', LeR H1 H1' → SR K B own ρ' σ H1' H' → Rep K H1' v x → Q x H'
/-- the top may be read (it may be a thing of the body's own) -/
def tP (f : EF) : TE := fun σ H Q => ∃ B ρ v ρ' H1, SR K B own ρ σ H1 H ∧ f ρ = some (v, ρ') ∧ ∀ x H' H1', LeR H1 H1' → SR K B own ρ' σ H1' H' → RT K H1' H' v x → Q x H'
/-- a new thing of the body's own, not yet in a slot -/
structure FR (B : Base) (ρ : Env) (σ : L2.St) (H1 H : Hp) (a : Addr) (v : PV) : Prop where
  sr : SR K B own ρ σ H1 H
  n0 : B.H0 a = none
  n1 : H1 a = none
  rep : ORep K H1 H a v
  ne : ∀ (j : Nat) w, j ∈ own → ρ[j]? = some (some w) → σ[j]? ≠ some (some (.ref a))
def tF (f : EF) : TE := fun σ H Q => ∃ B ρ v ρ' H1, SR K B own ρ σ H1 H ∧ f ρ = some (v, ρ') ∧ ∀ a H' H1', LeR H1 H1' → FR K own B ρ' σ H1' H' a v → Q (.ref a) H'
def tT (f : TF) : TT := fun σ H Q => ∃ B ρ b ρ' H1, SR K B own ρ σ H1 H ∧ f ρ = some (b, ρ') ∧ ∀ H' H1', LeR H1 H1' → SR K B own ρ' σ H1' H' → Q b H'
def tAr (f : AF) : TA := fun σ H Q => ∃ B ρ vs ρ' H1, SR K B own ρ σ H1 H ∧ f ρ = some (vs, ρ') ∧ ∀ xs H' H1', LeR H1 H1' → SR K B own ρ' σ H1' H' → RepL K H1' vs xs → Q xs H'
end
structure EX (X : Cx) (own : List Nat) (e : Expr) (f : EF) : Prop where run : PE X e (tE X.K own f)
structure EP' (X : Cx) (own : List Nat) (e : Expr) (f : EF) : Prop where run : PE X e (tP X.K own f)
structure EN (X : Cx) (own : List Nat) (e : Expr) (f : EF) : Prop where run : PE X e (tF X.K own f)
structure TX (X : Cx) (own : List Nat) (e : Expr) (f : TF) : Prop where run : PT X e (tT X.K own f)
structure AX (X : Cx) (own : List Nat) (es : List Expr) (f : AF) : Prop where run : PA X es (tAr X.K own f)

theorem PE.ent {X : Cx} {e : Expr} {t t' : TE} (h : PE X e t) (en : ∀ σ H Q, t' σ H Q → t σ H Q) : PE X e t' := ⟨fun pins s σ H Q I q => h.run pins s σ H Q I (en _ _ _ q)⟩
theorem PT.ent {X : Cx} {e : Expr} {t t' : TT} (h : L2.PT X e t) (en : ∀ σ H Q, t' σ H Q → t σ H Q) : L2.PT X e t' := ⟨fun pins s σ H Q I q => h.run pins s σ H Q I (en _ _ _ q)⟩
theorem PW.ent {X : Cx} {e : Expr} {t t' : TT} (h : L2.PW X e t) (en : ∀ σ H Q, t' σ H Q → t σ H Q) : L2.PW X e t' := ⟨fun wh pins s σ H Q I q => h.run wh pins s σ H Q I (en _ _ _ q)⟩
theorem PA.ent {X : Cx} {e : List Expr} {t t' : TA} (h : L2.PA X e t) (en : ∀ σ H Q, t' σ H Q → t σ H Q) : L2.PA X e t' := ⟨fun wh pins s σ H Q I q => h.run wh pins s σ H Q I (en _ _ _ q)⟩

section
variable {K : PySem.W.Frag} {B : Base} {own : List Nat} {ρ : Env} {σ : L2.St} {H1 H : Hp} {a : Addr} {v : PV}
/-- a new own thing becomes a shared value -/
theorem FR.share (F : FR K own B ρ σ H1 H a v) : ∃ H1', LeR H1 H1' ∧ SR K B own ρ σ H1' H ∧ Rep K H1' v (.ref a) := by
  obtain ⟨o, ho⟩ := F.rep.some
  have S := F.sr
  have le : LeR H1 (upd H1 a o) := LeR.upd F.n1
  have sub : Sub (upd H1 a o) H := fun b u h => by
    by_cases e : b = a
    · rw [e, upd_same] at h; cases h; rw [e]; exact ho
    · rw [upd_ne e] at h; exact S.sub b u h
  refine ⟨upd H1 a o, le, ⟨S.len, sub, fun b u h => ?_, fun j w hj hw => ?_, fun j w hj hw => ?_, S.ds, S.io⟩, ?_⟩
  · obtain ⟨q1, q2⟩ := S.fr b u h
    have : b ≠ a := fun e => by rw [e, F.n0] at h; cases h
    exact ⟨q1, by rw [upd_ne this]; exact q2⟩
  · obtain ⟨x, q1, q2⟩ := S.sh j w hj hw
    exact ⟨x, q1, q2.mono le _ _⟩
  · obtain ⟨b, q1, q2, q3, q4⟩ := S.ow j w hj hw
    have nb : b ≠ a := fun z => F.ne j w hj hw (by rw [← z]; exact q1)
    exact ⟨b, q1, q2, by rw [upd_ne nb]; exact q3, q4.move le rfl⟩
  · have : ORep K (upd H1 a o) (upd H1 a o) a v := F.rep.move le (by rw [upd_same, ho])
    exact this.rt.rep (LeR.refl _)
/-- a new thing at a free place -/
theorem FR.mk' {H' : Hp} (S : SR K B own ρ σ H1 H) (s : Sub H H') (n : H a = none) (r : ORep K H1 H' a v) : FR K own B ρ σ H1 H' a v where
  sr := S.ext ⟨LeR.refl _, S.sub.trans s, fun b o h => ⟨s b o h, rfl⟩⟩
  n0 := by
    cases q : B.H0 a with
    | none => rfl
    | some o => rw [(S.fr a o q).1] at n; cases n
  n1 := S.sub.free n
  rep := r
  ne := fun j w hj hw e => by
    obtain ⟨b, q1, q2, q3, q4⟩ := S.ow j w hj hw
    rw [e] at q1
    obtain rfl : a = b := by injection q1 with q; injection q with q; injection q
    obtain ⟨o, ho⟩ := q4.some
    rw [n] at ho; cases ho
end
theorem EX.peek {X : Cx} {own : List Nat} {e : Expr} {f : EF} (h : EX X own e f) : EP' X own e f := ⟨PE.ent h.run fun σ H Q ⟨B, ρ, v, ρ', H1, S, e, k⟩ =>
  ⟨B, ρ, v, ρ', H1, S, e, fun x H' H1' le S' r => k x H' H1' le S' (r.rt S'.sub.le)⟩⟩
theorem EN.ex {X : Cx} {own : List Nat} {e : Expr} {f : EF} (h : EN X own e f) : EX X own e f := ⟨PE.ent h.run fun σ H Q ⟨B, ρ, v, ρ', H1, S, e, k⟩ =>
  ⟨B, ρ, v, ρ', H1, S, e, fun a H' H1' le F => by
    obtain ⟨H1'', le', S', r⟩ := F.share
    exact k _ H' H1'' (le.trans le') S' r⟩⟩
theorem EN.peek {X : Cx} {own : List Nat} {e : Expr} {f : EF} (h : EN X own e f) : EP' X own e f := h.ex.peek

/-! ### rules by values -/
/-- what is wanted behind a value -/
def kV' (K : PySem.W.Frag) (v : PV) (H1 H : Hp) (Q : VK) : Prop := ∀ z H' H1', Ext H1 H H1' H' → Rep K H1' v z → Q z H'
/-- .. behind a new thing -/
def kF (K : PySem.W.Frag) (v : PV) (H1 H : Hp) (Q : VK) : Prop := ∀ a H', Sub H H' → H a = none → ORep K H1 H' a v → Q (.ref a) H'
theorem kF_of {K : PySem.W.Frag} {v : PV} {H1 H : Hp} {Q : VK} (s : Sub H1 H) (h : kV' K v H1 H Q) : kF K v H1 H Q := fun a H' s' n r => by
  obtain ⟨o, ho⟩ := r.some
  have n1 : H1 a = none := s.free n
  refine h _ H' (upd H1 a o) ⟨LeR.upd n1, fun b u q => ?_, fun b u q => ?_⟩ ?_
  · by_cases e : b = a
    · rw [e, upd_same] at q; cases q; rw [e]; exact ho
    · rw [upd_ne e] at q; exact s' _ _ (s _ _ q)
  · have e : b ≠ a := fun e => by rw [e, n] at q; cases q
    exact ⟨s' _ _ q, by rw [upd_ne e]⟩
  · have : ORep K (upd H1 a o) (upd H1 a o) a v := r.move (LeR.upd n1) (by rw [upd_same, ho])
    exact this.rt.rep (LeR.refl _)
abbrev G2 := PV → PV → Option PV
abbrev GL := List PV → Option PV
def r2V (K : PySem.W.Frag) (g : G2) : R2 := fun x y H Q => ∃ p q v H1, Sub H1 H ∧ RT K H1 H p x ∧ RT K H1 H q y ∧ g p q = some v ∧ kV' K v H1 H Q
def r2F (K : PySem.W.Frag) (g : G2) : R2 := fun x y H Q => ∃ p q v H1, Sub H1 H ∧ RT K H1 H p x ∧ RT K H1 H q y ∧ g p q = some v ∧ kF K v H1 H Q
def OpV (X : Cx) (f : Value → Value → Sem Value) (g : G2) : Prop := OpR X f (r2V X.K g)
def OpF (X : Cx) (f : Value → Value → Sem Value) (g : G2) : Prop := OpR X f (r2F X.K g)
theorem OpR.imp {X : Cx} {f : Value → Value → Sem Value} {r r' : R2} (h : OpR X f r) (i : ∀ x y H Q, r' x y H Q → r x y H Q) : OpR X f r' :=
  fun pins s σ H x y v u Q I rx ry q => h pins s σ H x y v u Q I rx ry (i _ _ _ _ q)
theorem OpF.v {X : Cx} {f : Value → Value → Sem Value} {g : G2} (h : OpF X f g) : OpV X f g := OpR.imp h fun _ _ _ _ ⟨p, q, v, H1, s, a, b, e, k⟩ => ⟨p, q, v, H1, s, a, b, e, kF_of s k⟩
def orG (g g' : G2) : G2 := fun p q => match g p q with | some v => some v | none => g' p q
theorem OpV.or {X : Cx} {f : Value → Value → Sem Value} {g g' : G2} (h : OpV X f g) (h' : OpV X f g') : OpV X f (orG g g') := OpR.imp (OpR.or h h') fun x y H Q ⟨p, q, v, H1, s, a, b, e, k⟩ => by
  unfold orG at e
  split at e
  · rename_i v' e'
    cases e
    exact .inl ⟨p, q, _, H1, s, a, b, e', k⟩
  · exact .inr ⟨p, q, v, H1, s, a, b, e, k⟩
/-- a list of tops -/
def RTL (K : PySem.W.Frag) (H1 H : Hp) : List PV → List V → Prop
  | [], xs => xs = []
  | p :: ps, xs => ∃ x r, xs = x :: r ∧ RT K H1 H p x ∧ RTL K H1 H ps r
theorem RepL.rtl {K : PySem.W.Frag} {H1 H : Hp} (le : LeR H1 H) : ∀ {ps : List PV} {xs : List V}, RepL K H1 ps xs → RTL K H1 H ps xs
  | [], _, h => RepL.nil_iff.mp h
  | p :: ps, _, h => by
    obtain ⟨v, r, rfl, a, b⟩ := RepL.cons_iff.mp h
    exact ⟨v, r, rfl, a.rt le, RepL.rtl le b⟩
def rlV (K : PySem.W.Frag) (g : GL) : List V → Hp → VK → Prop := fun xs H Q => ∃ ps v H1, Sub H1 H ∧ RTL K H1 H ps xs ∧ g ps = some v ∧ kV' K v H1 H Q
def rlF (K : PySem.W.Frag) (g : GL) : List V → Hp → VK → Prop := fun xs H Q => ∃ ps v H1, Sub H1 H ∧ RTL K H1 H ps xs ∧ g ps = some v ∧ kF K v H1 H Q
def CallV (X : Cx) (f : Value) (g : GL) : Prop := CallR X f (rlV X.K g)
def CallF (X : Cx) (f : Value) (g : GL) : Prop := CallR X f (rlF X.K g)
theorem CallR.imp {X : Cx} {f : Value} {r r' : List V → Hp → VK → Prop} (h : CallR X f r) (i : ∀ xs H Q, r' xs H Q → r xs H Q) : CallR X f r' := fun pins s σ H xs us Q I rs q => h pins s σ H xs us Q I rs (i _ _ _ q)
theorem CallF.v {X : Cx} {f : Value} {g : GL} (h : CallF X f g) : CallV X f g := CallR.imp h fun _ _ _ ⟨ps, v, H1, s, a, e, k⟩ => ⟨ps, v, H1, s, a, e, kF_of s k⟩
def orL (g g' : GL) : GL := fun p => match g p with | some v => some v | none => g' p
theorem CallV.or {X : Cx} {f : Value} {g g' : GL} (h : CallV X f g) (h' : CallV X f g') : CallV X f (orL g g') := CallR.imp (CallR.or h h') fun xs H Q ⟨p, v, H1, s, a, e, k⟩ => by
  unfold orL at e
  split at e
  · rename_i v' e'
    cases e
    exact .inl ⟨p, _, H1, s, a, e', k⟩
  · exact .inr ⟨p, v, H1, s, a, e, k⟩
theorem CallF.or {X : Cx} {f : Value} {g g' : GL} (h : CallF X f g) (h' : CallF X f g') : CallF X f (orL g g') := CallR.imp (CallR.or h h') fun xs H Q ⟨p, v, H1, s, a, e, k⟩ => by
  unfold orL at e
  split at e
  · rename_i v' e'
    cases e
    exact .inl ⟨p, _, H1, s, a, e', k⟩
  · exact .inr ⟨p, v, H1, s, a, e, k⟩
def IxV (X : Cx) (g : G2) : Prop := IxR X (r2V X.K g)
theorem IxR.imp {X : Cx} {r r' : R2} (h : IxR X r) (i : ∀ x y H Q, r' x y H Q → r x y H Q) : IxR X r' := fun va sl pins s σ H x y v u Q I rx ry q hs => h va sl pins s σ H x y v u Q I rx ry (i _ _ _ _ q) hs
theorem IxV.or {X : Cx} {g g' : G2} (h : IxV X g) (h' : IxV X g') : IxV X (orG g g') := IxR.imp (IxR.or h h') fun x y H Q ⟨p, q, v, H1, s, a, b, e, k⟩ => by
  unfold orG at e
  split at e
  · rename_i v' e'
    cases e
    exact .inl ⟨p, q, _, H1, s, a, b, e', k⟩
  · exact .inr ⟨p, q, v, H1, s, a, b, e, k⟩

/-! ### the functions of expressions -/
def look (ρ : Env) (i : Nat) : Option PV := match ρ[i]? with | some (some v) => some v | _ => none
theorem look_iff {ρ : Env} {i : Nat} {v : PV} : look ρ i = some v ↔ ρ[i]? = some (some v) := by
  unfold look
  split
  · rename_i w e; rw [e]; simp
  · rename_i h
    constructor
    · intro q; cases q
    · intro q; exact absurd q (h v)
def fVar (i : Nat) : EF := fun ρ => (look ρ i).map fun v => (v, ρ)
def fC (v : PV) : EF := fun ρ => some (v, ρ)
def fOp (g : G2) (fa fb : EF) : EF := fun ρ => (fa ρ).bind fun r => (fb r.2).bind fun s => (g r.1 s.1).map fun v => (v, s.2)
/-- the left one a slot of the body's own: read behind the right one -/
def fOpO (g : G2) (i : Nat) (fb : EF) : EF := fun ρ => (look ρ i).bind fun _ => (fb ρ).bind fun s => (look s.2 i).bind fun p => (g p s.1).map fun v => (v, s.2)
def fUn (g : PV → Option PV) (fa : EF) : EF := fun ρ => (fa ρ).bind fun r => (g r.1).map fun v => (v, r.2)
def fTest (f : EF) : TF := fun ρ => (f ρ).bind fun r => match r.1 with | .bl b => some (b, r.2) | _ => none
def aNil : AF := fun ρ => some ([], ρ)
def aCons (f : EF) (g : AF) : AF := fun ρ => (f ρ).bind fun r => (g r.2).bind fun s => some (r.1 :: s.1, s.2)
def fList (g : GL) (f : AF) : EF := fun ρ => (f ρ).bind fun r => (g r.1).map fun v => (v, r.2)

section
variable {X : Cx} {own : List Nat} {e a b c : Expr} {es : List Expr} {f fa fb fc : EF} {pos p : Pos}
theorem ex_var {i : Nat} (h : PE X e (tVar i)) (hi : i ∉ own) : EX X own e (fVar i) := ⟨PE.ent h fun σ H Q ⟨B, ρ, v, ρ', H1, S, e, k⟩ => by
  obtain ⟨w, hw, e2⟩ := Option.map_eq_some_iff.mp e
  cases e2
  obtain ⟨x, h1, h2⟩ := S.sh i v hi (look_iff.mp hw)
  exact ⟨x, h1, k x H H1 (LeR.refl _) S h2⟩⟩
theorem ep_own {i : Nat} (h : PE X e (tVar i)) (hi : i ∈ own) : EP' X own e (fVar i) := ⟨PE.ent h fun σ H Q ⟨B, ρ, v, ρ', H1, S, e, k⟩ => by
  obtain ⟨w, hw, e2⟩ := Option.map_eq_some_iff.mp e
  cases e2
  obtain ⟨a, h1, h2, h3, h4⟩ := S.ow i v hi (look_iff.mp hw)
  exact ⟨_, h1, k _ H H1 (LeR.refl _) S h4.rt⟩⟩
theorem ex_c {x : V} {v : PV} (h : PE X e (tC x)) (r : ∀ H, Rep X.K H v x) : EX X own e (fC v) := ⟨PE.ent h fun σ H Q ⟨B, ρ, w, ρ', H1, S, e, k⟩ => by
  cases e
  exact k x H H1 (LeR.refl _) S (r _)⟩
theorem rep_int {K : PySem.W.Frag} {H : Hp} {i : Int} : Rep K H (.int i) (.int i) := by simp only [Rep]
theorem rep_bl {K : PySem.W.Frag} {H : Hp} {i : Bool} : Rep K H (.bl i) (.bl i) := by simp only [Rep]
theorem rep_str {K : PySem.W.Frag} {H : Hp} {i : Str} : Rep K H (.str i) (.str i) := by simp only [Rep]
theorem rep_non {K : PySem.W.Frag} {H : Hp} : Rep K H .non .non := by simp only [Rep]
theorem ex_int {i : Int} {j} : EX X own (.Constant (.int i) j pos) (fC (.int i)) := ex_c pe_int fun _ => rep_int
theorem ex_bl {i : Bool} {j} : EX X own (.Constant (.bool i) j pos) (fC (.bl i)) := ex_c pe_bl fun _ => rep_bl
theorem ex_non {j} : EX X own (.Constant .none j pos) (fC .non) := ex_c pe_non fun _ => rep_non
theorem ex_str {x : Str} {j} : EX X own (.Constant (.str x) j pos) (fC (.str x)) := ex_c pe_str fun _ => rep_str

theorem inv_op {g : G2} {ρ ρ' : Env} {v : PV} (e : fOp g fa fb ρ = some (v, ρ')) : ∃ va ρ1 vb, fa ρ = some (va, ρ1) ∧ fb ρ1 = some (vb, ρ') ∧ g va vb = some v := by
  unfold fOp at e
  obtain ⟨⟨va, ρ1⟩, ea, e⟩ := Option.bind_eq_some_iff.mp e
  obtain ⟨⟨vb, ρ2⟩, eb, e⟩ := Option.bind_eq_some_iff.mp e
  obtain ⟨w, ew, e⟩ := Option.map_eq_some_iff.mp e
  cases e
  exact ⟨va, ρ1, vb, ea, eb, ew⟩
theorem inv_opO {g : G2} {i : Nat} {ρ ρ' : Env} {v : PV} (e : fOpO g i fb ρ = some (v, ρ')) : ∃ w vb va, look ρ i = some w ∧ fb ρ = some (vb, ρ') ∧ look ρ' i = some va ∧ g va vb = some v := by
  unfold fOpO at e
  obtain ⟨w, el, e⟩ := Option.bind_eq_some_iff.mp e
  obtain ⟨⟨vb, ρ2⟩, eb, e⟩ := Option.bind_eq_some_iff.mp e
  obtain ⟨va, ea, e⟩ := Option.bind_eq_some_iff.mp e
  obtain ⟨u, ew, e⟩ := Option.map_eq_some_iff.mp e
  cases e
  exact ⟨w, vb, va, el, eb, ea, ew⟩
theorem inv_un {g : PV → Option PV} {ρ ρ' : Env} {v : PV} (e : fUn g fa ρ = some (v, ρ')) : ∃ va, fa ρ = some (va, ρ') ∧ g va = some v := by
  unfold fUn at e
  obtain ⟨⟨va, ρ1⟩, ea, e⟩ := Option.bind_eq_some_iff.mp e
  obtain ⟨w, ew, e⟩ := Option.map_eq_some_iff.mp e
  cases e
  exact ⟨va, ea, ew⟩
theorem inv_list {g : GL} {f : AF} {ρ ρ' : Env} {v : PV} (e : fList g f ρ = some (v, ρ')) : ∃ vs, f ρ = some (vs, ρ') ∧ g vs = some v := by
  unfold fList at e
  obtain ⟨⟨va, ρ1⟩, ea, e⟩ := Option.bind_eq_some_iff.mp e
  obtain ⟨w, ew, e⟩ := Option.map_eq_some_iff.mp e
  cases e
  exact ⟨va, ea, ew⟩
theorem inv_test {ρ ρ' : Env} {b : Bool} (e : fTest f ρ = some (b, ρ')) : f ρ = some (.bl b, ρ') := by
  unfold fTest at e
  obtain ⟨⟨va, ρ1⟩, ea, e⟩ := Option.bind_eq_some_iff.mp e
  cases va <;> simp at e
  obtain ⟨rfl, rfl⟩ := e
  exact ea
theorem inv_cons {g : AF} {ρ ρ' : Env} {vs : List PV} (e : aCons f g ρ = some (vs, ρ')) : ∃ v ρ1 ws, f ρ = some (v, ρ1) ∧ g ρ1 = some (ws, ρ') ∧ vs = v :: ws := by
  unfold aCons at e
  obtain ⟨⟨va, ρ1⟩, ea, e⟩ := Option.bind_eq_some_iff.mp e
  obtain ⟨⟨vb, ρ2⟩, eb, e⟩ := Option.bind_eq_some_iff.mp e
  cases e
  exact ⟨va, ρ1, vb, ea, eb, rfl⟩

theorem ent_op {K : PySem.W.Frag} {g : G2} : ∀ σ H Q, tE K own (fOp g fa fb) σ H Q → tOp (r2V K g) (tE K own fa) (tE K own fb) σ H Q := fun σ H Q ⟨B, ρ, v, ρ', H1, S, e, k⟩ => by
  obtain ⟨va, ρ1, vb, ea, eb, ew⟩ := inv_op e
  refine ⟨B, ρ, va, ρ1, H1, S, ea, fun x H' H1' le S' rx => ?_⟩
  refine ⟨B, ρ1, vb, _, H1', S', eb, fun y H2 H12 le2 S2 ry => ?_⟩
  refine ⟨va, vb, v, H12, S2.sub, (rx.mono le2 _ _).rt S2.sub.le, ry.rt S2.sub.le, ew, fun z H3 H13 ex rz => ?_⟩
  exact k z H3 H13 ((le.trans le2).trans ex.le) (S2.ext ex) rz
theorem ent_opF {K : PySem.W.Frag} {g : G2} : ∀ σ H Q, tF K own (fOp g fa fb) σ H Q → tOp (r2F K g) (tE K own fa) (tE K own fb) σ H Q := fun σ H Q ⟨B, ρ, v, ρ', H1, S, e, k⟩ => by
  obtain ⟨va, ρ1, vb, ea, eb, ew⟩ := inv_op e
  refine ⟨B, ρ, va, ρ1, H1, S, ea, fun x H' H1' le S' rx => ?_⟩
  refine ⟨B, ρ1, vb, _, H1', S', eb, fun y H2 H12 le2 S2 ry => ?_⟩
  refine ⟨va, vb, v, H12, S2.sub, (rx.mono le2 _ _).rt S2.sub.le, ry.rt S2.sub.le, ew, fun a H3 s n r => ?_⟩
  exact k a H3 H12 (le.trans le2) (FR.mk' S2 s n r)
/-- the right one a peek -/
theorem ent_opP {K : PySem.W.Frag} {g : G2} : ∀ σ H Q, tE K own (fOp g fa fb) σ H Q → tOp (r2V K g) (tE K own fa) (tP K own fb) σ H Q := fun σ H Q ⟨B, ρ, v, ρ', H1, S, e, k⟩ => by
  obtain ⟨va, ρ1, vb, ea, eb, ew⟩ := inv_op e
  refine ⟨B, ρ, va, ρ1, H1, S, ea, fun x H' H1' le S' rx => ?_⟩
  refine ⟨B, ρ1, vb, _, H1', S', eb, fun y H2 H12 le2 S2 ry => ?_⟩
  refine ⟨va, vb, v, H12, S2.sub, (rx.mono le2 _ _).rt S2.sub.le, ry, ew, fun z H3 H13 ex rz => ?_⟩
  exact k z H3 H13 ((le.trans le2).trans ex.le) (S2.ext ex) rz
/-- the left one an own slot -/
theorem ent_opO {K : PySem.W.Frag} {g : G2} {i : Nat} (hi : i ∈ own) : ∀ σ H Q, tE K own (fOpO g i fb) σ H Q → tOp (r2V K g) (tVar i) (tE K own fb) σ H Q := fun σ H Q ⟨B, ρ, v, ρ', H1, S, e, k⟩ => by
  obtain ⟨w, vb, va, el, eb, ea, ew⟩ := inv_opO e
  obtain ⟨a, h1, _⟩ := S.ow i w hi (look_iff.mp el)
  refine ⟨_, h1, B, ρ, vb, ρ', H1, S, eb, fun y H2 H12 le S2 ry => ?_⟩
  obtain ⟨a', g1, g2, g3, g4⟩ := S2.ow i va hi (look_iff.mp ea)
  rw [h1] at g1
  obtain rfl : a = a' := by injection g1 with q; injection q with q; injection q
  exact ⟨va, vb, v, H12, S2.sub, g4.rt, ry.rt S2.sub.le, ew, fun z H3 H13 ex rz => k z H3 H13 (le.trans ex.le) (S2.ext ex) rz⟩
theorem ent_opOF {K : PySem.W.Frag} {g : G2} {i : Nat} (hi : i ∈ own) : ∀ σ H Q, tF K own (fOpO g i fb) σ H Q → tOp (r2F K g) (tVar i) (tE K own fb) σ H Q := fun σ H Q ⟨B, ρ, v, ρ', H1, S, e, k⟩ => by
  obtain ⟨w, vb, va, el, eb, ea, ew⟩ := inv_opO e
  obtain ⟨a, h1, _⟩ := S.ow i w hi (look_iff.mp el)
  refine ⟨_, h1, B, ρ, vb, ρ', H1, S, eb, fun y H2 H12 le S2 ry => ?_⟩
  obtain ⟨a', g1, g2, g3, g4⟩ := S2.ow i va hi (look_iff.mp ea)
  rw [h1] at g1
  obtain rfl : a = a' := by injection g1 with q; injection q with q; injection q
  exact ⟨va, vb, v, H12, S2.sub, g4.rt, ry.rt S2.sub.le, ew, fun b H3 s n r => k b H3 H12 le (FR.mk' S2 s n r)⟩
theorem ent_test {K : PySem.W.Frag} {t : TE} (h : ∀ σ H Q, tE K own f σ H Q → t σ H Q) : ∀ σ H Q, tT K own (fTest f) σ H Q → tTest t σ H Q := fun σ H Q ⟨B, ρ, b, ρ', H1, S, e, k⟩ => by
  refine h σ H _ ⟨B, ρ, .bl b, ρ', H1, S, inv_test e, fun x H' H1' le S' r => ?_⟩
  simp only [Rep] at r
  exact ⟨b, r, k H' H1' le S'⟩

/-! a op b -/
theorem ex_op {op : Operator} {g : G2} (ho : OpV X (binaryOp op) g) (ha : EX X own a fa) (hb : EX X own b fb) : EX X own (.BinOp a op b pos) (fOp g fa fb) := ⟨PE.ent (pe_op ho ha.run hb.run) ent_op⟩
theorem en_op {op : Operator} {g : G2} (ho : OpF X (binaryOp op) g) (ha : EX X own a fa) (hb : EX X own b fb) : EN X own (.BinOp a op b pos) (fOp g fa fb) := ⟨PE.ent (pe_op ho ha.run hb.run) ent_opF⟩
/-! comparisons -/
theorem ex_cmp {op : CmpOp} {g : G2} (ho : OpV X (compareOp op) g) (ha : EX X own a fa) (hb : EX X own b fb) (hm : behindInMarks op b = false) : EX X own (.Compare a [op] [b] pos) (fOp g fa fb) := ⟨PE.ent (pe_cmpR ho ha.run hb.run hm) ent_op⟩
theorem ex_cmpP {op : CmpOp} {g : G2} (ho : OpV X (compareOp op) g) (ha : EX X own a fa) (hb : EP' X own b fb) (hm : behindInMarks op b = false) : EX X own (.Compare a [op] [b] pos) (fOp g fa fb) := ⟨PE.ent (pe_cmpR ho ha.run hb.run hm) ent_opP⟩
theorem ex_cmpO {op : CmpOp} {g : G2} {i : Nat} (ho : OpV X (compareOp op) g) (ha : PE X a (tVar i)) (hi : i ∈ own) (hb : EX X own b fb) (hm : behindInMarks op b = false) : EX X own (.Compare a [op] [b] pos) (fOpO g i fb) := ⟨PE.ent (pe_cmpR ho ha hb.run hm) (ent_opO hi)⟩
theorem tx_cmp {op : CmpOp} {g : G2} (ho : OpV X (compareOp op) g) (ha : EX X own a fa) (hb : EX X own b fb) (hm : behindInMarks op b = false) : TX X own (.Compare a [op] [b] pos) (fTest (fOp g fa fb)) := ⟨PT.ent (pt_cmpR ho ha.run hb.run hm) (ent_test ent_op)⟩
theorem tx_cmpP {op : CmpOp} {g : G2} (ho : OpV X (compareOp op) g) (ha : EX X own a fa) (hb : EP' X own b fb) (hm : behindInMarks op b = false) : TX X own (.Compare a [op] [b] pos) (fTest (fOp g fa fb)) := ⟨PT.ent (pt_cmpR ho ha.run hb.run hm) (ent_test ent_opP)⟩
theorem tx_cmpO {op : CmpOp} {g : G2} {i : Nat} (ho : OpV X (compareOp op) g) (ha : PE X a (tVar i)) (hi : i ∈ own) (hb : EX X own b fb) (hm : behindInMarks op b = false) : TX X own (.Compare a [op] [b] pos) (fTest (fOpO g i fb)) := ⟨PT.ent (pt_cmpR ho ha hb.run hm) (ent_test (ent_opO hi))⟩
/-! a[b] -/
theorem ex_ix {g : G2} (ho : IxV X g) (ha : EX X own a fa) (hb : EX X own b fb) (hs : PlainIx b) : EX X own (.Subscript a b pos) (fOp g fa fb) := ⟨PE.ent (pe_ix ho ha.run hb.run hs) ent_op⟩
theorem ex_ixO {g : G2} {i : Nat} (ho : IxV X g) (ha : PE X a (tVar i)) (hi : i ∈ own) (hb : EX X own b fb) (hs : PlainIx b) : EX X own (.Subscript a b pos) (fOpO g i fb) := ⟨PE.ent (pe_ix ho ha hb.run hs) (ent_opO hi)⟩
/-! arguments -/
theorem ax_nil : AX X own [] aNil := ⟨PA.ent pa_nil fun σ H Q ⟨B, ρ, vs, ρ', H1, S, e, k⟩ => by
  cases e
  exact k [] H H1 (LeR.refl _) S RepL.nil⟩
theorem ax_cons {g : AF} (ha : EX X own e f) (hr : AX X own es g) (hs : starEach (e :: es) X.env = (false, eval e X.env) :: starEach es X.env := by rfl) : AX X own (e :: es) (aCons f g) := ⟨PA.ent (pa_cons ha.run hr.run hs) fun σ H Q ⟨B, ρ, vs, ρ', H1, S, e, k⟩ => by
  obtain ⟨v, ρ1, ws, e1, e2, rfl⟩ := inv_cons e
  refine ⟨B, ρ, v, ρ1, H1, S, e1, fun x H' H1' le S' rx => ⟨B, ρ1, ws, ρ', H1', S', e2, fun xs H2 H12 le2 S2 rs => ?_⟩⟩
  exact k _ H2 H12 (le.trans le2) S2 (RepL.cons (rx.mono le2 _ _) rs)⟩
theorem ent_call {K : PySem.W.Frag} {g : GL} {ff : AF} : ∀ σ H Q, tE K own (fList g ff) σ H Q → tCB (rlV K g) (tAr K own ff) σ H Q := fun σ H Q ⟨B, ρ, v, ρ', H1, S, e, k⟩ => by
  obtain ⟨vs, e1, e2⟩ := inv_list e
  exact ⟨B, ρ, vs, ρ', H1, S, e1, fun xs H' H1' le S' rs => ⟨vs, v, H1', S'.sub, rs.rtl S'.sub.le, e2, fun z H3 H13 ex rz => k z H3 H13 (le.trans ex.le) (S'.ext ex) rz⟩⟩
theorem ent_callF {K : PySem.W.Frag} {g : GL} {ff : AF} : ∀ σ H Q, tF K own (fList g ff) σ H Q → tCB (rlF K g) (tAr K own ff) σ H Q := fun σ H Q ⟨B, ρ, v, ρ', H1, S, e, k⟩ => by
  obtain ⟨vs, e1, e2⟩ := inv_list e
  exact ⟨B, ρ, vs, ρ', H1, S, e1, fun xs H' H1' le S' rs => ⟨vs, v, H1', S'.sub, rs.rtl S'.sub.le, e2, fun a H3 s n r => k a H3 H1' le (FR.mk' S' s n r)⟩⟩
def a1 (f : EF) : AF := fun ρ => (f ρ).bind fun r => some ([r.1], r.2)
theorem inv_a1 {ρ ρ' : Env} {vs : List PV} (e : a1 f ρ = some (vs, ρ')) : ∃ v, f ρ = some (v, ρ') ∧ vs = [v] := by
  unfold a1 at e
  obtain ⟨⟨va, ρ1⟩, ea, e⟩ := Option.bind_eq_some_iff.mp e
  cases e
  exact ⟨va, ea, rfl⟩
theorem ent_call1 {K : PySem.W.Frag} {g : GL} : ∀ σ H Q, tE K own (fList g (a1 f)) σ H Q → tCB (rlV K g) (tCons (tP K own f) tNil) σ H Q := fun σ H Q ⟨B, ρ, v, ρ', H1, S, e, k⟩ => by
  obtain ⟨vs, e1, e2⟩ := inv_list e
  obtain ⟨w, e3, rfl⟩ := inv_a1 e1
  exact ⟨B, ρ, w, ρ', H1, S, e3, fun x H' H1' le S' rx => ⟨[w], v, H1', S'.sub, ⟨x, [], rfl, rx, rfl⟩, e2, fun z H3 H13 ex rz => k z H3 H13 (le.trans ex.le) (S'.ext ex) rz⟩⟩
theorem ent_call1F {K : PySem.W.Frag} {g : GL} : ∀ σ H Q, tF K own (fList g (a1 f)) σ H Q → tCB (rlF K g) (tCons (tP K own f) tNil) σ H Q := fun σ H Q ⟨B, ρ, v, ρ', H1, S, e, k⟩ => by
  obtain ⟨vs, e1, e2⟩ := inv_list e
  obtain ⟨w, e3, rfl⟩ := inv_a1 e1
  exact ⟨B, ρ, w, ρ', H1, S, e3, fun x H' H1' le S' rx => ⟨[w], v, H1', S'.sub, ⟨x, [], rfl, rx, rfl⟩, e2, fun a H3 s n r => k a H3 H1' le (FR.mk' S' s n r)⟩⟩
/-! built-ins: x(e) one argument, a peek; x(e, ..) -/
section
variable {x : Str} {id T : String} {g : GL}
theorem ex_b1 (hc : CallV X (.builtin id) g) (ha : EP' X own e f) (hg : Gl X x) (hm : X.mg x = none) (hv : bootBuiltins x = some (.builtin id)) (hs : starEach [e] X.env = (false, eval e X.env) :: starEach [] X.env := by rfl) (hn : x ≠ "__name__" := by decide) (hdb : (x == ("__debug__" : Str)) = false := by decide)
    (hpl : (backTo pos (starEach [] X.env)).any (·.1) = false := by rfl) : EX X own (.Call (.Name x p) [e] [] pos) (fList g (a1 f)) := ⟨PE.ent (pe_callB hc hg hm hv (pa_cons ha.run pa_nil hs) hn hdb hs hpl) ent_call1⟩
theorem en_b1 (hc : CallF X (.builtin id) g) (ha : EP' X own e f) (hg : Gl X x) (hm : X.mg x = none) (hv : bootBuiltins x = some (.builtin id)) (hs : starEach [e] X.env = (false, eval e X.env) :: starEach [] X.env := by rfl) (hn : x ≠ "__name__" := by decide) (hdb : (x == ("__debug__" : Str)) = false := by decide)
    (hpl : (backTo pos (starEach [] X.env)).any (·.1) = false := by rfl) : EN X own (.Call (.Name x p) [e] [] pos) (fList g (a1 f)) := ⟨PE.ent (pe_callB hc hg hm hv (pa_cons ha.run pa_nil hs) hn hdb hs hpl) ent_call1F⟩
theorem ex_t1 (hc : CallV X (.type T) g) (ha : EP' X own e f) (hg : Gl X x) (hm : X.mg x = none) (hv : bootBuiltins x = some (.type T)) (hs : starEach [e] X.env = (false, eval e X.env) :: starEach [] X.env := by rfl) (hn : x ≠ "__name__" := by decide) (hdb : (x == ("__debug__" : Str)) = false := by decide)
    (hpl : (backTo pos (starEach [] X.env)).any (·.1) = false := by rfl) : EX X own (.Call (.Name x p) [e] [] pos) (fList g (a1 f)) := ⟨PE.ent (pe_callTy hc hg hm hv (pa_cons ha.run pa_nil hs) hn hdb hs hpl) ent_call1⟩
theorem en_t1 (hc : CallF X (.type T) g) (ha : EP' X own e f) (hg : Gl X x) (hm : X.mg x = none) (hv : bootBuiltins x = some (.type T)) (hs : starEach [e] X.env = (false, eval e X.env) :: starEach [] X.env := by rfl) (hn : x ≠ "__name__" := by decide) (hdb : (x == ("__debug__" : Str)) = false := by decide)
    (hpl : (backTo pos (starEach [] X.env)).any (·.1) = false := by rfl) : EN X own (.Call (.Name x p) [e] [] pos) (fList g (a1 f)) := ⟨PE.ent (pe_callTy hc hg hm hv (pa_cons ha.run pa_nil hs) hn hdb hs hpl) ent_call1F⟩
theorem ex_b (hc : CallV X (.builtin id) g) {ff : AF} (ha : AX X own (e :: es) ff) (hg : Gl X x) (hm : X.mg x = none) (hv : bootBuiltins x = some (.builtin id)) (hs : starEach (e :: es) X.env = (false, eval e X.env) :: starEach es X.env := by rfl) (hn : x ≠ "__name__" := by decide) (hdb : (x == ("__debug__" : Str)) = false := by decide)
    (hpl : (backTo pos (starEach es X.env)).any (·.1) = false := by rfl) : EX X own (.Call (.Name x p) (e :: es) [] pos) (fList g ff) := ⟨PE.ent (pe_callB hc hg hm hv ha.run hn hdb hs hpl) ent_call⟩
end
/-! displays -/
def gTuple : GL := fun vs => if vs.length ≤ 1000000 then some (.tup vs) else none
def gListD : GL := fun vs => if vs.length ≤ 1000000 then some (.lst vs) else none
theorem ex_tup {ff : AF} {x1} (h : AX X own es ff) : EX X own (.Tuple es x1 pos) (fList gTuple ff) := ⟨PE.ent (pe_tupF h.run) fun σ H Q ⟨B, ρ, v, ρ', H1, S, e, k⟩ => by
  obtain ⟨vs, e1, e2⟩ := inv_list e
  refine ⟨B, ρ, vs, ρ', H1, S, e1, fun xs H' H1' le S' rs => ?_⟩
  unfold gTuple at e2
  split at e2
  · rename_i hl
    cases e2
    refine ⟨by rw [rs.length, sizeLine_eq]; omega, fun p ob hp hd => ?_⟩
    have ex := Ext.alloc (o := .frz ob (.tup xs)) S'.sub hp
    refine k _ _ _ (le.trans ex.le) (S'.ext ex) ?_
    simp only [Rep]
    exact ⟨p, xs, rfl, TupAt.new hd, rs.mono ex.le _ _⟩
  · cases e2⟩
theorem en_lst {ff : AF} (h : AX X own es ff) : EN X own (.List es pos) (fList gListD ff) := ⟨PE.ent (pe_lst h.run) fun σ H Q ⟨B, ρ, v, ρ', H1, S, e, k⟩ => by
  obtain ⟨vs, e1, e2⟩ := inv_list e
  refine ⟨B, ρ, vs, ρ', H1, S, e1, fun xs H' H1' le S' rs => ?_⟩
  unfold gListD at e2
  split at e2
  · rename_i hl
    cases e2
    refine ⟨by rw [rs.length, sizeLine_eq]; omega, fun p hp => ?_⟩
    exact k _ _ _ le (FR.mk' S' (fun b o q => by rw [upd_ne (ne_of_none q hp)]; exact q) hp ⟨xs, upd_same, rs⟩)
  · cases e2⟩
/-! unary, not, and, or, if -/
def UnV (X : Cx) (f : Value → Sem Value) (g : PV → Option PV) : Prop := UnR X f (fun x H Q => ∃ p v H1, Sub H1 H ∧ RT X.K H1 H p x ∧ g p = some v ∧ kV' X.K v H1 H Q)
theorem ex_un {op : UnaryOp} {g : PV → Option PV} (ho : UnV X (unaryOp op) g) (ha : EX X own a fa) : EX X own (.UnaryOp op a pos) (fUn g fa) := ⟨PE.ent (pe_un ho ha.run) fun σ H Q ⟨B, ρ, v, ρ', H1, S, e, k⟩ => by
  obtain ⟨w, e1, e2⟩ := inv_un e
  exact ⟨B, ρ, w, ρ', H1, S, e1, fun x H' H1' le S' rx => ⟨w, v, H1', S'.sub, rx.rt S'.sub.le, e2, fun z H3 H13 ex rz => k z H3 H13 (le.trans ex.le) (S'.ext ex) rz⟩⟩⟩
def fNotT (f : TF) : TF := fun ρ => (f ρ).bind fun r => some (!r.1, r.2)
def fAndT (f g : TF) : TF := fun ρ => (f ρ).bind fun r => if r.1 = true then g r.2 else some (false, r.2)
def fOrT (f g : TF) : TF := fun ρ => (f ρ).bind fun r => if r.1 = true then some (true, r.2) else g r.2
def fIf {α : Type} (c : TF) (f g : Env → Option (α × Env)) : Env → Option (α × Env) := fun ρ => (c ρ).bind fun r => if r.1 = true then f r.2 else g r.2
/-- a test as a value -/
def fB (f : TF) : EF := fun ρ => (f ρ).bind fun r => some (.bl r.1, r.2)
theorem inv_b1 {α β : Type} {f : Env → Option (α × Env)} {k : α × Env → Option β} {ρ : Env} {r : β} (e : (f ρ).bind k = some r) : ∃ a ρ1, f ρ = some (a, ρ1) ∧ k (a, ρ1) = some r := by
  obtain ⟨⟨va, ρ1⟩, ea, e⟩ := Option.bind_eq_some_iff.mp e
  exact ⟨va, ρ1, ea, e⟩
theorem tx_not {f : TF} (h : TX X own a f) : TX X own (.UnaryOp .Not a pos) (fNotT f) := ⟨PT.ent (pt_not h.run) fun σ H Q ⟨B, ρ, v, ρ', H1, S, e, k⟩ => by
  obtain ⟨b, ρ1, e1, e2⟩ := inv_b1 e
  cases e2
  exact ⟨B, ρ, b, ρ1, H1, S, e1, fun H' H1' le S' => k H' H1' le S'⟩⟩
structure WX (X : Cx) (own : List Nat) (e : Expr) (f : TF) : Prop where run : L2.PW X e (tT X.K own f)
theorem WX.t {f : TF} (h : WX X own e f) : TX X own e f := ⟨h.run.pt⟩
theorem wx_and1 {f : TF} (h : TX X own a f) : WX X own (.BoolOp .And [a] pos) f := ⟨pw_and1 h.run⟩
theorem wx_or1 {f : TF} (h : TX X own a f) : WX X own (.BoolOp .Or [a] pos) f := ⟨pw_or1 h.run⟩
theorem wx_and {f g : TF} (h : TX X own a f) (h2 : WX X own (.BoolOp .And (b :: es) pos) g) : WX X own (.BoolOp .And (a :: b :: es) pos) (fAndT f g) := ⟨PW.ent (pw_and h.run h2.run) fun σ H Q ⟨B, ρ, v, ρ', H1, S, e, k⟩ => by
  obtain ⟨b, ρ1, e1, e2⟩ := inv_b1 e
  refine ⟨B, ρ, b, ρ1, H1, S, e1, fun H' H1' le S' => ?_⟩
  cases b with
  | true => exact iteT ⟨B, ρ1, v, ρ', H1', S', e2, fun H2 H12 le2 S2 => k H2 H12 (le.trans le2) S2⟩
  | false => cases e2; exact iteF (k H' H1' le S')⟩
theorem wx_or {f g : TF} (h : TX X own a f) (h2 : WX X own (.BoolOp .Or (b :: es) pos) g) : WX X own (.BoolOp .Or (a :: b :: es) pos) (fOrT f g) := ⟨PW.ent (pw_or h.run h2.run) fun σ H Q ⟨B, ρ, v, ρ', H1, S, e, k⟩ => by
  obtain ⟨b, ρ1, e1, e2⟩ := inv_b1 e
  refine ⟨B, ρ, b, ρ1, H1, S, e1, fun H' H1' le S' => ?_⟩
  cases b with
  | false => exact iteF ⟨B, ρ1, v, ρ', H1', S', e2, fun H2 H12 le2 S2 => k H2 H12 (le.trans le2) S2⟩
  | true => cases e2; exact iteT (k H' H1' le S')⟩
theorem ex_ifExp {f : TF} (hc : TX X own c f) (ha : EX X own a fa) (hb : EX X own b fb) : EX X own (.IfExp c a b pos) (fIf f fa fb) := ⟨PE.ent (pe_ifExp hc.run ha.run hb.run) fun σ H Q ⟨B, ρ, v, ρ', H1, S, e, k⟩ => by
  obtain ⟨b, ρ1, e1, e2⟩ := inv_b1 e
  refine ⟨B, ρ, b, ρ1, H1, S, e1, fun H' H1' le S' => ?_⟩
  cases b with
  | true => exact iteT ⟨B, ρ1, v, ρ', H1', S', e2, fun x H2 H12 le2 S2 => k x H2 H12 (le.trans le2) S2⟩
  | false => exact iteF ⟨B, ρ1, v, ρ', H1', S', e2, fun x H2 H12 le2 S2 => k x H2 H12 (le.trans le2) S2⟩⟩
/-! not, and, or of bools as values -/
def fNotV (f : EF) : EF := fUn (fun p => match p with | .bl b => some (.bl (!b)) | _ => none) f
def fAndV (f g : EF) : EF := fun ρ => (f ρ).bind fun r => match r.1 with | .bl true => g r.2 | .bl false => some (.bl false, r.2) | _ => none
def fOrV (f g : EF) : EF := fun ρ => (f ρ).bind fun r => match r.1 with | .bl false => g r.2 | .bl true => some (.bl true, r.2) | _ => none
theorem ex_one {op} (h : EX X own a f) : EX X own (.BoolOp op [a] pos) f := ⟨pe_one h.run⟩
theorem ex_not (h : EX X own a f) : EX X own (.UnaryOp .Not a pos) (fNotV f) := ⟨PE.ent (pe_not h.run) fun σ H Q ⟨B, ρ, v, ρ', H1, S, e, k⟩ => by
  obtain ⟨w, e1, e2⟩ := inv_un e
  refine ⟨B, ρ, w, ρ', H1, S, e1, fun x H' H1' le S' rx => ?_⟩
  cases w with
  | bl b =>
    cases e2
    simp only [Rep] at rx
    exact ⟨b, rx, k _ H' H1' le S' rep_bl⟩
  | _ => cases e2⟩
theorem ex_and (h : EX X own a fa) (h2 : EX X own (.BoolOp .And (b :: es) pos) fb) : EX X own (.BoolOp .And (a :: b :: es) pos) (fAndV fa fb) := ⟨PE.ent (pe_and h.run h2.run) fun σ H Q ⟨B, ρ, v, ρ', H1, S, e, k⟩ => by
  obtain ⟨w, ρ1, e1, e2⟩ := inv_b1 e
  refine ⟨B, ρ, w, ρ1, H1, S, e1, fun x H' H1' le S' rx => ?_⟩
  cases w with
  | bl b =>
    simp only [Rep] at rx
    refine ⟨b, rx, ?_⟩
    cases b with
    | true => exact iteT ⟨B, ρ1, v, ρ', H1', S', e2, fun x H2 H12 le2 S2 => k x H2 H12 (le.trans le2) S2⟩
    | false => cases e2; exact iteF (k _ H' H1' le S' rep_bl)
  | _ => cases e2⟩
theorem ex_or (h : EX X own a fa) (h2 : EX X own (.BoolOp .Or (b :: es) pos) fb) : EX X own (.BoolOp .Or (a :: b :: es) pos) (fOrV fa fb) := ⟨PE.ent (pe_or h.run h2.run) fun σ H Q ⟨B, ρ, v, ρ', H1, S, e, k⟩ => by
  obtain ⟨w, ρ1, e1, e2⟩ := inv_b1 e
  refine ⟨B, ρ, w, ρ1, H1, S, e1, fun x H' H1' le S' rx => ?_⟩
  cases w with
  | bl b =>
    simp only [Rep] at rx
    refine ⟨b, rx, ?_⟩
    cases b with
    | false => exact iteF ⟨B, ρ1, v, ρ', H1', S', e2, fun x H2 H12 le2 S2 => k x H2 H12 (le.trans le2) S2⟩
    | true => cases e2; exact iteT (k _ H' H1' le S' rep_bl)
  | _ => cases e2⟩
/-! truth -/
def gTru : PV → Option Bool
  | .non => some false
  | .bl b => some b
  | .int i => some (i != 0)
  | .str y => if y.length ≤ 1000000 then some ((y.length : Int) != 0) else none
  | .tup xs => some (!xs.isEmpty)
  | .lst xs => some (!xs.isEmpty)
  | _ => none
def fTru (f : EF) : TF := fun ρ => (f ρ).bind fun r => (gTru r.1).map fun b => (b, r.2)
theorem isEmpty_rep {K : PySem.W.Frag} {H : Hp} : ∀ {ps : List PV} {vs : List V}, RepL K H ps vs → vs.isEmpty = ps.isEmpty
  | [], _, h => by rw [RepL.nil_iff.mp h]; rfl
  | p :: ps, _, h => by obtain ⟨v, r, rfl, a, b⟩ := RepL.cons_iff.mp h; rfl
theorem rt_tup {K : PySem.W.Frag} {H1 H : Hp} {xs : List PV} {x : V} (r : RT K H1 H (.tup xs) x) : ∃ a vs, x = .ref a ∧ TupAt K H1 a vs ∧ RepL K H1 xs vs := by
  have h : Rep K H1 (.tup xs) x := r
  simpa only [Rep] using h
theorem tru_rt {K : PySem.W.Frag} {H1 H : Hp} {p : PV} {x : V} {b : Bool} (le : LeR H1 H) (r : RT K H1 H p x) (e : gTru p = some b) : TruV K x H b := by
  cases p with
  | non => cases e; have := r.scal; simp only at this; subst this; rfl
  | bl c => cases e; have := r.scal; simp only at this; subst this; rfl
  | int c => cases e; have := r.scal; simp only at this; subst this; rfl
  | str c =>
    have := r.scal; simp only at this; subst this
    simp only [gTru] at e
    split at e
    · rename_i hl
      cases e
      exact ⟨by rw [sizeLine_eq]; omega, rfl⟩
    · cases e
  | tup xs => cases e; obtain ⟨a, vs, rfl, q, rl⟩ := rt_tup r; exact .inr (.inl ⟨vs, le.sqT q.sq, by rw [isEmpty_rep rl]⟩)
  | lst xs => cases e; obtain ⟨a, vs, rfl, q, rl⟩ := r; exact .inl ⟨vs, .inl q, by rw [isEmpty_rep rl]⟩
  | _ => cases e
theorem tx_tru (h : EP' X own a f) (he : ∀ whole, isTrue a X.env whole = (do let v ← whole; standAt a.pos; holding [v] (truthy v)) := by intro _; rfl) : TX X own a (fTru f) := ⟨PT.ent (pt_truth h.run he) fun σ H Q ⟨B, ρ, v, ρ', H1, S, e, k⟩ => by
  obtain ⟨w, ρ1, e1, e2⟩ := inv_b1 e
  obtain ⟨b, e3, e4⟩ := Option.map_eq_some_iff.mp e2
  cases e4
  exact ⟨B, ρ, w, ρ1, H1, S, e1, fun x H' H1' le S' rx => ⟨v, tru_rt S'.sub.le rx e3, k H' H1' le S'⟩⟩⟩
end
end PT

set_option Elab.async false
set_option linter.all false
set_option autoImplicit false
set_option maxRecDepth 100000
set_option maxHeartbeats 4000000
/-! PT4: statements, loops, defs and their calls. -/
namespace PT
open PySem PySem.Spec PyProof.Rows L2

/-- what is asked behind a statement -/
def Post (K : PySem.W.Frag) (B : Base) (lm own' : List Nat) (D : Ends) (fl : Fl) (ρ' : Env) (H1 : Hp) : Prop := match fl with
  | .nx => ∀ σ' H' H1', LeR H1 H1' → SR K B own' ρ' σ' H1' H' → D.nx σ' H'
  | .bk => ∀ σ' H' H1', LeR H1 H1' → SR K B lm ρ' σ' H1' H' → D.bk σ' H'
  | .ct => ∀ σ' H' H1', LeR H1 H1' → SR K B lm ρ' σ' H1' H' → D.ct σ' H'
  | .rt v => ∀ x ow σ' H' H1', LeR H1 H1' → SR K B ow ρ' σ' H1' H' → Rep K H1' v x → D.rt x H'
theorem Post.mono {K : PySem.W.Frag} {B : Base} {lm own' : List Nat} {D : Ends} {fl : Fl} {ρ' : Env} {H1 H2 : Hp} (le : LeR H1 H2) (h : Post K B lm own' D fl ρ' H1) : Post K B lm own' D fl ρ' H2 := by
  cases fl with
  | nx => exact fun σ' H' H1' l S => h σ' H' H1' (le.trans l) S
  | bk => exact fun σ' H' H1' l S => h σ' H' H1' (le.trans l) S
  | ct => exact fun σ' H' H1' l S => h σ' H' H1' (le.trans l) S
  | rt v => exact fun x ow σ' H' H1' l S r => h x ow σ' H' H1' (le.trans l) S r
def tS (K : PySem.W.Frag) (io lm own own' : List Nat) (f : SF) : TS := fun D σ H => ∃ B ρ fl ρ' H1, (∀ p ∈ B.io, p.1 ∈ io) ∧ SR K B own ρ σ H1 H ∧ f ρ = some (fl, ρ') ∧ Post K B lm own' D fl ρ' H1
structure SX (X : Cx) (io lm own own' : List Nat) (st : Stmt) (f : SF) : Prop where run : PS X st (tS X.K io lm own own' f)
structure SsX (X : Cx) (io lm own own' : List Nat) (st : List Stmt) (f : SF) : Prop where run : PSs X st (tS X.K io lm own own' f)
theorem PS.ent {X : Cx} {e : Stmt} {t t' : TS} (h : PS X e t) (en : ∀ D σ H, t' D σ H → t D σ H) : PS X e t' := ⟨fun pins s σ H Q I q => h.run pins s σ H Q I (en _ _ _ q)⟩
theorem PSs.ent {X : Cx} {e : List Stmt} {t t' : TS} (h : PSs X e t) (en : ∀ D σ H, t' D σ H → t D σ H) : PSs X e t' := ⟨fun pins s σ H Q I q => h.run pins s σ H Q I (en _ _ _ q)⟩

def fNx : SF := fun ρ => some (.nx, ρ)
def fSeq (f g : SF) : SF := fun ρ => (f ρ).bind fun r => match r.1 with
  | .nx => g r.2
  | fl => some (fl, r.2)
def fRet (f : EF) : SF := fun ρ => (f ρ).bind fun r => some (.rt r.1, r.2)
def fDrop (f : EF) : SF := fun ρ => (f ρ).bind fun r => some (.nx, r.2)
def fSet (i : Nat) (f : EF) : SF := fun ρ => (f ρ).bind fun r => some (.nx, r.2.set i (some r.1))
section
variable {X : Cx} {io lm own own' own2 : List Nat} {st : Stmt} {rest : List Stmt} {f g : SF} {e : Expr} {fe : EF} {pos : Pos}
theorem ss_nil : SsX X io lm own own [] fNx := ⟨PSs.ent pss_nil fun D σ H ⟨B, ρ, fl, ρ', H1, hio, S, e, k⟩ => by
  cases e
  exact k σ H H1 (LeR.refl _) S⟩
theorem ss_one (h : SX X io lm own own' st f) : SsX X io lm own own' [st] f := ⟨pss_one h.run⟩
theorem ss_cons (h : SX X io lm own own' st f) (h2 : SsX X io lm own' own2 rest g) : SsX X io lm own own2 (st :: rest) (fSeq f g) := ⟨PSs.ent (pss_cons h.run h2.run) fun D σ H ⟨B, ρ, fl, ρ', H1, hio, S, e, k⟩ => by
  obtain ⟨fl1, ρ1, e1, e2⟩ := inv_b1 e
  refine ⟨B, ρ, fl1, ρ1, H1, hio, S, e1, ?_⟩
  cases fl1 with
  | nx => exact fun σ' H' H1' le S' => ⟨B, ρ1, fl, ρ', H1', hio, S', e2, k.mono le⟩
  | bk => cases e2; exact k
  | ct => cases e2; exact k
  | rt v => cases e2; exact k⟩
theorem sx_ret (h : EX X own e fe) : SX X io lm own own' (.Return (some e) pos) (fRet fe) := ⟨PS.ent (ps_ret h.run) fun D σ H ⟨B, ρ, fl, ρ', H1, hio, S, e, k⟩ => by
  obtain ⟨v, ρ1, e1, e2⟩ := inv_b1 e
  cases e2
  exact ⟨B, ρ, v, ρ1, H1, S, e1, fun x H' H1' le S' r => k x own σ H' H1' le S' r⟩⟩
theorem sx_retN : SX X io lm own own' (.Return none pos) (fRet (fC .non)) := ⟨PS.ent ps_retN fun D σ H ⟨B, ρ, fl, ρ', H1, hio, S, e, k⟩ => by
  cases e
  exact k .non own σ H H1 (LeR.refl _) S rep_non⟩
theorem sx_pass : SX X io lm own own (.Pass pos) fNx := ⟨PS.ent ps_pass fun D σ H ⟨B, ρ, fl, ρ', H1, hio, S, e, k⟩ => by
  cases e
  exact k σ H H1 (LeR.refl _) S⟩
theorem sx_break : SX X io lm lm own' (.Break pos) (fun ρ => some (.bk, ρ)) := ⟨PS.ent ps_break fun D σ H ⟨B, ρ, fl, ρ', H1, hio, S, e, k⟩ => by
  cases e
  exact k σ H H1 (LeR.refl _) S⟩
theorem sx_cont : SX X io lm lm own' (.Continue pos) (fun ρ => some (.ct, ρ)) := ⟨PS.ent ps_continue fun D σ H ⟨B, ρ, fl, ρ', H1, hio, S, e, k⟩ => by
  cases e
  exact k σ H H1 (LeR.refl _) S⟩
theorem sx_expr (h : EX X own e fe) (hs : swapsWith e none pos.line X.env = pure false := by rfl) : SX X io lm own own (.Expr e pos) (fDrop fe) := ⟨PS.ent (ps_expr h.run hs) fun D σ H ⟨B, ρ, fl, ρ', H1, hio, S, e, k⟩ => by
  obtain ⟨v, ρ1, e1, e2⟩ := inv_b1 e
  cases e2
  exact ⟨B, ρ, v, ρ1, H1, S, e1, fun x H' H1' le S' r => k σ H' H1' le S'⟩⟩
/-- code that is never reached -/
theorem sx_never : SX X io lm own own' st (fun _ => none) := ⟨PS.ent ps_never fun D σ H ⟨B, ρ, fl, ρ', H1, hio, S, e, k⟩ => by cases e⟩
/-- x = e -/
theorem sx_set {i : Nat} {x : Str} {pos' : Pos} (hN : X.N.Nodup) (hi : X.N[i]? = some x) (hx : Loc X.env.scope x) (hown : i ∉ own) (h : EX X own e fe) (hs : swapsWith e (some (.Name x pos')) pos.line X.env = pure false := by rfl)
    (hf : X.fn x = true ∨ X.env.scope.names.lookup x = some .local := by first | exact .inl rfl | exact .inr rfl | assumption) : SX X io lm own own (.Assign [.Name x pos'] e pos) (fSet i fe) := ⟨PS.ent (ps_set hN hi hx h.run hs hf) fun D σ H ⟨B, ρ, fl, ρ', H1, hio, S, e, k⟩ => by
  obtain ⟨v, ρ1, e1, e2⟩ := inv_b1 e
  cases e2
  exact ⟨B, ρ, v, ρ1, H1, S, e1, fun x H' H1' le S' r => k _ H' H1' le (S'.set hown r)⟩⟩
/-- .. a new thing of the body's own -/
theorem sx_setN {i : Nat} {x : Str} {pos' : Pos} (hN : X.N.Nodup) (hi : X.N[i]? = some x) (hx : Loc X.env.scope x) (hio : i ∉ io) (ho : ∀ j, j ∈ own' ↔ j = i ∨ j ∈ own) (h : EN X own e fe) (hs : swapsWith e (some (.Name x pos')) pos.line X.env = pure false := by rfl)
    (hf : X.fn x = true ∨ X.env.scope.names.lookup x = some .local := by first | exact .inl rfl | exact .inr rfl | assumption) : SX X io lm own own' (.Assign [.Name x pos'] e pos) (fSet i fe) := ⟨PS.ent (ps_set hN hi hx h.run hs hf) fun D σ H ⟨B, ρ, fl, ρ', H1, hi', S, e, k⟩ => by
  obtain ⟨v, ρ1, e1, e2⟩ := inv_b1 e
  cases e2
  exact ⟨B, ρ, v, ρ1, H1, S, e1, fun a H' H1' le F => k _ H' H1' le (F.sr.setO (fun p hp (e : p.1 = i) => hio (by rw [← e]; exact hi' p hp)) ho F.n0 F.n1 F.rep F.ne)⟩⟩
theorem sx_if {c : Expr} {a b : List Stmt} {fc : TF} (hc : TX X own c fc) (ha : SsX X io lm own own' a f) (hb : SsX X io lm own own' b g) : SX X io lm own own' (.If c a b pos) (fIf fc f g) := ⟨PS.ent (ps_if hc.run ha.run hb.run) fun D σ H ⟨B, ρ, fl, ρ', H1, hio, S, e, k⟩ => by
  obtain ⟨b, ρ1, e1, e2⟩ := inv_b1 e
  refine ⟨B, ρ, b, ρ1, H1, S, e1, fun H' H1' le S' => ?_⟩
  cases b with
  | true => exact iteT ⟨B, ρ1, fl, ρ', H1', hio, S', e2, k.mono le⟩
  | false => exact iteF ⟨B, ρ1, fl, ρ', H1', hio, S', e2, k.mono le⟩⟩
/-- an own thing becomes shared ahead of a statement -/
theorem sx_fz (i : Nat) (hio : i ∉ io) (ho : ∀ j, j ∈ own ↔ j = i ∨ j ∈ own2) (hn : i ∉ own2) (h : SX X io lm own2 own' st f) : SX X io lm own own' st f := ⟨PS.ent h.run fun D σ H ⟨B, ρ, fl, ρ', H1, hi, S, e, k⟩ => by
  obtain ⟨H1', le, S'⟩ := S.freeze (fun p hp (e : p.1 = i) => hio (by rw [← e]; exact hi p hp)) ho hn
  exact ⟨B, ρ, fl, ρ', H1', hi, S', e, k.mono le⟩⟩
/-- .. ahead of a block -/
theorem ss_fz (i : Nat) (hio : i ∉ io) (ho : ∀ j, j ∈ own ↔ j = i ∨ j ∈ own2) (hn : i ∉ own2) (h : SsX X io lm own2 own' rest f) : SsX X io lm own own' rest f := ⟨PSs.ent h.run fun D σ H ⟨B, ρ, fl, ρ', H1, hi, S, e, k⟩ => by
  obtain ⟨H1', le, S'⟩ := S.freeze (fun p hp (e : p.1 = i) => hio (by rw [← e]; exact hi p hp)) ho hn
  exact ⟨B, ρ, fl, ρ', H1', hi, S', e, k.mono le⟩⟩
/-- the same own slots, written otherwise -/
theorem SR.same {K : PySem.W.Frag} {B : Base} {own own' : List Nat} {ρ : Env} {σ : L2.St} {H1 H : Hp} (S : SR K B own ρ σ H1 H) (h : ∀ j, j ∈ own ↔ j ∈ own') : SR K B own' ρ σ H1 H :=
  ⟨S.len, S.sub, S.fr, fun i v hi => S.sh i v fun z => hi ((h i).mp z), fun i v hi => S.ow i v ((h i).mpr hi), fun i j v w a hi hj => S.ds i j v w a ((h i).mpr hi) ((h j).mpr hj), fun p hp => let ⟨a, b, c⟩ := S.io p hp; ⟨a, (h _).mp b, c⟩⟩
theorem ss_same (ho : ∀ j, j ∈ own ↔ j ∈ own2) (h : SsX X io lm own2 own' rest f) : SsX X io lm own own' rest f := ⟨PSs.ent h.run fun D σ H ⟨B, ρ, fl, ρ', H1, hi, S, e, k⟩ =>
  ⟨B, ρ, fl, ρ', H1, hi, S.same ho, e, k⟩⟩
end

/-! ### targets -/
def tG (K : PySem.W.Frag) (own : List Nat) (t : PV → Env → Option Env) : TG := fun x σ H Q => ∃ B ρ p ρ' H1, SR K B own ρ σ H1 H ∧ Rep K H1 p x ∧ t p ρ = some ρ' ∧ ∀ σ' H' H1', LeR H1 H1' → SR K B own ρ' σ' H1' H' → Q σ' H'
def tGs (K : PySem.W.Frag) (own : List Nat) (t : List PV → Env → Option Env) : TGs := fun xs σ H Q => ∃ B ρ ps ρ' H1, SR K B own ρ σ H1 H ∧ RepL K H1 ps xs ∧ t ps ρ = some ρ' ∧ ∀ σ' H' H1', LeR H1 H1' → SR K B own ρ' σ' H1' H' → Q σ' H'
structure GX (X : Cx) (own : List Nat) (tg : Expr) (t : PV → Env → Option Env) : Prop where run : PG X tg (tG X.K own t)
structure GsX (X : Cx) (own : List Nat) (tg : List Expr) (t : List PV → Env → Option Env) : Prop where run : PGs X tg (tGs X.K own t)
theorem PG.ent {X : Cx} {e : Expr} {t t' : TG} (h : PG X e t) (en : ∀ v σ H Q, t' v σ H Q → t v σ H Q) : PG X e t' := ⟨fun pins s σ H v u Q I r q => h.run pins s σ H v u Q I r (en _ _ _ _ q)⟩
theorem PGs.ent {X : Cx} {e : List Expr} {t t' : TGs} (h : PGs X e t) (en : ∀ v σ H Q, t' v σ H Q → t v σ H Q) : PGs X e t' := ⟨fun pins s σ H v u Q I r q => h.run pins s σ H v u Q I r (en _ _ _ _ q)⟩
def tName (i : Nat) : PV → Env → Option Env := fun p ρ => some (ρ.set i (some p))
def tsNil : List PV → Env → Option Env := fun ps ρ => match ps with | [] => some ρ | _ => none
def tsCons (t : PV → Env → Option Env) (u : List PV → Env → Option Env) : List PV → Env → Option Env := fun ps ρ => match ps with
  | [] => none
  | p :: ps => (t p ρ).bind fun ρ1 => u ps ρ1
def tTupG (n : Nat) (u : List PV → Env → Option Env) : PV → Env → Option Env := fun p ρ => match p with
  | .tup xs => if xs.length = n then u xs ρ else none
  | _ => none
section
variable {X : Cx} {own : List Nat} {tg : Expr} {tgs : List Expr} {t : PV → Env → Option Env} {u : List PV → Env → Option Env} {pos : Pos}
theorem gx_name {i : Nat} {x : Str} (hN : X.N.Nodup) (hi : X.N[i]? = some x) (hx : Loc X.env.scope x) (hown : i ∉ own) (hf : X.fn x = true ∨ X.env.scope.names.lookup x = some .local := by first | exact .inl rfl | exact .inr rfl | assumption) :
    GX X own (.Name x pos) (tName i) := ⟨PG.ent (pg_name hN hi hx hf) fun v σ H Q ⟨B, ρ, p, ρ', H1, S, r, e, k⟩ => by
  cases e
  exact k _ H H1 (LeR.refl _) (S.set hown r)⟩
theorem gs_nil : GsX X own [] tsNil := ⟨PGs.ent pgs_nil fun v σ H Q ⟨B, ρ, p, ρ', H1, S, r, e, k⟩ => by
  cases p with
  | nil => cases e; exact ⟨RepL.nil_iff.mp r, k σ H H1 (LeR.refl _) S⟩
  | cons p ps => cases e⟩
theorem gs_cons (h1 : GX X own tg t) (h2 : GsX X own tgs u) (hs : (assignEach (tg :: tgs) X.env).map (·.2) = assign tg X.env :: (assignEach tgs X.env).map (·.2) := by rfl) : GsX X own (tg :: tgs) (tsCons t u) := ⟨PGs.ent (pgs_cons h1.run h2.run hs) fun v σ H Q ⟨B, ρ, p, ρ', H1, S, r, e, k⟩ => by
  cases p with
  | nil => cases e
  | cons p ps =>
    obtain ⟨ρ1, e1, e2⟩ := Option.bind_eq_some_iff.mp e
    obtain ⟨w, ws, rfl, ra, rb⟩ := RepL.cons_iff.mp r
    refine ⟨w, ws, rfl, B, ρ, p, ρ1, H1, S, ra, e1, fun σ' H' H1' le S' => ?_⟩
    exact ⟨B, ρ1, ps, ρ', H1', S', rb.mono le _ _, e2, fun σ2 H2 H12 le2 S2 => k σ2 H2 H12 (le.trans le2) S2⟩⟩
theorem gx_tup {k n : Nat} (hc : X.calm = true) (h : GsX X own tgs u) (hn : (assignEach tgs X.env).length = n := by rfl) (hst : (assignEach tgs X.env).findIdx? (·.1) = none := by rfl) : GX X own (.Tuple tgs k pos) (tTupG n u) := ⟨PG.ent (pg_tup hc h.run hn hst) fun v σ H Q ⟨B, ρ, p, ρ', H1, S, r, e, k⟩ => by
  cases p with
  | tup xs =>
    unfold tTupG at e
    simp only at e
    split at e
    · rename_i hl
      simp only [Rep] at r
      obtain ⟨a, vs, rfl, q, rl⟩ := r
      exact ⟨a, vs, rfl, S.sub.le.sqT q.sq, by rw [rl.length]; exact hl, B, ρ, xs, ρ', H1, S, rl, e, k⟩
    · cases e
  | _ => cases e⟩
end

/-! ### what is walked -/
def Walks' (K : PySem.W.Frag) (J : It) (H1 : Hp) (its : List PV) : Prop := ∀ H1' H', LeR H1 H1' → Sub H1' H' →
  (∀ (i : Nat) p, its[i]? = some p → J.go i H' ∧ ∀ x H'', J.yld i H' x H'' → ∃ H1'', Ext H1' H' H1'' H'' ∧ Rep K H1'' p x) ∧ J.stop its.length H'
def tI (K : PySem.W.Frag) (own : List Nat) (f : AF) : TI := fun σ H R => ∃ B ρ its ρ' H1, SR K B own ρ σ H1 H ∧ f ρ = some (its, ρ') ∧ ∀ J H' H1', LeR H1 H1' → SR K B own ρ' σ H1' H' → Walks' K J H1' its → R J H'
structure IX (X : Cx) (own : List Nat) (tg iter : Expr) (f : AF) : Prop where run : PI X tg iter (tI X.K own f)
theorem PI.ent {X : Cx} {tg e : Expr} {t t' : TI} (h : PI X tg e t) (en : ∀ σ H Q, t' σ H Q → t σ H Q) : PI X tg e t' := ⟨fun pins s σ H Q I q => h.run pins s σ H Q I (en _ _ _ q)⟩
def iL (f : EF) : AF := fun ρ => (f ρ).bind fun r => match r.1 with | .lst xs => some (xs, r.2) | _ => none
def iT (f : EF) : AF := fun ρ => (f ρ).bind fun r => match r.1 with | .tup xs => some (xs, r.2) | _ => none
def rngP (lo : Int) (n : Nat) : List PV := (List.range n).map fun (i : Nat) => PV.int (lo + (i : Int))
def i62 (i : Int) : Bool := decide (-4611686018427387904 ≤ i) && decide (i < 4611686018427387904)
def iR1 (f : EF) : AF := fun ρ => (f ρ).bind fun r => match r.1 with | .int j => if i62 j = true then some (rngP 0 j.toNat, r.2) else none | _ => none
def iR2 (f g : EF) : AF := fun ρ => (f ρ).bind fun r => (g r.2).bind fun s => match r.1, s.1 with
  | .int i, .int j => if (i62 i && i62 j) = true then some (rngP i (j - i).toNat, s.2) else none
  | _, _ => none
theorem i62_iff {i : Int} (h : i62 i = true) : -(2 ^ 62) ≤ i ∧ i < 2 ^ 62 := by
  unfold i62 at h
  simp only [Bool.and_eq_true, decide_eq_true_eq] at h
  omega
theorem rngP_get {lo : Int} {n i : Nat} {p : PV} (h : (rngP lo n)[i]? = some p) : i < n ∧ p = .int (lo + (i : Int)) := by
  unfold rngP at h
  rw [List.getElem?_map] at h
  by_cases hi : i < n
  · rw [List.getElem?_range hi] at h
    cases h
    exact ⟨hi, rfl⟩
  · rw [List.getElem?_eq_none (by simpa using hi)] at h; cases h
theorem rngP_length (lo : Int) (n : Nat) : (rngP lo n).length = n := by simp [rngP]
section
variable {X : Cx} {own : List Nat} {tg e a b : Expr} {fe fa fb : EF} {pos p : Pos}
theorem ix_lst (h : EX X own e fe) : IX X own tg e (iL fe) := ⟨PI.ent (pi_list h.run) fun σ H R ⟨B, ρ, its, ρ', H1, S, e, k⟩ => by
  obtain ⟨v, ρ1, e1, e2⟩ := inv_b1 e
  cases v with
  | lst xs =>
    cases e2
    refine ⟨B, ρ, .lst its, ρ1, H1, S, e1, fun x H' H1' le S' r => ?_⟩
    simp only [Rep] at r
    obtain ⟨a, vs, rfl, q, rl⟩ := r
    have q : SqL X.K H1' a vs := .inl q
    refine ⟨a, rfl, ⟨vs, S'.sub.le.sqL q⟩, k _ H' H1' le S' fun H2 H3 le2 sub => ⟨fun i p hp => ?_, ⟨vs, sub.le.sqL (le2.sqL q), by rw [rl.length]; exact Nat.le_refl _⟩⟩⟩
    obtain ⟨w, h1, h2⟩ := rl.get hp
    have q3 : SqL X.K H3 a vs := sub.le.sqL (le2.sqL q)
    refine ⟨⟨vs, w, q3, h1⟩, fun y H'' yl => ?_⟩
    obtain ⟨rfl, hy⟩ := yl
    have := hy vs q3
    rw [h1] at this; cases this
    exact ⟨H2, Ext.refl sub, h2.mono le2 _ _⟩
  | _ => cases e2⟩
theorem ix_tup (h : EX X own e fe) : IX X own tg e (iT fe) := ⟨PI.ent (pi_tup h.run) fun σ H R ⟨B, ρ, its, ρ', H1, S, e, k⟩ => by
  obtain ⟨v, ρ1, e1, e2⟩ := inv_b1 e
  cases v with
  | tup xs =>
    cases e2
    refine ⟨B, ρ, .tup its, ρ1, H1, S, e1, fun x H' H1' le S' r => ?_⟩
    simp only [Rep] at r
    obtain ⟨a, vs, rfl, q, rl⟩ := r
    have q := q.sq
    refine ⟨a, rfl, ⟨vs, S'.sub.le.sqT q⟩, k _ H' H1' le S' fun H2 H3 le2 sub => ⟨fun i p hp => ?_, ⟨vs, sub.le.sqT (le2.sqT q), by rw [rl.length]; exact Nat.le_refl _⟩⟩⟩
    obtain ⟨w, h1, h2⟩ := rl.get hp
    have q3 : SqT X.K H3 a vs := sub.le.sqT (le2.sqT q)
    refine ⟨⟨vs, w, q3, h1⟩, fun y H'' yl => ?_⟩
    obtain ⟨rfl, hy⟩ := yl
    have := hy vs q3
    rw [h1] at this; cases this
    exact ⟨H2, Ext.refl sub, h2.mono le2 _ _⟩
  | _ => cases e2⟩
theorem walks_rng {K : PySem.W.Frag} {H1 : Hp} {lo : Int} {n : Nat} : Walks' K (Itr lo n) H1 (rngP lo n) := fun H2 H3 le sub => ⟨fun i p hp => by
    obtain ⟨hi, rfl⟩ := rngP_get hp
    refine ⟨hi, fun x H'' yl => ?_⟩
    obtain ⟨rfl, rfl⟩ := yl
    exact ⟨H2, Ext.refl sub, rep_int⟩, by rw [rngP_length]; exact Nat.le_refl _⟩
theorem ix_rng1 (hg : Gl X "range") (hm : X.mg "range" = none) (ha : EX X own a fa) (hs : starEach [a] X.env = [(false, eval a X.env)] := by rfl) : IX X own tg (.Call (.Name "range" p) [a] [] pos) (iR1 fa) :=
  ⟨PI.ent (pi_range1 hg hm (pa_cons ha.run pa_nil hs) hs) fun σ H R ⟨B, ρ, its, ρ', H1, S, e, k⟩ => by
  obtain ⟨v, ρ1, e1, e2⟩ := inv_b1 e
  refine ⟨B, ρ, v, ρ1, H1, S, e1, fun x H' H1' le S' r => ?_⟩
  cases v with
  | int j =>
    simp only at e2
    split at e2
    · rename_i hj
      cases e2
      simp only [Rep] at r
      subst r
      obtain ⟨h1, h2⟩ := i62_iff hj
      exact ⟨j, rfl, h1, h2, k _ H' H1' le S' walks_rng⟩
    · cases e2
  | _ => cases e2⟩
theorem ix_rng2 (hg : Gl X "range") (hm : X.mg "range" = none) (ha : EX X own a fa) (hb : EX X own b fb) (hs : starEach [a, b] X.env = [(false, eval a X.env), (false, eval b X.env)] := by rfl) (hs2 : starEach [b] X.env = [(false, eval b X.env)] := by rfl) :
    IX X own tg (.Call (.Name "range" p) [a, b] [] pos) (iR2 fa fb) :=
  ⟨PI.ent (pi_range2 hg hm (pa_cons ha.run (pa_cons hb.run pa_nil hs2) (by rw [hs, hs2])) hs hs2) fun σ H R ⟨B, ρ, its, ρ', H1, S, e, k⟩ => by
  obtain ⟨v, ρ1, e1, e2⟩ := inv_b1 e
  obtain ⟨w, ρ2, e3, e4⟩ := inv_b1 e2
  refine ⟨B, ρ, v, ρ1, H1, S, e1, fun x H' H1' le S' r => ⟨B, ρ1, w, ρ2, H1', S', e3, fun y H2 H12 le2 S2 r2 => ?_⟩⟩
  cases v with
  | int i =>
    cases w with
    | int j =>
      simp only at e4
      split at e4
      · rename_i hj
        cases e4
        simp only [Rep] at r r2
        subst r
        subst r2
        rw [Bool.and_eq_true] at hj
        obtain ⟨h1, h2⟩ := i62_iff hj.1
        obtain ⟨h3, h4⟩ := i62_iff hj.2
        exact ⟨i, j, rfl, ⟨h1, h2, h3, h4⟩, k _ H2 H12 (le.trans le2) S2 walks_rng⟩
      · cases e4
    | _ => cases e4
  | _ => cases e4⟩
end

/-! ### for -/
def loopF (t : PV → Env → Option Env) (body : SF) : List PV → Env → Option (Fl × Env)
  | [], ρ => some (.nx, ρ)
  | p :: ps, ρ => (t p ρ).bind fun ρ1 => (body ρ1).bind fun r => match r.1 with
    | .nx => loopF t body ps r.2
    | .ct => loopF t body ps r.2
    | .bk => some (.nx, r.2)
    | .rt v => some (.rt v, r.2)
def fFor (its : AF) (t : PV → Env → Option Env) (body : SF) : SF := fun ρ => (its ρ).bind fun r => loopF t body r.1 r.2
section
variable {X : Cx} {io lm own : List Nat} {tg iter c : Expr} {body : List Stmt} {fi : AF} {t : PV → Env → Option Env} {fb : SF} {fc : TF} {pos : Pos}
theorem sx_for (hp : PassesOwn (model X.prog X.w) X.A X.env X.xe) (hc : X.calm = true) (hi : IX X own tg iter fi) (hg : GX X own tg t) (hb : SsX X io own own own body fb) (hs : ∀ x, foldedSetIterable iter X.env x = pure x := by intro _; rfl) :
    SX X io lm own own (.For tg iter body [] pos) (fFor fi t fb) := ⟨PS.ent (ps_for hp hc hi.run hg.run hb.run hs) fun D σ H ⟨B, ρ, fl, ρ', H1, hio, S, e, k⟩ => by
  obtain ⟨its, ρ0, e1, e2⟩ := inv_b1 e
  refine ⟨B, ρ, its, ρ0, H1, S, e1, fun J H' H1' le S' W => ?_⟩
  refine ⟨fun i m σ2 H2 => ∃ ρ2 H12, LeR H1' H12 ∧ SR X.K B own ρ2 σ2 H12 H2 ∧ i + m = its.length ∧ loopF t fb (its.drop i) ρ2 = some (fl, ρ'), ⟨its.length, ρ0, H1', LeR.refl _, S', by simp, by simpa using e2⟩, ?_⟩
  rintro i m σ2 H2 ⟨ρ2, H12, le2, S2, hm, e3⟩
  obtain ⟨w1, w2⟩ := W H12 H2 le2 S2.sub
  by_cases hlt : i < its.length
  · right
    have hd : its.drop i = its[i] :: its.drop (i + 1) := List.drop_eq_getElem_cons hlt
    rw [hd] at e3
    unfold loopF at e3
    obtain ⟨ρ3, e4, e5⟩ := Option.bind_eq_some_iff.mp e3
    obtain ⟨fl4, ρ4, e6, e7⟩ := inv_b1 e5
    obtain ⟨g1, g2⟩ := w1 i its[i] (List.getElem?_eq_getElem hlt)
    refine ⟨g1, fun σ5 H5 => ∃ ρ5 H15, LeR H1' H15 ∧ SR X.K B own ρ5 σ5 H15 H5 ∧ loopF t fb (its.drop (i + 1)) ρ5 = some (fl, ρ'), fun σ5 H5 ⟨ρ5, H15, l5, S5, e8⟩ => ⟨m - 1, by omega, ρ5, H15, l5, S5, by omega, e8⟩, fun x H3 y => ?_⟩
    obtain ⟨H13, ex, rx⟩ := g2 x H3 y
    refine ⟨B, ρ2, its[i], ρ3, H13, S2.ext ex, rx, e4, fun σ6 H6 H16 l6 S6 => ?_⟩
    have lw : LeR H1' H16 := (le2.trans ex.le).trans l6
    refine ⟨B, ρ3, fl4, ρ4, H16, hio, S6, e6, ?_⟩
    cases fl4 with
    | nx => exact fun σ7 H7 H17 l7 S7 => ⟨ρ4, H17, lw.trans l7, S7, e7⟩
    | ct => exact fun σ7 H7 H17 l7 S7 => ⟨ρ4, H17, lw.trans l7, S7, e7⟩
    | bk => cases e7; exact fun σ7 H7 H17 l7 S7 => k σ7 H7 H17 ((le.trans lw).trans l7) S7
    | rt v => cases e7; exact fun x ow σ7 H7 H17 l7 S7 r => k x ow σ7 H7 H17 ((le.trans lw).trans l7) S7 r
  · left
    have hl : i = its.length := by omega
    rw [hl] at e3
    simp only [List.drop_length, loopF] at e3
    cases e3
    exact ⟨by rw [hl]; exact w2, k σ2 H2 H12 (le.trans le2) S2⟩⟩

/-! ### while -/
def fWhile (c : TF) (body : SF) : Nat → SF
  | 0, _ => none
  | n + 1, ρ => (c ρ).bind fun r => if r.1 = true then (body r.2).bind fun s => match s.1 with
      | .nx => fWhile c body n s.2
      | .ct => fWhile c body n s.2
      | .bk => some (.nx, s.2)
      | .rt v => some (.rt v, s.2)
    else some (.nx, r.2)
theorem sx_while (n : Nat) (hp : PassesOwn (model X.prog X.w) X.A X.env X.xe) (hc : TX X own c fc) (hb : SsX X io own own own body fb) : SX X io lm own own (.While c body [] pos) (fWhile fc fb n) := ⟨PS.ent (ps_while hp hc.run hb.run) fun D σ H ⟨B, ρ, fl, ρ', H1, hio, S, e, k⟩ => by
  refine ⟨fun m σ2 H2 => ∃ ρ2 H12, LeR H1 H12 ∧ SR X.K B own ρ2 σ2 H12 H2 ∧ fWhile fc fb m ρ2 = some (fl, ρ'), ⟨n, ρ, H1, LeR.refl _, S, e⟩, ?_⟩
  rintro m σ2 H2 ⟨ρ2, H12, le2, S2, e2⟩
  cases m with
  | zero => cases e2
  | succ m =>
    unfold fWhile at e2
    obtain ⟨b, ρ3, e3, e4⟩ := inv_b1 e2
    refine ⟨B, ρ2, b, ρ3, H12, S2, e3, fun H3 H13 le3 S3 => ?_⟩
    cases b with
    | false => cases e4; exact iteF (k σ2 H3 H13 (le2.trans le3) S3)
    | true =>
      refine iteT ⟨fun σ5 H5 => ∃ ρ5 H15, LeR H1 H15 ∧ SR X.K B own ρ5 σ5 H15 H5 ∧ fWhile fc fb m ρ5 = some (fl, ρ'), fun σ5 H5 ⟨ρ5, H15, l5, S5, e8⟩ => ⟨m, Nat.lt_succ_self _, ρ5, H15, l5, S5, e8⟩, ?_⟩
      obtain ⟨fl4, ρ4, e6, e7⟩ := inv_b1 (show (fb ρ3).bind _ = some (fl, ρ') from e4)
      have lw : LeR H1 H13 := le2.trans le3
      refine ⟨B, ρ3, fl4, ρ4, H13, hio, S3, e6, ?_⟩
      cases fl4 with
      | nx => exact fun σ7 H7 H17 l7 S7 => ⟨ρ4, H17, lw.trans l7, S7, e7⟩
      | ct => exact fun σ7 H7 H17 l7 S7 => ⟨ρ4, H17, lw.trans l7, S7, e7⟩
      | bk => cases e7; exact fun σ7 H7 H17 l7 S7 => k σ7 H7 H17 (lw.trans l7) S7
      | rt v => cases e7; exact fun x ow σ7 H7 H17 l7 S7 r => k x ow σ7 H7 H17 (lw.trans l7) S7 r⟩
end
end PT

set_option Elab.async false
set_option linter.all false
set_option autoImplicit false
set_option maxRecDepth 100000
set_option maxHeartbeats 4000000
/-! PT5: the promise of a def, its body, its calls. -/
namespace PT
open PySem PySem.Spec PyProof.Rows L2

/-- a pure def -/
def spF (K : PySem.W.Frag) (n : Nat) (F : GL) : Sp := fun vs H Q _ => vs.length = n ∧ ∃ args v H1, Sub H1 H ∧ RepL K H1 args vs ∧ F args = some v ∧ kV' K v H1 H Q
def startP (n : Nat) (args : List PV) : Env := args.map some ++ List.replicate (n - args.length) none
def outF : Fl → Option PV
  | .rt v => some v
  | .nx => some .non
  | _ => none
def runB (n : Nat) (body : SF) : GL := fun args => (body (startP n args)).bind fun r => outF r.1
theorem startP_sr {K : PySem.W.Frag} {N : List Str} {vs : List V} {H1 H : Hp} {args : List PV} (sub : Sub H1 H) (r : RepL K H1 args vs) : SR K ⟨H, H1, []⟩ [] (startP N.length args) (L2.start N vs) H1 H := by
  have hl := r.length
  refine ⟨?_, sub, fun b o h => ⟨h, rfl⟩, fun i v _ hv => ?_, (fun i v hi => by cases hi), (fun i j v w a hi => by cases hi), (fun p hp => by cases hp)⟩
  · unfold L2.start startP
    simp [hl]
  · unfold startP at hv
    unfold L2.start
    by_cases hi : i < args.length
    · rw [List.getElem?_append_left (by simpa using hi), List.getElem?_map] at hv
      cases e : args[i]? with
      | none => rw [e] at hv; cases hv
      | some p =>
        rw [e] at hv; cases hv
        obtain ⟨x, h1, h2⟩ := r.get e
        exact ⟨x, by rw [List.getElem?_append_left (by simpa [hl] using hi), List.getElem?_map, h1]; rfl, h2⟩
    · rw [List.getElem?_append_right (by simpa using hi), List.getElem?_replicate] at hv
      split at hv <;> cases hv
section
variable {P : Program} {w : World} {K : PySem.W.Frag} {mg : Str → Option Value} {base : Heap}
/-- THE RULE for a pure def -/
theorem ok_pure {x qual : Str} {st : Stmt} {f : Addr} {fd : FuncData} {N ps : List Str} {k : Nat} {F : GL} {body : SF} {own' : List Nat} (Fn : Fun K x qual st f fd) (S : FnScope N ps (defScope st))
    (hF : ∀ args v, F args = some v → runB N.length body args = some v)
    (hbody : ∀ (cdv : Value) (A : Around) (outer : List PySem.Env) (s : Shared) (H : Hp) (E : XK), Room k (A.deeper (envOfC qual (defScope st) s.heap.objs.size f cdv)) →
      SsX (cxOf CX0 P w K mg base N qual (defScope st) f cdv A outer s H E).nox [] [] [] own' (defBody st) body) : FnOk P w K mg base CX0 (k + 1) f fd ps (spF K ps.length F) := by
  refine Fn.ok S (fun vs H Q E h => h.1) (fun cdv A outer s H vs Q E hr h => ?_)
  obtain ⟨hl, args, v, H1, sub, rl, e, k⟩ := h
  refine ⟨_, (hbody cdv A outer s H E hr).run, ?_⟩
  have e' := hF args v e
  obtain ⟨⟨fl, ρ'⟩, e1, e2⟩ := Option.bind_eq_some_iff.mp e'
  refine ⟨⟨H, H1, []⟩, startP N.length args, fl, ρ', H1, (fun p hp => by cases hp), startP_sr sub rl, e1, ?_⟩
  cases fl with
  | rt u =>
    cases e2
    exact fun x ow σ' H' H1' le S' r => k x H' H1' ⟨le, S'.sub, fun b o h => S'.fr b o h⟩ r
  | nx =>
    cases e2
    exact fun σ' H' H1' le S' => k _ H' H1' ⟨le, S'.sub, fun b o h => S'.fr b o h⟩ rep_non
  | _ => cases e2
end

/-! ### its call -/
section
variable {X : Cx} {own : List Nat} {e a b : Expr} {es : List Expr} {pos p : Pos} {x : Str} {k n : Nat} {f : Addr} {fd : FuncData} {ps : List Str} {F : GL} {ff : AF}
theorem ex_call (G : FnOk X.prog X.w X.K X.mg X.base CX0 k f fd ps (spF X.K n F)) (hr : Room k X.A) (hg : Gl X x) (hm : X.mg x = some (.ref f)) (hk : PySem.W.keepIn X.K (.ref f) = true) (hb : Binds X.K fd ps [])
    (hlen : ps.length = n) (ha : AX X own (e :: es) ff) (hff : ∀ ρ vs ρ', ff ρ = some (vs, ρ') → vs.length = n) (hdb : (x == ("__debug__" : Str)) = false := by decide) (he : starEach (e :: es) X.env = (false, eval e X.env) :: starEach es X.env := by rfl) (hpl : (backTo pos (starEach es X.env)).any (·.1) = false := by rfl) :
    EX X own (.Call (.Name x p) (e :: es) [] pos) (fList F ff) := ⟨PE.ent (pe_call G hr hg hm hk hb .nil pass0 ha.run hdb he hpl) fun σ H Q ⟨B, ρ, v, ρ', H1, S, e, k⟩ => by
  obtain ⟨vs, e1, e2⟩ := inv_list e
  refine ⟨B, ρ, vs, ρ', H1, S, e1, fun xs H' H1' le S' rs => ?_⟩
  dsimp only; rw [List.append_nil]
  exact ⟨by rw [rs.length, hff _ _ _ e1], vs, v, H1', S'.sub, rs, e2, fun z H3 H13 ex rz => k z H3 H13 (le.trans ex.le) (S'.ext ex) rz⟩⟩
theorem len_nil : ∀ (ρ : Env) vs ρ', aNil ρ = some (vs, ρ') → vs.length = 0 := fun ρ vs ρ' e => by cases e; rfl
theorem len_cons {f : EF} {g : AF} {n : Nat} (h : ∀ (ρ : Env) vs ρ', g ρ = some (vs, ρ') → vs.length = n) : ∀ (ρ : Env) vs ρ', aCons f g ρ = some (vs, ρ') → vs.length = n + 1 := fun ρ vs ρ' e => by
  obtain ⟨v, ρ1, ws, e1, e2, rfl⟩ := inv_cons e
  rw [List.length_cons, h _ _ _ e2]
end

/-! ### a def that changes one of its arguments -/
/-- words of arguments, a hole at the changed one -/
def RepO (K : PySem.W.Frag) (H1 : Hp) (a : Addr) : List (Option PV) → List V → Prop
  | [], xs => xs = []
  | none :: hs, xs => ∃ r, xs = .ref a :: r ∧ RepO K H1 a hs r
  | some p :: hs, xs => ∃ x r, xs = x :: r ∧ Rep K H1 p x ∧ RepO K H1 a hs r
def fillP (p : PV) : List (Option PV) → List PV
  | [] => []
  | none :: hs => p :: fillP p hs
  | some q :: hs => q :: fillP p hs
theorem RepO.length {K : PySem.W.Frag} {H1 : Hp} {a : Addr} : ∀ {hs : List (Option PV)} {xs : List V}, RepO K H1 a hs xs → xs.length = hs.length
  | [], _, h => by rw [show _ = [] from h]; rfl
  | none :: hs, _, h => by obtain ⟨r, rfl, q⟩ := h; simp [RepO.length q]
  | some p :: hs, _, h => by obtain ⟨x, r, rfl, _, q⟩ := h; simp [RepO.length q]
theorem fillP_length (p : PV) : ∀ hs : List (Option PV), (fillP p hs).length = hs.length
  | [] => rfl
  | none :: hs => by simp [fillP, fillP_length p hs]
  | some q :: hs => by simp [fillP, fillP_length p hs]
theorem RepO.get {K : PySem.W.Frag} {H1 : Hp} {a : Addr} (p : PV) : ∀ {hs : List (Option PV)} {xs : List V} {i : Nat} {h : Option PV}, RepO K H1 a hs xs → hs[i]? = some h →
    (h = none ∧ (fillP p hs)[i]? = some p ∧ xs[i]? = some (.ref a)) ∨ (∃ q x, h = some q ∧ (fillP p hs)[i]? = some q ∧ xs[i]? = some x ∧ Rep K H1 q x)
  | [], _, _, _, _, e => by simp at e
  | none :: hs, _, i, h, r, e => by
    obtain ⟨t, rfl, q⟩ := r
    cases i with
    | zero => simp at e; subst e; exact .inl ⟨rfl, rfl, rfl⟩
    | succ i =>
      have := RepO.get p (i := i) (h := h) q (by simpa using e)
      simpa [fillP] using this
  | some z :: hs, _, i, h, r, e => by
    obtain ⟨x, t, rfl, rz, q⟩ := r
    cases i with
    | zero => simp at e; subst e; exact .inr ⟨z, x, rfl, rfl, rfl, rz⟩
    | succ i =>
      have := RepO.get p (i := i) (h := h) q (by simpa using e)
      simpa [fillP] using this
abbrev GI := List PV → Option (PV × PV)
/-- the promise: behind the call the thing at a is w -/
def spI (K : PySem.W.Frag) (n j : Nat) (F : GI) : Sp := fun vs H Q _ => vs.length = n ∧ ∃ hs p v w' H1 a, Sub H1 H ∧ RepO K H1 a hs vs ∧ H1 a = none ∧ ORep K H1 H a p ∧ (∀ i, hs[i]? = some none ↔ i = j) ∧ F (fillP p hs) = some (v, w') ∧
  ∀ x H' H1', LeR H1 H1' → Sub H1' H' → (∀ b o, b ≠ a → H b = some o → H' b = some o ∧ H1' b = H1 b) → H1' a = none → ORep K H1' H' a w' → Rep K H1' v x → Q x H'
def runI (n j : Nat) (body : SF) : GI := fun args => (body (startP n args)).bind fun r => (outF r.1).bind fun v => (look r.2 j).map fun w => (v, w)
section
variable {P : Program} {w : World} {K : PySem.W.Frag} {mg : Str → Option Value} {base : Heap}
theorem ok_io {x qual : Str} {st : Stmt} {f : Addr} {fd : FuncData} {N ps : List Str} {k j : Nat} {F : GI} {body : SF} {own' : List Nat} (Fn : Fun K x qual st f fd) (S : FnScope N ps (defScope st))
    (hF : ∀ args r, F args = some r → runI N.length j body args = some r)
    (hbody : ∀ (cdv : Value) (A : Around) (outer : List PySem.Env) (s : Shared) (H : Hp) (E : XK), Room k (A.deeper (envOfC qual (defScope st) s.heap.objs.size f cdv)) →
      SsX (cxOf CX0 P w K mg base N qual (defScope st) f cdv A outer s H E).nox [j] [] [j] own' (defBody st) body) : FnOk P w K mg base CX0 (k + 1) f fd ps (spI K ps.length j F) := by
  refine Fn.ok S (fun vs H Q E h => h.1) (fun cdv A outer s H vs Q E hr h => ?_)
  obtain ⟨hl, hs, p, v, w', H1, a, sub, rl, h1, ro, hj, e, k⟩ := h
  refine ⟨_, (hbody cdv A outer s H E hr).run, ?_⟩
  have e' := hF _ _ e
  obtain ⟨⟨fl, ρ'⟩, e1, e2⟩ := Option.bind_eq_some_iff.mp e'
  obtain ⟨v2, e3, e4⟩ := Option.bind_eq_some_iff.mp e2
  obtain ⟨w2, e5, e6⟩ := Option.map_eq_some_iff.mp e4
  cases e6
  have hlen := rl.length
  have fl' := fillP_length p hs
  have jl : hs[j]? = some none := (hj j).mpr rfl
  have jlt : j < hs.length := (List.getElem?_eq_some_iff.mp jl).1
  have at_ : ∀ (i : Nat) u, (startP N.length (fillP p hs))[i]? = some (some u) → i < hs.length ∧ (fillP p hs)[i]? = some u := fun i u hu => by
    unfold startP at hu
    by_cases hi : i < (fillP p hs).length
    · rw [List.getElem?_append_left (by simpa using hi), List.getElem?_map] at hu
      cases e : (fillP p hs)[i]? with
      | none => rw [e] at hu; cases hu
      | some q => rw [e] at hu; cases hu; exact ⟨by omega, rfl⟩
    · rw [List.getElem?_append_right (by simpa using hi), List.getElem?_replicate] at hu
      split at hu <;> cases hu
  have st_ : ∀ (i : Nat) y, vs[i]? = some y → (L2.start N vs)[i]? = some (some y) := fun i y hy => by
    unfold L2.start
    have := (List.getElem?_eq_some_iff.mp hy).1
    rw [List.getElem?_append_left (by simpa using this), List.getElem?_map, hy]; rfl
  have pj : (startP N.length (fillP p hs))[j]? = some (some p) := by
    rcases rl.get p jl with ⟨_, q1, q2⟩ | ⟨_, _, q, _⟩
    · unfold startP
      have := (List.getElem?_eq_some_iff.mp q1).1
      rw [List.getElem?_append_left (by simpa using this), List.getElem?_map, q1]; rfl
    · cases q
  have sj : (L2.start N vs)[j]? = some (some (.ref a)) := by
    rcases rl.get p jl with ⟨_, q1, q2⟩ | ⟨_, _, q, _⟩
    · exact st_ _ _ q2
    · cases q
  have S0 : SR K ⟨fun b => if b = a then none else H b, H1, [(j, a)]⟩ [j] (startP N.length (fillP p hs)) (L2.start N vs) H1 H := by
    refine ⟨?_, sub, fun b o h => ?_, fun i u hi hu => ?_, fun i u hi hu => ?_, fun i i' u u' c hi hi' _ _ _ _ => ?_, fun q hq => ?_⟩
    · unfold L2.start startP
      simp [hlen, fl']
    · by_cases hb : b = a
      · simp only [if_pos hb] at h; cases h
      · simp only [if_neg hb] at h; exact ⟨h, rfl⟩
    · obtain ⟨h2, h3⟩ := at_ i u hu
      have : ∃ o, hs[i]? = some o := ⟨hs[i], List.getElem?_eq_getElem h2⟩
      obtain ⟨o, ho⟩ := this
      rcases rl.get p ho with ⟨q0, q1, q2⟩ | ⟨q, y, q0, q1, q2, q3⟩
      · rw [q0] at ho
        exact absurd (by simpa using (hj i).mp ho) (by simpa using hi)
      · rw [q1] at h3; cases h3
        exact ⟨y, st_ i y q2, q3⟩
    · obtain rfl : i = j := by simpa using hi
      rw [pj] at hu; cases hu
      exact ⟨a, sj, by simp, h1, ro⟩
    · have h1 : i = j := by simpa using hi
      have h2 : i' = j := by simpa using hi'
      rw [h1, h2]
    · obtain rfl : q = (j, a) := by simpa using hq
      exact ⟨sj, by simp, p, pj⟩
  have fin : ∀ {ow : List Nat} {σ' : L2.St} {H' H1' : Hp} {u : PV} {z : V}, LeR H1 H1' → SR K ⟨fun b => if b = a then none else H b, H1, [(j, a)]⟩ ow ρ' σ' H1' H' → Rep K H1' u z → u = v → Q z H' := fun {ow σ' H' H1' u z} le S' r hu => by
    subst hu
    obtain ⟨q1, q2, u2, q3⟩ := S'.io (j, a) (by simp)
    have : u2 = w' := by
      rw [look_iff.mp e5] at q3
      injection q3 with q; injection q with q; exact q.symm
    subst this
    obtain ⟨a', g1, g2, g3, g4⟩ := S'.ow j _ q2 q3
    rw [q1] at g1
    obtain rfl : a = a' := by injection g1 with q; injection q with q; injection q
    exact k z H' H1' le S'.sub (fun b o hb h => S'.fr b o (by simp only [if_neg hb]; exact h)) g3 g4 r
  refine ⟨_, startP N.length (fillP p hs), fl, ρ', H1, (fun q hq => by
    obtain rfl : q = (j, a) := by simpa using hq
    simp), S0, e1, ?_⟩
  cases fl with
  | rt u => cases e3; exact fun x ow σ' H' H1' le S' r => fin le S' r rfl
  | nx => cases e3; exact fun σ' H' H1' le S' => fin le S' rep_non rfl
  | _ => cases e3
end
/-- arguments with one own slot i among them -/
abbrev AO := Env → Option (List (Option PV) × Env)
def oNil : AO := fun ρ => some ([], ρ)
def oCons (f : EF) (g : AO) : AO := fun ρ => (f ρ).bind fun r => (g r.2).bind fun s => some (some r.1 :: s.1, s.2)
def oHole (i : Nat) (g : AO) : AO := fun ρ => (look ρ i).bind fun _ => (g ρ).bind fun s => some (none :: s.1, s.2)
def RepH (K : PySem.W.Frag) (H1 : Hp) (σ : L2.St) (i : Nat) : List (Option PV) → List V → Prop
  | [], xs => xs = []
  | none :: hs, xs => ∃ x r, xs = x :: r ∧ σ[i]? = some (some x) ∧ RepH K H1 σ i hs r
  | some p :: hs, xs => ∃ x r, xs = x :: r ∧ Rep K H1 p x ∧ RepH K H1 σ i hs r
theorem RepH.o {K : PySem.W.Frag} {H1 : Hp} {σ : L2.St} {i : Nat} {a : Addr} (h : σ[i]? = some (some (.ref a))) : ∀ {hs : List (Option PV)} {xs : List V}, RepH K H1 σ i hs xs → RepO K H1 a hs xs
  | [], _, r => r
  | none :: hs, _, r => by
    obtain ⟨x, t, rfl, q, rr⟩ := r
    rw [h] at q; cases q
    exact ⟨t, rfl, RepH.o h rr⟩
  | some p :: hs, _, r => by
    obtain ⟨x, t, rfl, q, rr⟩ := r
    exact ⟨x, t, rfl, q, RepH.o h rr⟩
def tO (K : PySem.W.Frag) (own : List Nat) (i : Nat) (f : AO) : TA := fun σ H Q => ∃ B ρ hs ρ' H1, SR K B own ρ σ H1 H ∧ f ρ = some (hs, ρ') ∧ ∀ xs H' H1', LeR H1 H1' → SR K B own ρ' σ H1' H' → RepH K H1' σ i hs xs → Q xs H'
structure OX (X : Cx) (own : List Nat) (i : Nat) (es : List Expr) (f : AO) : Prop where run : PA X es (tO X.K own i f)
section
variable {X : Cx} {own : List Nat} {e a b : Expr} {es : List Expr} {pos p : Pos} {x : Str} {k n j i : Nat} {f : Addr} {fd : FuncData} {ps : List Str} {F : GI} {ff : AO} {fe : EF}
theorem ox_nil : OX X own i [] oNil := ⟨PA.ent pa_nil fun σ H Q ⟨B, ρ, vs, ρ', H1, S, e, k⟩ => by
  cases e
  exact k [] H H1 (LeR.refl _) S rfl⟩
theorem ox_cons {g : AO} (ha : EX X own e fe) (hr : OX X own i es g) (hs : starEach (e :: es) X.env = (false, eval e X.env) :: starEach es X.env := by rfl) : OX X own i (e :: es) (oCons fe g) := ⟨PA.ent (pa_cons ha.run hr.run hs) fun σ H Q ⟨B, ρ, vs, ρ', H1, S, e, k⟩ => by
  obtain ⟨v, ρ1, e1, e⟩ := inv_b1 e
  obtain ⟨ws, ρ2, e2, e⟩ := inv_b1 e
  cases e
  refine ⟨B, ρ, v, ρ1, H1, S, e1, fun x H' H1' le S' rx => ⟨B, ρ1, ws, ρ2, H1', S', e2, fun xs H2 H12 le2 S2 rs => ?_⟩⟩
  exact k _ H2 H12 (le.trans le2) S2 ⟨x, xs, rfl, rx.mono le2 _ _, rs⟩⟩
theorem ox_hole {g : AO} (ha : PE X e (tVar i)) (hi : i ∈ own) (hr : OX X own i es g) (hs : starEach (e :: es) X.env = (false, eval e X.env) :: starEach es X.env := by rfl) : OX X own i (e :: es) (oHole i g) := ⟨PA.ent (pa_cons ha hr.run hs) fun σ H Q ⟨B, ρ, vs, ρ', H1, S, e, k⟩ => by
  obtain ⟨v, e1, e⟩ := Option.bind_eq_some_iff.mp e
  obtain ⟨ws, ρ2, e2, e⟩ := inv_b1 e
  cases e
  obtain ⟨a, h1, h2, h3, h4⟩ := S.ow i v hi (look_iff.mp e1)
  refine ⟨_, h1, B, ρ, ws, ρ2, H1, S, e2, fun xs H2 H12 le2 S2 rs => ?_⟩
  exact k _ H2 H12 le2 S2 ⟨_, xs, rfl, h1, rs⟩⟩
def fCallI (i : Nat) (F : GI) (f : AO) : EF := fun ρ => (f ρ).bind fun r => (look r.2 i).bind fun p => (F (fillP p r.1)).bind fun q => some (q.1, r.2.set i (some q.2))
theorem ex_callI (G : FnOk X.prog X.w X.K X.mg X.base CX0 k f fd ps (spI X.K n j F)) (hr : Room k X.A) (hg : Gl X x) (hm : X.mg x = some (.ref f)) (hk : PySem.W.keepIn X.K (.ref f) = true) (hb : Binds X.K fd ps [])
    (hlen : ps.length = n) (hi : i ∈ own) (ha : OX X own i (e :: es) ff) (hff : ∀ ρ vs ρ', ff ρ = some (vs, ρ') → vs.length = n ∧ ∀ i, vs[i]? = some none ↔ i = j) (hdb : (x == ("__debug__" : Str)) = false := by decide) (he : starEach (e :: es) X.env = (false, eval e X.env) :: starEach es X.env := by rfl) (hpl : (backTo pos (starEach es X.env)).any (·.1) = false := by rfl) :
    EX X own (.Call (.Name x p) (e :: es) [] pos) (fCallI i F ff) := ⟨PE.ent (pe_call G hr hg hm hk hb .nil pass0 ha.run hdb he hpl) fun σ H Q ⟨B, ρ, v, ρ', H1, S, e, k⟩ => by
  obtain ⟨hs, ρ1, e1, e⟩ := inv_b1 e
  obtain ⟨p, e2, e⟩ := Option.bind_eq_some_iff.mp e
  obtain ⟨⟨v2, w'⟩, e3, e⟩ := Option.bind_eq_some_iff.mp e
  cases e
  refine ⟨B, ρ, hs, ρ1, H1, S, e1, fun xs H' H1' le S' rs => ?_⟩
  dsimp only; rw [List.append_nil]
  obtain ⟨a, h1, h2, h3, h4⟩ := S'.ow i p hi (look_iff.mp e2)
  have ro := rs.o h1
  obtain ⟨f1, f2⟩ := hff _ _ _ e1
  refine ⟨by rw [ro.length, f1], hs, p, v2, w', H1', a, S'.sub, ro, h3, h4, f2, e3, fun z H3 H13 le3 sub fr n1 ow rz => ?_⟩
  refine k z H3 H13 (le.trans le3) ⟨by simpa using S'.len, sub, fun b o h => ?_, fun l u hl hu => ?_, fun l u hl hu => ?_, fun l l' u u' c hl hl' q1 q2 q3 q4 => ?_, fun q hq => ?_⟩ rz
  · obtain ⟨q1, q2⟩ := S'.fr b o h
    have nb : b ≠ a := fun z => by rw [z, h2] at h; cases h
    obtain ⟨q3, q4⟩ := fr b o nb q1
    exact ⟨q3, q4.trans q2⟩
  · have ne : l ≠ i := fun z => hl (z ▸ hi)
    rw [List.getElem?_set_ne (Ne.symm ne)] at hu
    obtain ⟨y, q1, q2⟩ := S'.sh l u hl hu
    exact ⟨y, q1, q2.mono le3 _ _⟩
  · by_cases ne : l = i
    · subst ne
      have hlt : l < ρ1.length := by simpa using (List.getElem?_eq_some_iff.mp hu).1
      rw [List.getElem?_set_self hlt] at hu; cases hu
      exact ⟨a, h1, h2, n1, ow⟩
    · rw [List.getElem?_set_ne (Ne.symm ne)] at hu
      obtain ⟨c, q1, q2, q3, q4⟩ := S'.ow l u hl hu
      have nc : c ≠ a := fun z => by
        subst z
        exact ne (S'.ds l i u p c hl hi hu (look_iff.mp e2) q1 h1)
      obtain ⟨o, ho⟩ := q4.some
      obtain ⟨q5, q6⟩ := fr c o nc ho
      exact ⟨c, q1, q2, by rw [q6]; exact q3, q4.move le3 (by rw [q5, ho])⟩
  · have back : ∀ (m : Nat) (u : PV), (ρ1.set i (some w'))[m]? = some (some u) → ∃ u', ρ1[m]? = some (some u') := fun m u h => by
      by_cases e : m = i
      · rw [e]; exact ⟨p, look_iff.mp e2⟩
      · rw [List.getElem?_set_ne (Ne.symm e)] at h; exact ⟨u, h⟩
    obtain ⟨u1, q1'⟩ := back l u q1
    obtain ⟨u2, q2'⟩ := back l' u' q2
    exact S'.ds l l' u1 u2 c hl hl' q1' q2' q3 q4
  · obtain ⟨q1, q2, u, q3⟩ := S'.io q hq
    refine ⟨q1, q2, ?_⟩
    by_cases ne : q.1 = i
    · rw [ne]
      exact ⟨w', List.getElem?_set_self (List.getElem?_eq_some_iff.mp (look_iff.mp e2)).1⟩
    · exact ⟨u, by rw [List.getElem?_set_ne (Ne.symm ne)]; exact q3⟩⟩
end
end PT

set_option Elab.async false
set_option linter.all false
set_option autoImplicit false
set_option maxRecDepth 100000
set_option maxHeartbeats 4000000
/-! PT6: things of the body's own changed; stores; comprehensions. -/
namespace PT
open PySem PySem.Spec PyProof.Rows L2

/-! ### a method that changes an own thing -/
abbrev GM := PV → List PV → Option (PV × PV)
def rMt (K : PySem.W.Frag) (g : GM) : V → List V → Hp → VK → Prop := fun x xs H Q => ∃ p ps v w' H1 a, x = .ref a ∧ Sub H1 H ∧ ORep K H1 H a p ∧ RepL K H1 ps xs ∧ g p ps = some (v, w') ∧
  ∀ o z, ORep K H1 (upd H a o) a w' → Rep K H1 v z → Q z (upd H a o)
def MtI (X : Cx) (id : String) (g : GM) : Prop := MtR X id (rMt X.K g)
def isLst : PV → Bool
  | .lst _ => true
  | _ => false
def isDct : PV → Bool
  | .dct _ => true
  | _ => false
def fMut (c : PV → Bool) (i : Nat) (g : GM) (f : AF) : EF := fun ρ => (look ρ i).bind fun p0 => if c p0 = true then (f ρ).bind fun r => (look r.2 i).bind fun p => (g p r.1).bind fun q => some (q.1, r.2.set i (some q.2)) else none
theorem inv_mut {c : PV → Bool} {i : Nat} {g : GM} {f : AF} {ρ ρ' : Env} {v : PV} (e : fMut c i g f ρ = some (v, ρ')) : ∃ p0 ps ρ1 p w', look ρ i = some p0 ∧ c p0 = true ∧ f ρ = some (ps, ρ1) ∧ look ρ1 i = some p ∧ g p ps = some (v, w') ∧ ρ' = ρ1.set i (some w') := by
  unfold fMut at e
  obtain ⟨p0, e0, e⟩ := Option.bind_eq_some_iff.mp e
  split at e
  · rename_i hc
    obtain ⟨ps, ρ1, e1, e⟩ := inv_b1 e
    obtain ⟨p, e2, e⟩ := Option.bind_eq_some_iff.mp e
    obtain ⟨⟨v2, w'⟩, e3, e⟩ := Option.bind_eq_some_iff.mp e
    cases e
    exact ⟨p0, ps, ρ1, p, w', e0, hc, e1, e2, e3, rfl⟩
  · cases e
theorem ty_lst {K : PySem.W.Frag} {H1 H : Hp} {a : Addr} {p : PV} (r : ORep K H1 H a p) (c : isLst p = true) : tyV K "list" (.ref a) H := by
  cases p with
  | lst xs => obtain ⟨vs, q, _⟩ := r; exact .inl ⟨rfl, vs, SqL.of q⟩
  | _ => cases c
theorem ty_dct {K : PySem.W.Frag} {H1 H : Hp} {a : Addr} {p : PV} (r : ORep K H1 H a p) (c : isDct p = true) : tyV K "dict" (.ref a) H := by
  cases p with
  | dct ks =>
    obtain ⟨kv, q, _⟩ := r
    exact .inr (.inr (.inl ⟨rfl, .inl ⟨kv, q⟩⟩))
  | _ => cases c
section
variable {X : Cx} {own io lm : List Nat} {o e : Expr} {es : List Expr} {T id : String} {g : GM} {ff : AF} {c : PV → Bool} {apos cpos pos : Pos} {name : Str} {i : Nat}
theorem ent_mt {K : PySem.W.Frag} (hT : ∀ {H1 H : Hp} {a : Addr} {p : PV}, ORep K H1 H a p → c p = true → tyV K T (.ref a) H) (hi : i ∈ own) : ∀ σ H Q, tE K own (fMut c i g ff) σ H Q → tBM K T (rMt K g) (tVar i) (tAr K own ff) σ H Q := fun σ H Q ⟨B, ρ, v, ρ', H1, S, e, k⟩ => by
  obtain ⟨p0, ps, ρ1, p, w', e0, hc, e1, e2, e3, rfl⟩ := inv_mut e
  obtain ⟨a, h1, h2, h3, h4⟩ := S.ow i p0 hi (look_iff.mp e0)
  refine ⟨_, h1, hT h4 hc, B, ρ, ps, ρ1, H1, S, e1, fun xs H2 H12 le S2 rs => ?_⟩
  obtain ⟨a', g1, g2, g3, g4⟩ := S2.ow i p hi (look_iff.mp e2)
  rw [h1] at g1
  obtain rfl : a = a' := by injection g1 with q; injection q with q; injection q
  exact ⟨p, ps, v, w', H12, a, rfl, S2.sub, g4, rs, e3, fun o z ro rz => k z _ H12 le (S2.write hi (look_iff.mp e2) h1 ro) rz⟩
theorem ex_mt (pa : PlainAttrs T) (slot : Slot T name id) (hty : typeOf (.builtin id) = pure (.type "method_descriptor")) (hm : MtI X id g) (hT : ∀ {H1 H : Hp} {a : Addr} {p : PV}, ORep X.K H1 H a p → c p = true → tyV X.K T (.ref a) H)
    (ho : PE X o (tVar i)) (hi : i ∈ own) (ha : AX X own (e :: es) ff)
    (hbase : attributeBase o name X.env (eval o X.env) = eval o X.env := by rfl)
    (hfew : ((backTo cpos (starEach (e :: es) X.env)).all (fun x => !x.1) && (backToKw cpos (keywordEach [] X.env)).all (fun x => x.1.isSome)
      && decide ((e :: es).length + ([] : List Keyword).length + (if ([] : List Keyword).isEmpty then 0 else 1) < 30)) = true := by rfl)
    (hline : (apos.endLine == cpos.line) = true := by rfl) (hs : starEach (e :: es) X.env = (false, eval e X.env) :: starEach es X.env := by rfl) (hplain : (backTo cpos (starEach es X.env)).any (·.1) = false := by rfl) :
    EX X own (.Call (.Attribute o name apos) (e :: es) [] cpos) (fMut c i g ff) := ⟨PE.ent (pe_bm pa slot hty hm ho ha.run hbase hfew hline hs hplain) (ent_mt hT hi)⟩
theorem ex_mt0 (pa : PlainAttrs T) (slot : Slot T name id) (hty : typeOf (.builtin id) = pure (.type "method_descriptor")) (hm : MtI X id g) (hT : ∀ {H1 H : Hp} {a : Addr} {p : PV}, ORep X.K H1 H a p → c p = true → tyV X.K T (.ref a) H)
    (ho : PE X o (tVar i)) (hi : i ∈ own) (hbase : attributeBase o name X.env (eval o X.env) = eval o X.env := by rfl) (hline : (apos.endLine == cpos.line) = true := by rfl) :
    EX X own (.Call (.Attribute o name apos) [] [] cpos) (fMut c i g aNil) := ⟨PE.ent (pe_bm0 pa slot hty hm ho hbase hline) fun σ H Q ⟨B, ρ, v, ρ', H1, S, e, k⟩ => by
  obtain ⟨p0, ps, ρ1, p, w', e0, hc, e1, e2, e3, rfl⟩ := inv_mut e
  cases e1
  rw [e0] at e2; cases e2
  obtain ⟨a, h1, h2, h3, h4⟩ := S.ow i p0 hi (look_iff.mp e0)
  exact ⟨_, h1, hT h4 hc, p0, [], v, w', H1, a, rfl, S.sub, h4, RepL.nil, e3, fun o z ro rz => k z _ H1 (LeR.refl _) (S.write hi (look_iff.mp e0) h1 ro) rz⟩⟩
end

/-- append, pop, extend -/
def gAppend : GM := fun p ps => match p, ps with
  | .lst xs, [y] => if xs.length < 1000000 then some (.non, .lst (xs ++ [y])) else none
  | _, _ => none
theorem RepL.one_iff {K : PySem.W.Frag} {H : Hp} {p : PV} {xs : List V} (h : RepL K H [p] xs) : ∃ x, xs = [x] ∧ Rep K H p x := by
  obtain ⟨v, r, rfl, a, b⟩ := RepL.cons_iff.mp h
  rw [RepL.nil_iff.mp b]
  exact ⟨v, rfl, a⟩
section
variable {X : Cx}
theorem MtR.imp {id : String} {r r' : V → List V → Hp → VK → Prop} (h : MtR X id r) (i : ∀ x xs H Q, r' x xs H Q → r x xs H Q) : MtR X id r' := fun pins s σ H x xs v us Q I rx rs q => h pins s σ H x xs v us Q I rx rs (i _ _ _ _ q)
theorem mi_append : MtI X "list.append" gAppend := MtR.imp mt_append fun x xs H Q ⟨p, ps, v, w', H1, a, ex, sub, ro, rl, e, k⟩ => by
  subst ex
  cases p with
  | lst ys =>
    cases ps with
    | nil => cases e
    | cons q qs =>
      cases qs with
      | cons _ _ => cases e
      | nil =>
        simp only [gAppend] at e
        split at e
        · rename_i hl
          cases e
          obtain ⟨vs, hv, rv⟩ := ro
          obtain ⟨x, rfl, rx⟩ := rl.one_iff
          refine ⟨a, vs, x, rfl, rfl, hv, by rw [rv.length, sizeLine_eq]; omega, ?_⟩
          exact k _ _ ⟨_, upd_same, rv.append (RepL.cons rx RepL.nil)⟩ rep_non
        · cases e
  | _ => cases e
def gPop0 : GM := fun p ps => match p, ps with
  | .lst xs, [] => (xs[xs.length - 1]?).map fun y => (y, .lst xs.dropLast)
  | _, _ => none
theorem mi_pop0 : MtI X "list.pop" gPop0 := MtR.imp mt_pop fun x xs H Q ⟨p, ps, v, w', H1, a, ex, sub, ro, rl, e, k⟩ => by
  subst ex
  cases p with
  | lst ys =>
    cases ps with
    | cons _ _ => cases e
    | nil =>
      obtain ⟨y, e1, e2⟩ := Option.map_eq_some_iff.mp e
      cases e2
      obtain ⟨vs, hv, rv⟩ := ro
      obtain ⟨x, h1, h2⟩ := rv.get e1
      refine ⟨a, vs, x, rfl, RepL.nil_iff.mp rl, hv, by rw [rv.length]; exact h1, ?_⟩
      exact k _ _ ⟨_, upd_same, rv.dropLast⟩ h2
  | _ => cases e
def gPopAt : GM := fun p ps => match p, ps with
  | .lst xs, [.int i] => match L2.ixN xs.length i with
    | some j => (xs[j]?).bind fun y => if i62 i = true then some (y, .lst (xs.eraseIdx j)) else none
    | none => none
  | _, _ => none
theorem RepL.eraseIdx {K : PySem.W.Frag} {H : Hp} : ∀ {ps : List PV} {vs : List V} (n : Nat), RepL K H ps vs → RepL K H (ps.eraseIdx n) (vs.eraseIdx n)
  | [], _, n, h => by rw [RepL.nil_iff.mp h]; simp [RepL.nil]
  | q :: ps, _, n, h => by
    obtain ⟨w, t, rfl, a, b⟩ := RepL.cons_iff.mp h
    cases n with
    | zero => exact b
    | succ n => exact RepL.cons a (RepL.eraseIdx n b)
theorem mi_popAt : MtI X "list.pop" gPopAt := MtR.imp mt_popAt fun x xs H Q ⟨p, ps, v, w', H1, a, ex, sub, ro, rl, e, k⟩ => by
  subst ex
  unfold gPopAt at e
  split at e
  · rename_i ys i
    split at e
    · rename_i j hj
      obtain ⟨y, e1, e2⟩ := Option.bind_eq_some_iff.mp e
      split at e2
      · rename_i hi
        cases e2
        obtain ⟨vs, hv, rv⟩ := ro
        obtain ⟨x, h1, h2⟩ := rv.get e1
        obtain ⟨x', rfl, rx⟩ := rl.one_iff
        simp only [Rep] at rx
        subst rx
        obtain ⟨q1, q2⟩ := i62_iff hi
        rw [← rv.length] at hj
        refine ⟨a, vs, i, j, x, rfl, rfl, hv, by omega, by omega, (ixN_seq hj).1, h1, ?_⟩
        exact k _ _ ⟨_, upd_same, rv.eraseIdx j⟩ h2
      · cases e2
    · cases e
  · cases e
end

/-! ### o[i] = v -/
abbrev GS := PV → PV → PV → Option PV
def rSt (K : PySem.W.Frag) (g : GS) : TSet := fun o i v H Q => ∃ p pi pv w' H1 a, o = .ref a ∧ Sub H1 H ∧ ORep K H1 H a p ∧ Rep K H1 pi i ∧ Rep K H1 pv v ∧ g p pi pv = some w' ∧ ∀ ob, ORep K H1 (upd H a ob) a w' → Q (upd H a ob)
def SetI (X : Cx) (g : GS) : Prop := PSet X (rSt X.K g)
theorem PSet.imp {X : Cx} {t t' : TSet} (h : PSet X t) (i : ∀ o k v H Q, t' o k v H Q → t o k v H Q) : PSet X t' := fun pins s σ H o k v ov iv u Q I r1 r2 r3 q => h pins s σ H o k v ov iv u Q I r1 r2 r3 (i _ _ _ _ _ q)
def orS (g g' : GS) : GS := fun p q r => match g p q r with | some v => some v | none => g' p q r
theorem SetI.or {X : Cx} {g g' : GS} (h : SetI X g) (h' : SetI X g') : SetI X (orS g g') := by
  intro pins s σ H o k v ov iv u Q I r1 r2 r3 ⟨p, pi, pv, w', H1, a, e1, sub, ro, ri, rv, e, kk⟩
  unfold orS at e
  split at e
  · rename_i v' e'
    cases e
    exact h pins s σ H o k v ov iv u Q I r1 r2 r3 ⟨p, pi, pv, _, H1, a, e1, sub, ro, ri, rv, e', kk⟩
  · exact h' pins s σ H o k v ov iv u Q I r1 r2 r3 ⟨p, pi, pv, w', H1, a, e1, sub, ro, ri, rv, e, kk⟩
def gSetL : GS := fun p i v => match p, i with
  | .lst xs, .int i => (L2.ixN xs.length i).map fun j => .lst (xs.set j v)
  | _, _ => none
theorem si_list {X : Cx} : SetI X gSetL := PSet.imp set_list fun o i v H Q ⟨p, pi, pv, w', H1, a, e1, sub, ro, ri, rv, e, k⟩ => by
  subst e1
  unfold gSetL at e
  split at e
  · rename_i xs j
    obtain ⟨m, e2, e3⟩ := Option.map_eq_some_iff.mp e
    cases e3
    obtain ⟨vs, hv, rvs⟩ := ro
    simp only [Rep] at ri
    subst ri
    refine ⟨a, vs, j, m, rfl, rfl, hv, by rw [rvs.length]; exact e2, ?_⟩
    exact k _ ⟨_, upd_same, rvs.set m rv⟩
  · cases e
def tSub (i : Nat) (fi : EF) (g : GS) : PV → Env → Option Env := fun v ρ => (look ρ i).bind fun _ => (fi ρ).bind fun r => (look r.2 i).bind fun p => (g p r.1 v).map fun w => r.2.set i (some w)
def fAsg (fe : EF) (t : PV → Env → Option Env) : SF := fun ρ => (fe ρ).bind fun r => (t r.1 r.2).map fun ρ' => (.nx, ρ')
section
variable {X : Cx} {own io lm : List Nat} {o ix e tg : Expr} {g : GS} {fi fe : EF} {t : PV → Env → Option Env} {pos : Pos} {i : Nat}
theorem gx_sub (hs : SetI X g) (ho : PE X o (tVar i)) (hi : i ∈ own) (hx : EX X own ix fi)
    (ha : ∀ v, assign (.Subscript o ix pos) X.env v = (do
      let ov ← holding [v] (eval o X.env)
      let iv ← holding [v, ov] (eval ix X.env)
      standAt pos
      holding [v, ov, iv] (setItem ov iv v)
      release [v, ov, iv] []) := by intro _; rfl) : GX X own (.Subscript o ix pos) (tSub i fi g) := ⟨PG.ent (pg_sub ho hx.run hs ha) fun v σ H Q ⟨B, ρ, p, ρ', H1, S, r, e, k⟩ => by
  obtain ⟨p0, e0, e⟩ := Option.bind_eq_some_iff.mp e
  obtain ⟨pi, ρ1, e1, e⟩ := inv_b1 e
  obtain ⟨pc, e2, e⟩ := Option.bind_eq_some_iff.mp e
  obtain ⟨w', e3, e4⟩ := Option.map_eq_some_iff.mp e
  cases e4
  obtain ⟨a, h1, h2, h3, h4⟩ := S.ow i p0 hi (look_iff.mp e0)
  refine ⟨_, h1, B, ρ, pi, ρ1, H1, S, e1, fun x H2 H12 le S2 rx => ?_⟩
  obtain ⟨a', g1, g2, g3, g4⟩ := S2.ow i pc hi (look_iff.mp e2)
  rw [h1] at g1
  obtain rfl : a = a' := by injection g1 with q; injection q with q; injection q
  exact ⟨pc, pi, p, w', H12, a, rfl, S2.sub, g4, rx, r.mono le _ _, e3, fun ob ro => k σ _ H12 le (S2.write hi (look_iff.mp e2) h1 ro)⟩⟩
theorem sx_asg (he : EX X own e fe) (hg : GX X own tg t) (hs : swapsWithSole [tg] e pos.line X.env = pure false := by rfl) (hw : swappedStores [tg] e X.env = pure none := by rfl)
    (h1 : (assignEach [tg] X.env).map (·.2) = [assign tg X.env] := by rfl) : SX X io lm own own (.Assign [tg] e pos) (fAsg fe t) := ⟨PS.ent (ps_asg he.run hg.run hs hw h1) fun D σ H ⟨B, ρ, fl, ρ', H1, hio, S, e, k⟩ => by
  obtain ⟨v, ρ1, e1, e2⟩ := inv_b1 e
  obtain ⟨ρ2, e3, e4⟩ := Option.map_eq_some_iff.mp e2
  cases e4
  refine ⟨B, ρ, v, ρ1, H1, S, e1, fun x H' H1' le S' r => ?_⟩
  exact ⟨B, ρ1, v, ρ', H1', S', r, e3, fun σ2 H2 H12 le2 S2 => k σ2 H2 H12 (le.trans le2) S2⟩⟩
end
/-! ### a, b = x, y: names; own new things among them -/
def fPar (i j : Nat) (fa fb : EF) : SF := fun ρ => (fa ρ).bind fun r => (fb r.2).bind fun s => some (.nx, (s.2.set i (some r.1)).set j (some s.1))
section
variable {X : Cx} {own own' io lm : List Nat} {a b : Expr} {fa fb : EF} {pos px py pt pt2 : Pos} {kt k2} {i j : Nat} {x y : Str}
theorem sx_par (hc : X.calm = true) (hN : X.N.Nodup) (hi : X.N[i]? = some x) (hj : X.N[j]? = some y) (hij : i ≠ j) (hx : X.env.scope.names.lookup x = some .local) (hy : X.env.scope.names.lookup y = some .local)
    (ha : EX X own a fa) (hb : EX X own b fb) (hoi : i ∉ own) (hoj : j ∉ own)
    (hw : swappedStores [.Tuple [.Name x px, .Name y py] kt pt] (.Tuple [a, b] k2 pt2) X.env = pure (some [x, y]) := by rfl)
    (hs : swapsWithSole [.Tuple [.Name x px, .Name y py] kt pt] (.Tuple [a, b] k2 pt2) pos.line X.env = pure false := by rfl)
    (s1 : starEach [a, b] X.env = (false, eval a X.env) :: starEach [b] X.env := by rfl) (s2 : starEach [b] X.env = (false, eval b X.env) :: starEach [] X.env := by rfl) :
    SX X io lm own own (.Assign [.Tuple [.Name x px, .Name y py] kt pt] (.Tuple [a, b] k2 pt2) pos) (fPar i j fa fb) := ⟨PS.ent (ps_par hc hN hi hj hij hx hy (pa_cons ha.run (pa_cons hb.run pa_nil s2) s1) hw hs) fun D σ H ⟨B, ρ, fl, ρ', H1, hio, S, e, k⟩ => by
  obtain ⟨va, ρ1, e1, e⟩ := inv_b1 e
  obtain ⟨vb, ρ2, e2, e⟩ := inv_b1 e
  cases e
  refine ⟨B, ρ, va, ρ1, H1, S, e1, fun xa H2 H12 le S2 ra => ⟨B, ρ1, vb, ρ2, H12, S2, e2, fun xb H3 H13 le2 S3 rb => ?_⟩⟩
  exact ⟨xa, xb, rfl, k _ H3 H13 (le.trans le2) ((S3.set hoi (ra.mono le2 _ _)).set hoj rb)⟩⟩
/-- the second one new -/
theorem sx_parN (hc : X.calm = true) (hN : X.N.Nodup) (hi : X.N[i]? = some x) (hj : X.N[j]? = some y) (hij : i ≠ j) (hx : X.env.scope.names.lookup x = some .local) (hy : X.env.scope.names.lookup y = some .local)
    (ha : EX X own a fa) (hb : EN X own b fb) (hoi : i ∉ own') (hio : j ∉ io) (ho : ∀ l, l ∈ own' ↔ l = j ∨ l ∈ own)
    (hw : swappedStores [.Tuple [.Name x px, .Name y py] kt pt] (.Tuple [a, b] k2 pt2) X.env = pure (some [x, y]) := by rfl)
    (hs : swapsWithSole [.Tuple [.Name x px, .Name y py] kt pt] (.Tuple [a, b] k2 pt2) pos.line X.env = pure false := by rfl)
    (s1 : starEach [a, b] X.env = (false, eval a X.env) :: starEach [b] X.env := by rfl) (s2 : starEach [b] X.env = (false, eval b X.env) :: starEach [] X.env := by rfl) :
    SX X io lm own own' (.Assign [.Tuple [.Name x px, .Name y py] kt pt] (.Tuple [a, b] k2 pt2) pos) (fPar i j fa fb) := ⟨PS.ent (ps_par hc hN hi hj hij hx hy (pa_cons ha.run (pa_cons hb.run pa_nil s2) s1) hw hs) fun D σ H ⟨B, ρ, fl, ρ', H1, hio', S, e, k⟩ => by
  obtain ⟨va, ρ1, e1, e⟩ := inv_b1 e
  obtain ⟨vb, ρ2, e2, e⟩ := inv_b1 e
  cases e
  refine ⟨B, ρ, va, ρ1, H1, S, e1, fun xa H2 H12 le S2 ra => ⟨B, ρ1, vb, ρ2, H12, S2, e2, fun c H3 H13 le2 F => ?_⟩⟩
  have S3 := F.sr.set (fun z => hoi ((ho i).mpr (.inr z))) (ra.mono le2 _ _)
  refine ⟨xa, _, rfl, k _ H3 H13 (le.trans le2) (S3.setO (fun p hp (e : p.1 = j) => hio (by rw [← e]; exact hio' p hp)) ho F.n0 F.n1 F.rep fun l w hl hw => ?_)⟩
  have ne : l ≠ i := fun z => hoi ((ho i).mpr (.inr (z ▸ hl)))
  rw [List.getElem?_set_ne (Ne.symm ne)] at hw ⊢
  exact F.ne l w hl hw⟩
end
/-! ### name op= e -/
/-- a shared name -/
def fAug (i : Nat) (g : G2) (fe : EF) : SF := fun ρ => (look ρ i).bind fun p => (fe ρ).bind fun r => (g p r.1).map fun v => (.nx, r.2.set i (some v))
section
variable {X : Cx} {own io lm : List Nat} {e : Expr} {fe : EF} {pos pos' : Pos} {i : Nat} {x : Str} {op : Operator} {g : G2}
theorem sx_aug (hN : X.N.Nodup) (hi : X.N[i]? = some x) (hx : Loc X.env.scope x) (hown : i ∉ own) (he : EX X own e fe) (ho : OpV X (inplaceOp op) g) (hf : X.fn x = true ∨ X.env.scope.names.lookup x = some .local := by first | exact .inl rfl | exact .inr rfl | assumption) :
    SX X io lm own own (.AugAssign (.Name x pos') op e pos) (fAug i g fe) := ⟨PS.ent (ps_aug (ti := r2V X.K g) hN hi hx he.run (fun pins s σ H x y v u Q I rx ry q => ho pins s σ H x y v u Q I rx ry q) hf) fun D σ H ⟨B, ρ, fl, ρ', H1, hio, S, e, k⟩ => by
  obtain ⟨p, e0, e⟩ := Option.bind_eq_some_iff.mp e
  obtain ⟨q, ρ1, e1, e⟩ := inv_b1 e
  obtain ⟨v, e2, e3⟩ := Option.map_eq_some_iff.mp e
  cases e3
  obtain ⟨y, h1, h2⟩ := S.sh i p hown (look_iff.mp e0)
  refine ⟨y, h1, B, ρ, q, ρ1, H1, S, e1, fun z H' H1' le S' r => ?_⟩
  refine ⟨p, q, v, H1', S'.sub, (h2.mono le _ _).rt S'.sub.le, r.rt S'.sub.le, e2, fun w H3 H13 ex rw' => ?_⟩
  exact k _ H3 H13 (le.trans ex.le) ((S'.ext ex).set hown rw')⟩
/-- an own list: xs += ys -/
def gExt : PV → PV → Option PV := fun p q => match p, q with
  | .lst xs, .lst ys => if xs.length + ys.length ≤ 1000000 then some (.lst (xs ++ ys)) else none
  | _, _ => none
def fAugO (i : Nat) (g : G2) (fe : EF) : SF := fun ρ => (look ρ i).bind fun _ => (fe ρ).bind fun r => (look r.2 i).bind fun p => (g p r.1).map fun v => (.nx, r.2.set i (some v))
end
end PT

set_option Elab.async false
set_option linter.all false
set_option autoImplicit false
set_option maxRecDepth 100000
set_option maxHeartbeats 4000000
/-! PT7: list comprehensions. -/
namespace PT
open PySem PySem.Spec PyProof.Rows L2

def wipeP (ρ : Env) : List Nat → Env
  | [] => ρ
  | v :: vs => (wipeP ρ vs).set v none
def backP (ρ0 : Env) : List Nat → Env → Env
  | [], ρ => ρ
  | v :: vs, ρ => (backP ρ0 vs ρ).set v (ρ0[v]?.getD none)
theorem wipeP_length (ρ : Env) : ∀ vs : List Nat, (wipeP ρ vs).length = ρ.length
  | [] => rfl
  | v :: vs => by unfold wipeP; rw [List.length_set, wipeP_length ρ vs]
theorem wipeP_some {ρ : Env} {i : Nat} {p : PV} : ∀ {vs : List Nat}, (wipeP ρ vs)[i]? = some (some p) → i ∉ vs ∧ ρ[i]? = some (some p)
  | [], h => ⟨by simp, h⟩
  | v :: vs, h => by
    unfold wipeP at h
    by_cases e : v = i
    · subst e
      by_cases hv : v < (wipeP ρ vs).length
      · rw [List.getElem?_set_self hv] at h; cases h
      · rw [List.getElem?_eq_none (by simpa using hv)] at h; cases h
    · rw [List.getElem?_set_ne e] at h
      obtain ⟨h1, h2⟩ := wipeP_some h
      exact ⟨by simp only [List.mem_cons, not_or]; exact ⟨fun z => e z.symm, h1⟩, h2⟩
theorem wipeP_out {ρ : Env} {i : Nat} : ∀ {vs : List Nat}, i ∉ vs → (wipeP ρ vs)[i]? = ρ[i]?
  | [], _ => rfl
  | v :: vs, h => by
    unfold wipeP
    simp only [List.mem_cons, not_or] at h
    rw [List.getElem?_set_ne (Ne.symm h.1), wipeP_out h.2]
theorem wipe_out' {σ : L2.St} {i : Nat} : ∀ {vs : List Nat}, i ∉ vs → (wipe σ vs)[i]? = σ[i]?
  | [], _ => rfl
  | v :: vs, h => by
    unfold wipe
    simp only [List.mem_cons, not_or] at h
    rw [List.getElem?_set_ne (Ne.symm h.1), wipe_out' h.2]
theorem wipe_in {σ : L2.St} {i : Nat} (hl : i < σ.length) : ∀ {vs : List Nat}, i ∈ vs → (wipe σ vs)[i]? = some none
  | [], h => by cases h
  | v :: vs, h => by
    unfold wipe
    by_cases e : v = i
    · subst e
      rw [List.getElem?_set_self (by rw [wipe_length]; exact hl)]
    · rw [List.getElem?_set_ne e]
      rcases List.mem_cons.mp h with z | z
      · exact absurd z.symm e
      · exact wipe_in hl z
theorem wipe_eq {σ σ2 : L2.St} {vs : List Nat} (hl : σ2.length = σ.length) (h : ∀ k, k ∉ vs → σ2[k]? = (wipe σ vs)[k]?) : wipe σ2 vs = wipe σ vs := by
  apply List.ext_getElem?
  intro k
  by_cases hk : k ∈ vs
  · by_cases hlt : k < σ.length
    · rw [wipe_in hlt hk, wipe_in (by omega) hk]
    · rw [List.getElem?_eq_none (by rw [wipe_length]; omega), List.getElem?_eq_none (by rw [wipe_length]; omega)]
  · rw [wipe_out' hk, h k hk]
theorem backP_length (ρ0 ρ : Env) : ∀ vs : List Nat, (backP ρ0 vs ρ).length = ρ.length
  | [] => rfl
  | v :: vs => by unfold backP; rw [List.length_set, backP_length ρ0 ρ vs]
theorem backP_out {ρ0 ρ : Env} {i : Nat} : ∀ {vs : List Nat}, i ∉ vs → (backP ρ0 vs ρ)[i]? = ρ[i]?
  | [], _ => rfl
  | v :: vs, h => by
    unfold backP
    simp only [List.mem_cons, not_or] at h
    rw [List.getElem?_set_ne (Ne.symm h.1), backP_out h.2]
theorem backP_in {ρ0 ρ : Env} {i : Nat} {p : PV} : ∀ {vs : List Nat}, i ∈ vs → (backP ρ0 vs ρ)[i]? = some (some p) → ρ0[i]? = some (some p)
  | [], h, _ => by cases h
  | v :: vs, h, e => by
    unfold backP at e
    by_cases ev : v = i
    · subst ev
      by_cases hv : v < (backP ρ0 vs ρ).length
      · rw [List.getElem?_set_self hv] at e
        cases q : ρ0[v]? with
        | none => rw [q] at e; cases e
        | some o => rw [q] at e; simpa using e
      · rw [List.getElem?_eq_none (by simpa using hv)] at e; cases e
    · rw [List.getElem?_set_ne ev] at e
      rcases List.mem_cons.mp h with z | z
      · exact absurd z.symm ev
      · exact backP_in z e

def Base.pin (B : Base) (D : Addr) (o : HO) : Base := ⟨fun b => if b = D then some o else B.H0 b, fun b => if b = D then none else B.H1 b, B.io⟩
section
variable {K : PySem.W.Frag} {B : Base} {own : List Nat} {ρ : Env} {σ : L2.St} {H1 H : Hp} {D : Addr} {o : HO}
theorem SR.pin (S : SR K B own ρ σ H1 H) (h : H D = some o) (h1 : H1 D = none) (hd : ∀ (j : Nat) w, j ∈ own → ρ[j]? = some (some w) → σ[j]? ≠ some (some (.ref D))) : SR K (B.pin D o) own ρ σ H1 H where
  len := S.len
  sub := S.sub
  fr := fun b u e => by
    simp only [Base.pin] at e ⊢
    by_cases hb : b = D
    · rw [if_pos hb] at e ⊢
      cases e
      rw [hb]; exact ⟨h, h1⟩
    · rw [if_neg hb] at e ⊢
      exact S.fr b u e
  sh := S.sh
  ow := fun i v hi hv => by
    obtain ⟨a, q1, q2, q3, q4⟩ := S.ow i v hi hv
    have ne : a ≠ D := fun z => hd i v hi hv (by rw [q1, z])
    exact ⟨a, q1, by simp only [Base.pin, if_neg ne]; exact q2, q3, q4⟩
  ds := S.ds
  io := S.io
theorem SR.unpin (S : SR K (B.pin D o) own ρ σ H1 H) (h0 : B.H0 D = none) : SR K B own ρ σ H1 H ∧ H D = some o ∧ H1 D = none ∧ ∀ (j : Nat) w, j ∈ own → ρ[j]? = some (some w) → σ[j]? ≠ some (some (.ref D)) := by
  have hD : H D = some o ∧ H1 D = none := by
    have := S.fr D o (by simp [Base.pin])
    simpa [Base.pin] using this
  refine ⟨⟨S.len, S.sub, fun b u e => ?_, S.sh, fun i v hi hv => ?_, S.ds, S.io⟩, hD.1, hD.2, fun j w hj hw e => ?_⟩
  · have ne : b ≠ D := fun z => by rw [z, h0] at e; cases e
    have := S.fr b u (by simp only [Base.pin, if_neg ne]; exact e)
    simpa only [Base.pin, if_neg ne] using this
  · obtain ⟨a, q1, q2, q3, q4⟩ := S.ow i v hi hv
    have ne : a ≠ D := fun z => by simp [Base.pin, z] at q2
    exact ⟨a, q1, by simpa only [Base.pin, if_neg ne] using q2, q3, q4⟩
  · obtain ⟨a, q1, q2, q3, q4⟩ := S.ow j w hj hw
    rw [e] at q1
    obtain rfl : D = a := by injection q1 with q; injection q with q; injection q
    simp [Base.pin] at q2
theorem SR.wipe (S : SR K B own ρ σ H1 H) {vs : List Nat} (hv : ∀ k ∈ vs, k ∉ own) : SR K B own (wipeP ρ vs) (L2.wipe σ vs) H1 H where
  len := by rw [wipe_length, wipeP_length, S.len]
  sub := S.sub
  fr := S.fr
  sh := fun i v hi h => by
    obtain ⟨h1, h2⟩ := wipeP_some h
    rw [wipe_out' h1]
    exact S.sh i v hi h2
  ow := fun i v hi h => by
    obtain ⟨h1, h2⟩ := wipeP_some h
    rw [wipe_out' h1]
    exact S.ow i v hi h2
  ds := fun i j v w a hi hj e1 e2 e3 e4 => by
    obtain ⟨h1, h2⟩ := wipeP_some e1
    obtain ⟨h3, h4⟩ := wipeP_some e2
    rw [wipe_out' h1] at e3
    rw [wipe_out' h3] at e4
    exact S.ds i j v w a hi hj h2 h4 e3 e4
  io := fun p hp => by
    obtain ⟨q1, q2, v, q3⟩ := S.io p hp
    have : p.1 ∉ vs := fun z => hv _ z q2
    exact ⟨by rw [wipe_out' this]; exact q1, q2, v, by rw [wipeP_out this]; exact q3⟩
theorem SR.back {ρ3 : Env} {σ2 : L2.St} {H13 H3 : Hp} (S : SR K B own ρ σ H1 H) (S3 : SR K B own ρ3 σ2 H13 H3) (le : LeR H1 H13) {vs : List Nat} (hv : ∀ k ∈ vs, k ∉ own) (hl : σ2.length = σ.length)
    (h : ∀ k, k ∉ vs → σ2[k]? = σ[k]?) : SR K B own (backP ρ vs ρ3) σ H13 H3 where
  len := by rw [backP_length, ← S3.len, hl]
  sub := S3.sub
  fr := S3.fr
  sh := fun i v hi e => by
    by_cases hk : i ∈ vs
    · obtain ⟨x, h1, h2⟩ := S.sh i v hi (backP_in hk e)
      exact ⟨x, h1, h2.mono le _ _⟩
    · rw [backP_out hk] at e
      rw [← h i hk]
      exact S3.sh i v hi e
  ow := fun i v hi e => by
    have hk : i ∉ vs := fun z => hv _ z hi
    rw [backP_out hk] at e
    rw [← h i hk]
    exact S3.ow i v hi e
  ds := fun i j v w a hi hj e1 e2 e3 e4 => by
    have hk : i ∉ vs := fun z => hv _ z hi
    have hk' : j ∉ vs := fun z => hv _ z hj
    rw [backP_out hk] at e1
    rw [backP_out hk'] at e2
    rw [← h i hk] at e3
    rw [← h j hk'] at e4
    exact S3.ds i j v w a hi hj e1 e2 e3 e4
  io := fun p hp => by
    obtain ⟨q1, q2, v, q3⟩ := S3.io p hp
    have hk : p.1 ∉ vs := fun z => hv _ z q2
    exact ⟨by rw [← h _ hk]; exact q1, q2, v, by rw [backP_out hk]; exact q3⟩
end

/-! ### targets that are told -/
def tGc (K : PySem.W.Frag) (own ts : List Nat) (t : PV → Env → Option Env) : TG := fun x σ H Q => ∃ B ρ p ρ' H1, SR K B own ρ σ H1 H ∧ Rep K H1 p x ∧ t p ρ = some ρ' ∧
  ∀ σ' H' H1', LeR H1 H1' → SR K B own ρ' σ' H1' H' → H' = H → σ'.length = σ.length → (∀ k, k ∉ ts → σ'[k]? = σ[k]?) → Q σ' H'
def tGcs (K : PySem.W.Frag) (own ts : List Nat) (t : List PV → Env → Option Env) : TGs := fun xs σ H Q => ∃ B ρ ps ρ' H1, SR K B own ρ σ H1 H ∧ RepL K H1 ps xs ∧ t ps ρ = some ρ' ∧
  ∀ σ' H' H1', LeR H1 H1' → SR K B own ρ' σ' H1' H' → H' = H → σ'.length = σ.length → (∀ k, k ∉ ts → σ'[k]? = σ[k]?) → Q σ' H'
structure GC (X : Cx) (own ts : List Nat) (tg : Expr) (t : PV → Env → Option Env) : Prop where run : PG X tg (tGc X.K own ts t)
structure GCs (X : Cx) (own ts : List Nat) (tg : List Expr) (t : List PV → Env → Option Env) : Prop where run : PGs X tg (tGcs X.K own ts t)
section
variable {X : Cx} {own ts : List Nat} {tg : Expr} {tgs : List Expr} {t : PV → Env → Option Env} {u : List PV → Env → Option Env} {pos : Pos}
theorem gc_name {i : Nat} {x : Str} (hN : X.N.Nodup) (hi : X.N[i]? = some x) (hx : Loc X.env.scope x) (hown : i ∉ own) (hts : i ∈ ts) (hf : X.fn x = true ∨ X.env.scope.names.lookup x = some .local := by first | exact .inl rfl | exact .inr rfl | assumption) :
    GC X own ts (.Name x pos) (tName i) := ⟨PG.ent (pg_name hN hi hx hf) fun v σ H Q ⟨B, ρ, p, ρ', H1, S, r, e, k⟩ => by
  cases e
  exact k _ H H1 (LeR.refl _) (S.set hown r) rfl (by simp) fun l hl => List.getElem?_set_ne fun z => hl (by rw [← z]; exact hts)⟩
theorem gcs_nil : GCs X own ts [] tsNil := ⟨PGs.ent pgs_nil fun v σ H Q ⟨B, ρ, p, ρ', H1, S, r, e, k⟩ => by
  cases p with
  | nil => cases e; exact ⟨RepL.nil_iff.mp r, k σ H H1 (LeR.refl _) S rfl rfl fun _ _ => rfl⟩
  | cons p ps => cases e⟩
theorem gcs_cons (h1 : GC X own ts tg t) (h2 : GCs X own ts tgs u) (hs : (assignEach (tg :: tgs) X.env).map (·.2) = assign tg X.env :: (assignEach tgs X.env).map (·.2) := by rfl) : GCs X own ts (tg :: tgs) (tsCons t u) := ⟨PGs.ent (pgs_cons h1.run h2.run hs) fun v σ H Q ⟨B, ρ, p, ρ', H1, S, r, e, k⟩ => by
  cases p with
  | nil => cases e
  | cons p ps =>
    obtain ⟨ρ1, e1, e2⟩ := Option.bind_eq_some_iff.mp e
    obtain ⟨w, ws, rfl, ra, rb⟩ := RepL.cons_iff.mp r
    refine ⟨w, ws, rfl, B, ρ, p, ρ1, H1, S, ra, e1, fun σ' H' H1' le S' eh n1 f1 => ?_⟩
    subst eh
    exact ⟨B, ρ1, ps, ρ', H1', S', rb.mono le _ _, e2, fun σ2 H2 H12 le2 S2 eh2 n2 f2 => k σ2 H2 H12 (le.trans le2) S2 eh2 (n2.trans n1) fun l hl => (f2 l hl).trans (f1 l hl)⟩⟩
theorem gc_tup {k n : Nat} (hc : X.calm = true) (h : GCs X own ts tgs u) (hn : (assignEach tgs X.env).length = n := by rfl) (hst : (assignEach tgs X.env).findIdx? (·.1) = none := by rfl) : GC X own ts (.Tuple tgs k pos) (tTupG n u) := ⟨PG.ent (pg_tup hc h.run hn hst) fun v σ H Q ⟨B, ρ, p, ρ', H1, S, r, e, k⟩ => by
  cases p with
  | tup xs =>
    unfold tTupG at e
    simp only at e
    split at e
    · rename_i hl
      simp only [Rep] at r
      obtain ⟨a, vs, rfl, q, rl⟩ := r
      exact ⟨a, vs, rfl, S.sub.le.sqT q.sq, by rw [rl.length]; exact hl, B, ρ, xs, ρ', H1, S, rl, e, k⟩
    · cases e
  | _ => cases e⟩
end

/-! ### tests of a clause -/
structure TsX (X : Cx) (own : List Nat) (ifs : List Expr) (f : TF) : Prop where run : PTs X ifs (tT X.K own f)
def fYes : TF := fun ρ => some (true, ρ)
theorem PTs.ent {X : Cx} {e : List Expr} {t t' : TT} (h : PTs X e t) (en : ∀ σ H Q, t' σ H Q → t σ H Q) : PTs X e t' := ⟨fun pins s σ H Q I q => h.run pins s σ H Q I (en _ _ _ q)⟩
theorem ts_nil {X : Cx} {own : List Nat} : TsX X own [] fYes := ⟨PTs.ent pts_nil fun σ H Q ⟨B, ρ, b, ρ', H1, S, e, k⟩ => by
  cases e
  exact k H H1 (LeR.refl _) S⟩
theorem ts_one {X : Cx} {own : List Nat} {c : Expr} {f : TF} (h : TX X own c f) : TsX X own [c] f := ⟨pts_one h.run⟩

/-! ### the comprehension -/
def lcLoop (vs : List Nat) (t : PV → Env → Option Env) (ft : TF) (fe : EF) : List PV → Env → List PV → Option (List PV × Env)
  | [], ρ, acc => some (acc, ρ)
  | p :: ps, ρ, acc => (t p (wipeP ρ vs)).bind fun ρ1 => (ft ρ1).bind fun r => if r.1 = true then (fe r.2).bind fun s => if acc.length < 1000000 then lcLoop vs t ft fe ps (backP ρ vs s.2) (acc ++ [s.1]) else none
    else lcLoop vs t ft fe ps (backP ρ vs r.2) acc
def fLC (vs : List Nat) (its : AF) (t : PV → Env → Option Env) (ft : TF) (fe : EF) : EF := fun ρ => (its ρ).bind fun r => (lcLoop vs t ft fe r.1 r.2 []).bind fun s => some (.lst s.1, s.2)
section
variable {own vs : List Nat} {fi : AF} {t : PV → Env → Option Env} {ft : TF} {fe : EF} {K : PySem.W.Frag}
theorem ent_lc (hv : ∀ k ∈ vs, k ∉ own) : ∀ σ H Q, tF K own (fLC vs fi t ft fe) σ H Q → tLc (tI K own fi) (tGc K own vs t) (tT K own ft) (tE K own fe) vs σ H Q := fun σ H Q ⟨B, ρ, v, ρ', H1, S, e, k⟩ => by
  obtain ⟨its, ρ0, e1, e⟩ := inv_b1 e
  obtain ⟨⟨accF, ρF⟩, e2, e⟩ := Option.bind_eq_some_iff.mp e
  cases e
  refine ⟨B, ρ, its, ρ0, H1, S, e1, fun J H' H1' le S' W D hD => ?_⟩
  have h0 : B.H0 D = none := by
    cases q : B.H0 D with
    | none => rfl
    | some o => rw [(S'.fr D o q).1] at hD; cases hD
  have subD : Sub H' (upd H' D (.lst [])) := fun b o q => by rw [upd_ne (ne_of_none q hD)]; exact q
  have F0 : FR K own B ρ0 σ H1' (upd H' D (.lst [])) D (.lst []) := FR.mk' S' subD hD ⟨[], upd_same, RepL.nil⟩
  refine ⟨fun i m H2 => ∃ ρ2 H12 accP acc, LeR H1' H12 ∧ SR K (B.pin D (.lst acc)) own ρ2 σ H12 H2 ∧ RepL K H12 accP acc ∧ i + m = its.length ∧ lcLoop vs t ft fe (its.drop i) ρ2 accP = some (accF, ρF),
    ⟨its.length, ρ0, H1', [], [], LeR.refl _, F0.sr.pin upd_same F0.n1 F0.ne, RepL.nil, by simp, by simpa using e2⟩, ?_⟩
  rintro i m H2 ⟨ρ2, H12, accP, acc, le2, S2, ra, hm, e3⟩
  obtain ⟨w1, w2⟩ := W H12 H2 le2 S2.sub
  by_cases hlt : i < its.length
  · right
    have hd : its.drop i = its[i] :: its.drop (i + 1) := List.drop_eq_getElem_cons hlt
    rw [hd] at e3
    unfold lcLoop at e3
    obtain ⟨ρ3, e4, e5⟩ := Option.bind_eq_some_iff.mp e3
    obtain ⟨b, ρ4, e6, e7⟩ := inv_b1 e5
    obtain ⟨g1, g2⟩ := w1 i its[i] (List.getElem?_eq_getElem hlt)
    refine ⟨g1, fun H5 => ∃ ρ5 H15 accP5 acc5, LeR H1' H15 ∧ SR K (B.pin D (.lst acc5)) own ρ5 σ H15 H5 ∧ RepL K H15 accP5 acc5 ∧ lcLoop vs t ft fe (its.drop (i + 1)) ρ5 accP5 = some (accF, ρF),
      fun H5 ⟨ρ5, H15, aP, a5, l5, S5, r5, e8⟩ => ⟨m - 1, by omega, ρ5, H15, aP, a5, l5, S5, r5, by omega, e8⟩, fun x H3 y => ?_⟩
    obtain ⟨H13, ex, rx⟩ := g2 x H3 y
    have S3 := S2.ext ex
    refine ⟨_, wipeP ρ2 vs, its[i], ρ3, H13, S3.wipe hv, rx, e4, fun σ6 H6 H16 l6 S6 eh hlen hσ => ⟨?_, ?_⟩⟩
    · exact wipe_eq (by rw [hlen, wipe_length]) hσ
    · refine ⟨_, ρ3, b, ρ4, H16, S6, e6, fun H7 H17 l7 S7 => ?_⟩
      have lw : LeR H1' H17 := ((le2.trans ex.le).trans l6).trans l7
      cases b with
      | false =>
        refine iteF ⟨backP ρ2 vs ρ4, H17, accP, acc, lw, S3.back S7 (l6.trans l7) hv (by rw [hlen, wipe_length]) (fun l hl => by rw [hσ l hl, wipe_out' hl]), ra.mono ((ex.le.trans l6).trans l7) _ _, e7⟩
      | true =>
        obtain ⟨y', ρ5, e8, e9⟩ := inv_b1 (show (fe ρ4).bind _ = some (accF, ρF) from e7)
        dsimp only at e9
        split at e9
        · rename_i hacc
          refine iteT ⟨_, ρ4, y', ρ5, H17, S7, e8, fun z H8 H18 l8 S8 rz => ?_⟩
          have S9 := S3.back S8 ((l6.trans l7).trans l8) hv (by rw [hlen, wipe_length]) (fun l hl => by rw [hσ l hl, wipe_out' hl])
          obtain ⟨S10, q1, q2, q3⟩ := S9.unpin h0
          have ra8 : RepL K H18 accP acc := ra.mono (((ex.le.trans l6).trans l7).trans l8) _ _
          refine ⟨acc, q1, by rw [ra8.length, sizeLine_eq]; omega, backP ρ2 vs ρ5, H18, accP ++ [y'], acc ++ [z], lw.trans l8, ?_, ra8.append (RepL.cons rz RepL.nil), e9⟩
          refine SR.pin ⟨S10.len, fun b o q => ?_, fun b o q => ?_, S10.sh, fun l v hl hv' => ?_, S10.ds, S10.io⟩ upd_same q2 q3
          · have : b ≠ D := fun z => by rw [z, q2] at q; cases q
            rw [upd_ne this]; exact S10.sub b o q
          · obtain ⟨p1, p2⟩ := S10.fr b o q
            have : b ≠ D := fun z => by rw [z, h0] at q; cases q
            exact ⟨by rw [upd_ne this]; exact p1, p2⟩
          · obtain ⟨a, p1, p2, p3, p4⟩ := S10.ow l v hl hv'
            have : a ≠ D := fun z => q3 l v hl hv' (by rw [p1, z])
            exact ⟨a, p1, p2, p3, p4.move (LeR.refl _) (upd_ne this)⟩
        · cases e9
  · left
    have hl : i = its.length := by omega
    rw [hl] at e3
    simp only [List.drop_length, lcLoop] at e3
    cases e3
    obtain ⟨S10, q1, q2, q3⟩ := S2.unpin h0
    exact ⟨by rw [hl]; exact w2, k D H2 H12 (le.trans le2) ⟨S10, h0, q2, ⟨acc, q1, ra⟩, q3⟩⟩
end

section
variable {X : Cx} {own own' io lm vs : List Nat} {elt tg iter : Expr} {ifs : List Expr} {scope : Scope} {nm : List (Str × Nat)} {pos spos py : Pos} {fi : AF} {t : PV → Env → Option Env} {ft : TF} {fe : EF} {i : Nat} {y : Str}
theorem en_lc (hc : X.calm = true) (hN : X.N.Nodup) (hi : IX X own tg iter fi) (ok : BlkOk X.N X.env.scope scope nm) (hvs : nm.map (·.2) = vs) (hv : ∀ k ∈ vs, k ∉ own)
    (hg : ∀ (s : Shared) (H : Hp) (C : Addr) (cl : List (Str × Addr)) (fp : List Addr), GC (X.blk s H scope (compEnvC scope cl C X.env) fp) own vs tg t) (ht : ∀ (s : Shared) (H : Hp) (C : Addr) (cl : List (Str × Addr)) (fp : List Addr), TsX (X.blk s H scope (compEnvC scope cl C X.env) fp) own ifs ft)
    (he : ∀ (s : Shared) (H : Hp) (C : Addr) (cl : List (Str × Addr)) (fp : List Addr), EX (X.blk s H scope (compEnvC scope cl C X.env) fp) own elt fe) (hs : ∀ x, foldedSetIterable iter X.env x = pure x := by intro _; rfl) :
    EN X own (.ListComp elt [⟨tg, iter, ifs, 0⟩] scope pos) (fLC vs fi t ft fe) := by
  subst hvs
  exact ⟨PE.ent (pe_lc hc hN hi.run ok (fun s H C cl fp => (hg s H C cl fp).run) (fun s H C cl fp => (ht s H C cl fp).run) (fun s H C cl fp => (he s H C cl fp).run) hs) (ent_lc hv)⟩
/-- y = [..] -/
theorem sx_lcN (hc : X.calm = true) (hN : X.N.Nodup) (hy : X.N[i]? = some y) (hyl : X.env.scope.names.lookup y = some .local) (hio : i ∉ io) (ho : ∀ j, j ∈ own' ↔ j = i ∨ j ∈ own)
    (hsw : swapsWith (.ListComp elt [⟨tg, iter, ifs, 0⟩] scope pos) (some (.Name y py)) spos.line X.env = pure true) (hi : IX X own tg iter fi) (ok : BlkOk X.N X.env.scope scope nm) (hvs : nm.map (·.2) = vs) (hv : ∀ k ∈ vs, k ∉ own)
    (hg : ∀ (s : Shared) (H : Hp) (C : Addr) (cl : List (Str × Addr)) (fp : List Addr), GC (X.blk s H scope (compEnvC scope cl C X.env) fp) own vs tg t) (ht : ∀ (s : Shared) (H : Hp) (C : Addr) (cl : List (Str × Addr)) (fp : List Addr), TsX (X.blk s H scope (compEnvC scope cl C X.env) fp) own ifs ft)
    (he : ∀ (s : Shared) (H : Hp) (C : Addr) (cl : List (Str × Addr)) (fp : List Addr), EX (X.blk s H scope (compEnvC scope cl C X.env) fp) own elt fe) (hs : ∀ x, foldedSetIterable iter X.env x = pure x := by intro _; rfl) :
    SX X io lm own own' (.Assign [.Name y py] (.ListComp elt [⟨tg, iter, ifs, 0⟩] scope pos) spos) (fSet i (fLC vs fi t ft fe)) := by
  subst hvs
  exact ⟨PS.ent (ps_setLc hc hN hy hyl hsw hi.run ok (fun s H C cl fp => (hg s H C cl fp).run) (fun s H C cl fp => (ht s H C cl fp).run) (fun s H C cl fp => (he s H C cl fp).run) hs) fun D σ H ⟨B, ρ, fl, ρ', H1, hi', S, e, k⟩ => by
    obtain ⟨v, ρ1, e1, e2⟩ := inv_b1 e
    cases e2
    exact ent_lc hv σ H _ ⟨B, ρ, v, ρ1, H1, S, e1, fun a H' H1' le F => k _ H' H1' le (F.sr.setO (fun p hp (e : p.1 = i) => hio (by rw [← e]; exact hi' p hp)) ho F.n0 F.n1 F.rep F.ne)⟩⟩
theorem sx_lc (hc : X.calm = true) (hN : X.N.Nodup) (hy : X.N[i]? = some y) (hyl : X.env.scope.names.lookup y = some .local) (hown : i ∉ own)
    (hsw : swapsWith (.ListComp elt [⟨tg, iter, ifs, 0⟩] scope pos) (some (.Name y py)) spos.line X.env = pure true) (hi : IX X own tg iter fi) (ok : BlkOk X.N X.env.scope scope nm) (hvs : nm.map (·.2) = vs) (hv : ∀ k ∈ vs, k ∉ own)
    (hg : ∀ (s : Shared) (H : Hp) (C : Addr) (cl : List (Str × Addr)) (fp : List Addr), GC (X.blk s H scope (compEnvC scope cl C X.env) fp) own vs tg t) (ht : ∀ (s : Shared) (H : Hp) (C : Addr) (cl : List (Str × Addr)) (fp : List Addr), TsX (X.blk s H scope (compEnvC scope cl C X.env) fp) own ifs ft)
    (he : ∀ (s : Shared) (H : Hp) (C : Addr) (cl : List (Str × Addr)) (fp : List Addr), EX (X.blk s H scope (compEnvC scope cl C X.env) fp) own elt fe) (hs : ∀ x, foldedSetIterable iter X.env x = pure x := by intro _; rfl) :
    SX X io lm own own (.Assign [.Name y py] (.ListComp elt [⟨tg, iter, ifs, 0⟩] scope pos) spos) (fSet i (fLC vs fi t ft fe)) := by
  subst hvs
  exact ⟨PS.ent (ps_setLc hc hN hy hyl hsw hi.run ok (fun s H C cl fp => (hg s H C cl fp).run) (fun s H C cl fp => (ht s H C cl fp).run) (fun s H C cl fp => (he s H C cl fp).run) hs) fun D σ H ⟨B, ρ, fl, ρ', H1, hi', S, e, k⟩ => by
    obtain ⟨v, ρ1, e1, e2⟩ := inv_b1 e
    cases e2
    refine ent_lc hv σ H _ ⟨B, ρ, v, ρ1, H1, S, e1, fun a H' H1' le F => ?_⟩
    obtain ⟨H1'', le', S', r⟩ := F.share
    exact k _ H' H1'' (le.trans le') (S'.set hown r)⟩
end
end PT

set_option Elab.async false
set_option linter.all false
set_option autoImplicit false
set_option maxRecDepth 100000
set_option maxHeartbeats 4000000
/-! PT8: operations by values: numbers, texts, lists, tuples. -/
namespace PT
open PySem PySem.Spec PyProof.Rows L2

/-! ### numbers -/
section
variable {X : Cx}
theorem rt_int {K : PySem.W.Frag} {H1 H : Hp} {i : Int} {x : V} (r : RT K H1 H (.int i) x) : x = .int i := by have := r.scal; simpa using this
theorem rt_str {K : PySem.W.Frag} {H1 H : Hp} {i : Str} {x : V} (r : RT K H1 H (.str i) x) : x = .str i := by have := r.scal; simpa using this
theorem rt_bl {K : PySem.W.Frag} {H1 H : Hp} {i : Bool} {x : V} (r : RT K H1 H (.bl i) x) : x = .bl i := by have := r.scal; simpa using this
theorem rt_non {K : PySem.W.Frag} {H1 H : Hp} {x : V} (r : RT K H1 H .non x) : x = .non := by have := r.scal; simpa using this
theorem kV'.at {K : PySem.W.Frag} {v : PV} {H1 H : Hp} {Q : VK} (k : kV' K v H1 H Q) (s : Sub H1 H) {z : V} (r : Rep K H1 v z) : Q z H := k z H H1 (Ext.refl s) r
def gI (f : Int → Int → Option PV) : G2 := fun p q => match p, q with
  | .int i, .int j => f i j
  | _, _ => none
theorem ov_int {f : Value → Value → Sem Value} {C : Int → Int → Prop} {g : Int → Int → V} {h : Int → Int → Option PV} (ho : OpR X f (rI C g)) (hh : ∀ i j v, h i j = some v → C i j ∧ ∀ H, Rep X.K H v (g i j)) : OpV X f (gI h) :=
  OpR.imp ho fun x y H Q ⟨p, q, v, H1, s, a, b, e, k⟩ => by
    unfold gI at e
    split at e
    · rename_i i j
      obtain ⟨hc, hr⟩ := hh i j v e
      exact ⟨i, j, rt_int a, rt_int b, hc, k.at s (hr _)⟩
    · cases e
theorem ov_int0 {f : Value → Value → Sem Value} {g : Int → Int → V} {h : Int → Int → Option PV} (ho : OpR X f (rI0 g)) (hh : ∀ i j v, h i j = some v → ∀ H, Rep X.K H v (g i j)) : OpV X f (gI h) :=
  OpR.imp ho fun x y H Q ⟨p, q, v, H1, s, a, b, e, k⟩ => by
    unfold gI at e
    split at e
    · rename_i i j
      exact ⟨i, j, rt_int a, rt_int b, k.at s (hh i j v e _)⟩
    · cases e
abbrev gAddI : G2 := gI fun i j => some (.int (i + j))
abbrev gSubI : G2 := gI fun i j => some (.int (i - j))
/-- small: below 2 ^ 4096 -/
def wideI (i : Int) : Bool := decide (i.natAbs.log2 < 4096)
abbrev gMulI : G2 := gI fun i j => if (wideI i && wideI j) = true then some (.int (i * j)) else none
abbrev gDivI : G2 := gI fun i j => if (decide (j ≠ 0) && decide (j.natAbs < 1073741824)) = true then some (.int (i.fdiv j)) else none
abbrev gModI : G2 := gI fun i j => if j ≠ 0 then some (.int (i.fmod j)) else none
abbrev gPowI : G2 := gI fun i j => if (decide (0 ≤ j) && decide (j ≤ 1000) && decide (i.natAbs < 1000000)) = true then some (.int (i ^ j.toNat)) else none
theorem ov_add : OpV X (binaryOp .Add) gAddI := ov_int0 op_add fun i j v e H => by cases e; exact rep_int
theorem ov_sub : OpV X (binaryOp .Sub) gSubI := ov_int0 op_sub fun i j v e H => by cases e; exact rep_int
theorem ov_mul : OpV X (binaryOp .Mult) gMulI := ov_int op_mulW fun i j v e => by
  split at e
  · rename_i h
    simp only [wideI, Bool.and_eq_true, decide_eq_true_eq] at h
    cases e
    exact ⟨by unfold CMulW; omega, fun _ => rep_int⟩
  · cases e
theorem ov_div : OpV X (binaryOp .FloorDiv) gDivI := ov_int op_fdivN fun i j v e => by
  split at e
  · rename_i h
    simp only [Bool.and_eq_true, decide_eq_true_eq] at h
    cases e
    exact ⟨h, fun _ => rep_int⟩
  · cases e
theorem ov_mod : OpV X (binaryOp .Mod) gModI := ov_int op_modN fun i j v e => by
  split at e
  · rename_i h
    cases e
    exact ⟨h, fun _ => rep_int⟩
  · cases e
theorem ov_pow : OpV X (binaryOp .Pow) gPowI := ov_int op_pow fun i j v e => by
  split at e
  · rename_i h
    simp only [Bool.and_eq_true, decide_eq_true_eq] at h
    cases e
    exact ⟨⟨h.1.1, by omega, by omega⟩, fun _ => rep_int⟩
  · cases e
theorem ov_iadd : OpV X (inplaceOp .Add) gAddI := ov_int0 iop_add fun i j v e H => by cases e; exact rep_int
theorem ov_isub : OpV X (inplaceOp .Sub) gSubI := ov_int0 iop_sub fun i j v e H => by cases e; exact rep_int
abbrev gLt : G2 := gI fun i j => some (.bl (decide (i < j)))
abbrev gLe : G2 := gI fun i j => some (.bl (decide (i ≤ j)))
abbrev gGt : G2 := gI fun i j => some (.bl (decide (j < i)))
abbrev gGe : G2 := gI fun i j => some (.bl (decide (j ≤ i)))
theorem ov_lt : OpV X (compareOp .Lt) gLt := ov_int0 op_lt fun i j v e H => by cases e; exact rep_bl
theorem ov_le : OpV X (compareOp .LtE) gLe := ov_int0 op_le fun i j v e H => by cases e; exact rep_bl
theorem ov_gt : OpV X (compareOp .Gt) gGt := ov_int0 op_gt fun i j v e H => by cases e; exact rep_bl
theorem ov_ge : OpV X (compareOp .GtE) gGe := ov_int0 op_ge fun i j v e H => by cases e; exact rep_bl
def gNeg : PV → Option PV
  | .int i => some (.int (-i))
  | _ => none
theorem uv_neg : UnV X (unaryOp .USub) gNeg := fun pins s σ H x v Q I rx ⟨p, w', H1, sub, r, e, k⟩ => un_neg pins s σ H x v Q I rx (by
  cases p with
  | int i => cases e; exact ⟨i, rt_int r, k.at sub rep_int⟩
  | _ => cases e)

/-! ### + of tuples, lists, texts -/
theorem RepL.nilV {K : PySem.W.Frag} {H : Hp} {xs : List PV} (r : RepL K H xs []) : xs = [] := by
  have := r.length
  cases xs with
  | nil => rfl
  | cons _ _ => simp at this
theorem rep_tup {K : PySem.W.Frag} {H : Hp} {a : Addr} {vs : List V} {xs : List PV} (q : TupAt K H a vs) (r : RepL K H xs vs) : Rep K H (.tup xs) (.ref a) := by
  simp only [Rep]; exact ⟨a, vs, rfl, q, r⟩
def gAddT : G2 := fun p q => match p, q with
  | .tup xs, .tup ys => if xs.length + ys.length ≤ 1000000 then some (.tup (xs ++ ys)) else none
  | _, _ => none
theorem ov_addT : OpV X (binaryOp .Add) gAddT := OpR.imp op_catF fun x y H Q ⟨p, q, v, H1, s, a, b, e, k⟩ => by
  unfold gAddT at e
  split at e
  · rename_i xs ys
    split at e
    · rename_i hl
      cases e
      obtain ⟨a1, vs, rfl, q1, r1⟩ := rt_tup a
      obtain ⟨a2, ws, rfl, q2, r2⟩ := rt_tup b
      have h1 := r1.length
      have h2 := r2.length
      refine ⟨a1, a2, vs, ws, rfl, rfl, s.le.sqT q1.sq, s.le.sqT q2.sq, by rw [h1, h2, sizeLine_eq]; omega, fun z => ?_, fun z1 z2 => ?_, fun z1 z2 p ob hp hd => ?_⟩
      · subst z
        rw [r1.nilV] at k
        exact k.at s (rep_tup q2 r2)
      · subst z2
        rw [r2.nilV, List.append_nil] at k
        exact k.at s (rep_tup q1 r1)
      · have ex := Ext.alloc (o := .frz ob (.tup (vs ++ ws))) s hp
        exact k _ _ _ ex (rep_tup (TupAt.new hd) ((r1.append r2).mono ex.le _ _))
    · cases e
  · cases e
def gAddS : G2 := fun p q => match p, q with
  | .str x, .str y => if x.length + y.length ≤ 1000000 then some (.str (x ++ y)) else none
  | _, _ => none
theorem ov_addS : OpV X (binaryOp .Add) gAddS := OpR.imp op_add_str fun x y H Q ⟨p, q, v, H1, s, a, b, e, k⟩ => by
  unfold gAddS at e
  split at e
  · split at e
    · rename_i hl
      cases e
      exact ⟨_, _, rt_str a, rt_str b, by rw [sizeLine_eq]; omega, k.at s rep_str⟩
    · cases e
  · cases e
/-- a list that may be read, at the heap -/
theorem lst_rd {pins : List (Addr × Obj)} {σ : L2.St} {H : Hp} {s : Shared} {a : Addr} {xs : List V} (I : Inv X pins σ H s) (h : Rd H a (.lst xs)) : xs.length ≤ sizeLine ∧ ∃ (its : List Value) (n : Nat), Vals xs its ∧ xs.length = its.length ∧ s.heap.get? a = some { cls := .type "list", data := .seq its.toArray n } := by
  obtain ⟨z, its, n, r, e⟩ := (show ObjOk X.prog X.w H s.heap a (.lst xs) from h.ok I.hok)
  exact ⟨z, its, n, r, r.length, e⟩
def rCatR : R2 := fun x y H Q => ∃ l b xs zs, x = .ref l ∧ y = .ref b ∧ Rd H l (.lst xs) ∧ Rd H b (.lst zs) ∧ xs.length + zs.length ≤ sizeLine ∧ ∀ p, H p = none → Q (.ref p) (upd H p (.lst (xs ++ zs)))
theorem op_catR : OpR X (binaryOp .Add) rCatR := by
  intro pins s σ H x y v u Q I rx ry h
  obtain ⟨l, b, xs, zs, rfl, rfl, hH, hB, hz, q⟩ := h
  cases rx
  cases ry
  obtain ⟨z, its, n, r, hl, e⟩ := lst_rd I hH
  obtain ⟨z2, its2, n2, r2, hl2, e2⟩ := lst_rd I hB
  refine PySem.P.add_list e e2 ?_ (by rw [List.size_toArray, List.size_toArray]; omega)
  have ea : its.toArray ++ its2.toArray = (its ++ its2).toArray := by simp
  rw [ea]
  exact ⟨.ref _, _, I.lnew (t' := s.toks) (r.append r2) (by rw [List.length_append]; omega), rfl, q _ I.fresh⟩
def gAddL : G2 := fun p q => match p, q with
  | .lst xs, .lst ys => if xs.length + ys.length ≤ 1000000 then some (.lst (xs ++ ys)) else none
  | _, _ => none
theorem subU {H : Hp} {p : Addr} {o : HO} (n : H p = none) : Sub H (upd H p o) := fun b u q => by rw [upd_ne (ne_of_none q n)]; exact q
theorem of_addL : OpF X (binaryOp .Add) gAddL := OpR.imp op_catR fun x y H Q ⟨p, q, v, H1, s, a, b, e, k⟩ => by
  unfold gAddL at e
  split at e
  · split at e
    · rename_i hl
      cases e
      obtain ⟨a1, vs, rfl, q1, r1⟩ := a
      obtain ⟨a2, ws, rfl, q2, r2⟩ := b
      exact ⟨a1, a2, vs, ws, rfl, rfl, q1, q2, by rw [r1.length, r2.length, sizeLine_eq]; omega, fun p hp => k p _ (subU hp) hp ⟨_, upd_same, r1.append r2⟩⟩
    · cases e
  · cases e
def gAdd : G2 := orG gAddI (orG gAddT (orG gAddS gAddL))
theorem ov_addAll : OpV X (binaryOp .Add) gAdd := ov_add.or (ov_addT.or (ov_addS.or of_addL.v))
/-- list * int -/
def rRepR : R2 := fun x y H Q => ∃ l k xs, x = .ref l ∧ y = .int k ∧ H l = some (.lst xs) ∧ -(2 ^ 63) ≤ k ∧ k < 2 ^ 63 ∧ xs.length * k.toNat ≤ sizeLine ∧ ∀ p, H p = none → Q (.ref p) (upd H p (.lst (List.replicate k.toNat xs).flatten))
def gRepL : G2 := fun p q => match p, q with
  | .lst [y], .int k => if (decide (-1000000 ≤ k) && decide (k ≤ 1000000)) = true then some (.lst (List.replicate k.toNat y)) else none
  | _, _ => none
end
/-! [e] * n -/
section
variable {X : Cx} {own : List Nat} {e b : Expr} {fe fb : EF} {pos p2 : Pos}
def fRep (fe fb : EF) : EF := fun ρ => (fe ρ).bind fun r => (fb r.2).bind fun s => match s.1 with
  | .int k => if (decide (-1000000 ≤ k) && decide (k ≤ 1000000)) = true then some (.lst (List.replicate k.toNat r.1), s.2) else none
  | _ => none
theorem flat_rep1 (v : V) : ∀ k : Nat, (List.replicate k [v]).flatten = List.replicate k v
  | 0 => rfl
  | k + 1 => by simp [List.replicate_succ, flat_rep1 v k]
theorem en_rep (he : EX X own e fe) (hb : EX X own b fb) (hs : starEach [e] X.env = (false, eval e X.env) :: starEach [] X.env := by rfl) : EN X own (.BinOp (.List [e] p2) .Mult b pos) (fRep fe fb) := ⟨PE.ent (pe_op op_rep (pe_lst (pa_cons he.run pa_nil hs)) hb.run) fun σ H Q ⟨B, ρ, v, ρ', H1, S, e, k⟩ => by
  obtain ⟨y, ρ1, e1, e⟩ := inv_b1 e
  obtain ⟨q, ρ2, e2, e⟩ := inv_b1 e
  cases q with
  | int j =>
    simp only at e
    split at e
    · rename_i hj
      simp only [Bool.and_eq_true, decide_eq_true_eq] at hj
      cases e
      refine ⟨B, ρ, y, ρ1, H1, S, e1, fun x H2 H12 le2 S2 ry => ⟨by show 1 ≤ sizeLine; decide, fun p hp => ?_⟩⟩
      have F := FR.mk' (v := .lst [y]) S2 (subU (o := .lst [x]) hp) hp ⟨[x], upd_same, RepL.cons ry RepL.nil⟩
      have n0 := F.n0
      have S3 := F.sr.pin upd_same F.n1 F.ne
      refine ⟨_, ρ1, .int j, ρ', H12, S3, e2, fun z H4 H14 le4 S4 rz => ?_⟩
      obtain ⟨S5, q1, q2, q3⟩ := S4.unpin n0
      simp only [Rep] at rz
      subst rz
      refine ⟨p, j, [x], rfl, rfl, q1, by omega, by omega, by simp only [List.length_singleton, Nat.one_mul]; rw [sizeLine_eq]; omega, fun c hc => ?_⟩
      rw [flat_rep1]
      exact k c _ H14 (le2.trans le4) (FR.mk' S5 (subU hc) hc ⟨_, upd_same, RepL.replicate (ry.mono le4 _ _) _⟩)
    · cases e
  | _ => cases e⟩
end

/-! ### == of data -/
mutual
def toD : PV → PyData
  | .non => .none
  | .bl b => .bool b
  | .int i => .int i
  | .str s => .str s
  | .tup xs => .tuple (toDs xs)
  | .lst xs => .list (toDs xs)
  | .dct _ => .dict []
  | .dit _ => .dict []
  | .obj _ _ => .dict []
def toDs : List PV → List PyData
  | [] => []
  | x :: xs => toD x :: toDs xs
end
mutual
/-- no dict within, at most so deep -/
def okD : Nat → PV → Bool
  | _, .non => true
  | _, .bl _ => true
  | _, .int _ => true
  | _, .str s => PyData.strOk s
  | 0, .tup _ => false
  | 0, .lst _ => false
  | n + 1, .tup xs => okDs n xs
  | n + 1, .lst xs => okDs n xs
  | _, .dct _ => false
  | _, .dit _ => false
  | _, .obj _ _ => false
def okDs : Nat → List PV → Bool
  | _, [] => true
  | n, x :: xs => okD n x && okDs n xs
end
mutual
theorem okD_lay : ∀ (n : Nat) (p : PV), okD n p = true → (toD p).canLay0 = true ∧ (toD p).depth ≤ n
  | n, .non, _ => by simp [toD, PyData.canLay0, PyData.depth]
  | n, .bl _, _ => by simp [toD, PyData.canLay0, PyData.depth]
  | n, .int _, _ => by simp [toD, PyData.canLay0, PyData.depth]
  | n, .str _, h => by simp only [okD] at h; simp [toD, PyData.canLay0, PyData.depth, h]
  | 0, .tup _, h => by simp [okD] at h
  | 0, .lst _, h => by simp [okD] at h
  | n + 1, .tup xs, h => by
    simp only [okD] at h
    obtain ⟨a, b⟩ := okDs_lay n xs h
    simp only [toD, PyData.canLay0, PyData.depth]
    exact ⟨a, by omega⟩
  | n + 1, .lst xs, h => by
    simp only [okD] at h
    obtain ⟨a, b⟩ := okDs_lay n xs h
    simp only [toD, PyData.canLay0, PyData.depth]
    exact ⟨a, by omega⟩
  | n, .dct _, h => by cases n <;> simp [okD] at h
  | n, .dit _, h => by cases n <;> simp [okD] at h
  | n, .obj _ _, h => by cases n <;> simp [okD] at h
theorem okDs_lay : ∀ (n : Nat) (p : List PV), okDs n p = true → PyData.canLayAll0 (toDs p) = true ∧ PyData.depthAll (toDs p) ≤ n
  | n, [], _ => by simp [toDs, PyData.canLayAll0, PyData.depthAll]
  | n, p :: ps, h => by
    simp only [okDs, Bool.and_eq_true] at h
    obtain ⟨a, b⟩ := okD_lay n p h.1
    obtain ⟨c, d⟩ := okDs_lay n ps h.2
    simp only [toDs, PyData.canLayAll0, PyData.depthAll, a, c]
    exact ⟨rfl, by omega⟩
end
theorem okD_shaped {p : PV} (h : okD 16 p = true) : SeqAt.shaped (toD p) = true := by
  obtain ⟨a, b⟩ := okD_lay 16 p h
  unfold SeqAt.shaped
  rw [a, Bool.true_and]
  exact decide_eq_true (by omega)
section
variable {K : PySem.W.Frag} {H : Hp}
mutual
theorem rep_dp : ∀ (n : Nat) (p : PV) (x : V), okD n p = true → Rep K H p x → Dp K H x (toD p)
  | n, .non, x, _, r => by simp only [Rep] at r; subst r; simp only [toD]; exact .non
  | n, .bl b, x, _, r => by simp only [Rep] at r; subst r; simp only [toD]; exact .bl b
  | n, .int i, x, _, r => by simp only [Rep] at r; subst r; simp only [toD]; exact .int i
  | n, .str i, x, _, r => by simp only [Rep] at r; subst r; simp only [toD]; exact .str i
  | 0, .tup _, _, h, _ => by simp [okD] at h
  | 0, .lst _, _, h, _ => by simp [okD] at h
  | n + 1, .tup xs, x, h, r => by
    simp only [Rep] at r
    simp only [okD] at h
    obtain ⟨a, vs, rfl, q, rl⟩ := r
    simp only [toD]
    exact .tup q.sq (rep_dps n xs vs h rl)
  | n + 1, .lst xs, x, h, r => by
    simp only [Rep] at r
    simp only [okD] at h
    obtain ⟨a, vs, rfl, q, rl⟩ := r
    simp only [toD]
    exact .lst (.inl q) (rep_dps n xs vs h rl)
  | n, .dct _, _, h, _ => by cases n <;> simp [okD] at h
  | n, .dit _, _, h, _ => by cases n <;> simp [okD] at h
  | n, .obj _ _, _, h, _ => by cases n <;> simp [okD] at h
theorem rep_dps : ∀ (n : Nat) (ps : List PV) (xs : List V), okDs n ps = true → RepL K H ps xs → DpAll K H xs (toDs ps)
  | n, [], xs, _, r => by rw [RepL.nil_iff.mp r]; simp only [toDs]; exact .nil
  | n, p :: ps, xs, h, r => by
    obtain ⟨v, t, rfl, a, b⟩ := RepL.cons_iff.mp r
    simp only [okDs, Bool.and_eq_true] at h
    simp only [toDs]
    exact .cons (rep_dp n p v h.1 a) (rep_dps n ps t h.2 b)
end
end
theorem RT.dp {K : PySem.W.Frag} {H1 H : Hp} {p : PV} {x : V} (s : Sub H1 H) (h : okD 16 p = true) (r : RT K H1 H p x) : Dp K H x (toD p) := rep_dp 16 p x h (r.rep s.le)
def gEqD : G2 := fun p q => if (okD 16 p && okD 16 q) = true then some (.bl (PyData.eqv (toD p) (toD q))) else none
def gNeD : G2 := fun p q => if (okD 16 p && okD 16 q) = true then some (.bl (!PyData.eqv (toD p) (toD q))) else none
section
variable {X : Cx}
theorem ov_eqD (hu : X.A.units + 64 < cLine) : OpV X (compareOp .Eq) gEqD := OpR.imp (op_eqD hu) fun x y H Q ⟨p, q, v, H1, s, a, b, e, k⟩ => by
  unfold gEqD at e
  split at e
  · rename_i h
    rw [Bool.and_eq_true] at h
    cases e
    exact ⟨_, _, a.dp s h.1, b.dp s h.2, okD_shaped h.1, okD_shaped h.2, k.at s rep_bl⟩
  · cases e
theorem ov_neD (hu : X.A.units + 64 < cLine) : OpV X (compareOp .NotEq) gNeD := OpR.imp (op_neD hu) fun x y H Q ⟨p, q, v, H1, s, a, b, e, k⟩ => by
  unfold gNeD at e
  split at e
  · rename_i h
    rw [Bool.and_eq_true] at h
    cases e
    exact ⟨_, _, a.dp s h.1, b.dp s h.2, okD_shaped h.1, okD_shaped h.2, k.at s rep_bl⟩
  · cases e
/-! is None -/
def gIsN : G2 := fun p q => match q with
  | .non => match p with
    | .non => some (.bl true)
    | _ => some (.bl false)
  | _ => none
def gIsNotN : G2 := fun p q => match q with
  | .non => match p with
    | .non => some (.bl false)
    | _ => some (.bl true)
  | _ => none
theorem rt_notNon {K : PySem.W.Frag} {H1 H : Hp} {p : PV} {x : V} (r : RT K H1 H p x) (h : p ≠ .non) : x ≠ .non := by
  cases p with
  | non => exact absurd rfl h
  | bl b => rw [rt_bl r]; exact fun z => nomatch z
  | int b => rw [rt_int r]; exact fun z => nomatch z
  | str b => rw [rt_str r]; exact fun z => nomatch z
  | tup xs => obtain ⟨a, vs, rfl, _⟩ := rt_tup r; exact fun z => nomatch z
  | lst xs => obtain ⟨a, vs, rfl, _⟩ := r; exact fun z => nomatch z
  | dct xs => obtain ⟨a, kv, rfl, _⟩ := r; exact fun z => nomatch z
  | dit xs => obtain ⟨a, o, kv, rfl, _⟩ := r; exact fun z => nomatch z
  | obj c xs =>
    have h : Rep K H1 (.obj c xs) x := r
    simp only [Rep] at h
    obtain ⟨_, a, vs, rfl, _⟩ := h
    exact fun z => nomatch z
theorem ov_isN : OpV X (compareOp .Is) gIsN := OpR.imp op_isN fun x y H Q ⟨p, q, v, H1, s, a, b, e, k⟩ => by
  unfold gIsN at e
  split at e
  · rw [rt_non b]
    split at e
    · cases e
      rw [rt_non a]
      exact ⟨rfl, by simpa using k.at s rep_bl⟩
    · rename_i hn
      cases e
      have : decide (x = V.non) = false := decide_eq_false (rt_notNon a hn)
      rw [this]
      exact ⟨rfl, k.at s rep_bl⟩
  · cases e
theorem ov_notN : OpV X (compareOp .IsNot) gIsNotN := OpR.imp op_notN fun x y H Q ⟨p, q, v, H1, s, a, b, e, k⟩ => by
  unfold gIsNotN at e
  split at e
  · rw [rt_non b]
    split at e
    · cases e
      rw [rt_non a]
      exact ⟨rfl, by simpa using k.at s rep_bl⟩
    · rename_i hn
      cases e
      have : decide (x = V.non) = false := decide_eq_false (rt_notNon a hn)
      rw [this]
      exact ⟨rfl, k.at s rep_bl⟩
  · cases e
/-! in, of a list: data -/
def gInL : G2 := fun p q => match q with
  | .lst ys => if (okD 16 p && okD 16 q) = true then some (.bl (ys.any fun y => PyData.eqv (toD y) (toD p))) else none
  | _ => none
def gNotInL : G2 := fun p q => match q with
  | .lst ys => if (okD 16 p && okD 16 q) = true then some (.bl (!(ys.any fun y => PyData.eqv (toD y) (toD p)))) else none
  | _ => none
end
end PT

set_option Elab.async false
set_option linter.all false
set_option autoImplicit false
set_option maxRecDepth 100000
set_option maxHeartbeats 4000000
/-! PT9: in, len, subscripts, slices, list(), tuple(), sorted, max, min, sum, any, all, isinstance. -/
namespace PT
open PySem PySem.Spec PyProof.Rows L2

theorem any_toDs (f : PyData → Bool) : ∀ ys : List PV, (toDs ys).any f = ys.any fun y => f (toD y)
  | [] => rfl
  | y :: ys => by simp only [toDs, List.any_cons, any_toDs f ys]
section
variable {X : Cx}
theorem ov_inL (hu : X.A.units + 65 < cLine) : OpV X (compareOp .In) gInL := OpR.imp (op_inD hu) fun x y H Q ⟨p, q, v, H1, s, a, b, e, k⟩ => by
  unfold gInL at e
  split at e
  · rename_i ys
    split at e
    · rename_i h
      rw [Bool.and_eq_true] at h
      cases e
      have hb := b.dp s h.2
      have sb := okD_shaped h.2
      simp only [toD] at hb sb
      exact ⟨_, _, a.dp s h.1, hb, okD_shaped h.1, sb, by rw [any_toDs]; exact k.at s rep_bl⟩
    · cases e
  · cases e
theorem ov_notInL (hu : X.A.units + 65 < cLine) : OpV X (compareOp .NotIn) gNotInL := OpR.imp (op_notInD hu) fun x y H Q ⟨p, q, v, H1, s, a, b, e, k⟩ => by
  unfold gNotInL at e
  split at e
  · rename_i ys
    split at e
    · rename_i h
      rw [Bool.and_eq_true] at h
      cases e
      have hb := b.dp s h.2
      have sb := okD_shaped h.2
      simp only [toD] at hb sb
      exact ⟨_, _, a.dp s h.1, hb, okD_shaped h.1, sb, by rw [any_toDs]; exact k.at s rep_bl⟩
    · cases e
  · cases e
/-! len -/
def gLen : GL := fun ps => match ps with
  | [.lst xs] => some (.int xs.length)
  | [.tup xs] => some (.int xs.length)
  | [.str x] => if x.length ≤ 1000000 then some (.int x.length) else none
  | _ => none
theorem RTL.one {K : PySem.W.Frag} {H1 H : Hp} {p : PV} {xs : List V} (r : RTL K H1 H [p] xs) : ∃ x, xs = [x] ∧ RT K H1 H p x := by
  obtain ⟨x, t, rfl, a, b⟩ := r
  obtain rfl : t = [] := b
  exact ⟨x, rfl, a⟩
theorem RTL.two {K : PySem.W.Frag} {H1 H : Hp} {p q : PV} {xs : List V} (r : RTL K H1 H [p, q] xs) : ∃ x y, xs = [x, y] ∧ RT K H1 H p x ∧ RT K H1 H q y := by
  obtain ⟨x, t, rfl, a, b⟩ := r
  obtain ⟨y, rfl, c⟩ := RTL.one b
  exact ⟨x, y, rfl, a, c⟩
theorem cv_len : CallV X (.builtin "len") gLen := CallR.imp call_len fun xs H Q ⟨ps, v, H1, s, a, e, k⟩ => by
  unfold gLen at e
  split at e
  · cases e
    obtain ⟨x, rfl, r⟩ := a.one
    obtain ⟨b, vs, rfl, q, rl⟩ := r
    exact ⟨_, vs.length, rfl, .inl ⟨vs, .inl q, rfl⟩, by rw [rl.length]; exact k.at s rep_int⟩
  · cases e
    obtain ⟨x, rfl, r⟩ := a.one
    obtain ⟨b, vs, rfl, q, rl⟩ := rt_tup r
    exact ⟨_, vs.length, rfl, .inr ⟨vs, s.le.sqT q.sq, rfl⟩, by rw [rl.length]; exact k.at s rep_int⟩
  · split at e
    · rename_i z hz
      cases e
      obtain ⟨x, rfl, r⟩ := a.one
      exact ⟨_, _, rfl, by rw [rt_str r]; exact ⟨by rw [sizeLine_eq]; omega, rfl⟩, k.at s rep_int⟩
    · cases e
  · cases e
/-! subscripts -/
def gIxL : G2 := fun p q => match p, q with
  | .lst xs, .int i => atI xs i
  | _, _ => none
def gIxT : G2 := fun p q => match p, q with
  | .tup xs, .int i => atI xs i
  | _, _ => none
def gIxS : G2 := fun p q => match p, q with
  | .str z, .int i => if z.length ≤ 1000000 then (atI z.cps.toList i).map fun c => .str ⟨#[c]⟩ else none
  | _, _ => none
theorem atI_rep {K : PySem.W.Frag} {H : Hp} {ps : List PV} {vs : List V} {i : Int} {p : PV} (r : RepL K H ps vs) (h : atI ps i = some p) : ∃ x, atI vs i = some x ∧ Rep K H p x := by
  unfold atI at h ⊢
  rw [r.length]
  obtain ⟨j, e1, e2⟩ := Option.bind_eq_some_iff.mp h
  obtain ⟨x, h1, h2⟩ := r.get e2
  exact ⟨x, by rw [e1]; exact h1, h2⟩
theorem iv_lst : IxV X gIxL := IxR.imp L2.ix_list fun x y H Q ⟨p, q, v, H1, s, a, b, e, k⟩ => by
  unfold gIxL at e
  split at e
  · obtain ⟨c, vs, rfl, q1, rl⟩ := a
    obtain ⟨z, h1, h2⟩ := atI_rep rl e
    exact ⟨c, vs, _, z, rfl, rt_int b, .inl q1, h1, k.at s h2⟩
  · cases e
theorem iv_tup : IxV X gIxT := IxR.imp L2.ix_tup fun x y H Q ⟨p, q, v, H1, s, a, b, e, k⟩ => by
  unfold gIxT at e
  split at e
  · obtain ⟨c, vs, rfl, q1, rl⟩ := rt_tup a
    obtain ⟨z, h1, h2⟩ := atI_rep rl e
    exact ⟨c, vs, _, z, rfl, rt_int b, s.le.sqT q1.sq, h1, k.at s h2⟩
  · cases e
theorem iv_str : IxV X gIxS := IxR.imp L2.ix_str fun x y H Q ⟨p, q, v, H1, s, a, b, e, k⟩ => by
  unfold gIxS at e
  split at e
  · split at e
    · rename_i hl
      obtain ⟨c, e1, e2⟩ := Option.map_eq_some_iff.mp e
      cases e2
      exact ⟨_, _, c, rt_str a, rt_int b, by rw [sizeLine_eq]; omega, e1, k.at s rep_str⟩
    · cases e
  · cases e
def gIx : G2 := orG gIxT (orG gIxL gIxS)
theorem iv_seq : IxV X gIx := iv_tup.or (iv_lst.or iv_str)
/-! list(x), tuple(x) -/
def gListOf : GL := fun ps => match ps with
  | [.lst xs] => some (.lst xs)
  | [.tup xs] => some (.lst xs)
  | [.obj _ xs] => some (.lst xs)
  | _ => none
theorem cf_list : CallF X (.type "list") gListOf := CallR.imp call_list_of fun xs H Q ⟨ps, v, H1, s, a, e, k⟩ => by
  unfold gListOf at e
  split at e
  · cases e
    obtain ⟨x, rfl, r⟩ := a.one
    obtain ⟨b, vs, rfl, q, rl⟩ := r
    exact ⟨b, vs, rfl, .inl (.inl q), fun l hl => k l _ (subU hl) hl ⟨vs, upd_same, rl⟩⟩
  · cases e
    obtain ⟨x, rfl, r⟩ := a.one
    obtain ⟨b, vs, rfl, q, rl⟩ := rt_tup r
    exact ⟨b, vs, rfl, .inr (s.le.sqT q.sq), fun l hl => k l _ (subU hl) hl ⟨vs, upd_same, rl⟩⟩
  · cases e
    obtain ⟨x, rfl, r⟩ := a.one
    simp only [RT, Rep] at r
    obtain ⟨_, b, vs, rfl, q, rl⟩ := r
    exact ⟨b, vs, rfl, .inl (s.le.sqL q), fun l hl => k l _ (subU hl) hl ⟨vs, upd_same, rl⟩⟩
  · cases e
def gTupOf : GL := fun ps => match ps with
  | [.lst xs] => some (.tup xs)
  | [.tup xs] => some (.tup xs)
  | _ => none
theorem cv_tuple : CallV X (.type "tuple") gTupOf := CallR.imp call_tuple_ofF fun xs H Q ⟨ps, v, H1, s, a, e, k⟩ => by
  unfold gTupOf at e
  split at e
  · cases e
    obtain ⟨x, rfl, r⟩ := a.one
    obtain ⟨b, vs, rfl, q, rl⟩ := r
    refine ⟨b, vs, rfl, .inl ⟨.inl q, fun l ob hl hd => ?_⟩⟩
    have ex := Ext.alloc (o := .frz ob (.tup vs)) s hl
    exact k _ _ _ ex (rep_tup (TupAt.new hd) (rl.mono ex.le _ _))
  · cases e
    obtain ⟨x, rfl, r⟩ := a.one
    obtain ⟨b, vs, rfl, q, rl⟩ := rt_tup r
    exact ⟨b, vs, rfl, .inr ⟨s.le.sqT q.sq, k.at s (rep_tup q rl)⟩⟩
  · cases e
/-! abs, int, sum, any, all, max, min -/
def gAbs : GL := fun ps => match ps with
  | [.int i] => some (.int (if i < 0 then -i else i))
  | _ => none
theorem cv_abs : CallV X (.builtin "abs") gAbs := CallR.imp call_abs fun xs H Q ⟨ps, v, H1, s, a, e, k⟩ => by
  unfold gAbs at e
  split at e
  · cases e
    obtain ⟨x, rfl, r⟩ := a.one
    exact ⟨_, by rw [rt_int r], k.at s rep_int⟩
  · cases e
def gInt : GL := fun ps => match ps with
  | [.int i] => some (.int i)
  | [.bl b] => some (.int (if b then 1 else 0))
  | _ => none
theorem cv_int : CallV X (.type "int") gInt := CallR.imp call_int1 fun xs H Q ⟨ps, v, H1, s, a, e, k⟩ => by
  unfold gInt at e
  split at e
  · cases e
    obtain ⟨x, rfl, r⟩ := a.one
    exact .inl ⟨_, by rw [rt_int r], k.at s rep_int⟩
  · cases e
    obtain ⟨x, rfl, r⟩ := a.one
    exact .inr ⟨_, by rw [rt_bl r], k.at s rep_int⟩
  · cases e
def intsP : List PV → Option (List Int)
  | [] => some []
  | .int i :: xs => (intsP xs).map fun is => i :: is
  | _ :: _ => none
def blsP : List PV → Option (List Bool)
  | [] => some []
  | .bl i :: xs => (blsP xs).map fun is => i :: is
  | _ :: _ => none
theorem intsP_rep {K : PySem.W.Frag} {H : Hp} : ∀ {ps : List PV} {vs : List V} {is : List Int}, intsP ps = some is → RepL K H ps vs → vs = is.map V.int
  | [], _, _, e, r => by cases e; rw [RepL.nil_iff.mp r]; rfl
  | .int i :: ps, _, _, e, r => by
    obtain ⟨js, e1, e2⟩ := Option.map_eq_some_iff.mp e
    cases e2
    obtain ⟨v, t, rfl, a, b⟩ := RepL.cons_iff.mp r
    simp only [Rep] at a
    rw [a, intsP_rep e1 b]; rfl
  | .non :: _, _, _, e, _ => by simp [intsP] at e
  | .bl _ :: _, _, _, e, _ => by simp [intsP] at e
  | .str _ :: _, _, _, e, _ => by simp [intsP] at e
  | .tup _ :: _, _, _, e, _ => by simp [intsP] at e
  | .lst _ :: _, _, _, e, _ => by simp [intsP] at e
  | .dct _ :: _, _, _, e, _ => by simp [intsP] at e
  | .dit _ :: _, _, _, e, _ => by simp [intsP] at e
  | .obj _ _ :: _, _, _, e, _ => by simp [intsP] at e
theorem blsP_rep {K : PySem.W.Frag} {H : Hp} : ∀ {ps : List PV} {vs : List V} {is : List Bool}, blsP ps = some is → RepL K H ps vs → vs = is.map V.bl
  | [], _, _, e, r => by cases e; rw [RepL.nil_iff.mp r]; rfl
  | .bl i :: ps, _, _, e, r => by
    obtain ⟨js, e1, e2⟩ := Option.map_eq_some_iff.mp e
    cases e2
    obtain ⟨v, t, rfl, a, b⟩ := RepL.cons_iff.mp r
    simp only [Rep] at a
    rw [a, blsP_rep e1 b]; rfl
  | .non :: _, _, _, e, _ => by simp [blsP] at e
  | .int _ :: _, _, _, e, _ => by simp [blsP] at e
  | .str _ :: _, _, _, e, _ => by simp [blsP] at e
  | .tup _ :: _, _, _, e, _ => by simp [blsP] at e
  | .lst _ :: _, _, _, e, _ => by simp [blsP] at e
  | .dct _ :: _, _, _, e, _ => by simp [blsP] at e
  | .dit _ :: _, _, _, e, _ => by simp [blsP] at e
  | .obj _ _ :: _, _, _, e, _ => by simp [blsP] at e
theorem intsP_map (is : List Int) : intsP (is.map PV.int) = some is := by
  induction is with
  | nil => rfl
  | cons i is ih => simp [intsP, ih]
def gSum : GL := fun ps => match ps with
  | [.lst xs] => (intsP xs).map fun is => .int is.sum
  | _ => none
def gAny : GL := fun ps => match ps with
  | [.lst xs] => (blsP xs).map fun is => .bl (is.any id)
  | _ => none
def gAll : GL := fun ps => match ps with
  | [.lst xs] => (blsP xs).map fun is => .bl (is.all id)
  | _ => none
theorem cv_sum (hc : X.calm = true) : CallV X (.builtin "sum") gSum := CallR.imp (cr_sum hc) fun xs H Q ⟨ps, v, H1, s, a, e, k⟩ => by
  unfold gSum at e
  split at e
  · obtain ⟨is, e1, e2⟩ := Option.map_eq_some_iff.mp e
    cases e2
    obtain ⟨x, rfl, r⟩ := a.one
    obtain ⟨b, vs, rfl, q, rl⟩ := r
    exact ⟨b, is, rfl, by rw [← intsP_rep e1 rl]; exact .inl q, k.at s rep_int⟩
  · cases e
theorem cv_any (hc : X.calm = true) : CallV X (.builtin "any") gAny := CallR.imp (cr_any hc) fun xs H Q ⟨ps, v, H1, s, a, e, k⟩ => by
  unfold gAny at e
  split at e
  · obtain ⟨is, e1, e2⟩ := Option.map_eq_some_iff.mp e
    cases e2
    obtain ⟨x, rfl, r⟩ := a.one
    obtain ⟨b, vs, rfl, q, rl⟩ := r
    exact ⟨b, is, rfl, by rw [← blsP_rep e1 rl]; exact .inl q, k.at s rep_bl⟩
  · cases e
theorem cv_all (hc : X.calm = true) : CallV X (.builtin "all") gAll := CallR.imp (cr_all hc) fun xs H Q ⟨ps, v, H1, s, a, e, k⟩ => by
  unfold gAll at e
  split at e
  · obtain ⟨is, e1, e2⟩ := Option.map_eq_some_iff.mp e
    cases e2
    obtain ⟨x, rfl, r⟩ := a.one
    obtain ⟨b, vs, rfl, q, rl⟩ := r
    exact ⟨b, is, rfl, by rw [← blsP_rep e1 rl]; exact .inl q, k.at s rep_bl⟩
  · cases e
def maxI : Int → List Int → Int
  | m, [] => m
  | m, x :: xs => maxI (if m < x then x else m) xs
def minI : Int → List Int → Int
  | m, [] => m
  | m, x :: xs => minI (if x < m then x else m) xs
theorem maxI_ge : ∀ (xs : List Int) (m : Int), m ≤ maxI m xs ∧ (∀ x ∈ xs, x ≤ maxI m xs) ∧ (maxI m xs = m ∨ maxI m xs ∈ xs)
  | [], m => ⟨Int.le_refl _, by simp, .inl rfl⟩
  | x :: xs, m => by
    obtain ⟨h1, h2, h3⟩ := maxI_ge xs (if m < x then x else m)
    unfold maxI
    refine ⟨?_, fun y hy => ?_, ?_⟩
    · by_cases hm : m < x
      · rw [if_pos hm] at h1 ⊢; omega
      · rw [if_neg hm] at h1 ⊢; omega
    · rcases List.mem_cons.mp hy with rfl | hy
      · by_cases hm : m < y
        · rw [if_pos hm] at h1 ⊢; omega
        · rw [if_neg hm] at h1 ⊢; omega
      · exact h2 y hy
    · rcases h3 with h3 | h3
      · by_cases hm : m < x
        · right; rw [h3, if_pos hm]; exact List.mem_cons_self
        · left; rw [h3, if_neg hm]
      · exact .inr (List.mem_cons_of_mem _ h3)
theorem minI_le : ∀ (xs : List Int) (m : Int), minI m xs ≤ m ∧ (∀ x ∈ xs, minI m xs ≤ x) ∧ (minI m xs = m ∨ minI m xs ∈ xs)
  | [], m => ⟨Int.le_refl _, by simp, .inl rfl⟩
  | x :: xs, m => by
    obtain ⟨h1, h2, h3⟩ := minI_le xs (if x < m then x else m)
    unfold minI
    refine ⟨?_, fun y hy => ?_, ?_⟩
    · by_cases hm : x < m
      · rw [if_pos hm] at h1 ⊢; omega
      · rw [if_neg hm] at h1 ⊢; omega
    · rcases List.mem_cons.mp hy with rfl | hy
      · by_cases hm : y < m
        · rw [if_pos hm] at h1 ⊢; omega
        · rw [if_neg hm] at h1 ⊢; omega
      · exact h2 y hy
    · rcases h3 with h3 | h3
      · by_cases hm : x < m
        · right; rw [h3, if_pos hm]; exact List.mem_cons_self
        · left; rw [h3, if_neg hm]
      · exact .inr (List.mem_cons_of_mem _ h3)
def gMax : GL := fun ps => match ps with
  | [.lst xs] => match intsP xs with
    | some (i :: is) => some (.int (maxI i is))
    | _ => none
  | _ => none
def gMin : GL := fun ps => match ps with
  | [.lst xs] => match intsP xs with
    | some (i :: is) => some (.int (minI i is))
    | _ => none
  | _ => none
theorem cv_max (hc : X.calm = true) : CallV X (.builtin "max") gMax := CallR.imp (cr_max hc) fun xs H Q ⟨ps, v, H1, s, a, e, k⟩ => by
  unfold gMax at e
  split at e
  · split at e
    · rename_i i is e1
      cases e
      obtain ⟨x, rfl, r⟩ := a.one
      obtain ⟨b, vs, rfl, q, rl⟩ := r
      refine ⟨b, i :: is, rfl, by rw [← intsP_rep e1 rl]; exact .inl q, by simp, fun m hm hle => ?_⟩
      obtain ⟨h1, h2, h3⟩ := maxI_ge is i
      have : m = maxI i is := by
        apply Int.le_antisymm
        · rcases List.mem_cons.mp hm with rfl | hm
          · exact h1
          · exact h2 m hm
        · rcases h3 with h3 | h3
          · rw [h3]; exact hle i List.mem_cons_self
          · exact hle _ (List.mem_cons_of_mem _ h3)
      rw [this]
      exact k.at s rep_int
    · cases e
  · cases e
theorem cv_min (hc : X.calm = true) : CallV X (.builtin "min") gMin := CallR.imp (cr_min hc) fun xs H Q ⟨ps, v, H1, s, a, e, k⟩ => by
  unfold gMin at e
  split at e
  · split at e
    · rename_i i is e1
      cases e
      obtain ⟨x, rfl, r⟩ := a.one
      obtain ⟨b, vs, rfl, q, rl⟩ := r
      refine ⟨b, i :: is, rfl, by rw [← intsP_rep e1 rl]; exact .inl q, by simp, fun m hm hle => ?_⟩
      obtain ⟨h1, h2, h3⟩ := minI_le is i
      have : m = minI i is := by
        apply Int.le_antisymm
        · rcases h3 with h3 | h3
          · rw [h3]; exact hle i List.mem_cons_self
          · exact hle _ (List.mem_cons_of_mem _ h3)
        · rcases List.mem_cons.mp hm with rfl | hm
          · exact h1
          · exact h2 m hm
      rw [this]
      exact k.at s rep_int
    · cases e
  · cases e
def gMax2 : GL := fun ps => match ps with
  | [.int i, .int j] => some (.int (if j > i then j else i))
  | _ => none
def gMin2 : GL := fun ps => match ps with
  | [.int i, .int j] => some (.int (if j < i then j else i))
  | _ => none
theorem cv_max2 (hc : X.calm = true) : CallV X (.builtin "max") gMax2 := CallR.imp (call_max2 hc) fun xs H Q ⟨ps, v, H1, s, a, e, k⟩ => by
  unfold gMax2 at e
  split at e
  · cases e
    obtain ⟨x, y, rfl, r1, r2⟩ := a.two
    exact ⟨_, _, by rw [rt_int r1, rt_int r2], k.at s rep_int⟩
  · cases e
theorem cv_min2 (hc : X.calm = true) : CallV X (.builtin "min") gMin2 := CallR.imp (call_min2 hc) fun xs H Q ⟨ps, v, H1, s, a, e, k⟩ => by
  unfold gMin2 at e
  split at e
  · cases e
    obtain ⟨x, y, rfl, r1, r2⟩ := a.two
    exact ⟨_, _, by rw [rt_int r1, rt_int r2], k.at s rep_int⟩
  · cases e
end

/-! ### slices -/
def cutP (xs : List PV) (lo hi : Option Int) : List PV := (xs.drop (HT.sIx xs.length 0 lo)).take (HT.sIx xs.length xs.length hi - HT.sIx xs.length 0 lo)
theorem cut_rep {K : PySem.W.Frag} {H : Hp} {ps : List PV} {vs : List V} (r : RepL K H ps vs) (lo hi : Option Int) : RepL K H (cutP ps lo hi) (cutV vs lo hi) := by
  unfold cutP cutV
  rw [r.length]
  exact (r.drop _).take _
abbrev PF := Env → Option (Option Int × Env)
def tPo (K : PySem.W.Frag) (own : List Nat) (f : PF) : TO := fun σ H Q => ∃ B ρ o ρ' H1, SR K B own ρ σ H1 H ∧ f ρ = some (o, ρ') ∧ ∀ H' H1', LeR H1 H1' → SR K B own ρ' σ H1' H' → Q o H'
structure PX (X : Cx) (own : List Nat) (e : Option Expr) (f : PF) : Prop where run : PO X e (tPo X.K own f)
theorem PO.ent {X : Cx} {e : Option Expr} {t t' : TO} (h : PO X e t) (en : ∀ σ H Q, t' σ H Q → t σ H Q) : PO X e t' := ⟨fun pins s σ H Q I q => h.run pins s σ H Q I (en _ _ _ q)⟩
def pNone : PF := fun ρ => some (none, ρ)
def pSome (f : EF) : PF := fun ρ => (f ρ).bind fun r => match r.1 with
  | .int i => some (some i, r.2)
  | _ => none
abbrev GSl := PV → Option Int → Option Int → Option PV
def rSl (K : PySem.W.Frag) (g : GSl) : V → Option Int → Option Int → Hp → VK → Prop := fun x lo hi H Q => ∃ p v H1, Sub H1 H ∧ RT K H1 H p x ∧ g p lo hi = some v ∧ kV' K v H1 H Q
def SlV (X : Cx) (g : GSl) : Prop := SlR X (rSl X.K g)
theorem SlR.imp {X : Cx} {r r' : V → Option Int → Option Int → Hp → VK → Prop} (h : SlR X r) (i : ∀ x lo hi H Q, r' x lo hi H Q → r x lo hi H Q) : SlR X r' := by
  intro pins s σ H x v vl vu lo hi sl Q I rx hs pl pu q
  exact h pins s σ H x v vl vu lo hi sl Q I rx hs pl pu (i _ _ _ _ _ q)
def orSl (g g' : GSl) : GSl := fun p a b => match g p a b with | some v => some v | none => g' p a b
theorem SlV.or {X : Cx} {g g' : GSl} (h : SlV X g) (h' : SlV X g') : SlV X (orSl g g') := SlR.imp (SlR.or h h') fun x lo hi H Q ⟨p, v, H1, s, a, e, k⟩ => by
  unfold orSl at e
  split at e
  · rename_i v' e'
    cases e
    exact .inl ⟨p, _, H1, s, a, e', k⟩
  · exact .inr ⟨p, v, H1, s, a, e, k⟩
def gSlL : GSl := fun p lo hi => match p with
  | .lst xs => some (.lst (cutP xs lo hi))
  | _ => none
def gSlT : GSl := fun p lo hi => match p with
  | .tup xs => some (.tup (cutP xs lo hi))
  | _ => none
def gSl : GSl := orSl gSlT gSlL
section
variable {X : Cx}
theorem sv_lst : SlV X gSlL := SlR.imp sl_list fun x lo hi H Q ⟨p, v, H1, s, a, e, k⟩ => by
  unfold gSlL at e
  split at e
  · cases e
    obtain ⟨b, vs, rfl, q, rl⟩ := a
    refine ⟨b, vs, rfl, .inl q, fun p hp => ?_⟩
    have ex := Ext.alloc (o := .lst (cutV vs lo hi)) s hp
    refine k _ _ _ ex ?_
    simp only [Rep]
    exact ⟨p, _, rfl, .inl upd_same, (cut_rep rl lo hi).mono ex.le _ _⟩
  · cases e
theorem cut_whole {xs : List PV} {lo hi : Option Int} (h : HT.sIx xs.length 0 lo = 0 ∧ HT.sIx xs.length xs.length hi = xs.length) : cutP xs lo hi = xs := by
  unfold cutP
  rw [h.1, h.2]
  simp
theorem sv_tup : SlV X gSlT := SlR.imp sl_tupF fun x lo hi H Q ⟨p, v, H1, s, a, e, k⟩ => by
  unfold gSlT at e
  split at e
  · cases e
    obtain ⟨b, vs, rfl, q, rl⟩ := rt_tup a
    refine ⟨b, vs, rfl, s.le.sqT q.sq, fun z => ?_, fun z p ob hp hd => ?_⟩
    · rw [rl.length] at z
      rw [cut_whole z] at k
      exact k.at s (rep_tup q rl)
    · have ex := Ext.alloc (o := .frz ob (.tup (cutV vs lo hi))) s hp
      exact k _ _ _ ex (rep_tup (TupAt.new hd) ((cut_rep rl lo hi).mono ex.le _ _))
  · cases e
theorem sv_seq : SlV X gSl := sv_tup.or sv_lst
variable {own : List Nat} {e : Expr} {lo hi : Option Expr} {fe : EF} {fl fh : PF} {p2 pos : Pos}
theorem px_none : PX X own none pNone := ⟨PO.ent po_none fun σ H Q ⟨B, ρ, o, ρ', H1, S, e, k⟩ => by
  cases e
  exact k H H1 (LeR.refl _) S⟩
theorem px_some (h : EX X own e fe) : PX X own (some e) (pSome fe) := ⟨PO.ent (po_some h.run) fun σ H Q ⟨B, ρ, o, ρ', H1, S, e, k⟩ => by
  obtain ⟨v, ρ1, e1, e2⟩ := inv_b1 e
  cases v with
  | int i =>
    cases e2
    refine ⟨B, ρ, .int i, ρ1, H1, S, e1, fun x H' H1' le S' r => ?_⟩
    simp only [Rep] at r
    exact ⟨i, r, k H' H1' le S'⟩
  | _ => cases e2⟩
def fSlice (g : GSl) (fe : EF) (fl fh : PF) : EF := fun ρ => (fe ρ).bind fun r => (fl r.2).bind fun s => (fh s.2).bind fun t => (g r.1 s.1 t.1).map fun v => (v, t.2)
theorem ex_slice {g : GSl} (hg : SlV X g) (he : EX X own e fe) (hl : PX X own lo fl) (hh : PX X own hi fh) : EX X own (.Subscript e (.Slice lo hi none p2) pos) (fSlice g fe fl fh) := ⟨PE.ent (pe_slice hg he.run hl.run hh.run) fun σ H Q ⟨B, ρ, v, ρ', H1, S, e, k⟩ => by
  obtain ⟨p, ρ1, e1, e⟩ := inv_b1 e
  obtain ⟨a, ρ2, e2, e⟩ := inv_b1 e
  obtain ⟨b, ρ3, e3, e⟩ := inv_b1 e
  obtain ⟨u, e4, e5⟩ := Option.map_eq_some_iff.mp e
  cases e5
  refine ⟨B, ρ, p, ρ1, H1, S, e1, fun x H2 H12 l2 S2 r2 => ⟨B, ρ1, a, ρ2, H12, S2, e2, fun H3 H13 l3 S3 => ⟨B, ρ2, b, ρ3, H13, S3, e3, fun H4 H14 l4 S4 => ?_⟩⟩⟩
  exact ⟨p, _, H14, S4.sub, (r2.mono (l3.trans l4) _ _).rt S4.sub.le, e4, fun z H5 H15 ex rz => k z H5 H15 (((l2.trans l3).trans l4).trans ex.le) (S4.ext ex) rz⟩⟩
end

/-! ### isinstance(x, T) -/
inductive Ty where
  | int | bool | str | list | tuple
  deriving DecidableEq
def Ty.nm : Ty → String
  | .int => "int" | .bool => "bool" | .str => "str" | .list => "list" | .tuple => "tuple"
def tyP : PV → Option Ty
  | .bl _ => some .bool
  | .int _ => some .int
  | .str _ => some .str
  | .tup _ => some .tuple
  | .lst _ => some .list
  | _ => none
def isTy (a b : Ty) : Bool := decide (a = b) || (decide (a = .bool) && decide (b = .int))
theorem kitB_ty (a b : Ty) : kitB a.nm b.nm = some (isTy a b) := by
  cases a <;> cases b <;> decide +kernel
theorem kitB_non (b : Ty) : kitB "NoneType" b.nm = some false := by
  cases b <;> decide +kernel
def gIsi (T : Ty) (p : PV) : Option PV := match p with
  | .non => some (.bl false)
  | p => (tyP p).map fun t => .bl (isTy t T)
theorem tyx_of {K : PySem.W.Frag} {H1 H : Hp} {p : PV} {x : V} {t : Ty} (s : Sub H1 H) (r : RT K H1 H p x) (e : tyP p = some t) : TyX K H x (.type t.nm) := by
  cases p with
  | bl b => cases e; rw [rt_bl r]; exact .base (.bl b)
  | int b => cases e; rw [rt_int r]; exact .base (.int b)
  | str b => cases e; rw [rt_str r]; exact .base (.str b)
  | tup xs =>
    cases e
    obtain ⟨a, vs, rfl, q, _⟩ := rt_tup r
    rcases q with ⟨o, q, _⟩ | ⟨o, its, n, h1, h2, _⟩
    · exact .fTuple (s _ _ q)
    · exact .kTuple h1 h2
  | lst xs =>
    cases e
    obtain ⟨a, vs, rfl, q, _⟩ := r
    rcases q with q | ⟨o, q⟩
    · exact .base (.lst q)
    · exact .base (.frz q)
  | _ => cases e
section
variable {X : Cx} {own : List Nat} {e c : Expr} {fe : EF} {pos p : Pos} {x : Str}
theorem ex_isi (T : Ty) (he : EP' X own e fe) (hT : PE X c (tC (.ty T.nm))) (hg : Gl X x) (hm : X.mg x = none) (hv : bootBuiltins x = some (.builtin "isinstance")) (hs : starEach [e, c] X.env = (false, eval e X.env) :: starEach [c] X.env := by rfl) (hs2 : starEach [c] X.env = (false, eval c X.env) :: starEach [] X.env := by rfl)
    (hn : x ≠ "__name__" := by decide) (hdb : (x == ("__debug__" : Str)) = false := by decide) (hpl : (backTo pos (starEach [c] X.env)).any (·.1) = false := by rfl) :
    EX X own (.Call (.Name x p) [e, c] [] pos) (fUn (gIsi T) fe) := ⟨PE.ent (pe_callB call_isi hg hm hv (pa_cons he.run (pa_cons hT pa_nil hs2) hs) hn hdb hs hpl) fun σ H Q ⟨B, ρ, v, ρ', H1, S, e, k⟩ => by
  obtain ⟨w, e1, e2⟩ := inv_un e
  refine ⟨B, ρ, w, ρ', H1, S, e1, fun y H' H1' le S' r => ?_⟩
  show rIsi X.K [y, .ty T.nm] H' Q
  unfold gIsi at e2
  split at e2
  · cases e2
    rw [rt_non r]
    exact ⟨_, _, .type "NoneType", .type T.nm, false, rfl, .ty _, .base .non, kit_ty (kitB_non T), k _ H' H1' le S' rep_bl⟩
  · obtain ⟨t, e3, e4⟩ := Option.map_eq_some_iff.mp e2
    cases e4
    exact ⟨_, _, .type t.nm, .type T.nm, isTy t T, rfl, .ty _, tyx_of S'.sub r e3, kit_ty (kitB_ty t T), k _ H' H1' le S' rep_bl⟩⟩
end
end PT

set_option Elab.async false
set_option linter.all false
set_option autoImplicit false
set_option maxRecDepth 100000
set_option maxHeartbeats 4000000
/-! PT10: sorted. -/
namespace PT
open PySem PySem.Spec PyProof.Rows L2

/-! a stable sort by putting in -/
section
variable {α : Type}
def insP (le : α → α → Bool) (x : α) : List α → List α
  | [] => [x]
  | y :: ys => if le x y = true then x :: y :: ys else y :: insP le x ys
def isortP (le : α → α → Bool) : List α → List α
  | [] => []
  | x :: xs => insP le x (isortP le xs)
open PySem.W in
theorem insP_mem (le : α → α → Bool) (x : α) : ∀ (l : List α) (z : α), z ∈ insP le x l ↔ z = x ∨ z ∈ l
  | [], z => by simp [insP]
  | y :: ys, z => by
    unfold insP
    split
    · simp
    · simp only [List.mem_cons, insP_mem le x ys z]
      constructor
      · rintro (h | h | h)
        · exact .inr (.inl h)
        · exact .inl h
        · exact .inr (.inr h)
      · rintro (h | h | h)
        · exact .inr (.inl h)
        · exact .inl h
        · exact .inr (.inr h)
theorem insP_pair {le : α → α → Bool} (T : PySem.W.TotalLe le) (x : α) : ∀ {l : List α}, l.Pairwise (fun a b => le a b = true) → (insP le x l).Pairwise (fun a b => le a b = true)
  | [], _ => by simp [insP]
  | y :: ys, h => by
    unfold insP
    obtain ⟨h1, h2⟩ := List.pairwise_cons.mp h
    split
    · rename_i hxy
      refine List.pairwise_cons.mpr ⟨fun z hz => ?_, h⟩
      rcases List.mem_cons.mp hz with rfl | hz
      · exact hxy
      · exact T.trans _ _ _ hxy (h1 z hz)
    · rename_i hxy
      refine List.pairwise_cons.mpr ⟨fun z hz => ?_, insP_pair T x h2⟩
      rcases (insP_mem le x ys z).mp hz with rfl | hz
      · exact (T.total z y).resolve_left hxy
      · exact h1 z hz
theorem isortP_pair {le : α → α → Bool} (T : PySem.W.TotalLe le) : ∀ l : List α, (isortP le l).Pairwise (fun a b => le a b = true)
  | [] => List.Pairwise.nil
  | x :: xs => insP_pair T x (isortP_pair T xs)
theorem insP_filter {le : α → α → Bool} (T : PySem.W.TotalLe le) (x c : α) : ∀ {l : List α}, (insP le x l).filter (PySem.W.sameRank le c) = (x :: l).filter (PySem.W.sameRank le c)
  | [] => rfl
  | y :: ys => by
    unfold insP
    split
    · rfl
    · rename_i hxy
      have ih := insP_filter T x c (l := ys)
      rw [List.filter_cons, ih, List.filter_cons, List.filter_cons, List.filter_cons]
      by_cases hx : PySem.W.sameRank le c x = true
      · have hy : PySem.W.sameRank le c y = false := by
          cases q : PySem.W.sameRank le c y with
          | false => rfl
          | true =>
            unfold PySem.W.sameRank at hx q
            rw [Bool.and_eq_true] at hx q
            exact absurd (T.trans _ _ _ hx.2 q.1) hxy
        rw [hy]; simp
      · simp only [hx]; simp
theorem isortP_filter {le : α → α → Bool} (T : PySem.W.TotalLe le) (c : α) : ∀ l : List α, (isortP le l).filter (PySem.W.sameRank le c) = l.filter (PySem.W.sameRank le c)
  | [] => rfl
  | x :: xs => by
    rw [isortP, insP_filter T, List.filter_cons, List.filter_cons, isortP_filter T c xs]
theorem isortP_eq {le : α → α → Bool} (T : PySem.W.TotalLe le) (l : List α) : l.mergeSort le = isortP le l := (PySem.W.sort_unique T (isortP_pair T l) fun c => isortP_filter T c l).symm
end
def leP (a b : PV) : Bool := !PySem.W.dataLt (toD b) (toD a)
theorem leP_eq : leP = PySem.W.dataLe false toD := rfl
theorem leP_total : PySem.W.TotalLe leP := by
  rw [leP_eq]
  unfold PySem.W.dataLe
  exact PySem.W.sortLe_total _ false _

/-! sorted(xs), xs a list -/
def isTup1 : PV → Bool
  | .tup (_ :: _) => true
  | _ => false
def isAtom : PV → Bool
  | .int _ => true
  | .str _ => true
  | .bl _ => true
  | .lst _ => true
  | _ => false
theorem isAtom_not {z : PV} (h : isAtom z = true) : toD z ≠ .none ∧ ∀ xs, toD z ≠ .tuple xs := by
  cases z with
  | int i => simp [toD]
  | str i => simp [toD]
  | bl i => simp [toD]
  | lst i => simp [toD]
  | non => cases h
  | tup i => cases h
  | dct i => cases h
  | dit i => cases h
  | obj i j => cases h
def sortOk (xs : List PV) : Bool := okDs 15 xs && (xs.all isTup1 || xs.all isAtom) && (xs.all fun x => xs.all fun y => PySem.W.alike (toD x) (toD y)) && decide (xs.length ≤ 1000000)
def gSortL : GL := fun ps => match ps with
  | [.lst xs] => if sortOk xs = true then some (.lst (isortP leP xs)) else none
  | _ => none
section
variable {K : PySem.W.Frag} {H : Hp}
theorem zip_fst : ∀ {ps : List PV} {vs : List V}, RepL K H ps vs → (ps.zip vs).map (·.1) = ps
  | [], _, r => by rw [RepL.nil_iff.mp r]; rfl
  | p :: ps, _, r => by
    obtain ⟨v, t, rfl, a, b⟩ := RepL.cons_iff.mp r
    simp [zip_fst b]
theorem zip_rep : ∀ {ps : List PV} {vs : List V}, RepL K H ps vs → ∀ b ∈ ps.zip vs, Rep K H b.1 b.2
  | [], _, r, b, h => by simp at h
  | p :: ps, _, r, b, h => by
    obtain ⟨v, t, rfl, a, bb⟩ := RepL.cons_iff.mp r
    simp only [List.zip_cons_cons, List.mem_cons] at h
    rcases h with rfl | h
    · exact a
    · exact zip_rep bb b h
theorem repL_of_pairs : ∀ {bs : List (PV × V)}, (∀ b ∈ bs, Rep K H b.1 b.2) → RepL K H (bs.map (·.1)) (bs.map (·.2))
  | [], _ => RepL.nil
  | b :: bs, h => RepL.cons (h b List.mem_cons_self) (repL_of_pairs fun c hc => h c (List.mem_cons_of_mem _ hc))
theorem each_vals : ∀ {us : List Value} {bs : List (PV × V)}, PySem.W.EachIs (fun u b => RelV b.2 u) us bs → Vals (bs.map (·.2)) us
  | _, _, .nil => .nil
  | _, _, .cons r t => .cons r (each_vals t)
theorem vals_each : ∀ {us : List Value} {ps : List PV} {vs : List V}, RepL K H ps vs → Vals vs us → PySem.W.EachIs (fun u b => RelV b.2 u) us (ps.zip vs)
  | us, [], _, r, q => by rw [RepL.nil_iff.mp r] at q; cases q; exact .nil
  | us, p :: ps, _, r, q => by
    obtain ⟨v, t, rfl, a, b⟩ := RepL.cons_iff.mp r
    cases q with
    | cons q1 q2 => exact .cons q1 (vals_each b q2)
end
theorem okDs_mem : ∀ {n : Nat} {xs : List PV}, okDs n xs = true → ∀ x ∈ xs, okD n x = true
  | n, [], _, x, h => by cases h
  | n, y :: ys, h, x, hx => by
    simp only [okDs, Bool.and_eq_true] at h
    rcases List.mem_cons.mp hx with rfl | hx
    · exact h.1
    · exact okDs_mem h.2 x hx
theorem reads_each {X : Cx} {pins : List (Addr × Obj)} {σ : L2.St} {H : Hp} {s : Shared} (I : Inv X pins σ H s) : ∀ {us : List Value} {ps : List PV} {vs : List V}, okDs 15 ps = true → RepL X.K H ps vs → Vals vs us → PySem.W.EachIs (fun u (b : PV × V) => ∃ as, Reads s.heap u (toD b.1) as) us (ps.zip vs)
  | us, [], _, _, r, q => by rw [RepL.nil_iff.mp r] at q; cases q; exact .nil
  | us, p :: ps, _, h, r, q => by
    obtain ⟨v, t, rfl, a, b⟩ := RepL.cons_iff.mp r
    simp only [okDs, Bool.and_eq_true] at h
    cases q with
    | cons q1 q2 => exact .cons (Dp.reads I _ _ _ (rep_dp 15 p v h.1 a) q1) (reads_each I h.2 b q2)
section
variable {X : Cx}
theorem cf_sortL (hu : X.A.units + 64 < cLine) : CallF X (.builtin "sorted") gSortL := by
  intro pins s σ H xs us Q I r ⟨ps, v, H1, sub, a, e, k⟩
  unfold gSortL at e
  split at e
  · rename_i ys
    split at e
    · rename_i hok
      cases e
      unfold sortOk at hok
      simp only [Bool.and_eq_true, Bool.or_eq_true, decide_eq_true_eq] at hok
      obtain ⟨⟨⟨h1, h2⟩, h3⟩, h4⟩ := hok
      obtain ⟨x, rfl, rx⟩ := a.one
      obtain ⟨l, vs, rfl, q, rl⟩ := rx
      obtain ⟨its, rv, hl, hz⟩ := I.list (.inl q)
      rw [Vals.ref1 r]
      have rlH : RepL X.K H ys vs := rl.mono sub.le _ _
      have hlen : (ys.zip vs).length = ys.length := by rw [← List.length_map (f := (·.1)), zip_fst rlH]
      have hmap : (ys.zip vs).map (fun b => toD b.1) = ys.map toD := by
        conv => rhs; rw [← zip_fst rlH]
        rw [List.map_map]; rfl
      refine PySem.W.sorted_data (R := fun u b => RelV b.2 u) (enc := fun b : PV × V => toD b.1) (bs := ys.zip vs) hl.isList (vals_each rlH rv) (reads_each I h1 rlH rv) ?_ ?_ (by rw [hlen, sizeLine_eq]; omega) ?_ fun out ho hE => ?_
      · rw [hmap]
        intro d hd d' hd'
        obtain ⟨z, hz1, rfl⟩ := List.mem_map.mp hd
        obtain ⟨z', hz2, rfl⟩ := List.mem_map.mp hd'
        exact List.all_eq_true.mp (List.all_eq_true.mp h3 z hz1) z' hz2
      · rw [hmap]
        rcases h2 with h2 | h2
        · left
          intro d hd
          obtain ⟨z, hz1, rfl⟩ := List.mem_map.mp hd
          have := List.all_eq_true.mp h2 z hz1
          cases z with
          | tup zs =>
            cases zs with
            | nil => cases this
            | cons a b => exact ⟨toD a, toDs b, by simp [toD, toDs]⟩
          | _ => cases this
        · right
          intro d hd
          obtain ⟨z, hz1, rfl⟩ := List.mem_map.mp hd
          have := List.all_eq_true.mp h2 z hz1
          exact isAtom_not this
      · intro b hb
        have hm : b.1 ∈ ys := by rw [← zip_fst rlH]; exact List.mem_map_of_mem hb
        have := (okD_lay 15 b.1 (okDs_mem h1 _ hm)).2
        omega
      · obtain ⟨ep, he'⟩ := PyProof.Rows.sortedAll_at s.heap its out.toArray
        have hle : (fun a b : PV × V => leP a.1 b.1) = PySem.W.dataLe false (fun b : PV × V => toD b.1) := rfl
        rw [← hle] at hE
        have hfst : ((ys.zip vs).mergeSort (fun a b => leP a.1 b.1)).map (·.1) = isortP leP ys := by
          rw [PySem.W.sort_maps (f := fun b : PV × V => b.1) (s := leP) (fun _ _ _ _ => rfl), zip_fst rlH, isortP_eq leP_total]
        have hlen2 : ((ys.zip vs).mergeSort (fun a b => leP a.1 b.1)).length = ys.length := by rw [List.length_mergeSort, hlen]
        have rl2 : RepL X.K H1 (isortP leP ys) (((ys.zip vs).mergeSort (fun a b => leP a.1 b.1)).map (·.2)) := by
          rw [← hfst]
          exact repL_of_pairs fun b hb => zip_rep rl b ((List.mergeSort_perm _ _).mem_iff.mp hb)
        have hz2 : (((ys.zip vs).mergeSort (fun a b => leP a.1 b.1)).map (·.2)).length ≤ sizeLine := by rw [List.length_map, hlen2, sizeLine_eq]; omega
        exact ⟨.ref _, upd H (s.heap.objs.size + 1) (.lst (((ys.zip vs).mergeSort (fun a b => leP a.1 b.1)).map (·.2))), I.laid (t' := s.toks) (fun _ _ => PyProof.Rows.sortedAll_old) (Nat.le_succ _) ⟨hz2, out, ep, each_vals hE, he'⟩, rfl,
          k _ _ (subU (I.hok.fresh (Nat.le_succ _))) (I.hok.fresh (Nat.le_succ _)) ⟨_, upd_same, rl2⟩⟩
    · cases e
  · cases e
end
end PT

set_option Elab.async false
set_option linter.all false
set_option autoImplicit false
set_option maxRecDepth 100000
set_option maxHeartbeats 4000000
/-! PT11: dicts whose keys are numbers and texts. -/
namespace PT
open PySem PySem.Spec PyProof.Rows L2

def keyEqb : PV → PV → Bool
  | .int i, .int j => i == j
  | .str i, .str j => decide (i = j)
  | _, _ => false
theorem keyEqb_iff {a b : PV} {k j : Key} (ha : keyK a = some k) (hb : keyK b = some j) : keyEqb a b = decide (k = j) := by
  cases a <;> simp only [keyK] at ha <;> cases ha <;> cases b <;> simp only [keyK] at hb <;> cases hb
  · simp only [keyEqb]; rw [key_ll]
  · simp only [keyEqb]; rw [key_lr]
  · simp only [keyEqb]; rw [key_rl]
  · simp only [keyEqb]; rw [key_rr]
def findP (ks : List (PV × PV)) (p : PV) : Option PV := (ks.find? fun kv => keyEqb kv.1 p).map (·.2)
def putP (ks : List (PV × PV)) (p v : PV) : List (PV × PV) := if (ks.any fun kv => keyEqb kv.1 p) = true then ks.map fun kv => if keyEqb kv.1 p = true then (kv.1, v) else kv else ks ++ [(p, v)]
def dropP (ks : List (PV × PV)) (p : PV) : List (PV × PV) := ks.filter fun kv => !keyEqb kv.1 p
section
variable {K : PySem.W.Frag} {H : Hp}
theorem RepK.nil_iff {kv : List (Key × V)} : RepK K H [] kv ↔ kv = [] := by simp only [RepK]
theorem RepK.nil : RepK K H [] [] := by simp only [RepK]
theorem RepK.cons_iff {k v : PV} {ks : List (PV × PV)} {kv : List (Key × V)} : RepK K H ((k, v) :: ks) kv ↔ ∃ k' x r, kv = (k', x) :: r ∧ keyK k = some k' ∧ Rep K H v x ∧ RepK K H ks r := by simp only [RepK]
theorem RepK.cons {k v : PV} {ks : List (PV × PV)} {k' : Key} {x : V} {r : List (Key × V)} (hk : keyK k = some k') (hv : Rep K H v x) (h : RepK K H ks r) : RepK K H ((k, v) :: ks) ((k', x) :: r) := RepK.cons_iff.mpr ⟨k', x, r, rfl, hk, hv, h⟩
theorem RepK.length : ∀ {ks : List (PV × PV)} {kv : List (Key × V)}, RepK K H ks kv → kv.length = ks.length
  | [], _, h => by rw [RepK.nil_iff.mp h]; rfl
  | (k, v) :: ks, _, h => by
    obtain ⟨k', x, r, rfl, _, _, t⟩ := RepK.cons_iff.mp h
    simp [t.length]
def RelP (K : PySem.W.Frag) (H : Hp) : Option PV → Option V → Prop
  | some p, some x => Rep K H p x
  | none, none => True
  | _, _ => False
theorem RepK.find {p : PV} {k : Key} (hp : keyK p = some k) : ∀ {ks : List (PV × PV)} {kv : List (Key × V)}, RepK K H ks kv → RelP K H (findP ks p) (valV kv k)
  | [], _, h => by rw [RepK.nil_iff.mp h]; exact True.intro
  | (a, v) :: ks, _, h => by
    obtain ⟨k', x, r, rfl, ha, hv, t⟩ := RepK.cons_iff.mp h
    have e := keyEqb_iff ha hp
    unfold findP
    by_cases hk : k' = k
    · rw [List.find?_cons_of_pos (by simp [e, hk]), valV_pos hk]
      exact hv
    · rw [List.find?_cons_of_neg (by simp [e, hk]), valV_neg hk]
      exact RepK.find hp t
theorem RepK.any {p : PV} {k : Key} (hp : keyK p = some k) : ∀ {ks : List (PV × PV)} {kv : List (Key × V)}, RepK K H ks kv → (ks.any fun kv => keyEqb kv.1 p) = kv.any fun kv => decide (kv.1 = k)
  | [], _, h => by rw [RepK.nil_iff.mp h]; rfl
  | (a, v) :: ks, _, h => by
    obtain ⟨k', x, r, rfl, ha, hv, t⟩ := RepK.cons_iff.mp h
    simp only [List.any_cons]
    rw [keyEqb_iff ha hp, RepK.any hp t]
theorem RepK.append : ∀ {ks js : List (PV × PV)} {kv jv : List (Key × V)}, RepK K H ks kv → RepK K H js jv → RepK K H (ks ++ js) (kv ++ jv)
  | [], _, _, _, h, q => by rw [RepK.nil_iff.mp h]; exact q
  | (a, v) :: ks, _, _, _, h, q => by
    obtain ⟨k', x, r, rfl, ha, hv, t⟩ := RepK.cons_iff.mp h
    exact RepK.cons ha hv (RepK.append t q)
theorem RepK.repl {p v : PV} {k : Key} {x : V} (hp : keyK p = some k) (rv : Rep K H v x) : ∀ {ks : List (PV × PV)} {kv : List (Key × V)}, RepK K H ks kv →
    RepK K H (ks.map fun kv => if keyEqb kv.1 p = true then (kv.1, v) else kv) (kv.map fun kv => if kv.1 = k then (kv.1, x) else kv)
  | [], _, h => by rw [RepK.nil_iff.mp h]; exact RepK.nil
  | (a, u) :: ks, _, h => by
    obtain ⟨k', y, r, rfl, ha, hv, t⟩ := RepK.cons_iff.mp h
    have e := keyEqb_iff ha hp
    simp only [List.map_cons]
    by_cases hk : k' = k
    · rw [if_pos (by simp [e, hk]), if_pos hk]
      exact RepK.cons ha rv (RepK.repl hp rv t)
    · rw [if_neg (by simp [e, hk]), if_neg hk]
      exact RepK.cons ha hv (RepK.repl hp rv t)
theorem RepK.put {p v : PV} {k : Key} {x : V} (hp : keyK p = some k) (rv : Rep K H v x) {ks : List (PV × PV)} {kv : List (Key × V)} (h : RepK K H ks kv) : RepK K H (putP ks p v) (putK kv k x) := by
  unfold putP putK
  rw [RepK.any hp h]
  split
  · exact RepK.repl hp rv h
  · exact RepK.append h (RepK.cons hp rv RepK.nil)
theorem RepK.drop {p : PV} {k : Key} (hp : keyK p = some k) : ∀ {ks : List (PV × PV)} {kv : List (Key × V)}, RepK K H ks kv → RepK K H (dropP ks p) (dropK kv k)
  | [], _, h => by rw [RepK.nil_iff.mp h]; exact RepK.nil
  | (a, u) :: ks, _, h => by
    obtain ⟨k', y, r, rfl, ha, hv, t⟩ := RepK.cons_iff.mp h
    have e := keyEqb_iff ha hp
    have ih := RepK.drop hp t
    unfold dropP dropK at ih ⊢
    by_cases hk : k' = k
    · rw [List.filter_cons_of_neg (by simp [e, hk]), List.filter_cons_of_neg (by simp [hk])]
      exact ih
    · rw [List.filter_cons_of_pos (by simp [e, hk]), List.filter_cons_of_pos (by simp [hk])]
      exact RepK.cons ha hv ih
theorem rep_key {p : PV} {k : Key} {y : V} (hp : keyK p = some k) (r : Rep K H p y) : y = kV k := by
  cases p <;> simp only [keyK] at hp <;> cases hp
  · simp only [Rep] at r; exact r
  · simp only [Rep] at r; exact r
end
def isKey (p : PV) : Bool := (keyK p).isSome
theorem isKey_get {p : PV} (h : isKey p = true) : ∃ k, keyK p = some k := Option.isSome_iff_exists.mp h
section
variable {X : Cx}
/-- d[k] -/
def gIxD : G2 := fun p q => match p with
  | .dct ks => if isKey q = true then findP ks q else none
  | _ => none
theorem rel_some {K : PySem.W.Frag} {H : Hp} {p : PV} {o : Option V} (r : RelP K H (some p) o) : ∃ x, o = some x ∧ Rep K H p x := by
  cases o with
  | none => exact r.elim
  | some x => exact ⟨x, rfl, r⟩
theorem rel_none {K : PySem.W.Frag} {H : Hp} {o : Option V} (r : RelP K H none o) : o = none := by
  cases o with
  | none => rfl
  | some x => exact r.elim
theorem iv_dct (hu : X.A.units + 1 < cLine) : IxV X gIxD := by
  intro va sl pins s σ H x y v u Q I rx ry ⟨p, q, w', H1, sub, a, b, e, k⟩ hs
  unfold gIxD at e
  split at e
  · rename_i ks
    split at e
    · rename_i hk
      obtain ⟨key, hkey⟩ := isKey_get hk
      obtain ⟨d, kv, rfl, rd, rk⟩ := a
      have rel := rk.find hkey
      rw [e] at rel
      obtain ⟨z, hz, rz⟩ := rel_some rel
      have hb : y = kV key := rep_key hkey (b.rep sub.le)
      subst hb
      cases rx
      have g : DGet H d (kV key) (some z) := .inl ⟨kv, key, rd, rfl, hz.symm⟩
      refine tail_any (dict_typeIs I g) PySem.F.slot_dict_getitem.lookup (d_getItem hu I g ry fun w2 s' I' r' => ⟨z, H, I', r', k.at sub rz⟩) hs
    · cases e
  · cases e
def gIxAll : G2 := orG gIxT (orG gIxL (orG gIxS gIxD))
theorem iv_all (hu : X.A.units + 1 < cLine) : IxV X gIxAll := iv_tup.or (iv_lst.or (iv_str.or (iv_dct hu)))
/-- k in d -/
def gInD : G2 := fun p q => match q with
  | .dct ks => if isKey p = true then some (.bl (findP ks p).isSome) else none
  | _ => none
def gNotInD : G2 := fun p q => match q with
  | .dct ks => if isKey p = true then some (.bl (!(findP ks p).isSome)) else none
  | _ => none
theorem rel_isSome {K : PySem.W.Frag} {H : Hp} {p : Option PV} {o : Option V} (r : RelP K H p o) : o.isSome = p.isSome := by
  cases p with
  | none => rw [rel_none r]; rfl
  | some p => obtain ⟨x, rfl, _⟩ := rel_some r; rfl
theorem ov_inD (hu : X.A.units + 1 < cLine) : OpV X (compareOp .In) gInD := by
  intro pins s σ H x y v u Q I rx ry ⟨p, q, w', H1, sub, a, b, e, k⟩
  unfold gInD at e
  split at e
  · rename_i ks
    split at e
    · rename_i hk
      cases e
      obtain ⟨key, hkey⟩ := isKey_get hk
      obtain ⟨d, kv, rfl, rd, rk⟩ := b
      have hb : x = kV key := rep_key hkey (a.rep sub.le)
      subst hb
      cases ry
      have g : DGet H d (kV key) (valV kv key) := .inl ⟨kv, key, rd, rfl, rfl⟩
      exact d_in hu I g rx fun s' I' => ⟨.bl _, H, I', rfl, k.at sub (by rw [rel_isSome (rk.find hkey)]; exact rep_bl)⟩
    · cases e
  · cases e
theorem ov_notInD (hu : X.A.units + 1 < cLine) : OpV X (compareOp .NotIn) gNotInD := by
  intro pins s σ H x y v u Q I rx ry ⟨p, q, w', H1, sub, a, b, e, k⟩
  unfold gNotInD at e
  split at e
  · rename_i ks
    split at e
    · rename_i hk
      cases e
      obtain ⟨key, hkey⟩ := isKey_get hk
      obtain ⟨d, kv, rfl, rd, rk⟩ := b
      have hb : x = kV key := rep_key hkey (a.rep sub.le)
      subst hb
      cases ry
      have g : DGet H d (kV key) (valV kv key) := .inl ⟨kv, key, rd, rfl, rfl⟩
      exact d_notIn hu I g rx fun s' I' => ⟨.bl _, H, I', rfl, k.at sub (by rw [rel_isSome (rk.find hkey)]; exact rep_bl)⟩
    · cases e
  · cases e
def gIn : G2 := orG gInL gInD
def gNotIn : G2 := orG gNotInL gNotInD
theorem ov_in (hu : X.A.units + 65 < cLine) : OpV X (compareOp .In) gIn := (ov_inL hu).or (ov_inD (by omega))
theorem ov_notIn (hu : X.A.units + 65 < cLine) : OpV X (compareOp .NotIn) gNotIn := (ov_notInL hu).or (ov_notInD (by omega))
/-- d[k] = v -/
def gSetD : GS := fun p i v => match p with
  | .dct ks => if (isKey i && decide (ks.length < 1000000)) = true then some (.dct (putP ks i v)) else none
  | _ => none
theorem si_dct (hu : X.A.units + 1 < cLine) : SetI X gSetD := by
  intro pins s σ H o i v ov iv u Q I r1 r2 r3 ⟨p, pi, pv, w', H1, a, e1, sub, ro, ri, rv, e, k⟩
  subst e1
  unfold gSetD at e
  split at e
  · rename_i ks
    split at e
    · rename_i hc
      rw [Bool.and_eq_true, decide_eq_true_eq] at hc
      cases e
      obtain ⟨key, hkey⟩ := isKey_get hc.1
      obtain ⟨kv, hd, rk⟩ := ro
      have hb : i = kV key := rep_key hkey ri
      subst hb
      cases r1
      exact d_setItem hu I (DPut.k (k := key) hd (by rw [rk.length, sizeLine_eq]; omega)) r2 r3 fun s' I' => ⟨_, I', k _ ⟨_, upd_same, rk.put hkey rv⟩⟩
    · cases e
  · cases e
def gSet : GS := orS gSetL gSetD
theorem si_all (hu : X.A.units + 1 < cLine) : SetI X gSet := si_list.or (si_dct hu)
/-- len(d), list(d) -/
def gLenD : GL := fun ps => match ps with
  | [.dct ks] => some (.int ks.length)
  | _ => none
theorem cv_lenD : CallV X (.builtin "len") gLenD := by
  intro pins s σ H xs us Q I r ⟨ps, v, H1, sub, a, e, k⟩
  unfold gLenD at e
  split at e
  · cases e
    obtain ⟨x, rfl, rx⟩ := a.one
    obtain ⟨d, kv, rfl, rd, rk⟩ := rx
    rw [Vals.ref1 r]
    exact d_len I rd fun t s' I' => ⟨.int kv.length, H, I', ⟨t, rfl⟩, by rw [rk.length]; exact k.at sub rep_int⟩
  · cases e
def gLenAll : GL := orL gLen gLenD
theorem cv_lenAll : CallV X (.builtin "len") gLenAll := cv_len.or cv_lenD
theorem keys_rep {K : PySem.W.Frag} {H : Hp} : ∀ {ks : List (PV × PV)} {kv : List (Key × V)}, RepK K H ks kv → RepL K H (ks.map (·.1)) (kv.map fun kv => kV kv.1)
  | [], _, h => by rw [RepK.nil_iff.mp h]; exact RepL.nil
  | (k, v) :: ks, _, h => by
    obtain ⟨k', x, r, rfl, hk, hv, t⟩ := RepK.cons_iff.mp h
    refine RepL.cons ?_ (keys_rep t)
    cases k <;> simp only [keyK] at hk <;> cases hk
    · exact rep_int
    · exact rep_str
def rListDR : List V → Hp → VK → Prop := fun xs H Q => ∃ p kvs, xs = [.ref p] ∧ Rd H p (.dK kvs) ∧ ∀ q, H q = none → Q (.ref q) (upd H q (.lst (kvs.map fun kv => kV kv.1)))
theorem call_list_dKR (hc : X.calm = true) : CallR X (.type "list") rListDR := by
  intro pins s σ H xs us Q I r h
  obtain ⟨p, kvs, e, hk, q⟩ := h
  subst e
  obtain ⟨u, eu, rx⟩ := vals1 r
  subst eu
  obtain rfl : u = Value.ref p := rx
  obtain ⟨z, lo, vs, rk, hd⟩ := (show ObjOk X.prog X.w H s.heap p (.dK kvs) from hk.ok I.hok)
  obtain ⟨ep, hat⟩ := hd.dictAt
  have hl : kvs.length = vs.length := Paired.length rk
  refine PySem.W.kdl_call (PySem.W.kdl_dict (knd := mixKind X.prog X.w) (kvs := vs) (ep := ep) lo) (I.ok.hd hc) hat (by rw [← hl]; exact z) fun h' tk acc' c' hkeep hS hacc => ?_
  refine ⟨.ref s.heap.objs.size, upd H s.heap.objs.size (.lst (kvs.map fun kv => kV kv.1)), I.laid hkeep (Nat.le_refl _) (show ObjOk X.prog X.w _ _ _ (.lst (kvs.map fun kv => kV kv.1)) from ⟨?_, acc'.toList, c', ?_, ?_⟩), rfl, q _ (I.hok.fresh (Nat.le_refl _))⟩
  · rw [List.length_map]; exact z
  · have el : acc'.toList.length = acc'.size := by simp
    refine vals_of_at (by rw [List.length_map, el, hacc.1, hl]) fun j x w h1 h2 => ?_
    obtain ⟨k, y, hky, hi⟩ := hacc.2 j w (by rw [← Array.getElem?_toList]; exact h2)
    have e1 : (kvs.map (·.1))[j]? = some k := by
      rw [KV.keys rk, List.getElem?_map, hky] <;> rfl
    have e2 : (kvs.map fun kv => kV kv.1)[j]? = some (kV k) := by
      have e3 : (kvs.map fun kv => kV kv.1) = (kvs.map (·.1)).map kV := by rw [List.map_map] <;> rfl
      rw [e3, List.getElem?_map, e1] <;> rfl
    rw [e2] at h1
    cases h1
    exact keyIs_rel hi
  · rw [Array.toArray_toList]; exact hS
def gListD' : GL := fun ps => match ps with
  | [.dct ks] => some (.lst (ks.map (·.1)))
  | _ => none
theorem cf_listD (hc : X.calm = true) : CallF X (.type "list") gListD' := CallR.imp (call_list_dKR hc) fun xs H Q ⟨ps, v, H1, s, a, e, k⟩ => by
  unfold gListD' at e
  split at e
  · cases e
    obtain ⟨x, rfl, rx⟩ := a.one
    obtain ⟨d, kv, rfl, rd, rk⟩ := rx
    exact ⟨d, kv, rfl, rd, fun q hq => k q _ (subU hq) hq ⟨_, upd_same, keys_rep rk⟩⟩
  · cases e
def gListAll : GL := orL gListOf gListD'
theorem cf_listAll (hc : X.calm = true) : CallF X (.type "list") gListAll := cf_list.or (cf_listD hc)
/-- sorted(d): fewer than 64 keys, numbers -/
def keysI : List (PV × PV) → Option (List Int)
  | [] => some []
  | (.int i, _) :: ks => (keysI ks).map fun is => i :: is
  | _ :: _ => none
theorem keysI_rep {K : PySem.W.Frag} {H : Hp} : ∀ {ks : List (PV × PV)} {kv : List (Key × V)} {is : List Int}, keysI ks = some is → RepK K H ks kv → kv.map (·.1) = is.map Sum.inl ∧ ks.map (·.1) = is.map PV.int
  | [], _, _, e, h => by cases e; rw [RepK.nil_iff.mp h]; exact ⟨rfl, rfl⟩
  | (k, v) :: ks, _, _, e, h => by
    obtain ⟨k', x, r, rfl, hk, hv, t⟩ := RepK.cons_iff.mp h
    cases k <;> simp only [keysI] at e <;> try cases e
    obtain ⟨js, e1, e2⟩ := Option.map_eq_some_iff.mp e
    cases e2
    cases hk
    obtain ⟨q1, q2⟩ := keysI_rep e1 t
    exact ⟨by simp [q1], by simp [q2]⟩
def isortI : List Int → List Int := isortP (fun a b => decide (a ≤ b))
theorem sortI_perm (is : List Int) : (isortI is).Perm is := by
  unfold isortI
  have ins : ∀ (x : Int) (l : List Int), (insP (fun a b => decide (a ≤ b)) x l).Perm (x :: l) := fun x l => by
    induction l with
    | nil => exact List.Perm.refl _
    | cons y ys ih =>
      unfold insP
      split
      · exact List.Perm.refl _
      · exact (ih.cons y).trans (List.Perm.swap x y ys)
  induction is with
  | nil => exact List.Perm.refl _
  | cons x xs ih => exact (ins x _).trans (ih.cons x)
theorem sortI_pair (is : List Int) : (isortI is).Pairwise (· ≤ ·) := by
  have T : PySem.W.TotalLe (fun a b : Int => decide (a ≤ b)) := ⟨fun a b c h1 h2 => by simp at *; omega, fun a b => by simp; omega⟩
  have := isortP_pair T is
  exact this.imp fun h => by simpa using h
theorem sortI_uniq {a b c : List Int} (h1 : a.Perm c) (h2 : a.Pairwise (· ≤ ·)) (h3 : b.Perm c) (h4 : b.Pairwise (· ≤ ·)) : a = b := by
  exact List.Perm.eq_of_pairwise (le := (· ≤ ·)) (fun a b _ _ h h' => Int.le_antisymm h h') h2 h4 (h1.trans h3.symm)
def gSortD : GL := fun ps => match ps with
  | [.dct ks] => match keysI ks with
    | some is => if decide (is.length < 64) = true then some (.lst ((isortI is).map PV.int)) else none
    | none => none
  | _ => none
theorem ints_rep {K : PySem.W.Frag} {H : Hp} (is : List Int) : RepL K H (is.map PV.int) (is.map V.int) := by
  induction is with
  | nil => exact RepL.nil
  | cons i is ih => exact RepL.cons rep_int ih
theorem cf_sortD (hc : X.calm = true) : CallF X (.builtin "sorted") gSortD := CallR.imp (call_sortedDI hc) fun xs H Q ⟨ps, v, H1, s, a, e, k⟩ => by
  unfold gSortD at e
  split at e
  · split at e
    · rename_i is hi
      split at e
      · rename_i h64
        cases e
        obtain ⟨x, rfl, rx⟩ := a.one
        obtain ⟨d, kv, rfl, rd, rk⟩ := rx
        refine ⟨d, kv, is, rfl, rd, (keysI_rep hi rk).1, by simpa using h64, fun ys p hp hs hn => ?_⟩
        have e : ys = isortI is := sortI_uniq hp hs (sortI_perm is) (sortI_pair is)
        subst e
        exact k p _ (subU hn) hn ⟨_, upd_same, ints_rep _⟩
      · cases e
    · cases e
  · cases e
def gSorted : GL := orL gSortL gSortD
theorem cf_sorted (hc : X.calm = true) (hu : X.A.units + 64 < cLine) : CallF X (.builtin "sorted") gSorted := (cf_sortL hu).or (cf_sortD hc)
end
end PT

set_option Elab.async false
set_option linter.all false
set_option autoImplicit false
set_option maxRecDepth 100000
set_option maxHeartbeats 4000000
/-! PT12: dicts made, asked by get, del. -/
namespace PT
open PySem PySem.Spec PyProof.Rows L2

section
variable {X : Cx} {own io lm : List Nat} {o e f : Expr} {fo fe ff : EF} {apos cpos pos tpos : Pos} {i : Nat}
/-! {} -/
theorem en_dict0 : EN X own (.Dict [] [] pos) (fC (.dct [])) := ⟨PE.ent pe_dnewK fun σ H Q ⟨B, ρ, v, ρ', H1, S, e, k⟩ => by
  cases e
  exact fun p hp => k p _ H1 (LeR.refl _) (FR.mk' S (subU hp) hp ⟨[], upd_same, RepK.nil⟩)⟩
/-! d.get(k, x) -/
def gGet (p q r : PV) : Option PV := match p with
  | .dct ks => if isKey q = true then some ((findP ks q).getD r) else none
  | _ => none
def fGet (fo fe ff : EF) : EF := fun ρ => (fo ρ).bind fun r => if isDct r.1 = true then (fe r.2).bind fun s => (ff s.2).bind fun t => (gGet r.1 s.1 t.1).map fun v => (v, t.2) else none
def fGetO (i : Nat) (fe ff : EF) : EF := fun ρ => (look ρ i).bind fun p0 => if isDct p0 = true then (fe ρ).bind fun s => (ff s.2).bind fun t => (look t.2 i).bind fun p => (gGet p s.1 t.1).map fun v => (v, t.2) else none
theorem get_ok {K : PySem.W.Frag} {H1 H : Hp} {p q r v : PV} {x y z : V} (sub : Sub H1 H) (a : RT K H1 H p x) (b : Rep K H1 q y) (c : Rep K H1 r z) (e : gGet p q r = some v) : ∃ d o, x = .ref d ∧ DGet H d y o ∧ Rep K H1 v (o.getD z) := by
  unfold gGet at e
  split at e
  · rename_i ks
    split at e
    · rename_i hk
      cases e
      obtain ⟨key, hkey⟩ := isKey_get hk
      obtain ⟨d, kv, rfl, rd, rk⟩ := a
      have hb : y = kV key := rep_key hkey b
      subst hb
      refine ⟨d, valV kv key, rfl, .inl ⟨kv, key, rd, rfl, rfl⟩, ?_⟩
      have rel := rk.find hkey
      cases h : findP ks q with
      | none => rw [h] at rel; rw [rel_none rel]; exact c
      | some w' => rw [h] at rel; obtain ⟨u, hu, ru⟩ := rel_some rel; rw [hu]; exact ru
    · cases e
  · cases e
theorem dct_isD {K : PySem.W.Frag} {H1 H : Hp} {p : PV} {x : V} (a : RT K H1 H p x) (h : isDct p = true) : ∃ d, x = .ref d ∧ IsD H d := by
  cases p with
  | dct ks => obtain ⟨d, kv, rfl, rd, rk⟩ := a; exact ⟨d, rfl, .inl ⟨kv, rd⟩⟩
  | _ => cases h
theorem ex_get (hu : X.A.units + 1 < cLine) (ho : EX X own o fo) (he : EX X own e fe) (hf : EX X own f ff) (m : M2 X o "get" apos e f cpos) : EX X own (.Call (.Attribute o "get" apos) [e, f] [] cpos) (fGet fo fe ff) := ⟨PE.ent (pe_dget2 hu ho.run he.run hf.run m) fun σ H Q ⟨B, ρ, v, ρ', H1, S, e, k⟩ => by
  obtain ⟨p, ρ1, e1, e⟩ := inv_b1 e
  dsimp only at e
  split at e
  · rename_i hd
    obtain ⟨q, ρ2, e2, e⟩ := inv_b1 e
    obtain ⟨r, ρ3, e3, e⟩ := inv_b1 e
    obtain ⟨u, e4, e5⟩ := Option.map_eq_some_iff.mp e
    cases e5
    refine ⟨B, ρ, p, ρ1, H1, S, e1, fun x H2 H12 l2 S2 r2 => ?_⟩
    obtain ⟨d, rfl, isd⟩ := dct_isD (r2.rt S2.sub.le) hd
    refine ⟨d, rfl, isd, B, ρ1, q, ρ2, H12, S2, e2, fun y H3 H13 l3 S3 r3 => ⟨B, ρ2, r, ρ3, H13, S3, e3, fun z H4 H14 l4 S4 r4 => ?_⟩⟩
    obtain ⟨d', o, ed, g, rr⟩ := get_ok S4.sub ((r2.mono (l3.trans l4) _ _).rt S4.sub.le) (r3.mono l4 _ _) r4 e4
    cases ed
    exact ⟨o, g, k _ H4 H14 ((l2.trans l3).trans l4) S4 rr⟩
  · cases e⟩
theorem ex_getO (hu : X.A.units + 1 < cLine) (ho : PE X o (tVar i)) (hi : i ∈ own) (he : EX X own e fe) (hf : EX X own f ff) (m : M2 X o "get" apos e f cpos) : EX X own (.Call (.Attribute o "get" apos) [e, f] [] cpos) (fGetO i fe ff) := ⟨PE.ent (pe_dget2 hu ho he.run hf.run m) fun σ H Q ⟨B, ρ, v, ρ', H1, S, e, k⟩ => by
  obtain ⟨p0, e1, e⟩ := Option.bind_eq_some_iff.mp e
  split at e
  · rename_i hd
    obtain ⟨q, ρ2, e2, e⟩ := inv_b1 e
    obtain ⟨r, ρ3, e3, e⟩ := inv_b1 e
    obtain ⟨p, e6, e⟩ := Option.bind_eq_some_iff.mp e
    obtain ⟨u, e4, e5⟩ := Option.map_eq_some_iff.mp e
    cases e5
    obtain ⟨a, h1, h2, h3, h4⟩ := S.ow i p0 hi (look_iff.mp e1)
    obtain ⟨d, ed, isd⟩ := dct_isD h4.rt hd
    cases ed
    refine ⟨_, h1, a, rfl, isd, B, ρ, q, ρ2, H1, S, e2, fun y H3 H13 l3 S3 r3 => ⟨B, ρ2, r, ρ3, H13, S3, e3, fun z H4 H14 l4 S4 r4 => ?_⟩⟩
    obtain ⟨a', g1, g2, g3, g4⟩ := S4.ow i p hi (look_iff.mp e6)
    rw [h1] at g1
    obtain rfl : a = a' := by injection g1 with q; injection q with q; injection q
    obtain ⟨d', o, ed, g, rr⟩ := get_ok S4.sub g4.rt (r3.mono l4 _ _) r4 e4
    cases ed
    exact ⟨o, g, k _ H4 H14 (l3.trans l4) S4 rr⟩
  · cases e⟩
/-! del d[k] -/
def fDel (i : Nat) (fe : EF) : SF := fun ρ => (look ρ i).bind fun _ => (fe ρ).bind fun r => (look r.2 i).bind fun p => match p with
  | .dct ks => if (isKey r.1 && (findP ks r.1).isSome) = true then some (.nx, r.2.set i (some (.dct (dropP ks r.1)))) else none
  | _ => none
theorem sx_del (ho : PE X o (tVar i)) (hi : i ∈ own) (he : EX X own e fe) : SX X io lm own own (.Delete [.Subscript o e tpos] pos) (fDel i fe) := ⟨PS.ent (ps_ddel ho he.run) fun D σ H ⟨B, ρ, fl, ρ', H1, hio, S, e, k⟩ => by
  obtain ⟨p0, e1, e⟩ := Option.bind_eq_some_iff.mp e
  obtain ⟨q, ρ1, e2, e⟩ := inv_b1 e
  obtain ⟨p, e3, e⟩ := Option.bind_eq_some_iff.mp e
  cases p with
  | dct ks =>
    dsimp only at e
    split at e
    · rename_i hc
      rw [Bool.and_eq_true] at hc
      cases e
      obtain ⟨key, hkey⟩ := isKey_get hc.1
      obtain ⟨a, h1, h2, h3, h4⟩ := S.ow i p0 hi (look_iff.mp e1)
      refine ⟨_, h1, B, ρ, q, ρ1, H1, S, e2, fun y H3 H13 l3 S3 r3 => ?_⟩
      obtain ⟨a', g1, g2, g3, g4⟩ := S3.ow i _ hi (look_iff.mp e3)
      rw [h1] at g1
      obtain rfl : a = a' := by injection g1 with q; injection q with q; injection q
      obtain ⟨kv, hd, rk⟩ := g4
      refine ⟨a, kv, key, rfl, hd, rep_key hkey r3, by rw [rel_isSome (rk.find hkey)]; exact hc.2, ?_⟩
      exact k σ _ H13 l3 (S3.write hi (look_iff.mp e3) h1 ⟨_, upd_same, rk.drop hkey⟩)
    · cases e
  | _ => cases e⟩
end

/-! dict(x): of pairs, of a dict -/
def pairsP : List PV → Option (List (PV × PV))
  | [] => some []
  | .tup [k, v] :: ps => if isKey k = true then (pairsP ps).map fun r => (k, v) :: r else none
  | _ :: _ => none
def mergeP (ks more : List (PV × PV)) : List (PV × PV) := more.foldl (fun acc kv => putP acc kv.1 kv.2) ks
theorem RepK.merge {K : PySem.W.Frag} {H : Hp} : ∀ {more ks : List (PV × PV)} {mv kv : List (Key × V)}, RepK K H more mv → RepK K H ks kv → RepK K H (mergeP ks more) (mergeK kv mv)
  | [], _, _, _, h, q => by rw [RepK.nil_iff.mp h]; exact q
  | (k, v) :: more, _, _, _, h, q => by
    obtain ⟨k', x, r, rfl, hk, hv, t⟩ := RepK.cons_iff.mp h
    have := RepK.merge t (q.put hk hv)
    exact this
/-- a tuple that is read: its own object known -/
theorem tup_at {X : Cx} {pins : List (Addr × Obj)} {σ : L2.St} {H : Hp} {s : Shared} {a : Addr} {vs : List V} (I : Inv X pins σ H s) (h : TupAt X.K H a vs) : ∃ its : List Value, Vals vs its ∧ PlainSeq "tuple" s.heap a its.toArray ∧ vs.length ≤ sizeLine := by
  rcases h with ⟨o, h, d⟩ | ⟨o, its, n, h1, h2, h3, h4, h5, h6⟩
  · obtain ⟨e1, z, its, r, o', e2, c, n, dt⟩ := I.hok a _ h
    rw [e1] at e2; cases e2
    exact ⟨its, r, ⟨o, n, e1, c, d, dt⟩, z⟩
  · refine ⟨its.toList, h6, ⟨o, n, I.kIn a o h1, h2, h3, by simpa using h4⟩, ?_⟩
    have e := h6.length
    simp only [Array.length_toList] at e
    omega
/-- the pairs of a row of pairs, as the library wants them -/
theorem pairs_at {X : Cx} {pins : List (Addr × Obj)} {σ : L2.St} {H1 H : Hp} {s : Shared} (I : Inv X pins σ H s) (sub : Sub H1 H) : ∀ {ps : List PV} {ks : List (PV × PV)} {vs : List V} {us : List Value}, pairsP ps = some ks → RepL X.K H1 ps vs → Vals vs us →
    ∃ (kv : List (Key × V)) (rs : List (Key × Value)) (qs : List (Value × Value)) (Ts : List Addr), RepK X.K H1 ks kv ∧ KV kv rs ∧ qs.length = us.length ∧ rs.length = us.length ∧ us = Ts.map Value.ref ∧
      (∀ (j : Nat) (k v : Value), qs[j]? = some (k, v) → ∃ b, Ts[j]? = some b ∧ PairAt s.heap b k v ∧ ∃ key, rs[j]? = some (key, v) ∧ keyIs key k = true)
  | [], _, _, _, e, r, q => by
    cases e
    rw [RepL.nil_iff.mp r] at q
    cases q
    exact ⟨[], [], [], [], RepK.nil, .nil, rfl, rfl, rfl, fun j k v h => by simp at h⟩
  | p :: ps, _, _, _, e, r, q => by
    obtain ⟨x, t, rfl, rp, rt⟩ := RepL.cons_iff.mp r
    unfold pairsP at e
    split at e
    · cases ‹_ :: _ = []›
    · rename_i k v ps' heq
      cases heq
      split at e
      · rename_i hk
        obtain ⟨ks', e1, e2⟩ := Option.map_eq_some_iff.mp e
        cases e2
        cases q with
        | cons q1 q2 =>
          obtain ⟨kv, rs, qs, Ts, i1, i2, i3, i4, i5, i6⟩ := pairs_at I sub e1 rt q2
          simp only [Rep] at rp
          obtain ⟨b, ws, rfl, ta, rl⟩ := rp
          cases q1
          obtain ⟨xk, ws1, rfl, rk, rl1⟩ := RepL.cons_iff.mp rl
          obtain ⟨xv, rfl, rv⟩ := rl1.one_iff
          obtain ⟨key, hkey⟩ := isKey_get hk
          obtain ⟨its, rits, ⟨o, n, ho, hc, hdn, hdt⟩, _⟩ := tup_at I (sub.le.tup ta)
          obtain ⟨uk, uv, rfl, ruk, ruv⟩ := Vals.two rits
          have ek : xk = kV key := rep_key hkey rk
          subst ek
          refine ⟨(key, xv) :: kv, (key, uv) :: rs, (uk, uv) :: qs, b :: Ts, RepK.cons hkey rv i1, .cons ⟨rfl, ruv⟩ i2, by simp [i3], by simp [i4], by simp [i5], fun j k' v' h => ?_⟩
          cases j with
          | zero =>
            simp at h
            obtain ⟨rfl, rfl⟩ := h
            exact ⟨b, rfl, .inl ⟨o, ho, hc, n, hdt⟩, key, rfl, kV_is (P := X.prog) (w := X.w) ruk⟩
          | succ j =>
            obtain ⟨c, h1, h2, ky, h3, h4⟩ := i6 j k' v' (by simpa using h)
            exact ⟨c, by simpa using h1, h2, ky, by simpa using h3, h4⟩
      · cases e
    · cases e
def gDictP : GL := fun ps => match ps with
  | [.tup xs] => if decide (xs.length ≤ 1000000) = true then (pairsP xs).map fun ks => .dct (mergeP [] ks) else none
  | [.lst xs] => if decide (xs.length ≤ 1000000) = true then (pairsP xs).map fun ks => .dct (mergeP [] ks) else none
  | [.dct ks] => some (.dct ks)
  | _ => none
section
variable {X : Cx}
theorem dict_pairs {pins : List (Addr × Obj)} {σ : L2.St} {H1 H : Hp} {s : Shared} {Q : VK} {T : String} {a : Addr} {its : List Value} {ps : List PV} {ks : List (PV × PV)} {vs : List V} (hc : X.calm = true) (I : Inv X pins σ H s) (sub : Sub H1 H) (hT : T = "tuple" ∨ T = "list")
    (pl : PlainSeq T s.heap a its.toArray) (e : pairsP ps = some ks) (r : RepL X.K H1 ps vs) (q : Vals vs its) (hz : ps.length ≤ 1000000) (k : kF X.K (.dct (mergeP [] ks)) H1 H Q) :
    wpAny (model X.prog X.w) X.A (call (.type "dict") [.ref a]) (EP X pins σ Q) X.xe s := by
  obtain ⟨kv, rs, qs, Ts, i1, i2, i3, i4, i5, i6⟩ := pairs_at I sub e r q
  have hlen : its.length = ps.length := by rw [← q.length, r.length]
  have items : PairItems s.heap its.toArray (fun j => Ts.getD j 0) qs := by
    refine ⟨by simp [i3], fun j k v h => ?_⟩
    obtain ⟨b, h1, h2, _⟩ := i6 j k v h
    refine ⟨?_, ?_⟩
    · have : its[j]? = some (.ref b) := by rw [i5, List.getElem?_map, h1]; rfl
      simpa [List.getD_eq_getElem?_getD, h1] using this
    · simpa [List.getD_eq_getElem?_getD, h1] using h2
  have have' : PairsHave (mixKind X.prog X.w) qs.length (PairRel qs) rs := ⟨by rw [i4, i3], fun j key v h => by
    obtain ⟨b, _, _, ky, h3, h4⟩ := i6 j key v h
    exact ⟨ky, h3, h4⟩⟩
  have fin : ∀ h' tk, h'.DictOf (mixKind X.prog X.w) s.heap.objs.size (merged [] rs) → (∀ b o, b ∉ ([] : List Addr) → s.heap.get? b = some o → h'.get? b = some o) → EP X pins σ Q (.ref s.heap.objs.size) { s with heap := h', toks := tk } := fun h' tk hd' hk => by
    have hm : (s.heap.objs.size == sysModules) = false := beq_eq_false_iff_ne.mpr (Nat.ne_of_gt I.big)
    have hl2 : (mergeK [] kv).length ≤ sizeLine := by
      refine Nat.le_trans (length_mergeK kv []) ?_
      rw [List.length_nil, Nat.zero_add, i2.length, i4, hlen, sizeLine_eq]
      omega
    have hn := I.hok.fresh (Nat.le_refl _)
    exact ⟨.ref s.heap.objs.size, upd H s.heap.objs.size (.dK (mergeK [] kv)), I.laid (t' := tk) (fun b o => hk b o (by simp)) (Nat.le_refl _) (show ObjOk X.prog X.w _ _ _ (.dK (mergeK [] kv)) from ⟨hl2, hm, merged [] rs, KV.merge i2 .nil, hd'⟩), rfl,
      k _ _ (subU hn) hn ⟨_, upd_same, i1.merge RepK.nil⟩⟩
  have hqz : qs.length ≤ sizeLine := by rw [i3, hlen, sizeLine_eq]; omega
  rcases hT with rfl | rfl
  · exact PySem.call_dict_pairs (PairArg.tuple a its.toArray (fun j => Ts.getD j 0) qs) (I.ok.hd hc) ⟨pl, items⟩ have' hqz fin
  · exact PySem.call_dict_pairs (PairArg.list a its.toArray (fun j => Ts.getD j 0) qs) (I.ok.hd hc) ⟨pl, items⟩ have' hqz fin
theorem cf_dict (hc : X.calm = true) : CallF X (.type "dict") gDictP := by
  intro pins s σ H xs us Q I r ⟨ps, v, H1, sub, a, e, k⟩
  unfold gDictP at e
  split at e
  · split at e
    · rename_i xs' hz
      obtain ⟨ks, e1, e2⟩ := Option.map_eq_some_iff.mp e
      cases e2
      obtain ⟨x, rfl, rx⟩ := a.one
      obtain ⟨b, vs, rfl, q, rl⟩ := rt_tup rx
      obtain ⟨its, rv, pl, hz2⟩ := tup_at I (sub.le.tup q)
      rw [Vals.ref1 r]
      exact dict_pairs hc I sub (.inl rfl) pl e1 rl rv (by simpa using hz) k
    · cases e
  · split at e
    · rename_i xs' hz
      obtain ⟨ks, e1, e2⟩ := Option.map_eq_some_iff.mp e
      cases e2
      obtain ⟨x, rfl, rx⟩ := a.one
      obtain ⟨b, vs, rfl, q, rl⟩ := rx
      obtain ⟨z, its, n, rv, _, ho⟩ := lst_rd I q
      rw [Vals.ref1 r]
      exact dict_pairs hc I sub (.inr rfl) ⟨_, n, ho, rfl, rfl, rfl⟩ e1 rl rv (by simpa using hz) k
    · cases e
  · cases e
    obtain ⟨x, rfl, rx⟩ := a.one
    obtain ⟨b, kv, rfl, q, rk⟩ := rx
    rw [Vals.ref1 r]
    exact d_copyOf I q fun p s' hp I' => ⟨.ref p, _, I', rfl, k p _ (subU hp) hp ⟨kv, upd_same, rk⟩⟩
  · cases e
end
end PT

set_option Elab.async false
set_option linter.all false
set_option autoImplicit false
set_option maxRecDepth 100000
set_option maxHeartbeats 4000000
/-! PT13: a row walked, list or tuple; xs += ys; extend. -/
namespace PT
open PySem PySem.Spec PyProof.Rows L2
section
variable {X : Cx} {own io lm : List Nat} {tg e l : Expr} {fe : EF} {pos pos' : Pos} {i : Nat} {x : Str}
def iSeq' (K : PySem.W.Frag) (tl : TE) : TI := fun σ H R => tl σ H fun x H1 => ∃ a, x = .ref a ∧ (((∃ xs, SqL K H1 a xs) ∧ R (Itl K a) H1) ∨ ((∃ xs, SqT K H1 a xs) ∧ R (Itt K a) H1))
theorem pi_seq {tl : TE} (hl : PE X l tl) : PI X tg l (iSeq' X.K tl) := by
  refine ⟨fun pins s σ H R I h => ?_⟩
  refine L2.thn (hl.run pins s σ H _ I h) fun v s1 ⟨x, H1, I1, r1, q1⟩ => ?_
  obtain ⟨a, e, q⟩ := q1
  subst e
  cases r1
  rcases q with ⟨⟨xs, hq⟩, q⟩ | ⟨⟨xs, hq⟩, q⟩
  · obtain ⟨its, rv, p, hz⟩ := I1.list hq
    refine wpAny_pyIter_list p.isList ?_
    refine ⟨s1.heap.objs.size, [s1.heap.objs.size], _, _, H1, rfl, I1.kept (t' := s1.toks) fun b o e => Heap.get?_push_of_some _ e, turn_list a _, ⟨_, Heap.get?_push_size _ rfl, rfl, rfl⟩, fun b hb => ?_, q⟩
    have e : b = s1.heap.objs.size := by simpa using hb
    subst e
    exact I1.fpOk (Nat.le_refl _) (I1.hok.fresh (Nat.le_refl _))
  · obtain ⟨its, rv, p, hz⟩ := I1.tuple hq
    refine wpAny_pyIter_tuple (show s1.heap.IsTuple a its.toArray from p) ?_
    refine ⟨s1.heap.objs.size, [s1.heap.objs.size], _, _, H1, rfl, I1.kept (t' := s1.toks) fun b o e => Heap.get?_push_of_some _ e, turn_tuple a _, ⟨_, Heap.get?_push_size _ rfl, rfl, rfl⟩, fun b hb => ?_, q⟩
    have e : b = s1.heap.objs.size := by simpa using hb
    subst e
    exact I1.fpOk (Nat.le_refl _) (I1.hok.fresh (Nat.le_refl _))
def rowOf : PV → Option (List PV)
  | .lst xs => some xs
  | .tup xs => some xs
  | _ => none
def iS (f : EF) : AF := fun ρ => (f ρ).bind fun r => (rowOf r.1).map fun xs => (xs, r.2)
theorem walks_l {K : PySem.W.Frag} {H1 : Hp} {a : Addr} {vs : List V} {its : List PV} (q : SqL K H1 a vs) (rl : RepL K H1 its vs) : Walks' K (Itl K a) H1 its := fun H2 H3 le2 sub => ⟨fun i p hp => by
    obtain ⟨w, h1, h2⟩ := rl.get hp
    have q3 : SqL K H3 a vs := sub.le.sqL (le2.sqL q)
    refine ⟨⟨vs, w, q3, h1⟩, fun y H'' yl => ?_⟩
    obtain ⟨rfl, hy⟩ := yl
    have := hy vs q3
    rw [h1] at this; cases this
    exact ⟨H2, Ext.refl sub, h2.mono le2 _ _⟩, ⟨vs, sub.le.sqL (le2.sqL q), by rw [rl.length]; exact Nat.le_refl _⟩⟩
theorem walks_t {K : PySem.W.Frag} {H1 : Hp} {a : Addr} {vs : List V} {its : List PV} (q : SqT K H1 a vs) (rl : RepL K H1 its vs) : Walks' K (Itt K a) H1 its := fun H2 H3 le2 sub => ⟨fun i p hp => by
    obtain ⟨w, h1, h2⟩ := rl.get hp
    have q3 : SqT K H3 a vs := sub.le.sqT (le2.sqT q)
    refine ⟨⟨vs, w, q3, h1⟩, fun y H'' yl => ?_⟩
    obtain ⟨rfl, hy⟩ := yl
    have := hy vs q3
    rw [h1] at this; cases this
    exact ⟨H2, Ext.refl sub, h2.mono le2 _ _⟩, ⟨vs, sub.le.sqT (le2.sqT q), by rw [rl.length]; exact Nat.le_refl _⟩⟩
theorem ix_seq' (h : EX X own e fe) : IX X own tg e (iS fe) := ⟨PI.ent (pi_seq h.run) fun σ H R ⟨B, ρ, its, ρ', H1, S, e, k⟩ => by
  obtain ⟨v, ρ1, e1, e2⟩ := inv_b1 e
  obtain ⟨xs, e3, e4⟩ := Option.map_eq_some_iff.mp e2
  cases e4
  refine ⟨B, ρ, v, ρ1, H1, S, e1, fun x H' H1' le S' r => ?_⟩
  cases v with
  | lst ys =>
    cases e3
    simp only [Rep] at r
    obtain ⟨a, vs, rfl, q, rl⟩ := r
    have q : SqL X.K H1' a vs := .inl q
    exact ⟨a, rfl, .inl ⟨⟨vs, S'.sub.le.sqL q⟩, k _ H' H1' le S' (walks_l q rl)⟩⟩
  | tup ys =>
    cases e3
    simp only [Rep] at r
    obtain ⟨a, vs, rfl, q, rl⟩ := r
    have q := q.sq
    exact ⟨a, rfl, .inr ⟨⟨vs, S'.sub.le.sqT q⟩, k _ H' H1' le S' (walks_t q rl)⟩⟩
  | _ => cases e3⟩
/-! xs += ys -/
def rExtR : R2 := fun x y H Q => ∃ l b xs zs, x = .ref l ∧ y = .ref b ∧ H l = some (.lst xs) ∧ Rd H b (.lst zs) ∧ xs.length + zs.length ≤ sizeLine ∧ Q (.ref l) (upd H l (.lst (xs ++ zs)))
theorem iop_extR : OpR X (inplaceOp .Add) rExtR := by
  intro pins s σ H x y v u Q I rx ry h
  obtain ⟨l, b, xs, zs, rfl, rfl, hH, hB, hz, q⟩ := h
  cases rx
  cases ry
  obtain ⟨z, its, n, r, hl, e⟩ := I.lstM hH
  obtain ⟨z2, its2, n2, r2, hl2, e2⟩ := lst_rd I hB
  have hsz : its.toArray.size + its2.toArray.size ≤ sizeLine := by rw [List.size_toArray, List.size_toArray]; omega
  have hlong : ¬ (!its.toArray.isEmpty && Builtin.List.listTooLong (its.toArray.size + its2.toArray.size)) = true := by
    rw [notLongL hsz, Bool.and_false]
    exact Bool.false_ne_true
  refine iadd_road ⟨_, e, rfl⟩ ⟨_, e2, rfl⟩ (call_meets PySem.F.slot_list_iadd ⟨_, e, rfl⟩ PySem.F.entry_list_iadd (PySem.F.args_list_iadd_2 _ _)
    (AutoSeq1.list___iadd___list_list_0 l its.toArray n b its2.toArray n2 hlong (by rw [List.size_toArray]; omega) (by omega)) ⟨e, e2, ?_⟩)
  refine ⟨.ref l, _, I.lset (its' := its ++ its2) (t' := s.toks) hH e (by simp) (r.append r2) ?_, rfl, q⟩
  rw [List.length_append]
  omega
theorem inv_ext {p q v : PV} (e : gExt p q = some v) : ∃ xs ys, p = .lst xs ∧ q = .lst ys ∧ xs.length + ys.length ≤ 1000000 ∧ v = .lst (xs ++ ys) := by
  unfold gExt at e
  split at e
  · split at e
    · rename_i hl
      cases e
      exact ⟨_, _, rfl, rfl, hl, rfl⟩
    · cases e
  · cases e
def fExt (i : Nat) (fe : EF) : SF := fun ρ => (look ρ i).bind fun _ => (fe ρ).bind fun r => (look r.2 i).bind fun p => (gExt p r.1).map fun v => (.nx, r.2.set i (some v))
theorem set_self' {α : Type} {l : List α} {i : Nat} {a : α} (h : l[i]? = some a) : l.set i a = l := by
  apply List.ext_getElem?
  intro j
  by_cases e : j = i
  · subst e
    rw [List.getElem?_set_self (List.getElem?_eq_some_iff.mp h).1, h]
  · rw [List.getElem?_set_ne (Ne.symm e)]
theorem sx_ext (hN : X.N.Nodup) (hi : X.N[i]? = some x) (hx : Loc X.env.scope x) (hown : i ∈ own) (he : EX X own e fe) (hf : X.fn x = true ∨ X.env.scope.names.lookup x = some .local := by first | exact .inl rfl | exact .inr rfl | assumption) :
    SX X io lm own own (.AugAssign (.Name x pos') .Add e pos) (fExt i fe) := ⟨PS.ent (ps_aug (ti := rExtR) hN hi hx he.run (fun pins s σ H x y v u Q I rx ry q => iop_extR pins s σ H x y v u Q I rx ry q) hf) fun D σ H ⟨B, ρ, fl, ρ', H1, hio, S, e, k⟩ => by
  obtain ⟨p0, e0, e⟩ := Option.bind_eq_some_iff.mp e
  obtain ⟨q, ρ1, e1, e⟩ := inv_b1 e
  obtain ⟨p, e4, e⟩ := Option.bind_eq_some_iff.mp e
  obtain ⟨v, e2, e3⟩ := Option.map_eq_some_iff.mp e
  cases e3
  obtain ⟨a, h1, h2, h3, h4⟩ := S.ow i p0 hown (look_iff.mp e0)
  refine ⟨_, h1, B, ρ, q, ρ1, H1, S, e1, fun z H' H1' le S' r => ?_⟩
  obtain ⟨a', g1, g2, g3, g4⟩ := S'.ow i p hown (look_iff.mp e4)
  rw [h1] at g1
  obtain rfl : a = a' := by injection g1 with q; injection q with q; injection q
  obtain ⟨xs, ys, rfl, rfl, hl, rfl⟩ := inv_ext e2
  obtain ⟨vs, hv, rv⟩ := g4
  simp only [Rep] at r
  obtain ⟨b, ws, rfl, q1, rl⟩ := r
  refine ⟨a, b, vs, ws, rfl, rfl, hv, S'.sub.le.rd _ _ q1, by rw [rv.length, rl.length, sizeLine_eq]; omega, ?_⟩
  dsimp only; rw [set_self' h1]
  exact k _ _ H1' le (S'.write hown (look_iff.mp e4) h1 ⟨_, upd_same, rv.append rl⟩)⟩
/-! xs.extend(ys) -/
def rExtendR : V → List V → Hp → VK → Prop := fun x vs H Q => ∃ l b xs zs, x = .ref l ∧ vs = [.ref b] ∧ H l = some (.lst xs) ∧ Rd H b (.lst zs) ∧ xs.length + zs.length ≤ sizeLine ∧ Q .non (upd H l (.lst (xs ++ zs)))
theorem mt_extendR : MtR X "list.extend" rExtendR := by
  intro pins s σ H x vs v us Q I rx rv h
  obtain ⟨l, b, xs, zs, rfl, rfl, hH, hB, hz, q⟩ := h
  cases rx
  obtain ⟨u, rfl, ru⟩ := rv.one
  cases ru
  obtain ⟨z, its, n, r, hl, e⟩ := I.lstM hH
  obtain ⟨z2, its2, n2, r2, hl2, e2⟩ := lst_rd I hB
  have hsz : its.toArray.size + its2.toArray.size ≤ sizeLine := by rw [List.size_toArray, List.size_toArray]; omega
  have hlong : ¬ (!its.toArray.isEmpty && Builtin.List.listTooLong (its.toArray.size + its2.toArray.size)) = true := by
    rw [notLongL hsz, Bool.and_false]
    exact Bool.false_ne_true
  refine call_meets PySem.F.slot_list_extend ⟨_, e, rfl⟩ PySem.F.entry_list_extend (PySem.F.args_list_extend_2 _ _)
    (AutoSeq1.list_extend_list_list_0 l its.toArray n b its2.toArray n2 hlong (by rw [List.size_toArray]; omega) (by omega)) ⟨e, e2, ?_⟩
  refine ⟨.non, _, I.lset (its' := its ++ its2) hH e (by simp) (r.append r2) ?_, rfl, q⟩
  rw [List.length_append]
  omega
def gExtend : GM := fun p ps => match p, ps with
  | .lst xs, [.lst ys] => if xs.length + ys.length ≤ 1000000 then some (.non, .lst (xs ++ ys)) else none
  | _, _ => none
theorem mi_extend : MtI X "list.extend" gExtend := MtR.imp mt_extendR fun x xs H Q ⟨p, ps, v, w', H1, a, ex, sub, ro, rl, e, k⟩ => by
  subst ex
  unfold gExtend at e
  split at e
  · split at e
    · rename_i hl
      cases e
      obtain ⟨vs, hv, rv⟩ := ro
      obtain ⟨y, rfl, ry⟩ := rl.one_iff
      simp only [Rep] at ry
      obtain ⟨b, ws, rfl, q1, rl2⟩ := ry
      refine ⟨a, b, vs, ws, rfl, rfl, hv, sub.le.rd _ _ q1, by rw [rv.length, rl2.length, sizeLine_eq]; omega, ?_⟩
      exact k _ _ ⟨_, upd_same, rv.append rl2⟩ rep_non
    · cases e
  · cases e
end
end PT

set_option Elab.async false
set_option linter.all false
set_option autoImplicit false
set_option maxRecDepth 100000
set_option maxHeartbeats 4000000
/-! PT14: what the printed texts name: calls, own lists, range with a step. -/
namespace PT
open PySem PySem.Spec PyProof.Rows L2
def ownC (own own2 : List Nat) (i : Nat) : Bool := own.all (fun j => j == i || own2.contains j) && own.contains i && own2.all own.contains
theorem ownIns {own own2 : List Nat} {i : Nat} (h : ownC own own2 i = true) : ∀ j, j ∈ own ↔ j = i ∨ j ∈ own2 := fun j => by
  unfold ownC at h
  simp only [Bool.and_eq_true, List.all_eq_true, Bool.or_eq_true, beq_iff_eq, List.contains_iff_mem] at h
  obtain ⟨⟨h1, h2⟩, h3⟩ := h
  constructor
  · exact h1 j
  · rintro (rfl | h)
    · exact h2
    · exact h3 j h
theorem units65 {A : Around} {k : Nat} (hr : Room k A) : A.units + 65 < cLine := by have := hr.un; omega

section
variable {P : Program} {w : World} {K : PySem.W.Frag} {mg : Str → Option Value} {base : Heap}
/-- a def that may be called by its name -/
def CallOk (P : Program) (w : World) (K : PySem.W.Frag) (mg : Str → Option Value) (base : Heap) (k : Nat) (x : Str) (n : Nat) (F : GL) : Prop :=
  ∃ (f : Addr) (fd : FuncData) (ps : List Str), mg x = some (.ref f) ∧ FnOk P w K mg base CX0 k f fd ps (spF K n F) ∧ PySem.W.keepIn K (.ref f) = true ∧ Binds K fd ps [] ∧ ps.length = n
def CallIo (P : Program) (w : World) (K : PySem.W.Frag) (mg : Str → Option Value) (base : Heap) (k : Nat) (x : Str) (n j : Nat) (F : GI) : Prop :=
  ∃ (f : Addr) (fd : FuncData) (ps : List Str), mg x = some (.ref f) ∧ FnOk P w K mg base CX0 k f fd ps (spI K n j F) ∧ PySem.W.keepIn K (.ref f) = true ∧ Binds K fd ps [] ∧ ps.length = n
theorem ok_none {k n : Nat} {f : Addr} {fd : FuncData} {ps : List Str} (hn : ps.length = n) : FnOk P w K mg base CX0 k f fd ps (spF K n (fun _ => none)) :=
  ⟨fun vs H Q E h => by rw [hn]; exact h.1, fun A outer s H args us vs Q E hr he hb hv hs => by
    obtain ⟨_, _, _, _, _, _, e, _⟩ := hs
    cases e⟩
/-- what K's text says of a def -/
structure DefAt (K : PySem.W.Frag) (mg : Str → Option Value) (x : Str) (st : Stmt) (ps : List Str) (f : Addr) (fd : FuncData) : Prop where
  fn : Fun K x x st f fd
  mg : mg x = some (.ref f)
  bi : Binds K fd ps []
  kp : PySem.W.keepIn K (.ref f) = true
theorem DefAt.call {k n : Nat} {x : Str} {st : Stmt} {ps : List Str} {f : Addr} {fd : FuncData} {F : GL} (D : DefAt K mg x st ps f fd) (G : FnOk P w K mg base CX0 k f fd ps (spF K n F)) (hl : ps.length = n) : CallOk P w K mg base k x n F := ⟨f, fd, ps, D.mg, G, D.kp, D.bi, hl⟩
theorem DefAt.callI {k n j : Nat} {x : Str} {st : Stmt} {ps : List Str} {f : Addr} {fd : FuncData} {F : GI} (D : DefAt K mg x st ps f fd) (G : FnOk P w K mg base CX0 k f fd ps (spI K n j F)) (hl : ps.length = n) : CallIo P w K mg base k x n j F := ⟨f, fd, ps, D.mg, G, D.kp, D.bi, hl⟩
end
section
variable {X : Cx} {own : List Nat} {e a b c : Expr} {es : List Expr} {pos p : Pos} {x : Str} {k n : Nat} {F : GL} {ff : AF}
theorem ex_callC (C : CallOk X.prog X.w X.K X.mg X.base k x n F) (hr : Room k X.A) (hg : Gl X x) (ha : AX X own (e :: es) ff) (hff : ∀ ρ vs ρ', ff ρ = some (vs, ρ') → vs.length = n) (hdb : (x == ("__debug__" : Str)) = false := by decide) (he : starEach (e :: es) X.env = (false, eval e X.env) :: starEach es X.env := by rfl) (hpl : (backTo pos (starEach es X.env)).any (·.1) = false := by rfl) :
    EX X own (.Call (.Name x p) (e :: es) [] pos) (fList F ff) := by
  obtain ⟨f, fd, ps, hm, G, hk, hb, hl⟩ := C
  exact ex_call G hr hg hm hk hb hl ha hff hdb he hpl

/-! ### a call that changes one argument -/
def OH (i n : Nat) (js : List Nat) (f : AO) : Prop := ∀ ρ hs ρ', f ρ = some (hs, ρ') → hs.length = n ∧ ∀ k, hs[k]? = some none ↔ k ∈ js
theorem oh_nil {i : Nat} : OH i 0 [] oNil := fun ρ hs ρ' e => by cases e; exact ⟨rfl, fun k => by simp⟩
theorem oh_hole {i n : Nat} {js : List Nat} {g : AO} (h : OH i n js g) : OH i (n + 1) (0 :: js.map (· + 1)) (oHole i g) := fun ρ hs ρ' e => by
  obtain ⟨v, e1, e⟩ := Option.bind_eq_some_iff.mp e
  obtain ⟨ws, ρ2, e2, e⟩ := inv_b1 e
  cases e
  obtain ⟨h1, h2⟩ := h _ _ _ e2
  refine ⟨by simp [h1], fun k => ?_⟩
  cases k with
  | zero => simp
  | succ k => simp [h2 k]
theorem oh_cons {i n : Nat} {js : List Nat} {f : EF} {g : AO} (h : OH i n js g) : OH i (n + 1) (js.map (· + 1)) (oCons f g) := fun ρ hs ρ' e => by
  obtain ⟨v, ρ1, e1, e⟩ := inv_b1 e
  obtain ⟨ws, ρ2, e2, e⟩ := inv_b1 e
  cases e
  obtain ⟨h1, h2⟩ := h _ _ _ e2
  refine ⟨by simp [h1], fun k => ?_⟩
  cases k with
  | zero => simp
  | succ k => simp [h2 k]
theorem hole_ok {i n j : Nat} {js : List Nat} {f : AO} (h : OH i n js f) (hj : js = [j]) : ∀ ρ vs ρ', f ρ = some (vs, ρ') → vs.length = n ∧ ∀ i, vs[i]? = some none ↔ i = j := fun ρ vs ρ' e => by
  obtain ⟨h1, h2⟩ := h _ _ _ e
  exact ⟨h1, fun i => by rw [h2, hj]; simp⟩
theorem ex_callIC {j i : Nat} {F : GI} {ff : AO} (C : CallIo X.prog X.w X.K X.mg X.base k x n j F) (hr : Room k X.A) (hg : Gl X x) (hi : i ∈ own) (ha : OX X own i (e :: es) ff) (hff : ∀ ρ vs ρ', ff ρ = some (vs, ρ') → vs.length = n ∧ ∀ i, vs[i]? = some none ↔ i = j) (hdb : (x == ("__debug__" : Str)) = false := by decide) (he : starEach (e :: es) X.env = (false, eval e X.env) :: starEach es X.env := by rfl) (hpl : (backTo pos (starEach es X.env)).any (·.1) = false := by rfl) :
    EX X own (.Call (.Name x p) (e :: es) [] pos) (fCallI i F ff) := by
  obtain ⟨f, fd, ps, hm, G, hk, hb, hl⟩ := C
  exact ex_callI G hr hg hm hk hb hl hi ha hff hdb he hpl

/-! ### a constant of the module -/
theorem ex_glob {v : PV} (hg : Gl X x) (h : ∃ a, X.mg x = some (.ref a) ∧ ∀ H, Rep X.K H v (.ref a)) (hd : (x == ("__debug__" : Str)) = false := by decide) : EX X own (.Name x p) (fC v) := by
  obtain ⟨a, hm, hr⟩ := h
  exact ex_c (pe_glob (v := .ref a) hg hm rfl hd) (fun H => hr H)
theorem ex_globI {i : Int} (hg : Gl X x) (h : ∃ t, X.mg x = some (.int i t)) (hd : (x == ("__debug__" : Str)) = false := by decide) : EX X own (.Name x p) (fC (.int i)) := by
  obtain ⟨t, hm⟩ := h
  exact ex_c (pe_glob (v := .int i) hg hm ⟨t, rfl⟩ hd) (fun H => rep_int)
theorem ex_globS {i : Str} (hg : Gl X x) (h : ∃ t, X.mg x = some (.str i t)) (hd : (x == ("__debug__" : Str)) = false := by decide) : EX X own (.Name x p) (fC (.str i)) := by
  obtain ⟨t, hm⟩ := h
  exact ex_c (pe_glob (v := .str i) hg hm ⟨t, rfl⟩ hd) (fun H => rep_str)

/-! ### range with a step -/
def rngC (lo c : Int) (n : Nat) : List PV := (List.range n).map fun (i : Nat) => PV.int (lo + (i : Int) * c)
def iR3 (f g h : EF) : AF := fun ρ => (f ρ).bind fun r => (g r.2).bind fun s => (h s.2).bind fun t => match r.1, s.1, t.1 with
  | .int i, .int j, .int c => if c ≠ 0 ∧ c.natAbs < 1073741824 ∧ Builtin.Range.small i j c = true ∧ 0 ≤ Builtin.Range.rangeSize i j c then some (rngC i c (Builtin.Range.rangeSize i j c).toNat, t.2) else none
  | _, _, _ => none
theorem rngC_get {lo c : Int} {n i : Nat} {p : PV} (h : (rngC lo c n)[i]? = some p) : i < n ∧ p = .int (lo + (i : Int) * c) := by
  unfold rngC at h
  rw [List.getElem?_map] at h
  by_cases hi : i < n
  · rw [List.getElem?_range hi] at h
    cases h
    exact ⟨hi, rfl⟩
  · rw [List.getElem?_eq_none (by simpa using hi)] at h; cases h
theorem walks_rngC {K : PySem.W.Frag} {H1 : Hp} {lo c : Int} {n : Nat} : Walks' K (Itc lo c n) H1 (rngC lo c n) := fun H2 H3 le sub => ⟨fun i p hp => by
    obtain ⟨hi, rfl⟩ := rngC_get hp
    refine ⟨hi, fun x H'' yl => ?_⟩
    obtain ⟨rfl, rfl⟩ := yl
    exact ⟨H2, Ext.refl sub, rep_int⟩, by simp [rngC, Itc]⟩
theorem ix_rng3 {tg : Expr} {fa fb fc : EF} (hg : Gl X "range") (hm : X.mg "range" = none) (ha : EX X own a fa) (hb : EX X own b fb) (hc : EX X own c fc) (hs : starEach [a, b, c] X.env = (false, eval a X.env) :: starEach [b, c] X.env := by rfl) (hs2 : starEach [b, c] X.env = (false, eval b X.env) :: starEach [c] X.env := by rfl) (hs3 : starEach [c] X.env = (false, eval c X.env) :: starEach [] X.env := by rfl) (hpl : (backTo pos (starEach [b, c] X.env)).any (·.1) = false := by rfl) :
    IX X own tg (.Call (.Name "range" p) [a, b, c] [] pos) (iR3 fa fb fc) :=
  ⟨PI.ent (pi_range3 hg hm (pa_cons ha.run (pa_cons hb.run (pa_cons hc.run pa_nil hs3) hs2) hs) hs hpl) fun σ H R ⟨B, ρ, its, ρ', H1, S, e, k⟩ => by
  obtain ⟨v, ρ1, e1, e2⟩ := inv_b1 e
  obtain ⟨w, ρ2, e3, e4⟩ := inv_b1 e2
  obtain ⟨u, ρ3, e5, e6⟩ := inv_b1 e4
  refine ⟨B, ρ, v, ρ1, H1, S, e1, fun x H' H1' le S' r => ⟨B, ρ1, w, ρ2, H1', S', e3, fun y H2 H12 le2 S2 r2 => ⟨B, ρ2, u, ρ3, H12, S2, e5, fun z H3 H13 le3 S3 r3 => ?_⟩⟩⟩
  cases v with
  | int i =>
    cases w with
    | int j =>
      cases u with
      | int c =>
        simp only at e6
        split at e6
        · rename_i hj
          cases e6
          simp only [Rep] at r r2 r3
          subst r
          subst r2
          subst r3
          obtain ⟨h1, h2, h3, h4⟩ := hj
          exact ⟨i, j, c, _, rfl, ⟨h1, h2, h3, (Int.toNat_of_nonneg h4).symm⟩, k _ H3 H13 ((le.trans le2).trans le3) S3 walks_rngC⟩
        · cases e6
      | _ => cases e6
    | _ => cases e6
  | _ => cases e6⟩
end
end PT

set_option Elab.async false
set_option linter.all false
set_option autoImplicit false
set_option maxRecDepth 100000
set_option maxHeartbeats 4000000
/-! PT15: what the top has written; the law's promise. -/
namespace PT
open PySem PySem.Spec PyProof.Rows L2
/-- a def of the module, as the written part shows it -/
def RawAt (K : PySem.W.Frag) (x : Str) (st : Stmt) : Prop := ∃ (f : Addr) (oc : Value) (od : Option Addr) (kV dc pm : Value) (an : Option Addr) (cd ct : Value) (sl : Array (Option Value)),
  PySem.W.nsIn K mainGlobals x = some (some (.ref f)) ∧ K.lookup f = some ⟨oc, od, .func (PySem.W.fnOf x x (defArgs st) (defBody st) (defScope st) .none kV dc pm an cd ct), sl⟩ ∧ PySem.W.codeIn K cd x = true ∧ PySem.W.keepIn K (.ref f) = true
theorem RawAt.mk {K : PySem.W.Frag} {x : Str} {st : Stmt} {f : Addr} {oc : Value} {od : Option Addr} {kV dc pm : Value} {an : Option Addr} {cd ct : Value} {sl : Array (Option Value)} (a : PySem.W.nsIn K mainGlobals x = some (some (.ref f)))
    (l : K.lookup f = some ⟨oc, od, .func (PySem.W.fnOf x x (defArgs st) (defBody st) (defScope st) .none kV dc pm an cd ct), sl⟩) (c : PySem.W.codeIn K cd x = true) (k : PySem.W.keepIn K (.ref f) = true) : RawAt K x st := ⟨f, oc, od, kV, dc, pm, an, cd, ct, sl, a, l, c, k⟩
theorem RawAt.at {K : PySem.W.Frag} {x : Str} {st : Stmt} {h : Heap} {mg : Str → Option Value} {ps : List Str} (R : RawAt K x st) (X : K.In h) (G : h.Ns mainGlobals mg)
    (hb : ∀ (kV doc pm : Value) (an : Option Addr) (cdv ct : Value) (us : List Value), us.length = ps.length → bindArgs (PySem.W.fnOf x x (defArgs st) (defBody st) (defScope st) .none kV doc pm an cdv ct) ⟨us, []⟩ = pure (ps.zip us)) :
    ∃ (f : Addr) (fd : FuncData), DefAt K mg x st ps f fd := by
  obtain ⟨f, oc, od, kV, dc, pm, an, cd, ct, sl, a, l, c, k⟩ := R
  have F := fun_mk (st := st) l c k
  exact ⟨f, _, F, PySem.W.mg_of X G a, F.binds hb, k⟩
theorem RawAt.law {K : PySem.W.Frag} {x : Str} {st : Stmt} {h : Heap} {mg : Str → Option Value} (R : RawAt K x st) (X : K.In h) (G : h.Ns mainGlobals mg)
    (hb : ∀ (kV doc pm : Value) (an : Option Addr) (cdv ct : Value) (us : List Value), us.length = 1 → bindArgs (PySem.W.fnOf x x (defArgs st) (defBody st) (defScope st) .none kV doc pm an cdv ct) ⟨us, []⟩ = pure ((["script"] : List Str).zip us)) :
    ∃ (f : Addr) (fd : FuncData), DefAt K mg x st ["script"] f fd ∧ ∀ (s : Shared) (v : Value), BindsTo s fd ⟨[v], []⟩ [("script", v)] := by
  obtain ⟨f, oc, od, kV, dc, pm, an, cd, ct, sl, a, l, c, k⟩ := R
  have F := fun_mk (st := st) l c k
  exact ⟨f, _, ⟨F, PySem.W.mg_of X G a, F.binds hb, k⟩, fun s v => .of_eq (hb _ _ _ _ _ _ [v] rfl)⟩
theorem rep_tupK {K : PySem.W.Frag} {a : Addr} {its : Array Value} {n : Nat} {sl : Array (Option Value)} {xs : List PV} {vs : List V} (l : K.lookup a = some ⟨.type "tuple", none, .seq its n, sl⟩) (hs : its.size ≤ sizeLine) (hv : Vals vs its.toList) (hr : ∀ H, RepL K H xs vs) : ∀ H, Rep K H (.tup xs) (.ref a) := fun H => by
  simp only [Rep]
  exact ⟨a, vs, rfl, .inr ⟨_, its, n, l, rfl, rfl, rfl, hs, hv⟩, hr H⟩
theorem repL_nilK {K : PySem.W.Frag} : ∀ H, RepL K H [] [] := fun H => rfl
theorem repL_consK {K : PySem.W.Frag} {p : PV} {x : V} {ps : List PV} {xs : List V} (h : ∀ H, Rep K H p x) (r : ∀ H, RepL K H ps xs) : ∀ H, RepL K H (p :: ps) (x :: xs) := fun H => ⟨x, xs, rfl, h H, r H⟩
theorem rep_intK {K : PySem.W.Frag} {i : Int} : ∀ H, Rep K H (.int i) (.int i) := fun H => rep_int
theorem rep_strK {K : PySem.W.Frag} {i : Str} : ∀ H, Rep K H (.str i) (.str i) := fun H => rep_str

theorem size_ok {its : Array Value} {n : Nat} (h : its.size = n) (h2 : n ≤ sizeLine) : its.size ≤ sizeLine := by rw [h]; exact h2
/-- THE LAW: the pure function of the law's def says True at every script -/
theorem walkP {l : PySem.W.OpenLaw} {q : Program} {loose : List Str} {XP : (Str → Option Value) → Heap → Prop} {YP : World → Heap → Prop} {d : DefRec} {K : Params → PySem.W.Frag} {k : Nat} {F : GL} (hn : l.most = some 63) (hdf : d.params.defaults = []) (hk : k ≤ 200)
    (hY : ∀ (w : World) (h : Heap), YP w h → (K w.params).In h)
    (G : ∀ (w : World) (mg : Str → Option Value) (fa : Addr) (h : Heap), (K w.params).In h → h.Ns mainGlobals mg → mg d.name = some (.ref fa) →
      ∃ fd : FuncData, (∀ (s : Shared) (u : Value), BindsTo s fd ⟨[u], []⟩ [("script", u)]) ∧ ∀ base : Heap, (K w.params).In base → base.Ns mainGlobals mg → FnOk l.prog w (K w.params) mg base CX0 k fa fd ["script"] (spF (K w.params) 1 F))
    (hF : ∀ ns : List Int, ns.length ≤ 63 → F [.obj 0 (ns.map PV.int)] = some (.bl true)) :
    PySem.W.WalkO q loose XP YP l.row.toRowW d [] (fun f vs => PySem.call f vs) := by
  have R : Room 200 callerA := ⟨rfl, by decide, by decide⟩
  refine L2.walk_of (n := 63) (k := k) (x := "script") (CX := fun _ => CX0) (sp := fun w => spF (K w.params) 1 F) hn (by decide) hdf (R.mono hk) hY G (fun w H a ns hl _ hS => ?_) fun _ _ _ _ _ z => z
  have rl : ∀ ns : List Int, RepL (K w.params) H (ns.map PV.int) (ns.map V.int) := fun ns => by
    induction ns with
    | nil => rfl
    | cons n ns ih => exact ⟨_, _, rfl, rep_int, ih⟩
  refine ⟨rfl, [.obj 0 (ns.map PV.int)], .bl true, H, Sub.refl H, ?_, hF ns hl, fun x H' H1' _ r => ?_⟩
  · refine ⟨_, _, rfl, ?_, rfl⟩
    simp only [Rep]
    exact ⟨trivial, a, _, rfl, hS, rl ns⟩
  · simpa [Rep] using r
end PT

set_option Elab.async false
set_option linter.all false
set_option autoImplicit false
set_option maxRecDepth 100000
set_option maxHeartbeats 4000000
/-! PT16: dicts whose keys are tuples: what they hold, asked, changed, walked. -/
namespace PT
open PySem PySem.Spec PyProof.Rows L2

/-! ### keys -/
mutual
def plainK : NestedKey → Bool
  | .num _ => true
  | .tup ks => plainKs ks
  | _ => false
def plainKs : List NestedKey → Bool
  | [] => true
  | k :: ks => plainK k && plainKs ks
end
mutual
theorem nkey_plain : ∀ (p : PV) (k : NestedKey), nkey p = some k → plainK k = true
  | .int i, k, e => by simp only [nkey] at e; cases e; rfl
  | .tup xs, k, e => by
    simp only [nkey] at e
    obtain ⟨ks, h, e⟩ := Option.map_eq_some_iff.mp e
    subst e
    simp only [plainK]
    exact nkeys_plain xs ks h
  | .non, k, e => by simp [nkey] at e
  | .bl _, k, e => by simp [nkey] at e
  | .str _, k, e => by simp [nkey] at e
  | .lst _, k, e => by simp [nkey] at e
  | .dct _, k, e => by simp [nkey] at e
  | .dit _, k, e => by simp [nkey] at e
  | .obj _ _, k, e => by simp [nkey] at e
theorem nkeys_plain : ∀ (p : List PV) (k : List NestedKey), nkeys p = some k → plainKs k = true
  | [], k, e => by simp only [nkeys] at e; cases e; rfl
  | p :: ps, k, e => by
    simp only [nkeys] at e
    split at e
    · rename_i a b h1 h2
      cases e
      simp only [plainKs, Bool.and_eq_true]
      exact ⟨nkey_plain p a h1, nkeys_plain ps b h2⟩
    · cases e
end
mutual
theorem khash_eq (w : World) : ∀ k : NestedKey, plainK k = true → khash k = NestedKey.hash w k
  | .num i, _ => rfl
  | .tup ks, h => by simp only [plainK] at h; simp only [khash, NestedKey.hash, khashes_eq w ks h]
  | .none, h => by simp [plainK] at h
  | .text _, h => by simp [plainK] at h
theorem khashes_eq (w : World) : ∀ k : List NestedKey, plainKs k = true → khashes k = NestedKey.hashes w k
  | [], _ => rfl
  | k :: ks, h => by
    simp only [plainKs, Bool.and_eq_true] at h
    simp only [khashes, NestedKey.hashes, khash_eq w k h.1, khashes_eq w ks h.2]
end
theorem tkey_iff {p : PV} {k : NestedKey} (h : tkey p = some k) : nkey p = some k ∧ k.depth ≤ 8 ∧ ∃ xs, p = .tup xs := by
  unfold tkey at h
  split at h
  · rename_i xs
    split at h
    · rename_i ks e
      split at h
      · rename_i hd
        cases h
        exact ⟨by simp [nkey, e], by simpa using hd, xs, rfl⟩
      · cases h
    · cases h
  · cases h
theorem tkey_plain {p : PV} {k : NestedKey} (h : tkey p = some k) : plainK k = true := nkey_plain p k (tkey_iff h).1

mutual
def eqT : PV → PV → Bool
  | .int a, .int b => decide (a = b)
  | .tup a, .tup b => eqTs a b
  | _, _ => false
def eqTs : List PV → List PV → Bool
  | [], [] => true
  | a :: as, b :: bs => eqT a b && eqTs as bs
  | _, _ => false
end
mutual
theorem eqT_iff : ∀ (p q : PV) (a b : NestedKey), nkey p = some a → nkey q = some b → eqT p q = decide (a = b)
  | .int i, q, a, b, ha, hb => by
    simp only [nkey] at ha; cases ha
    cases q <;> simp only [nkey] at hb <;> try cases hb
    · simp [eqT]
    · obtain ⟨ks, h, e⟩ := Option.map_eq_some_iff.mp hb
      subst e; simp [eqT]
  | .tup xs, q, a, b, ha, hb => by
    simp only [nkey] at ha
    obtain ⟨ks, h, e⟩ := Option.map_eq_some_iff.mp ha
    subst e
    cases q <;> simp only [nkey] at hb <;> try cases hb
    · simp [eqT]
    · rename_i ys
      obtain ⟨ls, h2, e⟩ := Option.map_eq_some_iff.mp hb
      subst e
      simp only [eqT, eqTs_iff xs ys ks ls h h2, NestedKey.tup.injEq]
  | .non, _, _, _, e, _ => by simp [nkey] at e
  | .bl _, _, _, _, e, _ => by simp [nkey] at e
  | .str _, _, _, _, e, _ => by simp [nkey] at e
  | .lst _, _, _, _, e, _ => by simp [nkey] at e
  | .dct _, _, _, _, e, _ => by simp [nkey] at e
  | .dit _, _, _, _, e, _ => by simp [nkey] at e
  | .obj _ _, _, _, _, e, _ => by simp [nkey] at e
theorem eqTs_iff : ∀ (p q : List PV) (a b : List NestedKey), nkeys p = some a → nkeys q = some b → eqTs p q = decide (a = b)
  | [], [], a, b, ha, hb => by simp only [nkeys] at ha hb; cases ha; cases hb; simp [eqTs]
  | [], y :: ys, a, b, ha, hb => by
    simp only [nkeys] at ha hb; cases ha
    split at hb <;> cases hb
    simp [eqTs]
  | x :: xs, [], a, b, ha, hb => by
    simp only [nkeys] at ha hb; cases hb
    split at ha <;> cases ha
    simp [eqTs]
  | x :: xs, y :: ys, a, b, ha, hb => by
    simp only [nkeys] at ha hb
    split at ha
    · rename_i a1 a2 h1 h2
      cases ha
      split at hb
      · rename_i b1 b2 h3 h4
        cases hb
        simp only [eqTs, eqT_iff x y a1 b1 h1 h3, eqTs_iff xs ys a2 b2 h2 h4, List.cons.injEq, Bool.decide_and]
      · cases hb
    · cases ha
end
theorem eqT_key {p q : PV} {a b : NestedKey} (ha : tkey p = some a) (hb : tkey q = some b) : eqT p q = decide (a = b) := eqT_iff p q a b (tkey_iff ha).1 (tkey_iff hb).1

/-! ### tables -/
def findX (ks : List (PV × PV)) (q : PV) : Option PV := (ks.find? fun kv => eqT kv.1 q).map (·.2)
def putX (ks : List (PV × PV)) (q v : PV) : List (PV × PV) :=
  if (ks.any fun kv => eqT kv.1 q) = true then ks.map (fun kv => if eqT kv.1 q = true then (kv.1, v) else kv) else ks ++ [(q, v)]
def dropX (ks : List (PV × PV)) (q : PV) : List (PV × PV) := ks.filter fun kv => !eqT kv.1 q
def atV (xs : TX3) (k : NestedKey) : Option V := (xs.find? fun x => decide (x.1 = k)).map (·.2.2)
def putV (xs : TX3) (k : NestedKey) (b : Addr) (v : V) : TX3 :=
  if (xs.any fun x => decide (x.1 = k)) = true then xs.map (fun x => if x.1 = k then (x.1, x.2.1, v) else x) else xs ++ [(k, b, v)]
def dropV (xs : TX3) (k : NestedKey) : TX3 := xs.filter fun x => decide (x.1 ≠ k)

section
variable {K : PySem.W.Frag} {H : Hp}
theorem RepX.nil_iff {kv : TX3} : RepX K H [] kv ↔ kv = [] := by simp only [RepX]
theorem RepX.nil : RepX K H [] [] := by simp only [RepX]
theorem RepX.cons_iff {k v : PV} {ks : List (PV × PV)} {kv : TX3} : RepX K H ((k, v) :: ks) kv ↔ ∃ k' b x r, kv = (k', b, x) :: r ∧ tkey k = some k' ∧ Rep K H k (.ref b) ∧ Rep K H v x ∧ RepX K H ks r := by simp only [RepX]
theorem RepX.cons {k v : PV} {ks : List (PV × PV)} {k' : NestedKey} {b : Addr} {x : V} {r : TX3} (h1 : tkey k = some k') (h2 : Rep K H k (.ref b)) (h3 : Rep K H v x) (h4 : RepX K H ks r) : RepX K H ((k, v) :: ks) ((k', b, x) :: r) :=
  RepX.cons_iff.mpr ⟨k', b, x, r, rfl, h1, h2, h3, h4⟩
theorem RepX.length : ∀ {ks : List (PV × PV)} {kv : TX3}, RepX K H ks kv → kv.length = ks.length
  | [], _, h => by rw [RepX.nil_iff.mp h]; rfl
  | (k, v) :: ks, _, h => by
    obtain ⟨k', b, x, r, rfl, _, _, _, t⟩ := RepX.cons_iff.mp h
    simp [RepX.length t]
theorem RepX.plain : ∀ {ks : List (PV × PV)} {kv : TX3}, RepX K H ks kv → ∀ x ∈ kv, plainK x.1 = true
  | [], _, h => by rw [RepX.nil_iff.mp h]; intro x hx; simp at hx
  | (k, v) :: ks, _, h => by
    obtain ⟨k', b, x, r, rfl, h1, _, _, t⟩ := RepX.cons_iff.mp h
    intro y hy
    rcases List.mem_cons.mp hy with rfl | hy
    · exact tkey_plain h1
    · exact RepX.plain t y hy
theorem RepX.append : ∀ {ks : List (PV × PV)} {kv : TX3} {ks2 : List (PV × PV)} {kv2 : TX3}, RepX K H ks kv → RepX K H ks2 kv2 → RepX K H (ks ++ ks2) (kv ++ kv2)
  | [], _, _, _, h, q => by rw [RepX.nil_iff.mp h]; exact q
  | (k, v) :: ks, _, _, _, h, q => by
    obtain ⟨k', b, x, r, rfl, h1, h2, h3, t⟩ := RepX.cons_iff.mp h
    exact RepX.cons h1 h2 h3 (RepX.append t q)
theorem RepX.any {q : PV} {k : NestedKey} (hq : tkey q = some k) : ∀ {ks : List (PV × PV)} {kv : TX3}, RepX K H ks kv → (ks.any fun kv => eqT kv.1 q) = (kv.any fun x => decide (x.1 = k))
  | [], _, h => by rw [RepX.nil_iff.mp h]; rfl
  | (p, v) :: ks, _, h => by
    obtain ⟨k', b, x, r, rfl, h1, h2, h3, t⟩ := RepX.cons_iff.mp h
    simp only [List.any_cons, RepX.any hq t, eqT_key h1 hq]
theorem RepX.repl {q v : PV} {k : NestedKey} {x : V} (hq : tkey q = some k) (rv : Rep K H v x) : ∀ {ks : List (PV × PV)} {kv : TX3}, RepX K H ks kv →
    RepX K H (ks.map fun kv => if eqT kv.1 q = true then (kv.1, v) else kv) (kv.map fun y => if y.1 = k then (y.1, y.2.1, x) else y)
  | [], _, h => by rw [RepX.nil_iff.mp h]; exact RepX.nil
  | (p, u) :: ks, _, h => by
    obtain ⟨k', b, y, r, rfl, h1, h2, h3, t⟩ := RepX.cons_iff.mp h
    have e := eqT_key h1 hq
    simp only [List.map_cons]
    by_cases hk : k' = k
    · rw [if_pos (by simp [e, hk]), if_pos hk]
      exact RepX.cons h1 h2 rv (RepX.repl hq rv t)
    · rw [if_neg (by simp [e, hk]), if_neg hk]
      exact RepX.cons h1 h2 h3 (RepX.repl hq rv t)
theorem RepX.put {q v : PV} {k : NestedKey} {b : Addr} {x : V} (hq : tkey q = some k) (rk : Rep K H q (.ref b)) (rv : Rep K H v x) {ks : List (PV × PV)} {kv : TX3} (h : RepX K H ks kv) : RepX K H (putX ks q v) (putV kv k b x) := by
  unfold putX putV
  rw [RepX.any hq h]
  split
  · exact RepX.repl hq rv h
  · exact RepX.append h (RepX.cons hq rk rv RepX.nil)
theorem RepX.drop {q : PV} {k : NestedKey} (hq : tkey q = some k) : ∀ {ks : List (PV × PV)} {kv : TX3}, RepX K H ks kv → RepX K H (dropX ks q) (dropV kv k)
  | [], _, h => by rw [RepX.nil_iff.mp h]; exact RepX.nil
  | (p, u) :: ks, _, h => by
    obtain ⟨k', b, y, r, rfl, h1, h2, h3, t⟩ := RepX.cons_iff.mp h
    have e := eqT_key h1 hq
    have ih := RepX.drop hq t
    unfold dropX dropV at ih ⊢
    by_cases hk : k' = k
    · rw [List.filter_cons_of_neg (by simp [e, hk]), List.filter_cons_of_neg (by simp [hk])]
      exact ih
    · rw [List.filter_cons_of_pos (by simp [e, hk]), List.filter_cons_of_pos (by simp [hk])]
      exact RepX.cons h1 h2 h3 ih
theorem RepX.find {q : PV} {k : NestedKey} (hq : tkey q = some k) : ∀ {ks : List (PV × PV)} {kv : TX3}, RepX K H ks kv → RelP K H (findX ks q) (atV kv k)
  | [], _, h => by rw [RepX.nil_iff.mp h]; exact True.intro
  | (p, u) :: ks, _, h => by
    obtain ⟨k', b, y, r, rfl, h1, h2, h3, t⟩ := RepX.cons_iff.mp h
    have e := eqT_key h1 hq
    have ih := RepX.find hq t
    unfold findX atV at ih ⊢
    by_cases hk : k' = k
    · rw [List.find?_cons_of_pos (by simp [e, hk]), List.find?_cons_of_pos (by simp [hk])]
      exact h3
    · rw [List.find?_cons_of_neg (by simp [e, hk]), List.find?_cons_of_neg (by simp [hk])]
      exact ih
theorem RepX.get : ∀ {ks : List (PV × PV)} {kv : TX3} {i : Nat} {p : PV × PV}, RepX K H ks kv → ks[i]? = some p → ∃ y, kv[i]? = some y ∧ Rep K H p.1 (.ref y.2.1) ∧ Rep K H p.2 y.2.2
  | [], _, i, p, h, e => by simp at e
  | (k, v) :: ks, _, i, p, h, e => by
    obtain ⟨k', b, y, r, rfl, h1, h2, h3, t⟩ := RepX.cons_iff.mp h
    cases i with
    | zero => simp at e; subst e; exact ⟨_, rfl, h2, h3⟩
    | succ i => obtain ⟨z, q1, q2⟩ := RepX.get (i := i) t (by simpa using e); exact ⟨z, by simpa using q1, q2⟩
end
section
theorem TRel.put {xs : TX3} {us : TU3} (r : TRel xs us) (k : NestedKey) (b : Addr) {v : V} {u : Value} (rv : RelV v u) : TRel (putV xs k b v) (storedH us k b u) := by
  have hany : ∀ {xs : TX3} {us : TU3}, TRel xs us → (xs.any fun x => decide (x.1 = k)) = (atKey us k).isSome := by
    intro xs us r
    unfold TRel at r
    induction r with
    | nil => rfl
    | @cons p q ps qs h t ih =>
      rw [List.any_cons, ih]
      by_cases e : p.1 = k
      · have e' : q.1 = k := h.1.symm.trans e
        simp [atKey, List.find?_cons, e, e']
      · have e' : ¬ q.1 = k := fun z => e (h.1.trans z)
        simp [atKey, List.find?_cons, e, e']
  unfold putV storedH
  rw [hany r]
  split
  · rename_i hq
    clear hq hany
    unfold TRel at r ⊢
    induction r with
    | nil => exact .nil
    | @cons p q ps qs h t ih =>
      rw [List.map_cons, List.map_cons]
      refine .cons ?_ ih
      unfold putAt
      by_cases e : p.1 = k
      · rw [if_pos e, if_pos (h.1.symm.trans e)]; exact ⟨h.1, h.2.1, rv⟩
      · rw [if_neg e, if_neg (fun z => e (h.1.trans z))]; exact h
  · exact Paired.snoc r ⟨rfl, rfl, rv⟩
theorem TRel.find {xs : TX3} {us : TU3} (r : TRel xs us) (k : NestedKey) : RelO (atV xs k) ((atKey us k).map (·.2)) := by
  unfold TRel at r
  induction r with
  | nil => exact True.intro
  | @cons p q ps qs h t ih =>
    unfold atV atKey at ih ⊢
    by_cases e : p.1 = k
    · have e' : q.1 = k := h.1.symm.trans e
      rw [List.find?_cons_of_pos (by simp [e]), List.find?_cons_of_pos (by simp [e'])]
      exact h.2.2
    · have e' : ¬ q.1 = k := fun z => e (h.1.trans z)
      rw [List.find?_cons_of_neg (by simp [e]), List.find?_cons_of_neg (by simp [e'])]
      exact ih
theorem TRel.drop {xs : TX3} {us : TU3} (r : TRel xs us) (k : NestedKey) : TRel (dropV xs k) (withoutH us k) := by
  unfold TRel at r ⊢
  unfold dropV withoutH
  induction r with
  | nil => exact .nil
  | @cons p q ps qs h t ih =>
    by_cases e : p.1 = k
    · have e' : q.1 = k := h.1.symm.trans e
      rw [List.filter_cons_of_neg (by simp [e]), List.filter_cons_of_neg (by simp [e'])]
      exact ih
    · have e' : ¬ q.1 = k := fun z => e (h.1.trans z)
      rw [List.filter_cons_of_pos (by simp [e]), List.filter_cons_of_pos (by simp [e'])]
      exact .cons h ih
theorem TRel.mem {xs : TX3} {us : TU3} (r : TRel xs us) : ∀ y ∈ us, ∃ x ∈ xs, x.1 = y.1 ∧ x.2.1 = y.2.1 := by
  unfold TRel at r
  induction r with
  | nil => intro y hy; simp at hy
  | @cons p q ps qs h t ih =>
    intro y hy
    rcases List.mem_cons.mp hy with rfl | hy
    · exact ⟨p, by simp, h.1, h.2.1⟩
    · obtain ⟨x, h1, h2⟩ := ih y hy
      exact ⟨x, by simp [h1], h2⟩
theorem putV_len (xs : TX3) (k : NestedKey) (b : Addr) (v : V) : (putV xs k b v).length ≤ xs.length + 1 := by
  unfold putV
  split <;> simp
theorem dropV_len (xs : TX3) (k : NestedKey) : (dropV xs k).length ≤ xs.length := List.length_filter_le _ _
end

/-! ### the heap -/
section
variable {X : Cx} {pins : List (Addr × Obj)} {σ : L2.St} {H1 H : Hp} {s : Shared}
mutual
theorem rep_nested (I : Inv X pins σ H s) (le : LeR H1 H) : ∀ (p : PV) (k : NestedKey) (x : V) (u : Value), nkey p = some k → Rep X.K H1 p x → RelV x u → NestedIs s.heap k u
  | .int i, k, x, u, e, r, q => by
    simp only [nkey] at e; cases e
    simp only [Rep] at r; subst r
    obtain ⟨t, rfl⟩ := (show ∃ t, u = Value.int i t from q)
    exact .int _ _
  | .tup xs, k, x, u, e, r, q => by
    simp only [nkey] at e
    obtain ⟨ks, h, e⟩ := Option.map_eq_some_iff.mp e
    subst e
    simp only [Rep] at r
    obtain ⟨a, vs, rfl, t, rl⟩ := r
    obtain rfl : u = Value.ref a := q
    obtain ⟨its, rits, ⟨o, n, ho, hc, _, hd⟩, _⟩ := tup_at I (le.tup t)
    exact .tup ho hc hd (by simpa using rep_nesteds I le xs ks vs its h rl rits)
  | .non, k, _, _, e, _, _ => by simp [nkey] at e
  | .bl _, k, _, _, e, _, _ => by simp [nkey] at e
  | .str _, k, _, _, e, _, _ => by simp [nkey] at e
  | .lst _, k, _, _, e, _, _ => by simp [nkey] at e
  | .dct _, k, _, _, e, _, _ => by simp [nkey] at e
  | .dit _, k, _, _, e, _, _ => by simp [nkey] at e
  | .obj _ _, k, _, _, e, _, _ => by simp [nkey] at e
theorem rep_nesteds (I : Inv X pins σ H s) (le : LeR H1 H) : ∀ (p : List PV) (k : List NestedKey) (x : List V) (u : List Value), nkeys p = some k → RepL X.K H1 p x → Vals x u → NestedAll s.heap k u
  | [], k, x, u, e, r, q => by
    simp only [nkeys] at e; cases e
    rw [RepL.nil_iff.mp r] at q
    cases q
    exact .nil
  | p :: ps, k, x, u, e, r, q => by
    simp only [nkeys] at e
    split at e
    · rename_i a b h1 h2
      cases e
      obtain ⟨y, t, rfl, rp, rt⟩ := RepL.cons_iff.mp r
      cases q with
      | cons q1 q2 => exact .cons (rep_nested I le p a y _ h1 rp q1) (rep_nesteds I le ps b t _ h2 rt q2)
    · cases e
end
theorem rep_key_is (I : Inv X pins σ H s) (le : LeR H1 H) {p : PV} {k : NestedKey} {b : Addr} (h : tkey p = some k) (r : Rep X.K H1 p (.ref b)) : (nestedKind X.prog X.w).is s.heap k b :=
  ⟨rep_nested I le p k _ (.ref b) (tkey_iff h).1 r rfl, (tkey_iff h).2.1⟩
theorem RepX.keys_is (I : Inv X pins σ H s) (le : LeR H1 H) : ∀ {ks : List (PV × PV)} {kv : TX3}, RepX X.K H1 ks kv → ∀ x ∈ kv, (nestedKind X.prog X.w).is s.heap x.1 x.2.1
  | [], _, h => by rw [RepX.nil_iff.mp h]; intro x hx; simp at hx
  | (k, v) :: ks, _, h => by
    obtain ⟨k', b, x, r, rfl, h1, h2, _, t⟩ := RepX.cons_iff.mp h
    intro y hy
    rcases List.mem_cons.mp hy with rfl | hy
    · exact rep_key_is I le h1 h2
    · exact RepX.keys_is I le t y hy
/-- a dict that stands, as the library tells it -/
theorem dit_at {a : Addr} {o : Obj} {xs : TX3} {ks : List (PV × PV)} (I : Inv X pins σ H s) (le : LeR H1 H) (hd : H a = some (DitO a o xs)) (rx : RepX X.K H1 ks xs) :
    ∃ us : TU3, TRel xs us ∧ s.heap.DictOfH (nestedKind X.prog X.w) a us ∧ (a == sysModules) = false ∧ xs.length ≤ sizeLine ∧ us.length = xs.length := by
  obtain ⟨⟨ho, ok⟩, _⟩ := I.hok a _ hd
  obtain ⟨us, es, ep, r, h1, h2, h3⟩ := ok.ent
  have hm : ∀ y ∈ us, ∃ x ∈ xs, x.1 = y.1 ∧ x.2.1 = y.2.1 := r.mem
  refine ⟨us, r, ⟨o, es, ep, ho, ok.exact, h1, ?_, fun y hy => ?_, h3⟩, ok.nsys, ok.size, (Paired.length r).symm⟩
  · rw [h2]
    refine List.map_congr_left fun y hy => ?_
    obtain ⟨x, hx, e1, e2⟩ := hm y hy
    have := khash_eq X.w y.1 (by rw [← e1]; exact rx.plain x hx)
    simp only [entryOfKey]
    rw [this]
    rfl
  · obtain ⟨x, hx, e1, e2⟩ := hm y hy
    have := rx.keys_is I le x hx
    rw [e1, e2] at this
    exact this
/-- .. and back: a dict as the library tells it, as a thing of the layer -/
theorem dit_of {h' : Heap} {a : Addr} {us : TU3} {xs : TX3} (hd : h'.DictOfH (nestedKind X.prog X.w) a us) (r : TRel xs us) (hp : ∀ x ∈ xs, plainK x.1 = true) (hs : (a == sysModules) = false) (hz : xs.length ≤ sizeLine) :
    ∃ o, (∀ H2, ObjOk X.prog X.w H2 h' a (DitO a o xs)) ∧ h'.get? a = some o := by
  obtain ⟨o, es, ep, ho, hx, hdat, hes, _, hn⟩ := hd
  refine ⟨o, fun H2 => ⟨⟨ho, hs, hz, hx, us, es, ep, r, hdat, ?_, hn⟩, ⟨o, ho⟩, fun h1 h2 q k => ⟨k o q.1, q.2⟩⟩, ho⟩
  rw [hes]
  refine List.map_congr_left fun y hy => ?_
  obtain ⟨x, hx, e1, e2⟩ := r.mem y hy
  have := khash_eq X.w y.1 (by rw [← e1]; exact hp x hx)
  simp only [entryOfKey]
  rw [this]
  rfl
theorem room8 {A : Around} (hu : A.units + 65 < cLine) : (nestedKind X.prog X.w).room A.in1 := by
  show A.units + 1 + 8 < cLine
  omega
end
end PT

set_option Elab.async false
set_option linter.all false
set_option autoImplicit false
set_option maxRecDepth 100000
set_option maxHeartbeats 4000000
/-! PT17: dicts whose keys are tuples: the rules. -/
namespace PT
open PySem PySem.Spec PyProof.Rows L2

section
variable {X : Cx} {own io lm : List Nat} {o e f : Expr} {fo fe ff : EF} {apos cpos pos tpos : Pos} {i : Nat}
theorem dit_empty' {P : Program} {w : World} {H : Hp} (h : Heap) (hb : sysModules < h.objs.size) : ObjOk P w H (h.push { cls := .type "dict", data := .dict #[] }) h.objs.size (DitO h.objs.size { cls := .type "dict", data := .dict #[] } []) :=
  ⟨⟨Heap.get?_push_size _ rfl, beq_eq_false_iff_ne.mpr (Ne.symm (Nat.ne_of_lt hb)), Nat.zero_le _, ⟨rfl, rfl, rfl⟩, [], #[], 0, .nil, rfl, rfl, List.nodup_nil⟩, ⟨_, Heap.get?_push_size _ rfl⟩, fun h1 h2 q k => ⟨k _ q.1, q.2⟩⟩
def tDNewX : TE := fun _ H Q => ∀ p, H p = none → Q (.ref p) (upd H p (DitO p { cls := .type "dict", data := .dict #[] } []))
theorem pe_dnewX : PE X (.Dict [] [] pos) tDNewX := ⟨fun pins s σ H Q I h =>
  wpAny_Dict_empty ⟨.ref s.heap.objs.size, _, I.laid (a := s.heap.objs.size) (o := DitO s.heap.objs.size { cls := .type "dict", data := .dict #[] } []) (t' := s.toks) (fun _ _ q => Heap.get?_push_of_some _ q) (Nat.le_refl _) (dit_empty' s.heap I.big), rfl, h _ (I.hok.fresh (Nat.le_refl _))⟩⟩
theorem en_dit0 : EN X own (.Dict [] [] pos) (fC (.dit [])) := ⟨PE.ent pe_dnewX fun σ H Q ⟨B, ρ, v, ρ', H1, S, e, k⟩ => by
  cases e
  exact fun p hp => k p _ H1 (LeR.refl _) (FR.mk' S (subU hp) hp ⟨_, [], upd_same, RepX.nil⟩)⟩

def isTKey (p : PV) : Bool := (tkey p).isSome
theorem isTKey_get {p : PV} (h : isTKey p = true) : ∃ k, tkey p = some k := Option.isSome_iff_exists.mp h
theorem rep_tref {K : PySem.W.Frag} {H : Hp} {p : PV} {k : NestedKey} {x : V} (h : tkey p = some k) (r : Rep K H p x) : ∃ b, x = .ref b := by
  obtain ⟨_, _, xs, rfl⟩ := tkey_iff h
  simp only [Rep] at r
  obtain ⟨a, vs, rfl, _⟩ := r
  exact ⟨a, rfl⟩
/-! d[k] -/
def gIxX : G2 := fun p q => match p with
  | .dit ks => if isTKey q = true then findX ks q else none
  | _ => none
theorem relo_get {xs : TX3} {us : TU3} {k : NestedKey} {z : V} (r : TRel xs us) (h : atV xs k = some z) : ∃ p, atKey us k = some p ∧ RelV z p.2 := by
  have q := r.find k
  rw [h] at q
  cases e : atKey us k with
  | none => rw [e] at q; exact q.elim
  | some p => rw [e] at q; exact ⟨p, rfl, q⟩
theorem relo_none {xs : TX3} {us : TU3} {k : NestedKey} (r : TRel xs us) (h : atV xs k = none) : atKey us k = none := by
  have q := r.find k
  rw [h] at q
  cases e : atKey us k with
  | none => rfl
  | some p => rw [e] at q; exact q.elim
theorem iv_dit (hu : X.A.units + 65 < cLine) : IxV X gIxX := by
  intro va sl pins s σ H x y v u Q I rx ry ⟨p, q, w', H1, sub, a, b, e, k⟩ hs
  unfold gIxX at e
  split at e
  · rename_i ks
    split at e
    · rename_i hk
      obtain ⟨key, hkey⟩ := isTKey_get hk
      obtain ⟨d, o, kv, rfl, rd, rk⟩ := a
      have rel := rk.find hkey
      rw [e] at rel
      obtain ⟨z, hz, rz⟩ := rel_some rel
      have hb := b.rep sub.le
      obtain ⟨c, rfl⟩ := rep_tref hkey hb
      cases rx
      cases ry
      obtain ⟨us, tr, dd, hsm, _⟩ := dit_at I sub.le rd rk
      obtain ⟨pr, hp, rv⟩ := relo_get tr hz
      refine tail_any dd.typeIs PySem.F.slot_dict_getitem.lookup (wpAny_getItem_heap (room8 hu) (rep_key_is I (LeR.refl _) hkey hb) dd hp ⟨z, H, I.tok _, rv, k.at sub rz⟩) hs
    · cases e
  · cases e
/-! k in d -/
def gInX : G2 := fun p q => match q with
  | .dit ks => if isTKey p = true then some (.bl (findX ks p).isSome) else none
  | _ => none
def gNotInX : G2 := fun p q => match q with
  | .dit ks => if isTKey p = true then some (.bl (!(findX ks p).isSome)) else none
  | _ => none
theorem relo_isSome {xs : TX3} {us : TU3} {k : NestedKey} (r : TRel xs us) : (atKey us k).isSome = (atV xs k).isSome := by
  have q := (r.find k).isSome_eq
  rw [Option.isSome_map] at q
  exact q.symm
theorem ov_inX (hu : X.A.units + 65 < cLine) : OpV X (compareOp .In) gInX := by
  intro pins s σ H x y v u Q I rx ry ⟨p, q, w', H1, sub, a, b, e, k⟩
  unfold gInX at e
  split at e
  · rename_i ks
    split at e
    · rename_i hk
      cases e
      obtain ⟨key, hkey⟩ := isTKey_get hk
      obtain ⟨d, o, kv, rfl, rd, rk⟩ := b
      have ha := a.rep sub.le
      obtain ⟨c, rfl⟩ := rep_tref hkey ha
      cases rx
      cases ry
      obtain ⟨us, tr, dd, hsm, _⟩ := dit_at I sub.le rd rk
      refine wpAny_in_heap (room8 hu) (rep_key_is I (LeR.refl _) hkey ha) hsm dd ⟨.bl _, H, I.tok _, rfl, k.at sub ?_⟩
      rw [relo_isSome tr, rel_isSome (rk.find hkey)]; exact rep_bl
    · cases e
  · cases e
theorem ov_notInX (hu : X.A.units + 65 < cLine) : OpV X (compareOp .NotIn) gNotInX := by
  intro pins s σ H x y v u Q I rx ry ⟨p, q, w', H1, sub, a, b, e, k⟩
  unfold gNotInX at e
  split at e
  · rename_i ks
    split at e
    · rename_i hk
      cases e
      obtain ⟨key, hkey⟩ := isTKey_get hk
      obtain ⟨d, o, kv, rfl, rd, rk⟩ := b
      have ha := a.rep sub.le
      obtain ⟨c, rfl⟩ := rep_tref hkey ha
      cases rx
      cases ry
      obtain ⟨us, tr, dd, hsm, _⟩ := dit_at I sub.le rd rk
      refine notIn_keyed (kvs := pairsH us) (room8 hu) (rep_key_is I (LeR.refl _) hkey ha) hsm ⟨us, dd, rfl⟩ ⟨.bl _, H, I.tok _, rfl, k.at sub ?_⟩
      rw [valueAt_pairsH, Option.isSome_map, relo_isSome tr, rel_isSome (rk.find hkey)]; exact rep_bl
    · cases e
  · cases e
/-! d[k] = v -/
def gSetX : GS := fun p i v => match p with
  | .dit ks => if (isTKey i && decide (ks.length < 1000000)) = true then some (.dit (putX ks i v)) else none
  | _ => none
theorem dit_put {pins : List (Addr × Obj)} {σ : L2.St} {H1 H : Hp} {s : Shared} {a : Addr} {o : Obj} {kv : TX3} {ks : List (PV × PV)} {q v : PV} {key : NestedKey} {b : Addr} {x : V} {u : Value} {us : TU3} {h' : Heap} {tk : Nat}
    (I : Inv X pins σ H s) (sub : Sub H1 H) (ha : H a = some (DitO a o kv)) (rk : RepX X.K H1 ks kv) (tr : TRel kv us) (hkey : tkey q = some key) (rb : Rep X.K H1 q (.ref b)) (rv : Rep X.K H1 v x) (ru : RelV x u) (hn : (a == sysModules) = false) (hz : kv.length < sizeLine)
    (dd : h'.DictOfH (nestedKind X.prog X.w) a (storedH us key b u)) (sb : Heap.SameBut a s.heap h') :
    ∃ ob, Inv X pins σ (upd H a ob) { s with heap := h', toks := tk } ∧ ORep X.K H1 (upd H a ob) a (.dit (putX ks q v)) := by
  have tr2 := tr.put key b ru
  have rk2 := rk.put hkey rb rv
  obtain ⟨o', ok', ho'⟩ := dit_of dd tr2 rk2.plain hn (by have := putV_len kv key b x; omega)
  exact ⟨DitO a o' (putV kv key b x), d_write I (by rw [ha]; exact True.intro) sb ⟨o', ho'⟩ (ok' _), o', _, upd_same, rk2⟩
theorem si_dit (hu : X.A.units + 65 < cLine) : SetI X gSetX := by
  intro pins s σ H o i v ov iv u Q I r1 r2 r3 ⟨p, pi, pv, w', H1, a, e1, sub, ro, ri, rv, e, k⟩
  subst e1
  unfold gSetX at e
  split at e
  · rename_i ks
    split at e
    · rename_i hc
      rw [Bool.and_eq_true, decide_eq_true_eq] at hc
      cases e
      obtain ⟨key, hkey⟩ := isTKey_get hc.1
      obtain ⟨o, kv, hd, rk⟩ := ro
      obtain ⟨b, rfl⟩ := rep_tref hkey ri
      cases r1
      cases r2
      obtain ⟨us, tr, dd, hsm, hz, hl⟩ := dit_at I sub.le hd rk
      have hz' : kv.length < sizeLine := by rw [rk.length, sizeLine_eq]; omega
      refine wpAny_setItem_heap (hsz := by omega) (room8 hu) (rep_key_is I sub.le hkey ri) dd fun h' dd' hs => ?_
      obtain ⟨ob, I', ro'⟩ := dit_put (tk := s.toks + (nestedKind X.prog X.w).draws key) I sub hd rk tr hkey ri rv r3 hsm hz' dd' hs
      exact ⟨_, I', k ob ro'⟩
    · cases e
  · cases e
/-! len(d), list(d) -/
def gLenX : GL := fun ps => match ps with
  | [.dit ks] => some (.int ks.length)
  | _ => none
theorem dit_raw {pins : List (Addr × Obj)} {σ : L2.St} {H : Hp} {s : Shared} {a : Addr} {o : Obj} {xs : TX3} (I : Inv X pins σ H s) (hd : H a = some (DitO a o xs)) :
    ∃ (us : TU3) (es : Array DictEntry) (ep : Nat), TRel xs us ∧ o.data = .dict es ep ∧ s.heap.get? a = some o ∧ o.ExactDict ∧ s.heap.DictRaw a es ep ∧ (a == sysModules) = false ∧ xs.length ≤ sizeLine ∧ es.size = xs.length ∧
      ∀ (i : Nat) (hi : i < es.size), ∃ y, us[i]? = some y ∧ es[i].key = .ref y.2.1 ∧ es[i].val = y.2.2 := by
  obtain ⟨⟨ho, ok⟩, _⟩ := I.hok a _ hd
  obtain ⟨us, es, ep, r, h1, h2, h3⟩ := ok.ent
  have hl : es.size = us.length := by rw [← Array.length_toList, h2, List.length_map]
  refine ⟨us, es, ep, r, h1, ho, ok.exact, ⟨o, ho, ok.exact, h1⟩, ok.nsys, ok.size, by rw [hl]; exact (Paired.length r).symm, fun i hi => ?_⟩
  have hi' : i < us.length := by omega
  refine ⟨us[i], List.getElem?_eq_getElem hi', ?_⟩
  have e : es.toList[i]? = some es[i] := by rw [Array.getElem?_toList]; exact Array.getElem?_eq_getElem hi
  rw [h2, List.getElem?_map, List.getElem?_eq_getElem hi'] at e
  simp only [Option.map_some, Option.some.injEq] at e
  rw [← e]
  exact ⟨rfl, rfl⟩
theorem cv_lenX : CallV X (.builtin "len") gLenX := by
  intro pins s σ H xs us Q I r ⟨ps, v, H1, sub, a, e, k⟩
  unfold gLenX at e
  split at e
  · cases e
    obtain ⟨x, rfl, rx⟩ := a.one
    obtain ⟨d, o, kv, rfl, rd, rk⟩ := rx
    rw [Vals.ref1 r]
    obtain ⟨us, tr, dd, hsm, hz, hl⟩ := dit_at I sub.le rd rk
    refine call_len_dictH hsm dd (by rw [hl]; rw [sizeLine_eq] at hz; omega) ⟨.int kv.length, H, I.tok _, ⟨_, by rw [hl]⟩, by rw [rk.length]; exact k.at sub rep_int⟩
  · cases e
def gListX : GL := fun ps => match ps with
  | [.dit ks] => some (.lst (ks.map (·.1)))
  | _ => none
theorem keysX_rep {K : PySem.W.Frag} {H : Hp} : ∀ {ks : List (PV × PV)} {kv : TX3}, RepX K H ks kv → RepL K H (ks.map (·.1)) (kv.map fun x => V.ref x.2.1)
  | [], _, h => by rw [RepX.nil_iff.mp h]; exact RepL.nil
  | (k, v) :: ks, _, h => by
    obtain ⟨k', b, x, r, rfl, h1, h2, h3, t⟩ := RepX.cons_iff.mp h
    exact RepL.cons h2 (keysX_rep t)
theorem trel_get {xs : TX3} {us : TU3} (r : TRel xs us) {i : Nat} {y : NestedKey × Addr × Value} (h : us[i]? = some y) : ∃ x, xs[i]? = some x ∧ x.1 = y.1 ∧ x.2.1 = y.2.1 ∧ RelV x.2.2 y.2.2 := by
  unfold TRel at r
  induction r generalizing i with
  | nil => simp at h
  | @cons p q ps qs h1 t ih =>
    cases i with
    | zero => simp at h; subst h; exact ⟨p, rfl, h1.1, h1.2.1, h1.2.2⟩
    | succ i => obtain ⟨x, e1, e2⟩ := ih (i := i) (by simpa using h); exact ⟨x, by simpa using e1, e2⟩
/-- what a walk of the keys has gathered -/
theorem keys_vals {xs : TX3} {us : TU3} {es : Array DictEntry} {acc : Array Value} (tr : TRel xs us) (h6 : es.size = xs.length) (h7 : ∀ (i : Nat) (hi : i < es.size), ∃ y, us[i]? = some y ∧ es[i].key = .ref y.2.1 ∧ es[i].val = y.2.2)
    (hacc : ItemsOf (fun i v => ∃ hi : i < es.size, v = es[i].key) acc es.size) : Vals (xs.map fun x => V.ref x.2.1) acc.toList := by
  have el : acc.toList.length = xs.length := by rw [Array.length_toList, hacc.1, h6]
  refine vals_of_at (by rw [List.length_map, el]) fun j x w e1 e2 => ?_
  obtain ⟨hi, hw⟩ := hacc.2 j w (by rw [← Array.getElem?_toList]; exact e2)
  obtain ⟨y, hy1, hy2, _⟩ := h7 j hi
  obtain ⟨z, hz1, _, hz2, _⟩ := trel_get tr hy1
  rw [List.getElem?_map, hz1] at e1
  simp only [Option.map_some, Option.some.injEq] at e1
  subst e1
  rw [hw, hy2, ← hz2]
  rfl
theorem cf_listX (hc : X.calm = true) : CallF X (.type "list") gListX := by
  intro pins s σ H xs us Q I r ⟨ps, v, H1, sub, a, e, k⟩
  unfold gListX at e
  split at e
  · cases e
    obtain ⟨x, rfl, rx⟩ := a.one
    obtain ⟨d, o, kv, rfl, rd, rk⟩ := rx
    rw [Vals.ref1 r]
    obtain ⟨us2, es, ep, tr, h1, h2, h3, h4, h5, h6, h6', h7⟩ := dit_raw I rd
    refine PySem.W.kdl_call (KdlSrc.rawDict (es := es) (ep := ep) h5) (I.ok.hd hc) h4 (by rw [h6']; exact h6) fun h' tk acc' c' hkeep hS hacc => ?_
    refine ⟨.ref s.heap.objs.size, upd H s.heap.objs.size (.lst (kv.map fun x => V.ref x.2.1)), I.laid hkeep (Nat.le_refl _) (show ObjOk X.prog X.w _ _ _ (.lst (kv.map fun x => V.ref x.2.1)) from ⟨?_, acc'.toList, c', ?_, ?_⟩), rfl,
      k _ _ (subU (I.hok.fresh (Nat.le_refl _))) (I.hok.fresh (Nat.le_refl _)) ⟨_, upd_same, keysX_rep rk⟩⟩
    · rw [List.length_map]; exact h6
    · exact keys_vals tr h6' h7 hacc
    · rw [Array.toArray_toList]; exact hS
  · cases e
end

/-! for k in d -/
def ItX (d : Addr) (o : Obj) (xs : TX3) : It :=
  ⟨fun i H => H d = some (DitO d o xs) ∧ i < xs.length, fun i H x H' => H' = H ∧ ∃ y, xs[i]? = some y ∧ x = .ref y.2.1, fun i H => H d = some (DitO d o xs) ∧ xs.length ≤ i⟩
section
variable {P : Program} {w : World} {K : PySem.W.Frag} {tg : Expr} {d : Addr} {o : Obj} {es : Array DictEntry} {ep : Nat}
theorem turn_keysX {xs : TX3} (it : Addr) (hod : o.data = .dict es ep) : Turn P w K tg (ItX d o xs) [it] it (fun i h => h.IsKeyIter it d i xs.length ep) where
  mem := by simp
  obj := fun i h st b hb => by
    have e : b = it := by simpa using hb
    subst e
    obtain ⟨oi, e, c, dd⟩ := st
    exact ⟨oi, e, fun v z => by rw [dd] at z; cases z⟩
  keep := fun i h h' st k => st.at fun oi e => k it (by simp) oi e
  item := by
    intro X hP hw hK hc i pins s σ H E I hf st hg
    subst hP hw hK
    obtain ⟨hd, hi⟩ := hg
    obtain ⟨f0, f1, f2, f3, f4, f5⟩ := hf it (by simp)
    obtain ⟨us, es', ep', tr, hdt, hgd, hx, hraw, hs, hz, hsz, ent⟩ := dit_raw I hd
    obtain ⟨rfl, rfl⟩ := dict_ep hod hdt
    have hi' : i < es'.size := by omega
    obtain ⟨y, hy1, hy2, hy3⟩ := ent i hi'
    obtain ⟨z, hz1, _, hz2, _⟩ := trel_get tr hy1
    refine next_key_item st hgd hdt hsz (Array.getElem?_eq_getElem hi') fun h' st' sb => ?_
    have I1 : Inv X pins σ H { s with heap := h' } := I.turned (t' := s.toks) (fun b ob hb e => (sb.2 b hb).trans e) f0 f1 f3 f4 f5
    obtain ⟨oi, e, c, dd⟩ := id st'
    exact ⟨es'[i].key, rfl, go_of (s := { s with heap := h' }) e c dd (by decide) ⟨.ref z.2.1, H, I1, by rw [hy2, hz2]; rfl, ⟨rfl, z, hz1, rfl⟩, st', fun b hb => (hf b hb).1⟩⟩
  done := by
    intro X hP hw hK hc i pins s σ H E I hf st hg
    subst hP hw hK
    obtain ⟨hd, hi⟩ := hg
    obtain ⟨f0, f1, f2, f3, f4, f5⟩ := hf it (by simp)
    obtain ⟨us, es', ep', tr, hdt, hgd, hx, hraw, hs, hz, hsz, ent⟩ := dit_raw I hd
    obtain ⟨rfl, rfl⟩ := dict_ep hod hdt
    exact next_key_end (I.ok.hd hc) st hgd hdt hsz hi fun h' eb => ⟨rfl, I.turned (t' := s.toks) (fun b ob hb e => eb b ob hb e) f0 f1 f3 f4 f5⟩
  self := fun A i s Q E st h => by
    refine wpAny_pyIter_slot st.typeIs F.slot_dict_keyiterator_iter (wpAny_call_entry F.slot_dict_keyiterator_iter st.typeIs F.entry_dict_keyiterator_iter ?_ (F.args_dict_keyiterator_iter_1 _))
    show wpAny _ _ (ret (.ref it)) _ _ s
    exact wpAny_pure ⟨_, rfl, "dict_keyiterator", _, st.typeIs, F.slot_dict_keyiterator_next.lookup, h⟩
end
section
variable {X : Cx} {own : List Nat} {tg e : Expr} {td : TE} {fe : EF}
def iKeysX (td : TE) : TI := fun σ H R => td σ H fun x H1 => ∃ d o xs, x = .ref d ∧ H1 d = some (DitO d o xs) ∧ R (ItX d o xs) H1
theorem pi_keysX (he : PE X e td) : PI X tg e (iKeysX td) := by
  refine ⟨fun pins s σ H R I h => ?_⟩
  refine thn (he.run pins s σ H _ I h) fun u s1 ⟨x, H1, I1, rx, d, o, xs, ex, hd, q⟩ => ?_
  subst ex
  obtain rfl : u = Value.ref d := rx
  obtain ⟨us, es, ep, tr, hdt, hgd, hx, hraw, hs, hz, hsz, ent⟩ := dit_raw I1 hd
  refine iter_keys hs hgd hx hdt (pi_one (tk := s1.toks) I1 _ (turn_keysX _ hdt) ⟨_, Heap.get?_push_size _ rfl, rfl, ?_⟩ q)
  rw [hsz] <;> rfl
def iX (f : EF) : AF := fun ρ => (f ρ).bind fun r => match r.1 with | .dit ks => some (ks.map (·.1), r.2) | _ => none
theorem ix_dit (h : EX X own e fe) : IX X own tg e (iX fe) := ⟨PI.ent (pi_keysX h.run) fun σ H R ⟨B, ρ, its, ρ', H1, S, e, k⟩ => by
  obtain ⟨v, ρ1, e1, e2⟩ := inv_b1 e
  cases v with
  | dit ks =>
    cases e2
    refine ⟨B, ρ, .dit ks, ρ1, H1, S, e1, fun x H' H1' le S' r => ?_⟩
    simp only [Rep] at r
    obtain ⟨a, o, kv, rfl, q, rx⟩ := r
    refine ⟨a, o, kv, rfl, S'.sub _ _ q, k _ H' H1' le S' fun H2 H3 le2 sub => ⟨fun i p hp => ?_, ⟨sub _ _ (le2.all _ _ q), by rw [List.length_map, rx.length]; exact Nat.le_refl _⟩⟩⟩
    rw [List.getElem?_map] at hp
    obtain ⟨pr, hpr, rfl⟩ := Option.map_eq_some_iff.mp hp
    obtain ⟨y, hy1, hy2, _⟩ := rx.get hpr
    have hlt := (List.getElem?_eq_some_iff.mp hy1).1
    refine ⟨⟨sub _ _ (le2.all _ _ q), hlt⟩, fun z H'' yl => ?_⟩
    obtain ⟨rfl, y', hy3, rfl⟩ := yl
    rw [hy1] at hy3; cases hy3
    exact ⟨H2, Ext.refl sub, hy2.mono le2 _ _⟩
  | _ => cases e2⟩
end

/-! ### methods of built-in types, by values -/
def tyW (X : Cx) (T : String) (x : V) (H : Hp) : Prop := ∀ pins σ (s : Shared) v, Inv X pins σ H s → RelV x v → s.TypeIs v T ∧ ∀ a, v = .ref a → ∃ ob, s.heap.get? a = some ob ∧ ob.dict = none
def tBW (X : Cx) (T : String) (r : V → List V → Hp → VK → Prop) (to : TE) (t : TA) : TE := fun σ H Q => to σ H fun x H1 => tyW X T x H1 ∧ t σ H1 fun xs H2 => r x xs H2 Q
section
variable {X : Cx} {o e : Expr} {es : List Expr} {T id : String} {r : V → List V → Hp → VK → Prop} {to : TE} {t : TA} {apos cpos : Pos} {name : Str}
theorem pe_bmW (pa : PlainAttrs T) (slot : Slot T name id) (hty : typeOf (.builtin id) = pure (.type "method_descriptor")) (hm : MtR X id r) (ho : PE X o to) (ha : PA X (e :: es) t)
    (hbase : attributeBase o name X.env (eval o X.env) = eval o X.env := by rfl)
    (hfew : ((backTo cpos (starEach (e :: es) X.env)).all (fun x => !x.1) && (backToKw cpos (keywordEach [] X.env)).all (fun x => x.1.isSome)
      && decide ((e :: es).length + ([] : List Keyword).length + (if ([] : List Keyword).isEmpty then 0 else 1) < 30)) = true := by rfl)
    (hline : (apos.endLine == cpos.line) = true := by rfl) (hs : starEach (e :: es) X.env = (false, eval e X.env) :: starEach es X.env := by rfl) (hplain : (backTo cpos (starEach es X.env)).any (·.1) = false := by rfl) :
    PE X (.Call (.Attribute o name apos) (e :: es) [] cpos) (tBW X T r to t) := by
  refine ⟨fun pins s σ H Q I h => ?_⟩
  refine wpAny_Call_method_late hbase hfew hline rfl (thn (ho.run pins s σ H _ I h) fun v s1 ⟨x, H1, I1, r1, ty, q1⟩ => ?_)
  obtain ⟨h1, h2⟩ := ty _ _ _ _ I1 r1
  refine ⟨T, id, pa, slot, hty, h1, h2, ?_⟩
  have hA := ha.run cpos pins s1 σ H1 _ I1 q1
  rw [hs] at hA ⊢
  refine Calls.callWith_builtin (by show (false || (backTo cpos (starEach es X.env)).any (·.1)) = false; rw [hplain] <;> rfl) (Calls.evalArgs_plain ?_)
  exact thn hA fun us s2 ⟨vs, H2, I2, r2, q2⟩ => hm pins s2 σ H2 x vs v us Q I2 r1 r2 q2
def tBW0 (X : Cx) (T : String) (r : V → List V → Hp → VK → Prop) (to : TE) : TE := fun σ H Q => to σ H fun x H1 => tyW X T x H1 ∧ r x [] H1 Q
theorem pe_bm0W (pa : PlainAttrs T) (slot : Slot T name id) (hty : typeOf (.builtin id) = pure (.type "method_descriptor")) (hm : MtR X id r) (ho : PE X o to)
    (hbase : attributeBase o name X.env (eval o X.env) = eval o X.env := by rfl) (hline : (apos.endLine == cpos.line) = true := by rfl) : PE X (.Call (.Attribute o name apos) [] [] cpos) (tBW0 X T r to) := by
  refine ⟨fun pins s σ H Q I h => ?_⟩
  refine wpAny_Call_method0_late hbase hline (thn (ho.run pins s σ H _ I h) fun v s1 ⟨x, H1, I1, r1, ty, q1⟩ => ?_)
  obtain ⟨h1, h2⟩ := ty _ _ _ _ I1 r1
  exact ⟨T, id, pa, slot, hty, h1, h2, Calls.callWith_builtin rfl (PySem.evalArgs_none (hm pins s1 σ H1 x [] v [] Q I1 r1 .nil q1))⟩
end
/-- the type of a value -/
def tyOf : PV → String
  | .str _ => "str"
  | .lst _ => "list"
  | .tup _ => "tuple"
  | .dct _ => "dict"
  | .dit _ => "dict"
  | _ => ""
theorem rt_tyW {X : Cx} {T : String} {H1 H : Hp} {p : PV} {x : V} (sub : Sub H1 H) (r : RT X.K H1 H p x) (h : tyOf p = T) (hT : T ≠ "") : tyW X T x H := by
  intro pins σ s v I rv
  subst h
  cases p with
  | str z =>
    rw [rt_str r] at rv
    obtain ⟨t, rfl⟩ := (show ∃ t, v = Value.str z t from rv)
    exact ⟨typeIs_str s z t, fun _ e => nomatch e⟩
  | lst xs =>
    obtain ⟨a, vs, rfl, q, _⟩ := r
    obtain rfl : v = Value.ref a := rv
    obtain ⟨_, its, n, _, _, ho⟩ := lst_rd I q
    exact ⟨⟨_, ho, rfl⟩, fun b e => by cases e; exact ⟨_, ho, rfl⟩⟩
  | tup xs =>
    have r' : Rep X.K H1 (.tup xs) x := r
    simp only [Rep] at r'
    obtain ⟨a, vs, rfl, t, _⟩ := r'
    obtain rfl : v = Value.ref a := rv
    obtain ⟨its, _, ⟨o, n, ho, hc, hd, _⟩, _⟩ := tup_at I (sub.le.tup t)
    exact ⟨⟨o, ho, hc⟩, fun b e => by cases e; exact ⟨_, ho, hd⟩⟩
  | dct ks =>
    obtain ⟨a, kv, rfl, q, _⟩ := r
    obtain rfl : v = Value.ref a := rv
    obtain ⟨_, hd, vs, _, dd⟩ := dk_rd I.hok q
    refine ⟨dd.typeIs, fun b e => ?_⟩
    cases e
    obtain ⟨ob, _, _, h1, h2, _⟩ := dd
    exact ⟨ob, h1, h2.2.1⟩
  | dit ks =>
    obtain ⟨a, o, kv, rfl, q, _⟩ := r
    obtain rfl : v = Value.ref a := rv
    obtain ⟨us, es, ep, tr, hdt, hgd, hx, _⟩ := dit_raw I q
    exact ⟨⟨o, hgd, hx.1⟩, fun b e => by cases e; exact ⟨_, hgd, hx.2.1⟩⟩
  | _ => exact (hT rfl).elim

/-! a method that changes nothing -/
abbrev GP := PV → List PV → Option PV
def rMp (K : PySem.W.Frag) (g : GP) : V → List V → Hp → VK → Prop := fun x xs H Q => ∃ p ps v H1, Sub H1 H ∧ RT K H1 H p x ∧ RepL K H1 ps xs ∧ g p ps = some v ∧ kV' K v H1 H Q
def rMf (K : PySem.W.Frag) (g : GP) : V → List V → Hp → VK → Prop := fun x xs H Q => ∃ p ps v H1, Sub H1 H ∧ RT K H1 H p x ∧ RepL K H1 ps xs ∧ g p ps = some v ∧ kF K v H1 H Q
def MpV (X : Cx) (id : String) (g : GP) : Prop := MtR X id (rMp X.K g)
def MpF (X : Cx) (id : String) (g : GP) : Prop := MtR X id (rMf X.K g)
theorem MpF.v {X : Cx} {id : String} {g : GP} (h : MpF X id g) : MpV X id g := MtR.imp h fun _ _ _ _ ⟨p, ps, v, H1, s, a, b, e, k⟩ => ⟨p, ps, v, H1, s, a, b, e, kF_of s k⟩
def fMp (T : String) (g : GP) (fo : EF) (fa : AF) : EF := fun ρ => (fo ρ).bind fun r => if tyOf r.1 = T then (fa r.2).bind fun s => (g r.1 s.1).map fun v => (v, s.2) else none
def fMpO (T : String) (i : Nat) (g : GP) (fa : AF) : EF := fun ρ => (look ρ i).bind fun p0 => if tyOf p0 = T then (fa ρ).bind fun s => (look s.2 i).bind fun p => (g p s.1).map fun v => (v, s.2) else none
section
variable {X : Cx} {own io lm : List Nat} {o e : Expr} {es : List Expr} {T id : String} {g : GP} {fo : EF} {ff : AF} {apos cpos pos : Pos} {name : Str} {i : Nat}
theorem ex_mp (hT : T ≠ "") (pa : PlainAttrs T) (slot : Slot T name id) (hty : typeOf (.builtin id) = pure (.type "method_descriptor")) (hm : MpV X id g)
    (ho : EX X own o fo) (ha : AX X own (e :: es) ff)
    (hbase : attributeBase o name X.env (eval o X.env) = eval o X.env := by rfl)
    (hfew : ((backTo cpos (starEach (e :: es) X.env)).all (fun x => !x.1) && (backToKw cpos (keywordEach [] X.env)).all (fun x => x.1.isSome)
      && decide ((e :: es).length + ([] : List Keyword).length + (if ([] : List Keyword).isEmpty then 0 else 1) < 30)) = true := by rfl)
    (hline : (apos.endLine == cpos.line) = true := by rfl) (hs : starEach (e :: es) X.env = (false, eval e X.env) :: starEach es X.env := by rfl) (hplain : (backTo cpos (starEach es X.env)).any (·.1) = false := by rfl) :
    EX X own (.Call (.Attribute o name apos) (e :: es) [] cpos) (fMp T g fo ff) := ⟨PE.ent (pe_bmW pa slot hty hm ho.run ha.run hbase hfew hline hs hplain) fun σ H Q ⟨B, ρ, v, ρ', H1, S, e, k⟩ => by
  obtain ⟨p, ρ1, e1, e⟩ := inv_b1 e
  dsimp only at e
  split at e
  · rename_i hty
    obtain ⟨⟨vs, ρ2⟩, e2, e⟩ := Option.bind_eq_some_iff.mp e
    obtain ⟨u, e3, e4⟩ := Option.map_eq_some_iff.mp e
    cases e4
    refine ⟨B, ρ, p, ρ1, H1, S, e1, fun x H2 H12 l2 S2 r2 => ⟨rt_tyW S2.sub (r2.rt S2.sub.le) hty hT, B, ρ1, vs, ρ2, H12, S2, e2, fun xs H3 H13 l3 S3 rs => ?_⟩⟩
    exact ⟨p, vs, v, H13, S3.sub, (r2.mono l3 _ _).rt S3.sub.le, rs, e3, fun z H4 H14 ex rz => k z H4 H14 ((l2.trans l3).trans ex.le) (S3.ext ex) rz⟩
  · cases e⟩
theorem ex_mpO (hT : T ≠ "") (pa : PlainAttrs T) (slot : Slot T name id) (hty : typeOf (.builtin id) = pure (.type "method_descriptor")) (hm : MpV X id g)
    (ho : PE X o (tVar i)) (hi : i ∈ own) (ha : AX X own (e :: es) ff)
    (hbase : attributeBase o name X.env (eval o X.env) = eval o X.env := by rfl)
    (hfew : ((backTo cpos (starEach (e :: es) X.env)).all (fun x => !x.1) && (backToKw cpos (keywordEach [] X.env)).all (fun x => x.1.isSome)
      && decide ((e :: es).length + ([] : List Keyword).length + (if ([] : List Keyword).isEmpty then 0 else 1) < 30)) = true := by rfl)
    (hline : (apos.endLine == cpos.line) = true := by rfl) (hs : starEach (e :: es) X.env = (false, eval e X.env) :: starEach es X.env := by rfl) (hplain : (backTo cpos (starEach es X.env)).any (·.1) = false := by rfl) :
    EX X own (.Call (.Attribute o name apos) (e :: es) [] cpos) (fMpO T i g ff) := ⟨PE.ent (pe_bmW pa slot hty hm ho ha.run hbase hfew hline hs hplain) fun σ H Q ⟨B, ρ, v, ρ', H1, S, e, k⟩ => by
  obtain ⟨p0, e1, e⟩ := Option.bind_eq_some_iff.mp e
  split at e
  · rename_i hty
    obtain ⟨⟨vs, ρ2⟩, e2, e⟩ := Option.bind_eq_some_iff.mp e
    obtain ⟨p, e5, e⟩ := Option.bind_eq_some_iff.mp e
    obtain ⟨u, e3, e4⟩ := Option.map_eq_some_iff.mp e
    cases e4
    obtain ⟨a, h1, h2, h3, h4⟩ := S.ow i p0 hi (look_iff.mp e1)
    refine ⟨_, h1, rt_tyW S.sub h4.rt hty hT, B, ρ, vs, ρ2, H1, S, e2, fun xs H3 H13 l3 S3 rs => ?_⟩
    obtain ⟨a', g1, g2, g3, g4⟩ := S3.ow i p hi (look_iff.mp e5)
    rw [h1] at g1
    obtain rfl : a = a' := by injection g1 with q; injection q with q; injection q
    exact ⟨p, vs, v, H13, S3.sub, g4.rt, rs, e3, fun z H4 H14 ex rz => k z H4 H14 (l3.trans ex.le) (S3.ext ex) rz⟩
  · cases e⟩
/-- a method that changes an own thing, its type told by the value -/
def fMuT (T : String) (i : Nat) (g : GM) (f : AF) : EF := fun ρ => (look ρ i).bind fun p0 => if tyOf p0 = T then (f ρ).bind fun r => (look r.2 i).bind fun p => (g p r.1).bind fun q => some (q.1, r.2.set i (some q.2)) else none
theorem ex_muT {g : GM} (hT : T ≠ "") (pa : PlainAttrs T) (slot : Slot T name id) (hty : typeOf (.builtin id) = pure (.type "method_descriptor")) (hm : MtI X id g)
    (ho : PE X o (tVar i)) (hi : i ∈ own) (ha : AX X own (e :: es) ff)
    (hbase : attributeBase o name X.env (eval o X.env) = eval o X.env := by rfl)
    (hfew : ((backTo cpos (starEach (e :: es) X.env)).all (fun x => !x.1) && (backToKw cpos (keywordEach [] X.env)).all (fun x => x.1.isSome)
      && decide ((e :: es).length + ([] : List Keyword).length + (if ([] : List Keyword).isEmpty then 0 else 1) < 30)) = true := by rfl)
    (hline : (apos.endLine == cpos.line) = true := by rfl) (hs : starEach (e :: es) X.env = (false, eval e X.env) :: starEach es X.env := by rfl) (hplain : (backTo cpos (starEach es X.env)).any (·.1) = false := by rfl) :
    EX X own (.Call (.Attribute o name apos) (e :: es) [] cpos) (fMuT T i g ff) := ⟨PE.ent (pe_bmW pa slot hty hm ho ha.run hbase hfew hline hs hplain) fun σ H Q ⟨B, ρ, v, ρ', H1, S, e, k⟩ => by
  obtain ⟨p0, e1, e⟩ := Option.bind_eq_some_iff.mp e
  split at e
  · rename_i hty
    obtain ⟨⟨vs, ρ2⟩, e2, e⟩ := Option.bind_eq_some_iff.mp e
    obtain ⟨p, e5, e⟩ := Option.bind_eq_some_iff.mp e
    obtain ⟨⟨u, w'⟩, e3, e4⟩ := Option.bind_eq_some_iff.mp e
    cases e4
    obtain ⟨a, h1, h2, h3, h4⟩ := S.ow i p0 hi (look_iff.mp e1)
    refine ⟨_, h1, rt_tyW S.sub h4.rt hty hT, B, ρ, vs, ρ2, H1, S, e2, fun xs H3 H13 l3 S3 rs => ?_⟩
    obtain ⟨a', g1, g2, g3, g4⟩ := S3.ow i p hi (look_iff.mp e5)
    rw [h1] at g1
    obtain rfl : a = a' := by injection g1 with q; injection q with q; injection q
    exact ⟨p, vs, u, w', H13, a, rfl, S3.sub, g4, rs, e3, fun o z ro rz => k z _ H13 l3 (S3.write hi (look_iff.mp e5) h1 ro) rz⟩
  · cases e⟩
end

/-! get, pop of dicts with tuple keys -/
def gGetX : GP := fun p ps => match p, ps with
  | .dit ks, [q, r] => if isTKey q = true then some ((findX ks q).getD r) else none
  | _, _ => none
section
variable {X : Cx}
theorem mp_getX (hu : X.A.units + 65 < cLine) : MpV X "dict.get" gGetX := by
  intro pins s σ H x xs v us Q I rx rs ⟨p, ps, w', H1, sub, a, b, e, k⟩
  unfold gGetX at e
  split at e
  · rename_i ks q r
    split at e
    · rename_i hk
      cases e
      obtain ⟨key, hkey⟩ := isTKey_get hk
      obtain ⟨d, o, kv, rfl, rd, rk⟩ := a
      obtain ⟨y, t, rfl, rq, rt⟩ := RepL.cons_iff.mp b
      obtain ⟨z, rfl, rr⟩ := rt.one_iff
      obtain ⟨c, rfl⟩ := rep_tref hkey rq
      obtain ⟨u1, u2, rfl, ru1, ru2⟩ := Vals.two rs
      cases rx
      cases ru1
      obtain ⟨us, tr, dd, hsm, _⟩ := dit_at I sub.le rd rk
      refine call_meetsIn PySem.F.slot_dict_get dd.typeIs PySem.F.entry_dict_get (PySem.F.args_dict_get_3 _ _ _) (meetsH_dict_get_default (nestedKind X.prog X.w) d c hsm u2) ⟨room8 hu, key, us, rep_key_is I sub.le hkey rq, dd, ?_⟩
      have rel := rk.find hkey
      cases h : findX ks q with
      | none =>
        rw [h] at rel
        rw [relo_none tr (rel_none rel)]
        exact ⟨z, H, I.tok _, ru2, k.at sub (by rw [h]; exact rr)⟩
      | some w' =>
        rw [h] at rel
        obtain ⟨y, hy, ry⟩ := rel_some rel
        obtain ⟨pr, hp, rv⟩ := relo_get tr hy
        rw [hp]
        exact ⟨y, H, I.tok _, rv, k.at sub (by rw [h]; exact ry)⟩
    · cases e
  · cases e
def gPopX : GM := fun p ps => match p, ps with
  | .dit ks, [q, r] => if isTKey q = true then (match findX ks q with | some v => some (v, .dit (dropX ks q)) | none => some (r, .dit ks)) else none
  | _, _ => none
theorem dit_write {pins : List (Addr × Obj)} {σ : L2.St} {H1 H : Hp} {s : Shared} {a : Addr} {o : Obj} {kv kv2 : TX3} {ks2 : List (PV × PV)} {us2 : TU3} {h' : Heap} {tk : Nat}
    (I : Inv X pins σ H s) (ha : H a = some (DitO a o kv)) (rk2 : RepX X.K H1 ks2 kv2) (tr2 : TRel kv2 us2) (hn : (a == sysModules) = false) (hz : kv2.length ≤ sizeLine)
    (dd : h'.DictOfH (nestedKind X.prog X.w) a us2) (sb : Heap.SameBut a s.heap h') :
    ∃ ob, Inv X pins σ (upd H a ob) { s with heap := h', toks := tk } ∧ ORep X.K H1 (upd H a ob) a (.dit ks2) := by
  obtain ⟨o', ok', ho'⟩ := dit_of dd tr2 rk2.plain hn hz
  exact ⟨DitO a o' kv2, d_write I (by rw [ha]; exact True.intro) sb ⟨o', ho'⟩ (ok' _), o', _, upd_same, rk2⟩
theorem upd_self' {H : Hp} {a : Addr} {o : HO} (h : H a = some o) : upd H a o = H := by
  funext b; unfold upd; split
  · rename_i e; rw [e, h]
  · rfl
theorem mi_popX (hu : X.A.units + 65 < cLine) : MtI X "dict.pop" gPopX := by
  intro pins s σ H x xs v us Q I rx rs ⟨p, ps, w', w2, H1, a, ex, sub, ro, rl, e, k⟩
  subst ex
  unfold gPopX at e
  split at e
  · rename_i ks q r
    split at e
    · rename_i hk
      obtain ⟨key, hkey⟩ := isTKey_get hk
      obtain ⟨o, kv, rd, rk⟩ := ro
      obtain ⟨y, t, rfl, rq, rt⟩ := RepL.cons_iff.mp rl
      obtain ⟨z, rfl, rr⟩ := rt.one_iff
      obtain ⟨c, rfl⟩ := rep_tref hkey rq
      obtain ⟨u1, u2, rfl, ru1, ru2⟩ := Vals.two rs
      cases rx
      cases ru1
      obtain ⟨us, tr, dd, hsm, hz, hl⟩ := dit_at I sub.le rd rk
      have rel := rk.find hkey
      cases h : findX ks q with
      | none =>
        rw [h] at rel e
        cases e
        refine call_pop_default_heap (hsz := by omega) (room8 hu) (rep_key_is I sub.le hkey rq) hsm dd (relo_none tr (rel_none rel)) fun tk => ⟨z, H, I.tok _, ru2, ?_⟩
        have := k (DitO a o kv) z ⟨o, kv, upd_same, rk⟩ rr
        rw [upd_self' rd] at this
        exact this
      | some w' =>
        rw [h] at rel e
        cases e
        obtain ⟨y, hy, ry⟩ := rel_some rel
        obtain ⟨pr, hp, rv⟩ := relo_get tr hy
        refine call_pop_heap (hsz := by omega) (.inr ⟨u2, rfl⟩) (PySem.F.args_dict_pop_3 _ _ _) (room8 hu) (rep_key_is I sub.le hkey rq) hsm dd hp fun h' dd' hs => ?_
        obtain ⟨ob, I', ro'⟩ := dit_write (tk := s.toks + (nestedKind X.prog X.w).draws key) I rd (rk.drop hkey) (tr.drop key) hsm (Nat.le_trans (dropV_len kv key) hz) dd' hs
        exact ⟨y, _, I', rv, k ob y ro' ry⟩
    · cases e
  · cases e
end
end PT

set_option Elab.async false
set_option linter.all false
set_option autoImplicit false
set_option maxRecDepth 100000
set_option maxHeartbeats 4000000
/-! PT18: dict comprehensions, displays, dict(..), ==, sorted of dicts with tuple keys. -/
namespace PT
open PySem PySem.Spec PyProof.Rows L2

/-! ### dict comprehensions -/
/-- a store by a comprehension -/
def DSetOk (g : GS) : Prop := ∀ (Y : Cx) (pins : List (Addr × Obj)) (σ : L2.St) (H : Hp) (s : Shared) (E : Value → Shared → Prop) (D : Addr) (y z : V) (u r : Value) (Qd : Hp → Prop) (Q : Unit → Shared → Prop), Y.A.units + 65 < cLine →
  Inv Y pins σ H s → rSt Y.K g (.ref D) y z H Qd → RelV y u → RelV z r → (∀ H' s', Inv Y pins σ H' s' → Qd H' → Q () s') → wpAny (model Y.prog Y.w) Y.A (dictSet D u r) Q E s
theorem room8' {X : Cx} {A : Around} (hu : A.units + 65 < cLine) : (nestedKind X.prog X.w).room A := by
  show A.units + 8 < cLine
  omega
theorem dset_K : DSetOk gSetD := by
  intro Y pins σ H s E D y z u r Qd Q hu I ⟨p, pi, pv, w', H1, a, e1, sub, ro, ri, rv, e, k⟩ ru rr h
  cases e1
  unfold gSetD at e
  split at e
  · rename_i ks
    split at e
    · rename_i hc
      rw [Bool.and_eq_true, decide_eq_true_eq] at hc
      cases e
      obtain ⟨key, hkey⟩ := isKey_get hc.1
      obtain ⟨kv, hd, rk⟩ := ro
      have hb : y = kV key := rep_key hkey ri
      subst hb
      exact d_dictSet I hd (by rw [rk.length, sizeLine_eq]; omega) ru rr fun s' I' => h _ s' I' (k _ ⟨_, upd_same, rk.put hkey rv⟩)
    · cases e
  · cases e
theorem dset_X : DSetOk gSetX := by
  intro Y pins σ H s E D y z u r Qd Q hu I ⟨p, pi, pv, w', H1, a, e1, sub, ro, ri, rv, e, k⟩ ru rr h
  cases e1
  unfold gSetX at e
  split at e
  · rename_i ks
    split at e
    · rename_i hc
      rw [Bool.and_eq_true, decide_eq_true_eq] at hc
      cases e
      obtain ⟨key, hkey⟩ := isTKey_get hc.1
      obtain ⟨o, kv, hd, rk⟩ := ro
      obtain ⟨b, rfl⟩ := rep_tref hkey ri
      cases ru
      obtain ⟨us, tr, dd, hsm, hz, hl⟩ := dit_at I sub.le hd rk
      have hz' : kv.length < sizeLine := by rw [rk.length, sizeLine_eq]; omega
      refine wpAny_dictSet_heap (hsz := by omega) (room8' hu) (rep_key_is I sub.le hkey ri) dd fun h' dd' hs => ?_
      obtain ⟨ob, I', ro'⟩ := dit_put (tk := s.toks + (nestedKind Y.prog Y.w).draws key) I sub hd rk tr hkey ri rv rr hsm hz' dd' hs
      exact h _ _ I' (k ob ro')
    · cases e
  · cases e
section
variable {X : Cx}
def tDcG (K : PySem.W.Frag) (mk : Addr → HO) (gs : GS) (wi : TI) (g : TG) (tt : TT) (tk tv : TE) (vs : List Nat) : TE := fun σ H Q => wi σ H fun J H1 => ∀ D, H1 D = none → ∃ W : Nat → Nat → Hp → Prop, (∃ m, W 0 m (upd H1 D (mk D))) ∧ ∀ i m H, W i m H →
  (J.stop i H ∧ Q (.ref D) H) ∨ (J.go i H ∧ ∃ Nx : Hp → Prop, (∀ H', Nx H' → ∃ m', m' < m ∧ W (i + 1) m' H') ∧ ∀ x H', J.yld i H x H' → g x (wipe σ vs) H' fun σ2 H2 => wipe σ2 vs = wipe σ vs ∧ tt σ2 H2 fun b H3 =>
    if b = true then tk σ2 H3 fun y H4 => tv σ2 H4 fun z H5 => rSt K gs (.ref D) y z H5 Nx else Nx H3)
/-- the run of a dict comprehension of one clause, its dict of any kind that the layer tells -/
theorem dcG_run {mk : Addr → HO} {gs : GS} {kx vx tg iter : Expr} {ifs : List Expr} {sc : Scope} {nm : List (Str × Nat)} {pos pos' : Pos} {wi : TI} {g : TG} {tt : TT} {tk tv : TE} {use : Option (Value → Sem Unit)} {Qf : Value → Shared → Prop} {pins : List (Addr × Obj)} {s : Shared} {σ : L2.St} {H : Hp} {Q : VK}
    (hds : DSetOk gs) (hu : X.A.units + 65 < cLine) (hmk : ∀ (H : Hp) (h : Heap), sysModules < h.objs.size → ObjOk X.prog X.w H (h.push { cls := .type "dict", data := .dict #[] }) h.objs.size (mk h.objs.size))
    (calm : X.calm = true) (nod : X.N.Nodup) (inv : Inv X pins σ H s) (pit : PI X tg iter wi) (blk : BlkOk X.N X.env.scope sc nm)
    (parts : ∀ (s : Shared) (H : Hp) (C : Addr) (cl : List (Str × Addr)) (fp : List Addr), PG (X.blk s H sc (compEnvC sc cl C X.env) fp) tg g ∧ PTs (X.blk s H sc (compEnvC sc cl C X.env) fp) ifs tt ∧ PE (X.blk s H sc (compEnvC sc cl C X.env) fp) kx tk ∧ PE (X.blk s H sc (compEnvC sc cl C X.env) fp) vx tv)
    (plainIt : ∀ x, foldedSetIterable iter X.env x = pure x) (rd : tDcG X.K mk gs wi g tt tk tv (nm.map (·.2)) σ H Q)
    (fin : ∀ D C s' m H', Inv X pins σ H' s' → Q (.ref D) H' → s'.heap.Ns C m → FpOk X pins H' C → compPost (model X.prog X.w) X.A X.xe use Qf (.ref D) C (.ok .next) s') :
    wpAny (model X.prog X.w) X.A (comprehension (.DictComp kx vx [⟨tg, iter, ifs, 0⟩] sc pos) sc X.env pos' newDict false (eval iter X.env) use) Qf X.xe s := by
  have cells : ∀ y ∈ sc.names, y.2 = .free → ∃ c, X.env.cells.lookup y.1 = some c := by
    intro y hy ey
    cases blk.free y hy ey with
    | inl k => exact inv.ok.has _ (.inl k)
    | inr k => exact inv.ok.has _ (.inr k)
  refine wpAny_comprehension_free (use := use) rfl plainIt (closure_ok cells) blk.kind (fun y hy ey => by rw [blk.uniq y hy, ey]) ?_
  refine thn (pit.run pins s σ H _ inv rd) fun _ sA hA => thn hA fun _ sB hB => ?_
  obtain ⟨it, fp, tn, J, HB, rfl, invB, T, stB, fB, turns⟩ := hB
  refine wpAny_newObj_type (newEnv_comp ?_)
  generalize eD : sB.heap.objs.size = D
  have freeD : HB D = none := invB.hok.fresh (Nat.le_of_eq eD)
  obtain ⟨W, ⟨m0, start⟩, turn⟩ := turns D freeD
  -- behind the new dict
  generalize eC : ({ sB with heap := sB.heap.push { cls := .type "dict", data := .dict #[] } } : Shared) = sC
  obtain ⟨HC, eH⟩ : ∃ HC : Hp, HC = L2.upd HB D (mk D) := ⟨_, rfl⟩
  have heapC : sC.heap = sB.heap.push { cls := .type "dict", data := .dict #[] } := by rw [← eC]
  have invC : Inv X pins σ HC sC := by
    subst eC eH eD
    exact invB.laid (t' := sB.toks) (fun b o e => Heap.get?_push_of_some _ e) (Nat.le_refl _) (hmk _ sB.heap invB.big)
  have small : ∀ b ∈ fp, b < sB.heap.objs.size := fun b hb => let ⟨_, e, _⟩ := T.obj _ _ stB b hb; Heap.lt_size e
  have fC : ∀ b ∈ fp, FpOk X pins HC b ∧ b < sC.heap.objs.size := by
    intro b hb
    have lt := small b hb
    have ne : b ≠ D := by rw [← eD]; exact Nat.ne_of_lt lt
    refine ⟨⟨by rw [eH, upd_ne ne]; exact (fB b hb).1, (fB b hb).2⟩, ?_⟩
    rw [heapC, Heap.size_push]
    exact Nat.lt_succ_of_lt lt
  have stC : tn 0 sC.heap := T.keep _ _ _ stB fun b _ o e => by rw [heapC]; exact Heap.get?_push_of_some _ e
  have invD := block_start invC blk nod fC
  obtain ⟨pg, pt, pk, pv⟩ := parts sC HC sC.heap.objs.size (cellsFrom (sC.heap.objs.size + 1) sc.names (cloFrom X.env.cells sc.names [])) fp
  have noFp : ∀ b ∈ fp, HC b = none := fun b hb => (fC b hb).1.1
  obtain ⟨ce, ece⟩ : ∃ ce, ce = compEnvC sc (cellsFrom (sC.heap.objs.size + 1) sc.names (cloFrom X.env.cells sc.names [])) sC.heap.objs.size X.env := ⟨_, rfl⟩
  obtain ⟨sD, eS⟩ : ∃ sD : Shared, sD = { sC with heap := pushCells (sC.heap.push { cls := .type "dict", data := .dict #[] }) sc.names } := ⟨_, rfl⟩
  rw [← ece] at invD pg pt pk pv
  have loc : ce.locals = sC.heap.objs.size := by rw [ece]; rfl
  have stD : tn 0 sD.heap := T.keep _ _ _ stC fun b _ o e => by rw [eS]; exact pushCells_keeps _ _ _ _ (Heap.get?_push_of_some _ e)
  suffices loop : codeAny (model X.prog X.w) X.A (.compLoop (.DictComp kx vx [⟨tg, iter, ifs, 0⟩] sc pos) 0 (.ref it) (.ref D) ce) (compPost (model X.prog X.w) X.A X.xe use Qf (.ref D) sC.heap.objs.size) sD by
    have r := codeAny_compStart_dict loop (T.self X.A 0 _ _ _ stD loop)
    rw [ece, eS] at r
    exact r
  -- what holds at each turn
  let Y := X.blk sC HC sc ce fp
  have okFp : ∀ {σ' : L2.St} {H' : Hp} {s' : Shared}, Inv Y [] σ' H' s' → (∀ b ∈ fp, H' b = none) → ∀ b ∈ fp, FpOk Y [] H' b := by
    intro σ' H' s' I' hn b hb
    exact ⟨hn b hb, (I'.ok.exf b hb).1, I'.ok.exfs b hb, .inl hb, fun x c e => (I'.ok.exf b hb).2 x c e, fun p hp => absurd (show p ∈ ([] : List (Addr × Obj)) ++ [] from hp) (by simp)⟩
  have invD' : Inv Y [] (wipe σ (nm.map (·.2))) HC sD := by rw [eS]; exact invD
  have w0 : W 0 m0 HC := by rw [eH]; exact start
  refine compLoop_anyD (fun n s' => ∃ i H', Inv Y [] (wipe σ (nm.map (·.2))) H' s' ∧ tn i s'.heap ∧ (∀ b ∈ fp, H' b = none) ∧ W i n H') ?_ m0 ⟨0, HC, invD', stD, noFp, w0⟩
  rintro n sE ⟨i, HE, invE, stE, nE, wE⟩
  rcases turn i n HE wE with ⟨stop, post⟩ | ⟨go, Nx, hNx, step⟩
  · refine thnF (T.done Y rfl rfl rfl calm i [] sE _ HE (fun _ _ => False) invE (okFp invE nE) stE stop) fun r sF hF => ?_
    obtain ⟨rfl, invF⟩ := hF
    have back : Inv X pins σ HE sF := invC.call' (ch := fp) invF.os invF.base invF.hok invF.bare fun b hb => by
      obtain ⟨⟨_, q1, q2, q3, q4, q5⟩, _⟩ := fC b hb
      exact ⟨q3, q1, q4, q5⟩
    have free : HE sC.heap.objs.size = none := by
      have q : HE ce.locals = none := invF.free
      rwa [loc] at q
    obtain ⟨m, hm, _⟩ := invF.loc
    have hm' : sF.heap.Ns ce.locals m := hm
    rw [loc] at hm'
    exact fin D sC.heap.objs.size sF m HE back post hm' (invC.fpOk (Nat.le_refl _) free)
  · refine thnF (T.item Y rfl rfl rfl calm i [] sE _ HE (fun _ _ => False) invE (okFp invE nE) stE go) fun r sF hF => ?_
    obtain ⟨u, rfl, hF⟩ := hF
    refine thnF hF fun _ sG hG => ?_
    obtain ⟨x, HG, invG, rx, yx, stG, nG⟩ := hG
    have pinned := invG.pinned (okFp invG nG) (T.obj _ _ stG)
    refine thnF (pg.run _ sG _ HG x u _ pinned rx (step x HG yx)) fun _ sI hI => ?_
    obtain ⟨σI, HI, invI, same, qI⟩ := hI
    refine thnF (pt.run _ sI σI HI _ invI qI) fun b sJ hJ => ?_
    obtain ⟨HJ, invJ, qJ⟩ := hJ
    have len : (wipe σ (nm.map (·.2))).length = σI.length := by rw [← same, wipe_length]
    have close : ∀ {s' : Shared} {H' : Hp}, Inv Y ([] ++ pinsAt fp sG.heap) σI H' s' → Nx H' → ∃ m, m < n ∧ ∃ i H', Inv Y [] (wipe σ (nm.map (·.2))) H' s' ∧ tn i s'.heap ∧ (∀ b ∈ fp, H' b = none) ∧ W i m H' := by
      intro s' H' I' nx
      obtain ⟨m', lt, w'⟩ := hNx H' nx
      have stays : ∀ b ∈ fp, ∀ o, sG.heap.get? b = some o → s'.heap.get? b = some o ∧ H' b = none := by
        intro b hb o e
        have q := I'.pin (b, o) (List.mem_append_right _ (List.mem_append_right _ (mem_pinsAt hb e)))
        exact ⟨q.1, q.2.1⟩
      refine ⟨m', lt, i + 1, H', (I'.unpinned (pins := [])).weak len (fun j v e => ?_), T.keep _ _ _ stG fun b hb o e => (stays b hb o e).1, fun b hb => ?_, w'⟩
      · rw [← same] at e; exact (wipe_some e).1
      · obtain ⟨o, e, _⟩ := T.obj _ _ stG b hb
        exact (stays b hb o e).2
    cases b with
    | false =>
      simp only [Bool.false_eq_true, if_false] at qJ ⊢
      exact close invJ qJ
    | true =>
      simp only [if_true] at qJ ⊢
      refine thnF (pk.run _ sJ σI HJ _ invJ qJ) fun z sK hK => ?_
      obtain ⟨yk, HK, invK, rk, qK⟩ := hK
      refine thnF (pv.run _ sK σI HK _ invK qK) fun z2 sL hL => ?_
      obtain ⟨yv, HL, invL, rv, nx⟩ := hL
      exact hds Y _ _ HL sL _ D yk yv z z2 Nx _ hu invL nx rk rv fun HM sM invM nM => close invM nM

def Parts (X : Cx) (sc : Scope) (tg : Expr) (ifs : List Expr) (kx vx : Expr) (g : TG) (tt : TT) (tk tv : TE) : Prop :=
  ∀ (s : Shared) (H : Hp) (C : Addr) (cl : List (Str × Addr)) (fp : List Addr), PG (X.blk s H sc (compEnvC sc cl C X.env) fp) tg g ∧ PTs (X.blk s H sc (compEnvC sc cl C X.env) fp) ifs tt ∧ PE (X.blk s H sc (compEnvC sc cl C X.env) fp) kx tk ∧ PE (X.blk s H sc (compEnvC sc cl C X.env) fp) vx tv
def MkOk (mk : Addr → HO) : Prop := ∀ (P : Program) (w : World) (H : Hp) (h : Heap), sysModules < h.objs.size → ObjOk P w H (h.push { cls := .type "dict", data := .dict #[] }) h.objs.size (mk h.objs.size)
theorem mk_K : MkOk (fun _ => .dK []) := fun P w H h hb => dk_empty h hb
def mkX (D : Addr) : HO := DitO D { cls := .type "dict", data := .dict #[] } []
theorem mk_X : MkOk mkX := fun P w H h hb => dit_empty' h hb
theorem pe_dcG {mk : Addr → HO} {gs : GS} {kx vx tg iter : Expr} {ifs : List Expr} {sc : Scope} {nm : List (Str × Nat)} {pos : Pos} {wi : TI} {g : TG} {tt : TT} {tk tv : TE} (hds : DSetOk gs) (hu : X.A.units + 65 < cLine) (hmk : MkOk mk)
    (calm : X.calm = true) (nod : X.N.Nodup) (pit : PI X tg iter wi) (blk : BlkOk X.N X.env.scope sc nm) (parts : Parts X sc tg ifs kx vx g tt tk tv) (plainIt : ∀ x, foldedSetIterable iter X.env x = pure x := by intro _; rfl) :
    PE X (.DictComp kx vx [⟨tg, iter, ifs, 0⟩] sc pos) (tDcG X.K mk gs wi g tt tk tv (nm.map (·.2))) := by
  refine ⟨fun pins s σ H Q inv rd => ?_⟩
  rw [arm_eval_DictComp]
  refine dcG_run hds hu (fun H h => hmk _ _ H h) calm nod inv pit blk parts plainIt rd fun D C s' m H' I' q hm f => ⟨m, hm, fun h2 sb => ?_⟩
  obtain ⟨g0, g1, g2, g3, g4, g5⟩ := f
  exact ⟨.ref D, H', I'.turned (t' := s'.toks) (fun b o hb e => (sb.2 b hb).trans e) g0 g1 g3 g4 g5, rfl, q⟩
theorem ps_setDcG {mk : Addr → HO} {gs : GS} {i : Nat} {y : Str} {py : Pos} {kx vx tg iter : Expr} {ifs : List Expr} {sc : Scope} {nm : List (Str × Nat)} {pos spos : Pos} {wi : TI} {g : TG} {tt : TT} {tk tv : TE} (hds : DSetOk gs) (hu : X.A.units + 65 < cLine) (hmk : MkOk mk)
    (calm : X.calm = true) (nod : X.N.Nodup) (hy : X.N[i]? = some y) (hyl : X.env.scope.names.lookup y = some .local)
    (hsw : swapsWith (.DictComp kx vx [⟨tg, iter, ifs, 0⟩] sc pos) (some (.Name y py)) spos.line X.env = pure true) (pit : PI X tg iter wi) (blk : BlkOk X.N X.env.scope sc nm) (parts : Parts X sc tg ifs kx vx g tt tk tv) (plainIt : ∀ x, foldedSetIterable iter X.env x = pure x := by intro _; rfl) :
    PS X (.Assign [.Name y py] (.DictComp kx vx [⟨tg, iter, ifs, 0⟩] sc pos) spos) (tAsg (tDcG X.K mk gs wi g tt tk tv (nm.map (·.2))) (gName i)) := by
  refine ⟨fun pins s σ H D inv rd => ?_⟩
  rw [exec_Assign_Name_used _ _ _ _ hsw]
  refine wpAny_bind (wpAny_standAt (wpAny_bind ?_))
  have rd' : tDcG X.K mk gs wi g tt tk tv (nm.map (·.2)) σ H (fun x H1 => gName i x σ H1 D.nx) := rd
  show wpAny _ X.A (do let _ ← comprehension (.DictComp kx vx [⟨tg, iter, ifs, 0⟩] sc pos) sc X.env (firstIterPos [⟨tg, iter, ifs, 0⟩] pos) newDict false (eval iter X.env) (some (assign (.Name y py) X.env))) _ _ s
  refine wpAny_bind (thn (dcG_run (Qf := fun _ s' => SP X pins D .next s') hds hu (fun H h => hmk _ _ H h) calm nod inv pit blk parts plainIt rd' fun L C s' m H' I' q hm f => ?_) fun _ s' hq => wpAny_pure (wpAny_pure hq))
  show wpAny _ _ (assign (.Name y py) X.env (.ref L)) _ _ _
  refine wpAny_assign_Name (store_ok2 (v := V.ref L) I' nod hy (.inl hyl) rfl (fun s2 I2 hs2 => ?_) (.inr hyl))
  obtain ⟨a, sb, ha⟩ := hs2
  obtain ⟨g0, g1, g2, g3, g4, g5⟩ := f
  have neC : C ≠ a := by
    cases ha with
    | inl z => rw [z]; exact g1
    | inr z => exact fun e => g4 y a z e.symm
  exact ⟨m, hm.sameBut sb neC, fun h3 sb3 => ⟨_, H', I2.turned (t' := s2.toks) (fun b o hb e => (sb3.2 b hb).trans e) g0 g1 g3 g4 g5, q⟩⟩
end

/-! .. by values -/
def dcLoop (gs : GS) (vs : List Nat) (t : PV → Env → Option Env) (ft : TF) (fk fe : EF) : List PV → Env → PV → Option (PV × Env)
  | [], ρ, acc => some (acc, ρ)
  | p :: ps, ρ, acc => (t p (wipeP ρ vs)).bind fun ρ1 => (ft ρ1).bind fun r => if r.1 = true then (fk r.2).bind fun s => (fe s.2).bind fun u => (gs acc s.1 u.1).bind fun acc2 => dcLoop gs vs t ft fk fe ps (backP ρ vs u.2) acc2
    else dcLoop gs vs t ft fk fe ps (backP ρ vs r.2) acc
def fDC (gs : GS) (p0 : PV) (vs : List Nat) (its : AF) (t : PV → Env → Option Env) (ft : TF) (fk fe : EF) : EF := fun ρ => (its ρ).bind fun r => dcLoop gs vs t ft fk fe r.1 r.2 p0
/-- the kind of a dict: how it begins -/
structure DKi (mk : Addr → HO) (gs : GS) (p0 : PV) : Prop where
  set : DSetOk gs
  new : MkOk mk
  rep : ∀ (K : PySem.W.Frag) (H1 H : Hp) (D : Addr), H D = some (mk D) → ORep K H1 H D p0
theorem dki_K : DKi (fun _ => .dK []) gSetD (.dct []) := ⟨dset_K, mk_K, fun K H1 H D h => ⟨[], h, RepK.nil⟩⟩
theorem dki_X : DKi mkX gSetX (.dit []) := ⟨dset_X, mk_X, fun K H1 H D h => ⟨_, [], h, RepX.nil⟩⟩
section
variable {own vs : List Nat} {fi : AF} {t : PV → Env → Option Env} {ft : TF} {fk fe : EF} {K : PySem.W.Frag} {mk : Addr → HO} {gs : GS} {p0 : PV}
theorem ent_dc (dk : DKi mk gs p0) (hv : ∀ k ∈ vs, k ∉ own) : ∀ σ H Q, tF K own (fDC gs p0 vs fi t ft fk fe) σ H Q → tDcG K mk gs (tI K own fi) (tGc K own vs t) (tT K own ft) (tE K own fk) (tE K own fe) vs σ H Q := fun σ H Q ⟨B, ρ, v, ρ', H1, S, e, k⟩ => by
  obtain ⟨its, ρ0, e1, e2⟩ := inv_b1 e
  refine ⟨B, ρ, its, ρ0, H1, S, e1, fun J H' H1' le S' W D hD => ?_⟩
  have h0 : B.H0 D = none := by
    cases q : B.H0 D with
    | none => rfl
    | some o => rw [(S'.fr D o q).1] at hD; cases hD
  have subD : Sub H' (upd H' D (mk D)) := fun b o q => by rw [upd_ne (ne_of_none q hD)]; exact q
  have F0 : FR K own B ρ0 σ H1' (upd H' D (mk D)) D p0 := FR.mk' S' subD hD (dk.rep _ _ _ _ upd_same)
  refine ⟨fun i m H2 => ∃ ρ2 H12 accP ob, LeR H1' H12 ∧ SR K (B.pin D ob) own ρ2 σ H12 H2 ∧ ORep K H12 H2 D accP ∧ i + m = its.length ∧ dcLoop gs vs t ft fk fe (its.drop i) ρ2 accP = some (v, ρ'),
    ⟨its.length, ρ0, H1', p0, mk D, LeR.refl _, F0.sr.pin upd_same F0.n1 F0.ne, dk.rep _ _ _ _ upd_same, by simp, by simpa using e2⟩, ?_⟩
  rintro i m H2 ⟨ρ2, H12, accP, ob, le2, S2, ra, hm, e3⟩
  obtain ⟨w1, w2⟩ := W H12 H2 le2 S2.sub
  by_cases hlt : i < its.length
  · right
    have hd : its.drop i = its[i] :: its.drop (i + 1) := List.drop_eq_getElem_cons hlt
    rw [hd] at e3
    unfold dcLoop at e3
    obtain ⟨ρ3, e4, e5⟩ := Option.bind_eq_some_iff.mp e3
    obtain ⟨b, ρ4, e6, e7⟩ := inv_b1 e5
    obtain ⟨g1, g2⟩ := w1 i its[i] (List.getElem?_eq_getElem hlt)
    refine ⟨g1, fun H5 => ∃ ρ5 H15 accP5 ob5, LeR H1' H15 ∧ SR K (B.pin D ob5) own ρ5 σ H15 H5 ∧ ORep K H15 H5 D accP5 ∧ dcLoop gs vs t ft fk fe (its.drop (i + 1)) ρ5 accP5 = some (v, ρ'),
      fun H5 ⟨ρ5, H15, aP, a5, l5, S5, r5, e8⟩ => ⟨m - 1, by omega, ρ5, H15, aP, a5, l5, S5, r5, by omega, e8⟩, fun x H3 y => ?_⟩
    obtain ⟨H13, ex, rx⟩ := g2 x H3 y
    have S3 := S2.ext ex
    refine ⟨_, wipeP ρ2 vs, its[i], ρ3, H13, S3.wipe hv, rx, e4, fun σ6 H6 H16 l6 S6 eh hlen hσ => ⟨?_, ?_⟩⟩
    · exact wipe_eq (by rw [hlen, wipe_length]) hσ
    · refine ⟨_, ρ3, b, ρ4, H16, S6, e6, fun H7 H17 l7 S7 => ?_⟩
      have lw : LeR H1' H17 := ((le2.trans ex.le).trans l6).trans l7
      have atD : ∀ {ρ' : Env} {σ' : L2.St} {Ha Hb : Hp} {own' : List Nat}, SR K (B.pin D ob) own' ρ' σ' Ha Hb → Hb D = some ob := fun S => (S.fr D ob (by simp [Base.pin])).1
      have ra7 : ORep K H17 H7 D accP := ra.move ((ex.le.trans l6).trans l7) (by rw [atD S7, atD S2])
      cases b with
      | false =>
        refine iteF ⟨backP ρ2 vs ρ4, H17, accP, ob, lw, S3.back S7 (l6.trans l7) hv (by rw [hlen, wipe_length]) (fun l hl => by rw [hσ l hl, wipe_out' hl]), ra7, e7⟩
      | true =>
        obtain ⟨yk, ρ5, e8, e9⟩ := inv_b1 (show (fk ρ4).bind _ = some (v, ρ') from e7)
        obtain ⟨yv, ρ6, e10, e11⟩ := inv_b1 e9
        obtain ⟨acc2, e12, e13⟩ := Option.bind_eq_some_iff.mp e11
        refine iteT ⟨_, ρ4, yk, ρ5, H17, S7, e8, fun zk H8 H18 l8 S8 rk => ⟨_, ρ5, yv, ρ6, H18, S8, e10, fun zv H9 H19 l9 S9 rv => ?_⟩⟩
        have S10 := S3.back S9 (((l6.trans l7).trans l8).trans l9) hv (by rw [hlen, wipe_length]) (fun l hl => by rw [hσ l hl, wipe_out' hl])
        obtain ⟨S11, q1, q2, q3⟩ := S10.unpin h0
        have ra9 : ORep K H19 H9 D accP := ra7.move (l8.trans l9) (by rw [q1, atD S7])
        refine ⟨accP, yk, yv, acc2, H19, D, rfl, S11.sub, ra9, rk.mono l9 _ _, rv, e12, fun o5 ro5 => ⟨backP ρ2 vs ρ6, H19, acc2, o5, (lw.trans l8).trans l9, ?_, ro5, e13⟩⟩
        refine SR.pin ⟨S11.len, fun b o q => ?_, fun b o q => ?_, S11.sh, fun l v hl hv' => ?_, S11.ds, S11.io⟩ upd_same q2 q3
        · have : b ≠ D := fun z => by rw [z, q2] at q; cases q
          rw [upd_ne this]; exact S11.sub b o q
        · obtain ⟨p1, p2⟩ := S11.fr b o q
          have : b ≠ D := fun z => by rw [z, h0] at q; cases q
          exact ⟨by rw [upd_ne this]; exact p1, p2⟩
        · obtain ⟨a, p1, p2, p3, p4⟩ := S11.ow l v hl hv'
          have : a ≠ D := fun z => q3 l v hl hv' (by rw [p1, z])
          exact ⟨a, p1, p2, p3, p4.move (LeR.refl _) (upd_ne this)⟩
  · left
    have hl : i = its.length := by omega
    rw [hl] at e3
    simp only [List.drop_length, dcLoop] at e3
    cases e3
    obtain ⟨S10, q1, q2, q3⟩ := S2.unpin h0
    exact ⟨by rw [hl]; exact w2, k D H2 H12 (le.trans le2) ⟨S10, h0, q2, ra, q3⟩⟩
end
section
variable {X : Cx} {own own' io lm vs : List Nat} {kx vx tg iter : Expr} {ifs : List Expr} {scope : Scope} {nm : List (Str × Nat)} {pos spos py : Pos} {fi : AF} {t : PV → Env → Option Env} {ft : TF} {fk fe : EF} {i : Nat} {y : Str} {mk : Addr → HO} {gs : GS} {p0 : PV}
theorem en_dc (dk : DKi mk gs p0) (hu : X.A.units + 65 < cLine) (hc : X.calm = true) (hN : X.N.Nodup) (hi : IX X own tg iter fi) (ok : BlkOk X.N X.env.scope scope nm) (hvs : nm.map (·.2) = vs) (hv : ∀ k ∈ vs, k ∉ own)
    (hg : ∀ (s : Shared) (H : Hp) (C : Addr) (cl : List (Str × Addr)) (fp : List Addr), GC (X.blk s H scope (compEnvC scope cl C X.env) fp) own vs tg t) (ht : ∀ (s : Shared) (H : Hp) (C : Addr) (cl : List (Str × Addr)) (fp : List Addr), TsX (X.blk s H scope (compEnvC scope cl C X.env) fp) own ifs ft)
    (hk : ∀ (s : Shared) (H : Hp) (C : Addr) (cl : List (Str × Addr)) (fp : List Addr), EX (X.blk s H scope (compEnvC scope cl C X.env) fp) own kx fk)
    (he : ∀ (s : Shared) (H : Hp) (C : Addr) (cl : List (Str × Addr)) (fp : List Addr), EX (X.blk s H scope (compEnvC scope cl C X.env) fp) own vx fe) (hs : ∀ x, foldedSetIterable iter X.env x = pure x := by intro _; rfl) :
    EN X own (.DictComp kx vx [⟨tg, iter, ifs, 0⟩] scope pos) (fDC gs p0 vs fi t ft fk fe) := by
  subst hvs
  exact ⟨PE.ent (pe_dcG dk.set hu dk.new hc hN hi.run ok (fun s H C cl fp => ⟨(hg s H C cl fp).run, (ht s H C cl fp).run, (hk s H C cl fp).run, (he s H C cl fp).run⟩) hs) (ent_dc dk hv)⟩
theorem sx_dcN (dk : DKi mk gs p0) (hu : X.A.units + 65 < cLine) (hc : X.calm = true) (hN : X.N.Nodup) (hy : X.N[i]? = some y) (hyl : X.env.scope.names.lookup y = some .local) (hio : i ∉ io) (ho : ∀ j, j ∈ own' ↔ j = i ∨ j ∈ own)
    (hsw : swapsWith (.DictComp kx vx [⟨tg, iter, ifs, 0⟩] scope pos) (some (.Name y py)) spos.line X.env = pure true) (hi : IX X own tg iter fi) (ok : BlkOk X.N X.env.scope scope nm) (hvs : nm.map (·.2) = vs) (hv : ∀ k ∈ vs, k ∉ own)
    (hg : ∀ (s : Shared) (H : Hp) (C : Addr) (cl : List (Str × Addr)) (fp : List Addr), GC (X.blk s H scope (compEnvC scope cl C X.env) fp) own vs tg t) (ht : ∀ (s : Shared) (H : Hp) (C : Addr) (cl : List (Str × Addr)) (fp : List Addr), TsX (X.blk s H scope (compEnvC scope cl C X.env) fp) own ifs ft)
    (hk : ∀ (s : Shared) (H : Hp) (C : Addr) (cl : List (Str × Addr)) (fp : List Addr), EX (X.blk s H scope (compEnvC scope cl C X.env) fp) own kx fk)
    (he : ∀ (s : Shared) (H : Hp) (C : Addr) (cl : List (Str × Addr)) (fp : List Addr), EX (X.blk s H scope (compEnvC scope cl C X.env) fp) own vx fe) (hs : ∀ x, foldedSetIterable iter X.env x = pure x := by intro _; rfl) :
    SX X io lm own own' (.Assign [.Name y py] (.DictComp kx vx [⟨tg, iter, ifs, 0⟩] scope pos) spos) (fSet i (fDC gs p0 vs fi t ft fk fe)) := by
  subst hvs
  exact ⟨PS.ent (ps_setDcG dk.set hu dk.new hc hN hy hyl hsw hi.run ok (fun s H C cl fp => ⟨(hg s H C cl fp).run, (ht s H C cl fp).run, (hk s H C cl fp).run, (he s H C cl fp).run⟩) hs) fun D σ H ⟨B, ρ, fl, ρ', H1, hi', S, e, k⟩ => by
    obtain ⟨v, ρ1, e1, e2⟩ := inv_b1 e
    cases e2
    exact ent_dc dk hv σ H _ ⟨B, ρ, v, ρ1, H1, S, e1, fun a H' H1' le F => k _ H' H1' le (F.sr.setO (fun p hp (e : p.1 = i) => hio (by rw [← e]; exact hi' p hp)) ho F.n0 F.n1 F.rep F.ne)⟩⟩
theorem sx_dc (dk : DKi mk gs p0) (hu : X.A.units + 65 < cLine) (hc : X.calm = true) (hN : X.N.Nodup) (hy : X.N[i]? = some y) (hyl : X.env.scope.names.lookup y = some .local) (hown : i ∉ own)
    (hsw : swapsWith (.DictComp kx vx [⟨tg, iter, ifs, 0⟩] scope pos) (some (.Name y py)) spos.line X.env = pure true) (hi : IX X own tg iter fi) (ok : BlkOk X.N X.env.scope scope nm) (hvs : nm.map (·.2) = vs) (hv : ∀ k ∈ vs, k ∉ own)
    (hg : ∀ (s : Shared) (H : Hp) (C : Addr) (cl : List (Str × Addr)) (fp : List Addr), GC (X.blk s H scope (compEnvC scope cl C X.env) fp) own vs tg t) (ht : ∀ (s : Shared) (H : Hp) (C : Addr) (cl : List (Str × Addr)) (fp : List Addr), TsX (X.blk s H scope (compEnvC scope cl C X.env) fp) own ifs ft)
    (hk : ∀ (s : Shared) (H : Hp) (C : Addr) (cl : List (Str × Addr)) (fp : List Addr), EX (X.blk s H scope (compEnvC scope cl C X.env) fp) own kx fk)
    (he : ∀ (s : Shared) (H : Hp) (C : Addr) (cl : List (Str × Addr)) (fp : List Addr), EX (X.blk s H scope (compEnvC scope cl C X.env) fp) own vx fe) (hs : ∀ x, foldedSetIterable iter X.env x = pure x := by intro _; rfl) :
    SX X io lm own own (.Assign [.Name y py] (.DictComp kx vx [⟨tg, iter, ifs, 0⟩] scope pos) spos) (fSet i (fDC gs p0 vs fi t ft fk fe)) := by
  subst hvs
  exact ⟨PS.ent (ps_setDcG dk.set hu dk.new hc hN hy hyl hsw hi.run ok (fun s H C cl fp => ⟨(hg s H C cl fp).run, (ht s H C cl fp).run, (hk s H C cl fp).run, (he s H C cl fp).run⟩) hs) fun D σ H ⟨B, ρ, fl, ρ', H1, hi', S, e, k⟩ => by
    obtain ⟨v, ρ1, e1, e2⟩ := inv_b1 e
    cases e2
    refine ent_dc dk hv σ H _ ⟨B, ρ, v, ρ1, H1, S, e1, fun a H' H1' le F => ?_⟩
    obtain ⟨H1'', le', S', r⟩ := F.share
    exact k _ H' H1'' (le.trans le') (S'.set hown r)⟩
end
end PT

set_option Elab.async false
set_option linter.all false
set_option autoImplicit false
set_option maxRecDepth 100000
set_option maxHeartbeats 4000000
/-! PT19: displays of dicts with tuple keys; dict(..); ==; sorted. -/
namespace PT
open PySem PySem.Spec PyProof.Rows L2

/-! ### displays -/
def dpF : List (EF × EF) → Env → Option (List (PV × PV) × Env)
  | [], ρ => some ([], ρ)
  | (f, g) :: r, ρ => (f ρ).bind fun a => (g a.2).bind fun b => (dpF r b.2).bind fun c => some ((a.1, b.1) :: c.1, c.2)
def fDispX (fs : List (EF × EF)) : EF := fun ρ => (dpF fs ρ).bind fun r => if (decide (r.1.length ≤ 15) && r.1.all fun kv => isTKey kv.1) = true then some (.dit (r.1.foldl (fun acc kv => putX acc kv.1 kv.2) []), r.2) else none
def RepP (K : PySem.W.Frag) (H1 : Hp) : List (PV × PV) → List (V × V) → Prop
  | [], vs => vs = []
  | p :: ps, vs => ∃ a b r, vs = (a, b) :: r ∧ Rep K H1 p.1 a ∧ Rep K H1 p.2 b ∧ RepP K H1 ps r
theorem RepP.mono {K : PySem.W.Frag} {H1 H2 : Hp} (le : LeR H1 H2) : ∀ {ps : List (PV × PV)} {vs : List (V × V)}, RepP K H1 ps vs → RepP K H2 ps vs
  | [], _, h => h
  | p :: ps, _, ⟨a, b, r, e, h1, h2, t⟩ => ⟨a, b, r, e, h1.mono le _ _, h2.mono le _ _, RepP.mono le t⟩
structure DPX (X : Cx) (own : List Nat) (pos : Pos) (keys : List (Option Expr)) (values : List Expr) (fs : List (EF × EF)) : Prop where
  run : PPs X pos keys values (fs.map fun f => (tE X.K own f.1, tE X.K own f.2))
  all : keys.all (·.isSome) = true
  len : keys.length = values.length
  len2 : fs.length = keys.length
section
variable {X : Cx} {own : List Nat} {pos : Pos} {k v : Expr} {ks : List (Option Expr)} {vs : List Expr} {fk fv : EF} {fs : List (EF × EF)}
theorem dp_nil : DPX X own pos [] [] [] := ⟨pps_nil, rfl, rfl, rfl⟩
theorem dp_cons (hk : EX X own k fk) (hv : EX X own v fv) (hr : DPX X own pos ks vs fs) : DPX X own pos (some k :: ks) (v :: vs) ((fk, fv) :: fs) :=
  ⟨pps_cons hk.run hv.run hr.run, by simpa using hr.all, by simp [hr.len], by simp [hr.len2]⟩
theorem tPairs_of {K : PySem.W.Frag} : ∀ (fs : List (EF × EF)) {B : Base} {ρ ρ' : Env} {σ : L2.St} {H1 H : Hp} {ps : List (PV × PV)} {Q : List (V × V) → Hp → Prop}, SR K B own ρ σ H1 H → dpF fs ρ = some (ps, ρ') →
    (∀ ws H' H1', LeR H1 H1' → SR K B own ρ' σ H1' H' → RepP K H1' ps ws → Q ws H') → tPairs (fs.map fun f => (tE K own f.1, tE K own f.2)) σ H Q
  | [], B, ρ, ρ', σ, H1, H, ps, Q, S, e, k => by
    cases e
    exact k [] H H1 (LeR.refl _) S rfl
  | (f, g) :: r, B, ρ, ρ', σ, H1, H, ps, Q, S, e, k => by
    unfold dpF at e
    obtain ⟨a, ρ1, e1, e⟩ := inv_b1 e
    obtain ⟨b, ρ2, e2, e⟩ := inv_b1 e
    obtain ⟨⟨cs, ρ3⟩, e3, e4⟩ := Option.bind_eq_some_iff.mp e
    cases e4
    refine ⟨B, ρ, a, ρ1, H1, S, e1, fun x H2 H12 l2 S2 rx => ⟨B, ρ1, b, ρ2, H12, S2, e2, fun y H3 H13 l3 S3 ry => ?_⟩⟩
    exact tPairs_of r S3 e3 fun ws H4 H14 l4 S4 rw' => k _ H4 H14 ((l2.trans l3).trans l4) S4 ⟨x, y, ws, rfl, rx.mono (l3.trans l4) _ _, ry.mono l4 _ _, rw'⟩
theorem carriesX {pins : List (Addr × Obj)} {σ : L2.St} {H1 H : Hp} {s : Shared} (I : Inv X pins σ H s) (le : LeR H1 H) : ∀ {ps : List (PV × PV)} {ws : List (V × V)} {us : List (Value × Value)}, (ps.all fun kv => isTKey kv.1) = true → RepP X.K H1 ps ws → VV ws us →
    ∃ (xs : TX3) (zs : TU3), CarriesH (nestedKind X.prog X.w) s.heap us zs ∧ TRel xs zs ∧ RepX X.K H1 ps xs
  | [], _, _, _, h, r => by
    cases (show _ = [] from h)
    cases r
    exact ⟨[], [], True.intro, .nil, RepX.nil⟩
  | p :: ps, _, _, ha, ⟨a, b, r, e, h1, h2, t⟩, rr => by
    subst e
    simp only [List.all_cons, Bool.and_eq_true] at ha
    cases rr with
    | @cons x y xs' ys' q qs =>
      obtain ⟨xs, zs, c, tr, rx⟩ := carriesX I le ha.2 t qs
      obtain ⟨key, hkey⟩ := isTKey_get ha.1
      obtain ⟨ad, rfl⟩ := rep_tref hkey h1
      obtain ⟨u1, u2⟩ := y
      obtain ⟨q1, q2⟩ := q
      cases q1
      exact ⟨(key, ad, b) :: xs, (key, ad, u2) :: zs, ⟨rfl, rfl, rep_key_is I le hkey h1, c⟩, .cons ⟨rfl, rfl, q2⟩ tr, RepX.cons hkey h1 h2 rx⟩
theorem storedAll_rel : ∀ {xs : TX3} {zs : TU3} {ys : TX3} {us : TU3}, TRel xs zs → TRel ys us → TRel (xs.foldl (fun acc x => putV acc x.1 x.2.1 x.2.2) ys) (storedAllH us zs) := by
  intro xs zs ys us r
  unfold TRel at r
  induction r generalizing ys us with
  | nil => intro q; exact q
  | @cons p q ps qs h t ih =>
    intro r0
    have e : TRel (putV ys p.1 p.2.1 p.2.2) (storedH us q.1 q.2.1 q.2.2) := by
      have := r0.put p.1 p.2.1 h.2.2
      rw [← h.1, ← h.2.1]; exact this
    exact ih e
theorem storedAll_rep {K : PySem.W.Frag} {H : Hp} : ∀ {ps : List (PV × PV)} {xs : TX3} {ks : List (PV × PV)} {ys : TX3}, RepX K H ps xs → RepX K H ks ys → RepX K H (ps.foldl (fun acc kv => putX acc kv.1 kv.2) ks) (xs.foldl (fun acc x => putV acc x.1 x.2.1 x.2.2) ys)
  | [], _, _, _, h, q => by rw [RepX.nil_iff.mp h]; exact q
  | (k, v) :: ps, _, _, _, h, q => by
    obtain ⟨k', b, x, r, rfl, h1, h2, h3, t⟩ := RepX.cons_iff.mp h
    have := storedAll_rep (ps := ps) (xs := r) t (q.put h1 h2 h3)
    exact this
theorem storedAll_len : ∀ (xs ys : TX3), (xs.foldl (fun acc x => putV acc x.1 x.2.1 x.2.2) ys).length ≤ ys.length + xs.length
  | [], ys => Nat.le_refl _
  | x :: xs, ys => by
    have h1 := storedAll_len xs (putV ys x.1 x.2.1 x.2.2)
    have h2 := putV_len ys x.1 x.2.1 x.2.2
    simp only [List.foldl_cons, List.length_cons]
    omega
theorem en_dispX (hu : X.A.units + 65 < cLine) (h0 : ks ≠ []) (h15 : ks.length ≤ 15) (h : DPX X own pos ks vs fs) : EN X own (.Dict ks vs pos) (fDispX fs) := ⟨⟨fun pins s σ H Q I ⟨B, ρ, v, ρ', H1, S, e, k⟩ => by
  unfold fDispX at e
  obtain ⟨⟨ps, ρ1⟩, e1, e2⟩ := Option.bind_eq_some_iff.mp e
  split at e2
  · rename_i hc
    rw [Bool.and_eq_true, decide_eq_true_eq] at hc
    cases e2
    have hn := pairTrees_length ks vs X.env pos h.all h.len
    have hne : pairTrees ks vs X.env pos ≠ [] := fun z => by rw [z] at hn; exact h0 (List.length_eq_zero_iff.mp hn.symm)
    rw [arm_eval_Dict, zip_pairTrees ks vs X.env pos h.all h.len, dictDisplay_pairs _ hne (by omega)]
    refine wpAny_bind (wpAny_standAt (wpAny_bind ?_))
    have hD : H s.heap.objs.size = none := I.hok.fresh (Nat.le_refl _)
    have I1 : Inv X pins σ (upd H s.heap.objs.size (mkX s.heap.objs.size)) { s with heap := s.heap.push { cls := .type "dict", data := .dict #[] }, toks := s.toks } := I.laid (t' := s.toks) (fun _ _ q => Heap.get?_push_of_some _ q) (Nat.le_refl _) (dit_empty' s.heap I.big)
    have h0' : B.H0 s.heap.objs.size = none := by
      cases q : B.H0 s.heap.objs.size with
      | none => rfl
      | some o => rw [(S.fr _ o q).1] at hD; cases hD
    have F0 : FR X.K own B ρ σ H1 (upd H s.heap.objs.size (mkX s.heap.objs.size)) s.heap.objs.size (.dit []) := FR.mk' S (subU hD) hD ⟨_, [], upd_same, RepX.nil⟩
    refine wpAny_subDictH (knd := nestedKind X.prog X.w) (Q := fun d s' => wpAny (model X.prog X.w) X.A (pure (Value.ref d)) _ X.xe s') (room8' hu) (by omega) ?_
    refine wpAny_mono (h.run.run pins _ σ _ (fun ws H' => ∃ H1', LeR H1 H1' ∧ SR X.K (B.pin s.heap.objs.size (mkX s.heap.objs.size)) own ρ1 σ H1' H' ∧ RepP X.K H1' ps ws) I1
      (tPairs_of fs (F0.sr.pin upd_same F0.n1 F0.ne) e1 fun ws H' H1' le S' r => ⟨H1', le, S', r⟩)) (fun us s2 hs2 => ?_) fun _ _ e => e
    obtain ⟨ws, H2, I2, rel, H12, le, S2, rp⟩ := hs2
    obtain ⟨S3, q1, q2, q3⟩ := S2.unpin h0'
    obtain ⟨xs, zs, car, tr, rx⟩ := carriesX I2 S3.sub.le hc.2 rp rel
    obtain ⟨us0, tr0, dd0, hsm, _, hl0⟩ := dit_at I2 S3.sub.le q1 (RepX.nil (K := X.K) (H := H12))
    have : us0 = [] := List.length_eq_zero_iff.mp hl0
    subst this
    refine ⟨zs, car, dd0, fun h' tk dd sb => ?_⟩
    have hlen : xs.length ≤ 15 := by rw [rx.length]; exact hc.1
    obtain ⟨ob, I3, ro⟩ := dit_write (tk := tk) (H1 := H12) (ks2 := ps.foldl (fun acc kv => putX acc kv.1 kv.2) []) I2 q1 (storedAll_rep rx RepX.nil) (storedAll_rel tr tr0) hsm (Nat.le_trans (storedAll_len xs []) (by rw [sizeLine_eq]; simp; omega)) dd sb
    refine wpAny_pure ⟨.ref s.heap.objs.size, _, I3, rfl, k _ _ H12 le ⟨⟨S3.len, fun b o q => ?_, fun b o q => ?_, S3.sh, fun l v hl hv' => ?_, S3.ds, S3.io⟩, h0', q2, ro, q3⟩⟩
    · have : b ≠ s.heap.objs.size := fun z => by rw [z, q2] at q; cases q
      rw [upd_ne this]; exact S3.sub b o q
    · obtain ⟨p1, p2⟩ := S3.fr b o q
      have : b ≠ s.heap.objs.size := fun z => by rw [z, h0'] at q; cases q
      exact ⟨by rw [upd_ne this]; exact p1, p2⟩
    · obtain ⟨a, p1, p2, p3, p4⟩ := S3.ow l v hl hv'
      have : a ≠ s.heap.objs.size := fun z => q3 l v hl hv' (by rw [p1, z])
      exact ⟨a, p1, p2, p3, p4.move (LeR.refl _) (upd_ne this)⟩
  · cases e2⟩⟩
end
end PT

set_option Elab.async false
set_option linter.all false
set_option autoImplicit false
set_option maxRecDepth 100000
set_option maxHeartbeats 4000000
/-! PT20: dict(..), ==, sorted of dicts with tuple keys. -/
namespace PT
open PySem PySem.Spec PyProof.Rows L2

/-! ### == -/
inductive HitsX (A : Around) (s : Shared) (vs : TU3) : TU3 → Bool → Prop
  | done : HitsX A s vs [] true
  | out {k : NestedKey} {p : Addr × Value} {r : TU3} : atKey vs k = none → HitsX A s vs ((k, p) :: r) false
  | one {k : NestedKey} {p q : Addr × Value} {r : TU3} {e c : Bool} : atKey vs k = some q → SeqAt.EqAt A s p.2 q.2 e → HitsX A s vs r c → HitsX A s vs ((k, p) :: r) (e && c)
section
variable {P : Program} {w : World} {A : Around} {E : Value → Shared → Prop} {s : Shared}
theorem HitsX.head {vs r : TU3} {k : NestedKey} {p : Addr × Value} {b : Bool} (h : HitsX A s vs ((k, p) :: r) b) :
    (atKey vs k = none → b = false) ∧ ∀ q, atKey vs k = some q → ∃ e c, SeqAt.EqAt A s p.2 q.2 e ∧ HitsX A s vs r c ∧ b = (e && c) := by
  cases h with
  | out h => exact ⟨fun _ => rfl, fun q e => by rw [h] at e; cases e⟩
  | one h1 h2 h3 => exact ⟨fun e => (by rw [h1] at e; cases e), fun q e => by rw [h1] at e; cases e; exact ⟨_, _, h2, h3, rfl⟩⟩
theorem same_pairsX {nm : String} {a b : Addr} {us vs : TU3} {r : Bool} {Q : Bool → Shared → Prop} (hu : (nestedKind P w).room A) (la : (a == sysModules) = false) (lb : (b == sysModules) = false)
    (da : s.heap.DictOfH (nestedKind P w) a us) (db : s.heap.DictOfH (nestedKind P w) b vs) (hits : HitsX A s vs us r) (h : Q (us.length == vs.length && r) s) : wpAny (model P w) A (Builtin.Dict.samePairs nm a b) Q E s := by
  obtain ⟨oa, ea, pa, ga, xa, dta, la2, isa, na⟩ := da
  obtain ⟨ob, eb, pb, gb, xb, dtb, lb2, isb, nb⟩ := db
  have sa : ea.size = us.length := size_of_entries la2
  have sb : eb.size = vs.length := size_of_entries lb2
  unfold Builtin.Dict.samePairs Builtin.Dict.showsAll
  rw [if_neg (by rw [la]; exact Bool.false_ne_true), if_neg (by rw [lb]; exact Bool.false_ne_true)]
  refine wpAny_bind (wpAny_pure (wpAny_bind (wpAny_pure (wpAny_bind (wpAny_dictEntries ga dta ?_)))))
  dsimp only
  refine wpAny_bind (wpAny_dictEntries gb dtb ?_)
  rw [← sa, ← sb] at h
  by_cases hz : ea.size = eb.size
  · have h1 : Q r s := by simpa [hz] using h
    rw [if_neg (by simp [hz])]
    refine wpAny_bind (wpAny_dictEpoch ga dta (wpAny_bind ?_))
    rw [Std.Legacy.Range.forIn_eq_forIn_range']
    simp only [Std.Legacy.Range.size, Nat.sub_zero, Nat.add_sub_cancel, Nat.div_one]
    refine wpAny_forIn_list _ (fun rest q s' => s' = s ∧ q = (none, ()) ∧ ∃ i, i ≤ ea.size ∧ rest = List.range' i (ea.size - i) ∧ HitsX A s vs (us.drop i) r) _ ?_ ?_ _ _ ⟨rfl, rfl, 0, Nat.zero_le _, by simp, by simpa using hits⟩
    · rintro x rest q s' ⟨rfl, rfl, i, hi, hr, hp⟩
      have lt : i < ea.size := by
        refine Nat.lt_of_not_le fun ge => ?_
        rw [Nat.sub_eq_zero_of_le ge] at hr
        simp at hr
      rw [show ea.size - i = (ea.size - (i + 1)) + 1 from by omega, List.range'_succ] at hr
      injection hr with e1 e2
      subst e1
      have lt' : x < us.length := by omega
      rw [List.drop_eq_getElem_cons lt'] at hp
      have en : ea[x] = entryOfKey (nestedKind P w) us[x] := by
        have q := entry_at la2 x
        rw [Array.getElem?_eq_getElem lt, List.getElem?_eq_getElem lt'] at q
        exact Option.some.inj q
      refine wpAny_bind (wpAny_dictEntries ga dta ?_)
      rw [Array.getElem?_eq_getElem lt]
      dsimp only
      rw [en]
      obtain ⟨⟨k, p⟩, ek⟩ : ∃ y, us[x] = y := ⟨_, rfl⟩
      rw [ek] at hp ⊢
      obtain ⟨hn, hs⟩ := hp.head
      have kin : (nestedKind P w).is s'.heap k p.1 := isa (k, p) (by rw [← ek]; exact List.getElem_mem lt')
      show wpAny _ _ (holding [.ref p.1, p.2] _ >>= _) _ _ _
      refine wpAny_bind (wpAny_holding (wpAny_bind (wpAny_dictFind_heap hu kin gb dtb lb2 isb nb (fun no => ?_) fun j q hq => ?_)))
      · have e0 : atKey vs k = none := atKey_none_of_get no
        rw [hn e0] at h1
        refine wpAny_pure ?_
        show wpAny _ _ (if (!false) = true then _ else _) _ _ _
        rw [if_pos (by decide)]
        exact wpAny_pure (wpAny_pure h1)
      · obtain ⟨e, c, q1, q2, q3⟩ := hs q (atKey_of_get nb hq)
        have eb' := entry_at lb2 j
        rw [hq] at eb'
        refine wpAny_bind (wpAny_dictEntries gb dtb ?_)
        rw [eb']
        refine wpAny_holding (q1 P w _ _ ?_)
        cases e with
        | true =>
          rw [Bool.true_and] at q3
          show wpAny _ _ (if (!true) = true then _ else _) _ _ _
          rw [if_neg (by decide)]
          refine wpAny_bind (wpAny_dictEpoch ga dta ?_)
          rw [if_neg (by simp)]
          exact wpAny_pure ⟨rfl, rfl, x + 1, lt, e2, by rw [q3]; exact q2⟩
        | false =>
          rw [q3, Bool.false_and] at h1
          show wpAny _ _ (if (!false) = true then _ else _) _ _ _
          rw [if_pos (by decide)]
          exact wpAny_pure (wpAny_pure h1)
    · rintro q s' ⟨rfl, rfl, i, hi, hr, hp⟩
      have e : i = ea.size := by
        refine Nat.le_antisymm hi (Nat.le_of_not_lt fun lt => ?_)
        rw [show ea.size - i = (ea.size - (i + 1)) + 1 from by omega, List.range'_succ] at hr
        exact nomatch hr
      rw [e, sa, List.drop_length] at hp
      refine wpAny_pure ?_
      cases hp
      exact h1
  · rw [if_pos (by simpa using hz)]
    rw [show (ea.size == eb.size) = false from by simpa using hz, Bool.false_and] at h
    exact wpAny_bind (wpAny_rule (wpAny_pure h))
theorem eq_dictsX {a b : Addr} {us vs : TU3} {r : Bool} {Q : Value → Shared → Prop} (hu : A.units + 65 < cLine) (la : (a == sysModules) = false) (lb : (b == sysModules) = false)
    (da : s.heap.DictOfH (nestedKind P w) a us) (db : s.heap.DictOfH (nestedKind P w) b vs) (hits : HitsX A.in1 s vs us r) (h : Q (.bool (us.length == vs.length && r)) s) : wpAny (model P w) A (compareOp .Eq (.ref a) (.ref b)) Q E s := by
  refine wpAny_richCompare_same_room (op := .Eq) da.typeIs db.typeIs PySem.F.slot_dict_eq (wpAny_call_entry PySem.F.slot_dict_eq da.typeIs PySem.F.entry_dict_eq ?_ (PySem.F.args_dict_eq_2 _ _)) (by omega)
  show wpAny _ _ (Builtin.Dict.dictSlotArgs "__eq__" ⟨[.ref a, .ref b], []⟩ >>= _) _ _ s
  unfold Builtin.Dict.dictSlotArgs
  refine wpAny_bind (wpAny_bind (wpAny_notOrdered_dict da.typeIs ?_))
  show wpAny _ _ (pure (Value.ref a, Value.ref b)) _ _ s
  refine wpAny_pure (wpAny_bind (wpAny_isInstance (T := "dict") db.typeIs PySem.F.sub_dict_dict ?_))
  simp only [Bool.not_true, Bool.false_eq_true, if_false]
  refine wpAny_bind (wpAny_pure (wpAny_bind (wpAny_pure (wpAny_bind (same_pairsX (by show A.units + 1 + 8 < cLine; omega) la lb da db hits ?_)))))
  refine wpAny_pure ⟨_, rfl, ?_⟩
  exact ⟨fun x => (by cases x), by simpa using h⟩
theorem ne_dictsX {a b : Addr} {us vs : TU3} {r : Bool} {Q : Value → Shared → Prop} (hu : A.units + 65 < cLine) (la : (a == sysModules) = false) (lb : (b == sysModules) = false)
    (da : s.heap.DictOfH (nestedKind P w) a us) (db : s.heap.DictOfH (nestedKind P w) b vs) (hits : HitsX A.in1 s vs us r) (h : Q (.bool (!(us.length == vs.length && r))) s) : wpAny (model P w) A (compareOp .NotEq (.ref a) (.ref b)) Q E s := by
  refine wpAny_richCompare_same_room (op := .NotEq) da.typeIs db.typeIs PySem.F.slot_dict_ne (wpAny_call_entry PySem.F.slot_dict_ne da.typeIs PySem.F.entry_dict_ne ?_ (PySem.F.args_dict_ne_2 _ _)) (by omega)
  show wpAny _ _ (Builtin.Dict.dictSlotArgs "__ne__" ⟨[.ref a, .ref b], []⟩ >>= _) _ _ s
  unfold Builtin.Dict.dictSlotArgs
  refine wpAny_bind (wpAny_bind (wpAny_notOrdered_dict da.typeIs ?_))
  show wpAny _ _ (pure (Value.ref a, Value.ref b)) _ _ s
  refine wpAny_pure (wpAny_bind (wpAny_isInstance (T := "dict") db.typeIs PySem.F.sub_dict_dict ?_))
  simp only [Bool.not_true, Bool.false_eq_true, if_false]
  refine wpAny_bind (wpAny_pure (wpAny_bind (wpAny_pure (wpAny_bind (same_pairsX (by show A.units + 1 + 8 < cLine; omega) la lb da db hits ?_)))))
  refine wpAny_pure ⟨_, rfl, ?_⟩
  exact ⟨fun x => (by cases x), by simpa using h⟩
end
/-- all of the one in the other -/
def eqX (ls : List (PV × PV)) : List (PV × PV) → Bool
  | [] => true
  | (k, v) :: ks => match findX ls k with
    | some u => PyData.eqv (toD v) (toD u) && eqX ls ks
    | none => false
def okX (ks : List (PV × PV)) : Bool := ks.all fun kv => okD 16 kv.2
def gEqX : G2 := fun p q => match p, q with
  | .dit ks, .dit ls => if (okX ks && okX ls) = true then some (.bl (ks.length == ls.length && eqX ls ks)) else none
  | _, _ => none
def gNeX : G2 := fun p q => match p, q with
  | .dit ks, .dit ls => if (okX ks && okX ls) = true then some (.bl (!(ks.length == ls.length && eqX ls ks))) else none
  | _, _ => none
section
variable {X : Cx}
theorem hits_of {pins : List (Addr × Obj)} {σ : L2.St} {H : Hp} {s : Shared} {A : Around} (hu : A.units + 65 < cLine) (I : Inv X pins σ H s) {ls : List (PV × PV)} {ys : TX3} {vs : TU3} (ol : okX ls = true) (rl : RepX X.K H ls ys) (tl : TRel ys vs) :
    ∀ {ks : List (PV × PV)} {xs : TX3} {us : TU3}, okX ks = true → RepX X.K H ks xs → TRel xs us → HitsX A.in1 s vs us (eqX ls ks)
  | [], _, _, _, r, t => by
    rw [RepX.nil_iff.mp r] at t
    cases t
    exact .done
  | (k, v) :: ks, _, _, o, r, t => by
    obtain ⟨k', b, x, rest, rfl, h1, h2, h3, h4⟩ := RepX.cons_iff.mp r
    simp only [okX, List.all_cons, Bool.and_eq_true] at o
    cases t with
    | @cons p q ps qs q1 q2 =>
      obtain ⟨kq, pq⟩ := q
      obtain ⟨e1, e2, e3⟩ := q1
      cases e1
      have ih := hits_of hu I ol rl tl (ks := ks) (by simpa [okX] using o.2) h4 q2
      have rel := rl.find h1
      unfold eqX
      cases hf : findX ls k with
      | none =>
        rw [hf] at rel
        exact .out (relo_none tl (rel_none rel))
      | some u =>
        rw [hf] at rel
        obtain ⟨y, hy, ry⟩ := rel_some rel
        obtain ⟨pr, hp, rv⟩ := relo_get tl hy
        have hm : okD 16 u = true := by
          unfold findX at hf
          obtain ⟨kv, hk, rfl⟩ := Option.map_eq_some_iff.mp hf
          exact List.all_eq_true.mp ol kv (List.mem_of_find?_eq_some hk)
        obtain ⟨as, ra⟩ := Dp.reads I _ _ _ (rep_dp 16 v x o.1 h3) e3
        obtain ⟨bs, rb⟩ := Dp.reads I _ _ _ (rep_dp 16 u y hm ry) rv
        exact .one hp (PySem.W.keq_at ra rb (okD_shaped o.1) (okD_shaped hm) (by show A.units + 1 + 64 < cLine; omega)) ih
theorem ov_eqX (hu : X.A.units + 65 < cLine) : OpV X (compareOp .Eq) gEqX := by
  intro pins s σ H x y v u Q I rx ry ⟨p, q, w', H1, sub, a, b, e, k⟩
  unfold gEqX at e
  split at e
  · rename_i ks ls
    split at e
    · rename_i hc
      rw [Bool.and_eq_true] at hc
      cases e
      obtain ⟨d1, o1, kv1, rfl, rd1, rk1⟩ := a
      obtain ⟨d2, o2, kv2, rfl, rd2, rk2⟩ := b
      cases rx
      cases ry
      obtain ⟨us1, t1, dd1, hs1, _, hl1⟩ := dit_at I sub.le rd1 rk1
      obtain ⟨us2, t2, dd2, hs2, _, hl2⟩ := dit_at I sub.le rd2 rk2
      refine eq_dictsX hu hs1 hs2 dd1 dd2 (hits_of hu I hc.2 (rk2.mono sub.le _ _) t2 hc.1 (rk1.mono sub.le _ _) t1) ⟨.bl _, H, I, rfl, k.at sub ?_⟩
      rw [hl1, hl2, rk1.length, rk2.length]; exact rep_bl
    · cases e
  · cases e
theorem ov_neX (hu : X.A.units + 65 < cLine) : OpV X (compareOp .NotEq) gNeX := by
  intro pins s σ H x y v u Q I rx ry ⟨p, q, w', H1, sub, a, b, e, k⟩
  unfold gNeX at e
  split at e
  · rename_i ks ls
    split at e
    · rename_i hc
      rw [Bool.and_eq_true] at hc
      cases e
      obtain ⟨d1, o1, kv1, rfl, rd1, rk1⟩ := a
      obtain ⟨d2, o2, kv2, rfl, rd2, rk2⟩ := b
      cases rx
      cases ry
      obtain ⟨us1, t1, dd1, hs1, _, hl1⟩ := dit_at I sub.le rd1 rk1
      obtain ⟨us2, t2, dd2, hs2, _, hl2⟩ := dit_at I sub.le rd2 rk2
      refine ne_dictsX hu hs1 hs2 dd1 dd2 (hits_of hu I hc.2 (rk2.mono sub.le _ _) t2 hc.1 (rk1.mono sub.le _ _) t1) ⟨.bl _, H, I, rfl, k.at sub ?_⟩
      rw [hl1, hl2, rk1.length, rk2.length]; exact rep_bl
    · cases e
  · cases e
end
/-! ### dict(d), dict(pairs) -/
section
variable {P : Program} {w : World} {A : Around} {E : Value → Shared → Prop} {s : Shared}
theorem call_dict_copyX {o : Addr} {us : TU3} {Q : Value → Shared → Prop} (hu : A.units + 65 < cLine) (ho : (o == sysModules) = false) (hd : s.heap.DictOfH (nestedKind P w) o us) (hap : (us.map fun x => (nestedKind P w).hash x.1).Nodup) (hsz : us.length ≤ sizeLine)
    (h : ∀ h', h'.DictOfH (nestedKind P w) s.heap.objs.size us → (∀ b q, s.heap.get? b = some q → h'.get? b = some q) → Q (.ref s.heap.objs.size) { s with heap := h' }) : wpAny (model P w) A (call (.type "dict") [.ref o]) Q E s := by
  have hty := keyed_apart nestedKind_stays hd
  have hnd : (us.map (·.1)).Nodup := hd.nodup
  refine callType_codes (Q₁ := fun r t => r = .ref s.heap.objs.size ∧ t = { s with heap := s.heap.push { cls := .type "dict", data := .dict #[] } }) F.kt_called_dict (F.kt_typeCall_dict_1 _) F.entry_dict_init (kt_code_dict_new _ ⟨rfl, rfl⟩) ?_
  rintro r t ⟨rfl, rfl⟩
  have fresh : (s.heap.push { cls := .type "dict", data := .dict #[] }).DictOfH (nestedKind P w) s.heap.objs.size [] := Heap.DictOfH.new s.heap
  have kk : ∀ b q, s.heap.get? b = some q → (s.heap.push { cls := .type "dict", data := .dict #[] }).get? b = some q := fun b q e => Heap.get?_push_of_some _ e
  have old : (s.heap.push { cls := .type "dict", data := .dict #[] }).DictOfH (nestedKind P w) o us := by
    obtain ⟨ob, es, ep, h1, h2, h3, h4, h5, h6⟩ := hd
    exact ⟨ob, es, ep, kk _ _ h1, h2, h3, h4, fun x hx => nestedKind_stays.stays (fun b o _ _ e _ => kk b o e) (h5 x hx), h6⟩
  have ne : s.heap.objs.size ≠ o := fun e => by
    obtain ⟨_, _, _, g, _⟩ := hd
    exact absurd (Heap.lt_size g) (by rw [e]; exact Nat.lt_irrefl _)
  refine ⟨fresh.typeIs, F.args_dict_init_2 _ _, ?_⟩
  unfold Builtin.«dict.__init__»
  refine wpAny_bind ?_
  unfold Builtin.Dict.selfAndRest
  refine wpAny_bind (wpAny_notOrdered_dict fresh.typeIs ?_)
  show wpAny _ _ (pure (s.heap.objs.size, [Value.ref o])) _ _ _
  refine wpAny_pure ?_
  show wpAny _ _ (Builtin.Dict.updateFrom "dict.__init__" s.heap.objs.size (.ref o) [] .none) _ _ _
  refine updateFrom_dictH (A := A.in1) .none (by show A.units + 1 + 1 + 8 < cLine; omega) ne ho fresh old (.inr ⟨fun x hx => ?_, hap⟩) (by simpa using hsz) fun h' hd' _ sb => ?_
  · obtain ⟨ob, h1, h2⟩ := hty x hx
    exact ⟨ob, kk _ _ h1, h2⟩
  · rw [storedAllH_nil_of_nodup us hnd] at hd'
    exact ⟨rfl, h h' hd' fun b q e => (sb.2 b (Nat.ne_of_lt (Heap.lt_size e))).trans (kk b q e)⟩
end
def khashP (p : PV) : Int := match tkey p with
  | some k => khash k
  | none => 0
def pairsX : List PV → Option (List (PV × PV))
  | [] => some []
  | .tup [k, v] :: ps => if isTKey k = true then (pairsX ps).map fun r => (k, v) :: r else none
  | _ :: _ => none
def mergeX (ks more : List (PV × PV)) : List (PV × PV) := more.foldl (fun acc kv => putX acc kv.1 kv.2) ks
def gDictX : GL := fun ps => match ps with
  | [.tup xs] => if decide (xs.length ≤ 1000000) = true then (pairsX xs).map fun ks => .dit (mergeX [] ks) else none
  | [.lst xs] => if decide (xs.length ≤ 1000000) = true then (pairsX xs).map fun ks => .dit (mergeX [] ks) else none
  | [.dit ks] => if decide ((ks.map fun kv => khashP kv.1).Nodup) = true then some (.dit ks) else none
  | _ => none
theorem RepX.hashes {K : PySem.W.Frag} {H : Hp} : ∀ {ks : List (PV × PV)} {xs : TX3}, RepX K H ks xs → xs.map (fun x => khash x.1) = ks.map fun kv => khashP kv.1
  | [], _, h => by rw [RepX.nil_iff.mp h]; rfl
  | (k, v) :: ks, _, h => by
    obtain ⟨k', b, x, r, rfl, h1, h2, h3, t⟩ := RepX.cons_iff.mp h
    simp only [List.map_cons, RepX.hashes t, khashP, h1]
theorem TRel.hashes {w : World} {xs : TX3} {us : TU3} (r : TRel xs us) (hp : ∀ x ∈ xs, plainK x.1 = true) : us.map (fun x => NestedKey.hash w x.1) = xs.map fun x => khash x.1 := by
  unfold TRel at r
  induction r with
  | nil => rfl
  | @cons p q ps qs h t ih =>
    rw [List.map_cons, List.map_cons, ih fun x hx => hp x (by simp [hx]), ← h.1, khash_eq w p.1 (hp p (by simp))]
section
variable {X : Cx}
theorem pairsX_at {pins : List (Addr × Obj)} {σ : L2.St} {H1 H : Hp} {s : Shared} (I : Inv X pins σ H s) (sub : Sub H1 H) : ∀ {ps : List PV} {ks : List (PV × PV)} {vs : List V} {us : List Value}, pairsX ps = some ks → RepL X.K H1 ps vs → Vals vs us →
    ∃ (xs : TX3) (zs : TU3) (qs : List (Value × Value)) (Ts : List Addr), RepX X.K H1 ks xs ∧ TRel xs zs ∧ qs.length = us.length ∧ zs.length = us.length ∧ us = Ts.map Value.ref ∧
      (∀ (j : Nat) (k v : Value), qs[j]? = some (k, v) → ∃ b, Ts[j]? = some b ∧ PairAt s.heap b k v ∧ ∃ key c, zs[j]? = some (key, c, v) ∧ k = .ref c)
  | [], _, _, _, e, r, q => by
    cases e
    rw [RepL.nil_iff.mp r] at q
    cases q
    exact ⟨[], [], [], [], RepX.nil, .nil, rfl, rfl, rfl, fun j k v h => by simp at h⟩
  | p :: ps, _, _, _, e, r, q => by
    obtain ⟨x, t, rfl, rp, rt⟩ := RepL.cons_iff.mp r
    unfold pairsX at e
    split at e
    · cases ‹_ :: _ = []›
    · rename_i k v ps' heq
      cases heq
      split at e
      · rename_i hk
        obtain ⟨ks', e1, e2⟩ := Option.map_eq_some_iff.mp e
        cases e2
        cases q with
        | cons q1 q2 =>
          obtain ⟨kv, rs, qs, Ts, i1, i2, i3, i4, i5, i6⟩ := pairsX_at I sub e1 rt q2
          simp only [Rep] at rp
          obtain ⟨b, ws, rfl, ta, rl⟩ := rp
          cases q1
          obtain ⟨xk, ws1, rfl, rk, rl1⟩ := RepL.cons_iff.mp rl
          obtain ⟨xv, rfl, rv⟩ := rl1.one_iff
          obtain ⟨key, hkey⟩ := isTKey_get hk
          obtain ⟨its, rits, ⟨o, n, ho, hc, hdn, hdt⟩, _⟩ := tup_at I (sub.le.tup ta)
          obtain ⟨uk, uv, rfl, ruk, ruv⟩ := Vals.two rits
          obtain ⟨c, rfl⟩ := rep_tref hkey rk
          cases ruk
          refine ⟨(key, c, xv) :: kv, (key, c, uv) :: rs, (.ref c, uv) :: qs, b :: Ts, RepX.cons hkey rk rv i1, .cons ⟨rfl, rfl, ruv⟩ i2, by simp [i3], by simp [i4], by simp [i5], fun j k' v' h => ?_⟩
          cases j with
          | zero =>
            simp at h
            obtain ⟨rfl, rfl⟩ := h
            exact ⟨b, rfl, .inl ⟨o, ho, hc, n, hdt⟩, key, c, rfl, rfl⟩
          | succ j =>
            obtain ⟨c', h1, h2, ky, c2, h3, h4⟩ := i6 j k' v' (by simpa using h)
            exact ⟨c', by simpa using h1, h2, ky, c2, by simpa using h3, h4⟩
      · cases e
    · cases e
theorem dit_laid {pins : List (Addr × Obj)} {σ : L2.St} {H1 H : Hp} {s : Shared} {h' : Heap} {tk : Nat} {xs : TX3} {us : TU3} {ks : List (PV × PV)} (I : Inv X pins σ H s) (sub : Sub H1 H) (rx : RepX X.K H1 ks xs) (tr : TRel xs us) (hz : xs.length ≤ sizeLine)
    (dd : h'.DictOfH (nestedKind X.prog X.w) s.heap.objs.size us) (kk : ∀ b q, s.heap.get? b = some q → h'.get? b = some q) :
    ∃ ob, Inv X pins σ (upd H s.heap.objs.size ob) { s with heap := h', toks := tk } ∧ ORep X.K H1 (upd H s.heap.objs.size ob) s.heap.objs.size (.dit ks) := by
  obtain ⟨o', ok', ho'⟩ := dit_of dd tr rx.plain (beq_eq_false_iff_ne.mpr (Nat.ne_of_gt I.big)) hz
  exact ⟨_, I.laid (t' := tk) kk (Nat.le_refl _) (ok' _), o', xs, upd_same, rx⟩
theorem dict_pairsX {pins : List (Addr × Obj)} {σ : L2.St} {H1 H : Hp} {s : Shared} {Q : VK} {T : String} {a : Addr} {its : List Value} {ps : List PV} {ks : List (PV × PV)} {vs : List V} (hu : X.A.units + 65 < cLine) (hc : X.calm = true) (I : Inv X pins σ H s) (sub : Sub H1 H) (hT : T = "tuple" ∨ T = "list")
    (pl : PlainSeq T s.heap a its.toArray) (e : pairsX ps = some ks) (r : RepL X.K H1 ps vs) (q : Vals vs its) (hz : ps.length ≤ 1000000) (k : kF X.K (.dit (mergeX [] ks)) H1 H Q) :
    wpAny (model X.prog X.w) X.A (call (.type "dict") [.ref a]) (EP X pins σ Q) X.xe s := by
  obtain ⟨xs, zs, qs, Ts, i1, i2, i3, i4, i5, i6⟩ := pairsX_at I sub e r q
  have hlen : its.length = ps.length := by rw [← q.length, r.length]
  have items : PairItems s.heap its.toArray (fun j => Ts.getD j 0) qs := by
    refine ⟨by simp [i3], fun j k v h => ?_⟩
    obtain ⟨b, h1, h2, _⟩ := i6 j k v h
    refine ⟨?_, ?_⟩
    · have : its[j]? = some (.ref b) := by rw [i5, List.getElem?_map, h1]; rfl
      simpa [List.getD_eq_getElem?_getD, h1] using this
    · simpa [List.getD_eq_getElem?_getD, h1] using h2
  have hv : PairsHaveH (nestedKind X.prog X.w) qs.length (PairRel qs) zs := ⟨by rw [i4, i3], fun j key v h => by
    obtain ⟨b, _, _, ky, c, h3, h4⟩ := i6 j key v h
    exact ⟨ky, c, h3, h4⟩⟩
  have his : ∀ x ∈ zs, (nestedKind X.prog X.w).is s.heap x.1 x.2.1 := fun x hx => by
    obtain ⟨y, hy, e1, e2⟩ := i2.mem x hx
    have := i1.keys_is I sub.le y hy
    rw [e1, e2] at this
    exact this
  have st : KeysStay (nestedKind X.prog X.w) s.heap s.heap.objs.size [] zs := fun h' hk x hx => nestedKind_stays.stays (fun b o _ _ e _ => hk b o (Nat.ne_of_lt (Heap.lt_size e)) (by simp) e) (his x hx)
  have fin : ∀ h' tk, h'.DictOfH (nestedKind X.prog X.w) s.heap.objs.size (storedAllH [] zs) → (∀ b o, b ∉ ([] : List Addr) → s.heap.get? b = some o → h'.get? b = some o) → EP X pins σ Q (.ref s.heap.objs.size) { s with heap := h', toks := tk } := fun h' tk hd' hk => by
    have hlx : xs.length = zs.length := Paired.length i2
    obtain ⟨ob, I', ro⟩ := dit_laid (tk := tk) I sub (storedAll_rep i1 RepX.nil) (storedAll_rel i2 .nil) (Nat.le_trans (storedAll_len xs []) (by rw [sizeLine_eq]; simp; omega)) hd' (fun b o => hk b o (by simp))
    have hn := I.hok.fresh (Nat.le_refl s.heap.objs.size)
    exact ⟨.ref s.heap.objs.size, _, I', rfl, k _ _ (subU hn) hn ro⟩
  have hqz : qs.length ≤ sizeLine := by rw [i3, hlen, sizeLine_eq]; omega
  have hr : (nestedKind X.prog X.w).room X.A.in1.in1 := by show X.A.units + 1 + 1 + 8 < cLine; omega
  rcases hT with rfl | rfl
  · exact PySem.call_dict_pairsH (PairArg.tuple a its.toArray (fun j => Ts.getD j 0) qs) (I.ok.hd hc) hr ⟨pl, items⟩ hv st hqz fin
  · exact PySem.call_dict_pairsH (PairArg.list a its.toArray (fun j => Ts.getD j 0) qs) (I.ok.hd hc) hr ⟨pl, items⟩ hv st hqz fin
theorem cf_dictX (hu : X.A.units + 65 < cLine) (hc : X.calm = true) : CallF X (.type "dict") gDictX := by
  intro pins s σ H xs us Q I r ⟨ps, v, H1, sub, a, e, k⟩
  unfold gDictX at e
  split at e
  · split at e
    · rename_i xs' hz
      obtain ⟨ks, e1, e2⟩ := Option.map_eq_some_iff.mp e
      cases e2
      obtain ⟨x, rfl, rx⟩ := a.one
      obtain ⟨b, vs, rfl, q, rl⟩ := rt_tup rx
      obtain ⟨its, rv, pl, hz2⟩ := tup_at I (sub.le.tup q)
      rw [Vals.ref1 r]
      exact dict_pairsX hu hc I sub (.inl rfl) pl e1 rl rv (by simpa using hz) k
    · cases e
  · split at e
    · rename_i xs' hz
      obtain ⟨ks, e1, e2⟩ := Option.map_eq_some_iff.mp e
      cases e2
      obtain ⟨x, rfl, rx⟩ := a.one
      obtain ⟨b, vs, rfl, q, rl⟩ := rx
      obtain ⟨z, its, n, rv, _, ho⟩ := lst_rd I q
      rw [Vals.ref1 r]
      exact dict_pairsX hu hc I sub (.inr rfl) ⟨_, n, ho, rfl, rfl, rfl⟩ e1 rl rv (by simpa using hz) k
    · cases e
  · split at e
    · rename_i ks hz
      cases e
      obtain ⟨x, rfl, rx⟩ := a.one
      obtain ⟨b, o, kv, rfl, q, rk⟩ := rx
      rw [Vals.ref1 r]
      obtain ⟨us, tr, dd, hs, hsz, hl⟩ := dit_at I sub.le q rk
      refine call_dict_copyX hu hs dd ?_ (by omega) fun h' dd' kk => ?_
      · have e1 : (us.map fun x => (nestedKind X.prog X.w).hash x.1) = us.map fun x => NestedKey.hash X.w x.1 := rfl
        rw [e1, tr.hashes rk.plain, rk.hashes]
        simpa using hz
      · obtain ⟨ob, I', ro⟩ := dit_laid (tk := s.toks) I sub rk tr hsz dd' kk
        have hn := I.hok.fresh (Nat.le_refl s.heap.objs.size)
        exact ⟨.ref s.heap.objs.size, _, I', rfl, k _ _ (subU hn) hn ro⟩
    · cases e
  · cases e
/-! ### sorted(d) -/
def gSortX : GL := fun ps => match ps with
  | [.dit ks] => if sortOk (ks.map (·.1)) = true then some (.lst (isortP leP (ks.map (·.1)))) else none
  | _ => none
theorem cf_sortX (hu : X.A.units + 65 < cLine) (hc : X.calm = true) : CallF X (.builtin "sorted") gSortX := by
  intro pins s σ H xs us Q I r ⟨ps, v, H1, sub, a, e, k⟩
  unfold gSortX at e
  split at e
  · rename_i ks
    split at e
    · rename_i hok
      cases e
      obtain ⟨x, rfl, rx⟩ := a.one
      obtain ⟨d, o, kv, rfl, rd, rk⟩ := rx
      rw [Vals.ref1 r]
      obtain ⟨us2, es, ep, tr, h1, h2, h3, h4, h5, h6, h6', h7⟩ := dit_raw I rd
      have hnew : ∀ {acc : List Value} {ys : List PV} {vs : List V}, sortOk ys = true → RepL X.K H1 ys vs → Vals vs acc → ∀ (t : Shared) (A : Around), Inv X pins σ H t → A.units + 2 + 15 < cLine → kF X.K (.lst (isortP leP ys)) H1 H Q → t.heap.objs.size = t.heap.objs.size →
          wpAny (model X.prog X.w) A (call (.builtin "list.sort") [.ref t.heap.objs.size]) (fun _ t' => EP X pins σ Q (.ref t.heap.objs.size) t') X.xe { t with heap := t.heap.push (seqObj "list" acc.toArray 0) } := by
        intro acc ys vs hok rl rv t A It hA k _
        unfold sortOk at hok
        simp only [Bool.and_eq_true, Bool.or_eq_true, decide_eq_true_eq] at hok
        obtain ⟨⟨⟨q1, q2⟩, q3⟩, q4⟩ := hok
        have rlH : RepL X.K H ys vs := rl.mono sub.le _ _
        have hlen : (ys.zip vs).length = ys.length := by rw [← List.length_map (f := (·.1)), zip_fst rlH]
        have hmap : (ys.zip vs).map (fun b => toD b.1) = ys.map toD := by
          conv => rhs; rw [← zip_fst rlH]
          rw [List.map_map]; rfl
        have kk : ∀ b o, t.heap.get? b = some o → (t.heap.push (seqObj "list" acc.toArray 0)).get? b = some o := fun b o e => Heap.get?_push_of_some _ e
        have hoL : (t.heap.push (seqObj "list" acc.toArray 0)).get? t.heap.objs.size = some (seqObj "list" acc.toArray 0) := Heap.get?_push_size _ rfl
        have er := (reads_each It q1 rlH rv).mono (R' := fun u (b : PV × V) => ∃ as, Reads (t.heap.push (seqObj "list" acc.toArray 0)) u (toD b.1) as ∧ t.heap.objs.size ∉ as) fun u b hr => by
          obtain ⟨as, ra⟩ := hr
          refine ⟨as, PyProof.Rows.Reads.keeps kk ra, fun hm => ?_⟩
          obtain ⟨o, e⟩ := PyProof.On.reads_mem_get ra _ hm
          exact absurd (Heap.lt_size e) (Nat.lt_irrefl _)
        refine PySem.W.list_sort_data (s := { t with heap := t.heap.push (seqObj "list" acc.toArray 0) }) (R := fun u b => RelV b.2 u) (enc := fun b : PV × V => toD b.1) (bs := ys.zip vs) hoL (vals_each rlH rv)
          er ?_ ?_ (by rw [hlen, sizeLine_eq]; omega) ?_ fun out ho hE => ?_
        · rw [hmap]
          intro d hd d' hd'
          obtain ⟨z, hz1, rfl⟩ := List.mem_map.mp hd
          obtain ⟨z', hz2, rfl⟩ := List.mem_map.mp hd'
          exact List.all_eq_true.mp (List.all_eq_true.mp q3 z hz1) z' hz2
        · rw [hmap]
          rcases q2 with q2 | q2
          · left
            intro d hd
            obtain ⟨z, hz1, rfl⟩ := List.mem_map.mp hd
            have := List.all_eq_true.mp q2 z hz1
            cases z with
            | tup zs =>
              cases zs with
              | nil => cases this
              | cons a b => exact ⟨toD a, toDs b, by simp [toD, toDs]⟩
            | _ => cases this
          · right
            intro d hd
            obtain ⟨z, hz1, rfl⟩ := List.mem_map.mp hd
            exact isAtom_not (List.all_eq_true.mp q2 z hz1)
        · intro b hb
          have hm : b.1 ∈ ys := by rw [← zip_fst rlH]; exact List.mem_map_of_mem hb
          have := (okD_lay 15 b.1 (okDs_mem q1 _ hm)).2
          omega
        · obtain ⟨ep2, he'⟩ := PyProof.Rows.sortedHeap_at (vs := acc) (out := out.toArray) hoL
          have hle : (fun a b : PV × V => leP a.1 b.1) = PySem.W.dataLe false (fun b : PV × V => toD b.1) := rfl
          rw [← hle] at hE
          have hfst : ((ys.zip vs).mergeSort (fun a b => leP a.1 b.1)).map (·.1) = isortP leP ys := by
            rw [PySem.W.sort_maps (f := fun b : PV × V => b.1) (s := leP) (fun _ _ _ _ => rfl), zip_fst rlH, isortP_eq leP_total]
          have hlen2 : ((ys.zip vs).mergeSort (fun a b => leP a.1 b.1)).length = ys.length := by rw [List.length_mergeSort, hlen]
          have rl2 : RepL X.K H1 (isortP leP ys) (((ys.zip vs).mergeSort (fun a b => leP a.1 b.1)).map (·.2)) := by
            rw [← hfst]
            exact repL_of_pairs fun b hb => zip_rep rl b ((List.mergeSort_perm _ _).mem_iff.mp hb)
          have hz2 : (((ys.zip vs).mergeSort (fun a b => leP a.1 b.1)).map (·.2)).length ≤ sizeLine := by rw [List.length_map, hlen2, sizeLine_eq]; omega
          have hn := It.hok.fresh (Nat.le_refl t.heap.objs.size)
          refine ⟨.ref t.heap.objs.size, upd H t.heap.objs.size (.lst (((ys.zip vs).mergeSort (fun a b => leP a.1 b.1)).map (·.2))), It.laid (t' := t.toks) (fun b o e => ?_) (Nat.le_refl _) ⟨hz2, out, ep2, each_vals hE, he'⟩, rfl, k _ _ (subU hn) hn ⟨_, upd_same, rl2⟩⟩
          have lt := Heap.lt_size e
          rw [PyProof.Rows.sortedHeap_old (Nat.ne_of_lt lt) (show b < (t.heap.push (seqObj "list" acc.toArray 0)).objs.size from by rw [Heap.size_push]; exact Nat.lt_succ_of_lt lt)]
          exact kk b o e
      refine Calls.call_function_entry PyProof.Rows.kind_sorted PyProof.Rows.plain_sorted PyProof.Rows.entry_sorted (PyProof.Rows.args_sorted1 _) ?_
      unfold Builtin.«sorted»
      refine wpAny_bind (m := checkCount "sorted" 1 1 _) (wpAny_pure ?_)
      refine wpAny_bind (PySem.W.kdu_collect (A := X.A.in1) (KdlSrc.rawDict (es := es) (ep := ep) h5) (I.ok.hd hc) h4 (by rw [h6']; exact h6) fun h' tk acc hk hacc => ?_)
      have It : Inv X pins σ H { s with heap := h', toks := tk } := I.kept hk
      have rv := keys_vals tr h6' h7 hacc
      have hal : acc.toList.length ≤ sizeLine := by
        rw [← rv.length, List.length_map]; exact h6
      refine wpAny_bind (wpAny_newList ?_ hal)
      refine wpAny_bind (wpAny_holding (wpAny_mono (hnew hok (keysX_rep rk) rv { s with heap := h', toks := tk } _ It (by show X.A.units + 1 + 2 + 15 < cLine; omega) k rfl) (fun _ t' ht => ?_) fun _ _ e => e))
      exact wpAny_pure ⟨_, rfl, ht⟩
    · cases e
  · cases e
end
end PT

set_option Elab.async false
set_option linter.all false
set_option autoImplicit false
set_option maxRecDepth 100000
set_option maxHeartbeats 4000000
/-! PT21: ranges as arguments; is of truth values; chained comparisons. -/
namespace PT
open PySem PySem.Spec PyProof.Rows L2

/-! ### list(range(..)), tuple(range(..)) -/
/-- an expression that makes a range -/
structure RgX (X : Cx) (own : List Nat) (e : Expr) (f : Env → Option ((Int × Int × Int) × Env)) : Prop where
  run : ∀ (pins : List (Addr × Obj)) (s : Shared) (σ : L2.St) (H : Hp) (B : Base) (ρ ρ' : Env) (i j c : Int) (H1 : Hp) (Q : Hp → Prop), Inv X pins σ H s → SR X.K B own ρ σ H1 H → f ρ = some ((i, j, c), ρ') →
    (∀ H' H1', LeR H1 H1' → SR X.K B own ρ' σ H1' H' → Q H') →
    wpAny (model X.prog X.w) X.A (eval e X.env) (fun x s' => ∃ r t u v H', x = .ref r ∧ IsRange s'.heap r i j c t u v ∧ Inv X pins σ H' s' ∧ Q H') X.xe s
def rg1 (f : EF) : Env → Option ((Int × Int × Int) × Env) := fun ρ => (f ρ).bind fun r => match r.1 with | .int j => some ((0, j, 1), r.2) | _ => none
def rg2 (f g : EF) : Env → Option ((Int × Int × Int) × Env) := fun ρ => (f ρ).bind fun r => (g r.2).bind fun s => match r.1, s.1 with | .int i, .int j => some ((i, j, 1), s.2) | _, _ => none
def rg3 (f g h : EF) : Env → Option ((Int × Int × Int) × Env) := fun ρ => (f ρ).bind fun r => (g r.2).bind fun s => (h s.2).bind fun t => match r.1, s.1, t.1 with
  | .int i, .int j, .int c => if c ≠ 0 ∧ c.natAbs < 1073741824 then some ((i, j, c), t.2) else none
  | _, _, _ => none
section
variable {X : Cx} {own : List Nat} {a b c e : Expr} {fa fb fc : EF} {p pos : Pos}
theorem rgx_1 (hg : Gl X "range") (hm : X.mg "range" = none) (ha : EX X own a fa) (na : starEach [a] X.env = (false, eval a X.env) :: starEach [] X.env := by rfl) : RgX X own (.Call (.Name "range" p) [a] [] pos) (rg1 fa) := ⟨by
  intro pins s σ H B ρ ρ' i j c H1 Q I S e k
  obtain ⟨v, ρ1, e1, e2⟩ := inv_b1 e
  refine Call_ (ld_blt I hg hm boot_range (PyProof.Rows.callWith_type1 (one_arg ha.run (R := fun x H' => ∃ H1', LeR H1 H1' ∧ SR X.K B own ρ1 σ H1' H' ∧ Rep X.K H1' v x) I ⟨B, ρ, v, ρ1, H1, S, e1, fun x H' H1' le S' r => ⟨H1', le, S', r⟩⟩ (fun v2 s2 x H2 I2 r q => ?_) na) na))
  obtain ⟨H12, le, S2, rx⟩ := q
  cases v with
  | int n =>
    cases e2
    simp only [Rep] at rx
    subst rx
    obtain ⟨t, rfl⟩ := r
    exact call_range_1 ⟨_, _, _, _, H2, rfl, IsRange.new _ _ _ _ _ _ _, I2.kept fun b u e => Heap.get?_push_of_some _ e, k H2 H12 le S2⟩
  | _ => cases e2⟩
theorem rgx_2 (hg : Gl X "range") (hm : X.mg "range" = none) (ha : EX X own a fa) (hb : EX X own b fb) (na : starEach [a, b] X.env = (false, eval a X.env) :: starEach [b] X.env := by rfl)
    (nb : starEach [b] X.env = (false, eval b X.env) :: starEach [] X.env := by rfl) (hp : (backTo pos (starEach [b] X.env)).any (·.1) = false := by rfl) : RgX X own (.Call (.Name "range" p) [a, b] [] pos) (rg2 fa fb) := ⟨by
  intro pins s σ H B ρ ρ' i j c H1 Q I S e k
  obtain ⟨v, ρ1, e1, e2⟩ := inv_b1 e
  obtain ⟨w, ρ2, e3, e4⟩ := inv_b1 e2
  have h1 : tE X.K own fa σ H (fun x H' => ∃ H1', LeR H1 H1' ∧ SR X.K B own ρ1 σ H1' H' ∧ Rep X.K H1' v x) := ⟨B, ρ, v, ρ1, H1, S, e1, fun x H' H1' le S' r => ⟨H1', le, S', r⟩⟩
  refine Call_ (ld_blt I hg hm boot_range (PyProof.Rows.callWith_type1 (args_cons (thn (ha.run.run pins s σ H _ I h1) fun v1 s1 ⟨x, Ha, Ia, ra, qa⟩ => ?_) na) na hp))
  obtain ⟨H12, le, S2, rx⟩ := qa
  refine one_arg hb.run (R := fun y H' => ∃ H1', LeR H12 H1' ∧ SR X.K B own ρ2 σ H1' H' ∧ Rep X.K H1' w y) Ia ⟨B, ρ1, w, ρ2, H12, S2, e3, fun x H' H1' le S' r => ⟨H1', le, S', r⟩⟩ (fun v2 s2 y H2 I2 rb q => ?_) nb
  obtain ⟨H13, le2, S3, ry⟩ := q
  cases v with
  | int n =>
    cases w with
    | int m =>
      cases e4
      simp only [Rep] at rx ry
      subst rx
      subst ry
      obtain ⟨t, rfl⟩ := ra
      obtain ⟨t', rfl⟩ := rb
      exact call_range_2 ⟨_, _, _, _, H2, rfl, IsRange.new _ _ _ _ _ _ _, I2.kept fun b u e => Heap.get?_push_of_some _ e, k H2 H13 (le.trans le2) S3⟩
    | _ => cases e4
  | _ => cases e4⟩
theorem rgx_3 (hg : Gl X "range") (hm : X.mg "range" = none) (ha : EX X own a fa) (hb : EX X own b fb) (hc : EX X own c fc) (hs : starEach [a, b, c] X.env = (false, eval a X.env) :: starEach [b, c] X.env := by rfl) (hs2 : starEach [b, c] X.env = (false, eval b X.env) :: starEach [c] X.env := by rfl) (hs3 : starEach [c] X.env = (false, eval c X.env) :: starEach [] X.env := by rfl)
    (hpl : (backTo pos (starEach [b, c] X.env)).any (·.1) = false := by rfl) : RgX X own (.Call (.Name "range" p) [a, b, c] [] pos) (rg3 fa fb fc) := ⟨by
  intro pins s σ H B ρ ρ' i j cc H1 Q I S e k
  obtain ⟨v, ρ1, e1, e2⟩ := inv_b1 e
  obtain ⟨w, ρ2, e3, e4⟩ := inv_b1 e2
  obtain ⟨u, ρ3, e5, e6⟩ := inv_b1 e4
  have pa := pa_cons ha.run (pa_cons hb.run (pa_cons hc.run pa_nil hs3) hs2) hs
  refine Call_ (ld_blt I hg hm boot_range (PyProof.Rows.callWith_type1 (thn (pa.run pos pins s σ H (fun vs H' => ∃ x y z H1', vs = [x, y, z] ∧ LeR H1 H1' ∧ SR X.K B own ρ3 σ H1' H' ∧ Rep X.K H1' v x ∧ Rep X.K H1' w y ∧ Rep X.K H1' u z) I
    ⟨B, ρ, v, ρ1, H1, S, e1, fun x H' H1' le S' r => ⟨B, ρ1, w, ρ2, H1', S', e3, fun y H2 H12 le2 S2 r2 => ⟨B, ρ2, u, ρ3, H12, S2, e5, fun z H3 H13 le3 S3 r3 => ⟨x, y, z, H13, rfl, (le.trans le2).trans le3, S3, r.mono (le2.trans le3) _ _, r2.mono le3 _ _, r3⟩⟩⟩⟩) fun us s1 ⟨vs, H2, I2, r1, q1⟩ => ?_) hs hpl))
  obtain ⟨x, y, z, H13, rfl, le, S3, rx, ry, rz⟩ := q1
  cases v with
  | int i' =>
    cases w with
    | int j' =>
      cases u with
      | int c' =>
        simp only at e6
        split at e6
        · rename_i hj
          cases e6
          simp only [Rep] at rx ry rz
          subst rx ry rz
          cases r1 with
          | cons r rr =>
            cases rr with
            | cons r' rr =>
              cases rr with
              | cons r'' rr =>
                cases rr
                obtain ⟨t, rfl⟩ := r
                obtain ⟨t', rfl⟩ := r'
                obtain ⟨t'', rfl⟩ := r''
                refine call_range_3 hj.1 ?_ (.inl (PyProof.noPylong_small hj.2))
                exact ⟨_, _, _, _, H2, rfl, IsRange.new _ _ _ _ _ _ _, I2.kept (t' := s1.toks) fun b u e => Heap.get?_push_of_some _ e, k H2 H13 le S3⟩
        · cases e6
      | _ => cases e6
    | _ => cases e6
  | _ => cases e6⟩
def rgLst (i j c : Int) : Option (List PV) :=
  if c = 1 then (if (i62 i && i62 j && decide ((j - i).toNat ≤ 1000000)) = true then some (rngP i (j - i).toNat) else none)
  else if Builtin.Range.small i j c = true ∧ 0 ≤ Builtin.Range.rangeSize i j c ∧ Builtin.Range.rangeSize i j c ≤ 1000000 then some (rngC i c (Builtin.Range.rangeSize i j c).toNat) else none
theorem rgLst_ok {i j c : Int} {l : List PV} (h : rgLst i j c = some l) : ∃ n : Nat, Builtin.Range.small i j c = true ∧ Builtin.Range.rangeSize i j c = n ∧ n ≤ 1000000 ∧ l = rngC i c n := by
  unfold rgLst at h
  split at h
  · rename_i hc
    subst hc
    split at h
    · rename_i hq
      simp only [Bool.and_eq_true, decide_eq_true_eq] at hq
      cases h
      obtain ⟨a1, a2⟩ := i62_iff hq.1.1
      obtain ⟨b1, b2⟩ := i62_iff hq.1.2
      refine ⟨(j - i).toNat, small_one a1 a2 b1 b2, rangeSize_nat i j, hq.2, ?_⟩
      simp [rngP, rngC]
    · cases h
  · split at h
    · rename_i hq
      cases h
      exact ⟨_, hq.1, (Int.toNat_of_nonneg hq.2.1).symm, by omega, rfl⟩
    · cases h
theorem rngC_vals {i c : Int} {n : Nat} {acc : Array Value} (h : ItemsOf (fun k v => ∃ t, v = .int (i + k * c) t) acc n) : Vals ((List.range n).map fun (k : Nat) => V.int (i + (k : Int) * c)) acc.toList := by
  have e : acc.toList.length = n := by rw [Array.length_toList]; exact h.1
  rw [← e]
  refine vals_of_get acc.toList _ fun j u hj => ?_
  obtain ⟨t, rfl⟩ := h.2 j u (by rw [← hj, Array.getElem?_toList])
  exact ⟨t, rfl⟩
theorem rngC_rep {K : PySem.W.Frag} {H : Hp} (i c : Int) (n : Nat) : RepL K H (rngC i c n) ((List.range n).map fun (k : Nat) => V.int (i + (k : Int) * c)) := by
  unfold rngC
  induction (List.range n) with
  | nil => exact RepL.nil
  | cons k ks ih => exact RepL.cons rep_int ih
def fLstRg (f : Env → Option ((Int × Int × Int) × Env)) : EF := fun ρ => (f ρ).bind fun r => (rgLst r.1.1 r.1.2.1 r.1.2.2).map fun l => (.lst l, r.2)
def fTupRg (f : Env → Option ((Int × Int × Int) × Env)) : EF := fun ρ => (f ρ).bind fun r => (rgLst r.1.1 r.1.2.1 r.1.2.2).map fun l => (.tup l, r.2)
theorem en_lstRg {f : Env → Option ((Int × Int × Int) × Env)} (hc : X.calm = true) (hg : Gl X "list") (hm : X.mg "list" = none) (he : RgX X own e f) (na : starEach [e] X.env = (false, eval e X.env) :: starEach [] X.env := by rfl) : EN X own (.Call (.Name "list" p) [e] [] pos) (fLstRg f) := ⟨⟨fun pins s σ H Q I ⟨B, ρ, v, ρ', H1, S, ev, k⟩ => by
  obtain ⟨⟨⟨i, j, c⟩, ρ1⟩, e1, e2⟩ := Option.bind_eq_some_iff.mp ev
  obtain ⟨l, e3, e4⟩ := Option.map_eq_some_iff.mp e2
  cases e4
  obtain ⟨n, q1, q2, q3, rfl⟩ := rgLst_ok e3
  refine Call_ (ld_blt I hg hm boot_list (PyProof.Rows.callWith_type1 (args_cons (thn (he.run pins s σ H B ρ ρ1 i j c H1 (fun H' => ∃ H1', LeR H1 H1' ∧ SR X.K B own ρ1 σ H1' H') I S e1 fun H' H1' le S' => ⟨H1', le, S'⟩) fun x s1 ⟨r, t, u, v, H2, ex, hr, I2, q⟩ => args_nil ?_) na) na))
  subst ex
  obtain ⟨H12, le, S2⟩ := q
  refine call_list_range (n := n) (I2.ok.hd hc) hr q1 q2 (by omega) fun h' tk acc c' hk e' hi => ?_
  have hn := I2.hok.fresh (Nat.le_refl s1.heap.objs.size)
  refine ⟨.ref s1.heap.objs.size, upd H2 s1.heap.objs.size (.lst ((List.range n).map fun (k : Nat) => V.int (i + (k : Int) * c))), I2.laid hk (Nat.le_refl _) (show ObjOk X.prog X.w _ _ _ (.lst _) from ⟨?_, acc.toList, c', rngC_vals hi, ?_⟩), rfl, k _ _ H12 le (FR.mk' S2 (subU hn) hn ⟨_, upd_same, rngC_rep i c n⟩)⟩
  · rw [List.length_map, List.length_range, sizeLine_eq]; omega
  · rw [Array.toArray_toList]; exact e'⟩⟩
theorem ex_tupRg {f : Env → Option ((Int × Int × Int) × Env)} (hc : X.calm = true) (hg : Gl X "tuple") (hm : X.mg "tuple" = none) (he : RgX X own e f) (na : starEach [e] X.env = (false, eval e X.env) :: starEach [] X.env := by rfl) : EX X own (.Call (.Name "tuple" p) [e] [] pos) (fTupRg f) := ⟨⟨fun pins s σ H Q I ⟨B, ρ, v, ρ', H1, S, ev, k⟩ => by
  obtain ⟨⟨⟨i, j, c⟩, ρ1⟩, e1, e2⟩ := Option.bind_eq_some_iff.mp ev
  obtain ⟨l, e3, e4⟩ := Option.map_eq_some_iff.mp e2
  cases e4
  obtain ⟨n, q1, q2, q3, rfl⟩ := rgLst_ok e3
  refine Call_ (ld_blt I hg hm boot_tuple (PyProof.Rows.callWith_type1 (args_cons (thn (he.run pins s σ H B ρ ρ1 i j c H1 (fun H' => ∃ H1', LeR H1 H1' ∧ SR X.K B own ρ1 σ H1' H') I S e1 fun H' H1' le S' => ⟨H1', le, S'⟩) fun x s1 ⟨r, t, u, v, H2, ex, hr, I2, q⟩ => args_nil ?_) na) na))
  subst ex
  obtain ⟨H12, le, S2⟩ := q
  refine call_tuple_range (n := n) (I2.ok.hd hc) hr q1 q2 (by omega) fun h' tk acc hk hi => ?_
  have I3 : Inv X pins σ H2 { s1 with heap := h', toks := tk } := I2.kept hk
  have hn := I3.hok.fresh (Nat.le_refl h'.objs.size)
  have hz : ((List.range n).map fun (k : Nat) => V.int (i + (k : Int) * c)).length ≤ sizeLine := by rw [List.length_map, List.length_range, sizeLine_eq]; omega
  have I4 := Inv.tnew (xs := (List.range n).map fun (k : Nat) => V.int (i + (k : Int) * c)) (us := acc.toList) tk I3 (rngC_vals hi) hz rfl
  rw [Array.toArray_toList] at I4
  refine ⟨.ref h'.objs.size, _, I4, rfl, k _ _ (upd H12 h'.objs.size _) (le.trans (LeR.upd (S2.sub.free hn))) (S2.ext (Ext.alloc S2.sub hn)) (rep_tup (TupAt.new rfl) (rngC_rep i c n))⟩⟩⟩
end
/-! ### is of truth values -/
def gIsB : G2 := fun p q => match p, q with | .bl a, .bl b => some (.bl (decide (a = b))) | _, _ => none
def gIsNotB : G2 := fun p q => match p, q with | .bl a, .bl b => some (.bl (!decide (a = b))) | _, _ => none
section
variable {X : Cx}
theorem ov_isB : OpV X (compareOp .Is) gIsB := OpR.imp op_isBl fun x y H Q ⟨p, q, v, H1, s, a, b, e, k⟩ => by
  unfold gIsB at e
  split at e
  · cases e
    exact ⟨_, _, rt_bl a, rt_bl b, k.at s rep_bl⟩
  · cases e
theorem ov_notB : OpV X (compareOp .IsNot) gIsNotB := OpR.imp op_notBl fun x y H Q ⟨p, q, v, H1, s, a, b, e, k⟩ => by
  unfold gIsNotB at e
  split at e
  · cases e
    exact ⟨_, _, rt_bl a, rt_bl b, k.at s rep_bl⟩
  · cases e
end
end PT

set_option Elab.async false
set_option linter.all false
set_option autoImplicit false
set_option maxRecDepth 100000
set_option maxHeartbeats 4000000
/-! PT22: a op b op c; a try whose body raises nothing. -/
namespace PT
open PySem PySem.Spec PyProof.Rows L2
/-- a op b op c -/
def fChain (g g' : G2) (fa fb fc : EF) : EF := fun ρ => (fa ρ).bind fun r => (fb r.2).bind fun s => (g r.1 s.1).bind fun v => match v with
  | .bl true => (fc s.2).bind fun t => (g' s.1 t.1).map fun w => (w, t.2)
  | .bl false => some (.bl false, s.2)
  | _ => none
section
variable {X : Cx} {own io lm own' : List Nat} {a b c : Expr} {fa fb fc : EF} {pos : Pos}
theorem ent_chain {K : PySem.W.Frag} {g g' : G2} : ∀ σ H Q, tE K own (fChain g g' fa fb fc) σ H Q → tChain (r2V K g) (r2V K g') (tE K own fa) (tE K own fb) (tE K own fc) σ H Q := fun σ H Q ⟨B, ρ, v, ρ', H1, S, e, k⟩ => by
  unfold fChain at e
  obtain ⟨⟨va, ρ1⟩, ea, e⟩ := Option.bind_eq_some_iff.mp e
  obtain ⟨⟨vb, ρ2⟩, eb, e⟩ := Option.bind_eq_some_iff.mp e
  obtain ⟨w, ew, e⟩ := Option.bind_eq_some_iff.mp e
  refine ⟨B, ρ, va, ρ1, H1, S, ea, fun x H' H1' le S' rx => ?_⟩
  refine ⟨B, ρ1, vb, ρ2, H1', S', eb, fun y H2 H12 le2 S2 ry => ?_⟩
  refine ⟨va, vb, w, H12, S2.sub, (rx.mono le2 _ _).rt S2.sub.le, ry.rt S2.sub.le, ew, fun z H3 H13 ex rz => ?_⟩
  match w, e, rz with
  | .bl true, e, rz =>
    obtain ⟨⟨vc, ρ3⟩, ec, e⟩ := Option.bind_eq_some_iff.mp e
    obtain ⟨w2, ew2, e⟩ := Option.map_eq_some_iff.mp e
    cases e
    simp only [Rep] at rz
    refine ⟨true, rz, ?_⟩
    rw [if_pos rfl]
    refine ⟨B, ρ2, vc, _, H13, S2.ext ex, ec, fun y4 H4 H14 le4 S4 r4 => ?_⟩
    exact ⟨vb, vc, _, H14, S4.sub, ((ry.mono ex.le _ _).mono le4 _ _).rt S4.sub.le, r4.rt S4.sub.le, ew2, fun z5 H5 H15 ex5 rz5 => k z5 H5 H15 ((((le.trans le2).trans ex.le).trans le4).trans ex5.le) (S4.ext ex5) rz5⟩
  | .bl false, e, rz =>
    cases e
    simp only [Rep] at rz
    refine ⟨false, rz, ?_⟩
    rw [if_neg (by decide)]
    exact k (.bl false) H3 H13 ((le.trans le2).trans ex.le) (S2.ext ex) rfl
theorem ex_chain {op op' : CmpOp} {g g' : G2} (ho : OpV X (compareOp op) g) (ho' : OpV X (compareOp op') g') (ha : EX X own a fa) (hb : EX X own b fb) (hc : EX X own c fc) (hm : lastMarks [op, op'] [b, c] = false := by with_unfolding_all rfl) :
    EX X own (.Compare a [op, op'] [b, c] pos) (fChain g g' fa fb fc) := ⟨PE.ent (pe_chain ho ho' ha.run hb.run hc.run hm) ent_chain⟩
theorem tx_chain {op op' : CmpOp} {g g' : G2} (ho : OpV X (compareOp op) g) (ho' : OpV X (compareOp op') g') (ha : EX X own a fa) (hb : EX X own b fb) (hc : EX X own c fc) (hm : lastMarks [op, op'] [b, c] = false := by with_unfolding_all rfl) :
    TX X own (.Compare a [op, op'] [b, c] pos) (fTest (fChain g g' fa fb fc)) := ⟨PT.ent (pt_chain ho ho' ha.run hb.run hc.run hm) (ent_test ent_chain)⟩
theorem sx_try {body : List Stmt} {h₀ : ExceptHandler} {hs : List ExceptHandler} {f : SF} (hb : SsX X.nox io lm own own' body f) : SX X io lm own own' (.Try body (h₀ :: hs) [] [] pos) f := ⟨ps_try_thru0 hb.run⟩
end
end PT
namespace PT
open PySem PySem.Spec PyProof.Rows L2
/-- a slice of a list, a new list -/
def rSlN (K : PySem.W.Frag) (g : GSl) : V → Option Int → Option Int → Hp → VK → Prop := fun x lo hi H Q => ∃ p v H1, Sub H1 H ∧ RT K H1 H p x ∧ g p lo hi = some v ∧ kF K v H1 H Q
def SlF (X : Cx) (g : GSl) : Prop := SlR X (rSlN X.K g)
section
variable {X : Cx}
theorem sf_lst : SlF X gSlL := SlR.imp sl_list fun x lo hi H Q ⟨p, v, H1, s, a, e, k⟩ => by
  unfold gSlL at e
  split at e
  · cases e
    obtain ⟨b, vs, rfl, q, rl⟩ := a
    refine ⟨b, vs, rfl, .inl q, fun p hp => ?_⟩
    exact k p _ (subU hp) hp ⟨_, upd_same, cut_rep rl lo hi⟩
  · cases e
variable {own : List Nat} {e : Expr} {lo hi : Option Expr} {fe : EF} {fl fh : PF} {p2 pos : Pos}
theorem en_slice {g : GSl} (hg : SlF X g) (he : EX X own e fe) (hl : PX X own lo fl) (hh : PX X own hi fh) : EN X own (.Subscript e (.Slice lo hi none p2) pos) (fSlice g fe fl fh) := ⟨PE.ent (pe_slice hg he.run hl.run hh.run) fun σ H Q ⟨B, ρ, v, ρ', H1, S, e, k⟩ => by
  obtain ⟨p, ρ1, e1, e⟩ := inv_b1 e
  obtain ⟨a, ρ2, e2, e⟩ := inv_b1 e
  obtain ⟨b, ρ3, e3, e⟩ := inv_b1 e
  obtain ⟨u, e4, e5⟩ := Option.map_eq_some_iff.mp e
  cases e5
  refine ⟨B, ρ, p, ρ1, H1, S, e1, fun x H2 H12 l2 S2 r2 => ⟨B, ρ1, a, ρ2, H12, S2, e2, fun H3 H13 l3 S3 => ⟨B, ρ2, b, ρ3, H13, S3, e3, fun H4 H14 l4 S4 => ?_⟩⟩⟩
  exact ⟨p, _, H14, S4.sub, (r2.mono (l3.trans l4) _ _).rt S4.sub.le, e4, fun a H5 s n r => k a H5 H14 ((l2.trans l3).trans l4) (FR.mk' S4 s n r)⟩⟩
end
end PT
namespace PT
open PySem PySem.Spec PyProof.Rows L2
/-! t < u, t > u of two tuples of whole numbers -/
def intsOf : List PV → Option (List Int)
  | [] => some []
  | .int i :: xs => (intsOf xs).map (i :: ·)
  | _ :: _ => none
theorem intsOf_rep {K : PySem.W.Frag} {H : Hp} : ∀ {xs : List PV} {ns : List Int} {vs : List V}, intsOf xs = some ns → RepL K H xs vs → vs = ns.map V.int
  | [], _, _, e, r => by cases e; exact RepL.nil_iff.mp r
  | x :: xs, ns, vs, e, r => by
    obtain ⟨v, t, rfl, a, b⟩ := RepL.cons_iff.mp r
    cases x with
    | int i =>
      obtain ⟨ms, e1, rfl⟩ := Option.map_eq_some_iff.mp e
      have := intsOf_rep e1 b
      simp only [Rep] at a
      rw [a, this]; rfl
    | _ => cases e
def gTT (f : List Int → List Int → Bool) : G2 := fun p q => match p, q with
  | .tup xs, .tup ys => (intsOf xs).bind fun ns => (intsOf ys).map fun ms => .bl (f ns ms)
  | _, _ => none
/-- the greater one, from the first pair that differs on -/
def lexGt (ns ms : List Int) : Bool := Ob.lexAt (fun j => decide (ns.getD j 0 = ms.getD j 0)) (fun j => decide (ms.getD j 0 < ns.getD j 0)) (decide (ns.length > ms.length)) 0 (min ns.length ms.length)
section
variable {X : Cx}
def rTT (K : PySem.W.Frag) (f : List Int → List Int → Bool) : R2 := fun x y H Q => ∃ a b ns ms, x = .ref a ∧ y = .ref b ∧ SqT K H a (ns.map V.int) ∧ SqT K H b (ms.map V.int) ∧ Q (.bl (f ns ms)) H
theorem ov_tt {op : CmpOp} {f : List Int → List Int → Bool} (h : OpR X (compareOp op) (rTT X.K f)) : OpV X (compareOp op) (gTT f) := OpR.imp h fun x y H Q ⟨p, q, v, H1, s, a, b, e, k⟩ => by
  unfold gTT at e
  split at e
  · rename_i xs ys
    obtain ⟨ns, e1, e⟩ := Option.bind_eq_some_iff.mp e
    obtain ⟨ms, e2, e⟩ := Option.map_eq_some_iff.mp e
    cases e
    obtain ⟨c, vs, rfl, t1, r1⟩ := rt_tup a
    obtain ⟨d, ws, rfl, t2, r2⟩ := rt_tup b
    have h1 := intsOf_rep e1 r1
    have h2 := intsOf_rep e2 r2
    subst h1; subst h2
    exact ⟨c, d, ns, ms, rfl, rfl, s.le.sqT t1.sq, s.le.sqT t2.sq, k.at s rep_bl⟩
  · cases e
theorem op_gtT (hu : X.A.units < cLine) : OpR X (compareOp .Gt) (rTT X.K lexGt) := by
  intro pn s0 σ0 H0 p q vp vq Q0 J rp rq ⟨a, b, ns, ms, ep, eq', sa, sb, fin⟩
  subst ep; subst eq'
  cases rp; cases rq
  obtain ⟨us, ru, tu, _⟩ := J.tuple sa
  obtain ⟨ws, rw', tw, _⟩ := J.tuple sb
  have iu : PyProof.Rows.IntsAre us ns := Vals.ints ru
  have iw : PyProof.Rows.IntsAre ws ms := Vals.ints rw'
  have lu : us.toArray.size = ns.length := List.size_toArray.trans iu.length
  have lw : ws.toArray.size = ms.length := List.size_toArray.trans iw.length
  have pu : ∀ k (hk : k < us.toArray.size), ∃ t, us.toArray[k] = .int (ns.getD k 0) t := fun k hk => iu.int_at _ _ (by simp at hk; simp [hk])
  have pw : ∀ k (hk : k < ws.toArray.size), ∃ t, ws.toArray[k] = .int (ms.getD k 0) t := fun k hk => iw.int_at _ _ (by simp at hk; simp [hk])
  have main := Ob.RcOp.tuples_gt (A := X.A) (s := s0) (e := fun k => decide (ns.getD k 0 = ms.getD k 0)) (r := fun k => decide (ms.getD k 0 < ns.getD k 0)) tu tw hu
    (fun k hk hk2 => by
      obtain ⟨t, et⟩ := pu k hk
      obtain ⟨t2, et2⟩ := pw k hk2
      rw [et, et2]
      have := SeqAt.EqAt.int_int (ns.getD k 0) t (ms.getD k 0) t2 (A := X.A.in1) (s := s0)
      by_cases q : ns.getD k 0 = ms.getD k 0
      · have z : (ns.getD k 0 == ms.getD k 0) = true := by simpa using q
        rw [z] at this; rw [decide_eq_true q]; exact this
      · have z : (ns.getD k 0 == ms.getD k 0) = false := by simpa using q
        rw [z] at this; rw [decide_eq_false q]; exact this)
    (fun k hk hk2 _ => by
      obtain ⟨t, et⟩ := pu k hk
      obtain ⟨t2, et2⟩ := pw k hk2
      rw [et, et2]
      exact Ob.RcOp.gt_int _ _ _ _)
  rw [lu, lw] at main
  have out : wpAny (model X.prog X.w) X.A (compareOp .Gt (.ref a) (.ref b)) (EP X pn σ0 Q0) X.xe s0 := main X.prog X.w X.xe (EP X pn σ0 Q0) ⟨.bl _, H0, J, rfl, fin⟩
  exact out
abbrev gLtA : G2 := orG gLt (gTT HT.lexLt)
abbrev gGtA : G2 := orG gGt (gTT lexGt)
theorem ov_ltA (hu : X.A.units + 1 < cLine) : OpV X (compareOp .Lt) gLtA := ov_lt.or (ov_tt (op_ltT (by omega)))
theorem ov_gtA (hu : X.A.units + 1 < cLine) : OpV X (compareOp .Gt) gGtA := ov_gt.or (ov_tt (op_gtT (by omega)))
end
end PT
namespace PT
open PySem PySem.Spec PyProof.Rows L2
/-! x in t, x not in t: t a tuple -/
def gMemT (neg : Bool) : G2 := fun p q => match q with
  | .tup ys => if (okD 16 p && okD 16 q) = true then some (.bl (xor neg (ys.any fun y => PyData.eqv (toD y) (toD p)))) else none
  | _ => none
section
variable {X : Cx}
def rMemT (K : PySem.W.Frag) (neg : Bool) : R2 := fun x y H Q => ∃ dx ds, Dp K H x dx ∧ Dp K H y (.tuple ds) ∧ SeqAt.shaped dx = true ∧ SeqAt.shaped (.tuple ds) = true ∧ Q (.bl (xor neg (ds.any fun z => PyData.eqv z dx))) H
theorem op_memT_in (hu : X.A.units + 65 < cLine) : OpR X (compareOp .In) (rMemT X.K false) := by
  intro pn s0 σ0 H0 p q vp vq Q0 J rp rq ⟨dx, ds, h1, h2, h3, h4, fin⟩
  obtain ⟨la, ra⟩ := Dp.reads J dx p vp h1 rp
  obtain ⟨lb, rb⟩ := Dp.reads J (.tuple ds) q vq h2 rq
  rw [Bool.false_xor] at fin
  exact SeqAt.in_tuple_reads rb ra (SeqAt.canLay_of_shaped h4) (SeqAt.canLay_of_shaped h3) (room_in_shaped h3 hu) ⟨.bl _, H0, J, rfl, fin⟩
theorem op_memT_out (hu : X.A.units + 65 < cLine) : OpR X (compareOp .NotIn) (rMemT X.K true) := by
  intro pn s0 σ0 H0 p q vp vq Q0 J rp rq ⟨dx, ds, h1, h2, h3, h4, fin⟩
  obtain ⟨la, ra⟩ := Dp.reads J dx p vp h1 rp
  obtain ⟨lb, rb⟩ := Dp.reads J (.tuple ds) q vq h2 rq
  rw [Bool.true_xor] at fin
  exact SeqAt.notIn_tuple_reads rb ra (SeqAt.canLay_of_shaped h4) (SeqAt.canLay_of_shaped h3) (room_in_shaped h3 hu) ⟨.bl _, H0, J, rfl, fin⟩
theorem ov_memT {neg : Bool} {op : CmpOp} (h : OpR X (compareOp op) (rMemT X.K neg)) : OpV X (compareOp op) (gMemT neg) := OpR.imp h fun x y H Q ⟨p, q, v, H1, s, a, b, e, k⟩ => by
  unfold gMemT at e
  split at e
  · rename_i ys
    split at e
    · rename_i hok
      rw [Bool.and_eq_true] at hok
      cases e
      have db := b.dp s hok.2
      have sb := okD_shaped hok.2
      simp only [toD] at db sb
      exact ⟨_, _, a.dp s hok.1, db, okD_shaped hok.1, sb, by rw [any_toDs]; exact k.at s rep_bl⟩
    · cases e
  · cases e
abbrev gInA : G2 := orG gIn (gMemT false)
abbrev gNotInA : G2 := orG gNotIn (gMemT true)
theorem ov_inA (hu : X.A.units + 65 < cLine) : OpV X (compareOp .In) gInA := (ov_in hu).or (ov_memT (op_memT_in hu))
theorem ov_notInA (hu : X.A.units + 65 < cLine) : OpV X (compareOp .NotIn) gNotInA := (ov_notIn hu).or (ov_memT (op_memT_out hu))
end
end PT

set_option Elab.async false
set_option linter.all false
set_option autoImplicit false
set_option maxRecDepth 100000
set_option maxHeartbeats 4000000
/-! PL0: the printed functions that many laws share. -/
namespace PT
namespace Lau
open PySem PySem.Spec PyProof.Rows L2 PT
def b_gathered : SF :=
  fSeq (fRet (fList gTupOf (a1 (fLC [1] (iS (fList gSorted (a1 (fList gListAll (a1 (fVar 0)))))) (tName 1) (fTest (fOp gNeD (fOp gIxAll (fVar 0) (fVar 1)) (fC (.int 0)))) (fList gTuple (aCons (fVar 1) (aCons (fOp gIxAll (fVar 0) (fVar 1)) aNil)))))))
    (fNx)
def F_gathered : GL := runB 2 b_gathered
def b_plus : SF :=
  fSeq (fSet 2 (fC (.dct [])))
    (fSeq (fFor (iS (fOp gAdd (fVar 0) (fVar 1))) (tTupG 2 (tsCons (tName 3) (tsCons (tName 4) tsNil)))
   (fSeq (fAsg (fOp gAdd (fGetO 2 (fVar 3) (fC (.int 0))) (fVar 4)) (tSub 2 (fVar 3) gSet))
    (fNx)))
    (fSeq (fRet (fList F_gathered (aCons (fVar 2) aNil)))
    (fNx)))
def F_plus : GL := runB 5 b_plus
def b_scaled : SF :=
  fSeq (fRet (fList gTupOf (a1 (fLC [2, 3] (iS (fVar 0)) (tTupG 2 (tsCons (tName 2) (tsCons (tName 3) tsNil))) (fTest (fOp gNeD (fVar 1) (fC (.int 0)))) (fList gTuple (aCons (fVar 2) (aCons (fOp gMulI (fVar 3) (fVar 1)) aNil)))))))
    (fNx)
def F_scaled : GL := runB 4 b_scaled
def b_minus : SF :=
  fSeq (fRet (fList F_plus (aCons (fVar 0) (aCons (fList F_scaled (aCons (fVar 1) (aCons (fUn gNeg (fC (.int 1))) aNil))) aNil))))
    (fNx)
def F_minus : GL := runB 2 b_minus
def b_times : SF :=
  fSeq (fSet 2 (fC (.dct [])))
    (fSeq (fFor (iS (fVar 0)) (tTupG 2 (tsCons (tName 3) (tsCons (tName 4) tsNil)))
   (fSeq (fFor (iS (fVar 1)) (tTupG 2 (tsCons (tName 5) (tsCons (tName 6) tsNil)))
   (fSeq (fAsg (fOp gAdd (fGetO 2 (fOp gAdd (fVar 3) (fVar 5)) (fC (.int 0))) (fOp gMulI (fVar 4) (fVar 6))) (tSub 2 (fOp gAdd (fVar 3) (fVar 5)) gSet))
    (fNx)))
    (fNx)))
    (fSeq (fRet (fList F_gathered (aCons (fVar 2) aNil)))
    (fNx)))
def F_times : GL := runB 7 b_times
def b_divided : SF :=
  fSeq (fSet 2 (fList gDictP (a1 (fVar 0))))
    (fSeq (fSet 3 (fC (.dct [])))
    (fSeq (fAsg (fOp gIxAll (fVar 1) (fUn gNeg (fC (.int 1)))) (tTupG 2 (tsCons (tName 4) (tsCons (tName 5) tsNil))))
    (fSeq (fWhile (fTest (fOp gGt (fList gLenAll (a1 (fVar 2))) (fC (.int 0))))
   (fSeq (fSet 6 (fList gMax (a1 (fList gListAll (a1 (fVar 2))))))
    (fSeq (fIf (fOrT (fTest (fOp gNeD (fOp gModI (fList gInt (a1 (fOpO gIxAll 2 (fVar 6)))) (fVar 5)) (fC (.int 0)))) (fTest (fOp gLt (fOp gSubI (fVar 6) (fVar 4)) (fOp gSubI (fList gMin (a1 (fList gListAll (a1 (fVar 2))))) (fOp gIxAll (fOp gIxAll (fVar 1) (fC (.int 0))) (fC (.int 0))))))) (fSeq (fRet (fC .non))
    (fNx)) (fNx))
    (fSeq (fSet 7 (fOp gDivI (fOpO gIxAll 2 (fVar 6)) (fVar 5)))
    (fSeq (fAsg (fVar 7) (tSub 3 (fOp gSubI (fVar 6) (fVar 4)) gSet))
    (fSeq (fFor (iS (fVar 1)) (tTupG 2 (tsCons (tName 8) (tsCons (tName 9) tsNil)))
   (fSeq (fSet 10 (fOp gAdd (fOp gSubI (fVar 6) (fVar 4)) (fVar 8)))
    (fSeq (fSet 11 (fOp gSubI (fGetO 2 (fVar 10) (fC (.int 0))) (fOp gMulI (fVar 7) (fVar 9))))
    (fSeq (fIf (fTest (fOp gEqD (fVar 11) (fC (.int 0)))) (fSeq (fDel 2 (fVar 10))
    (fNx)) (fSeq (fAsg (fVar 11) (tSub 2 (fVar 10) gSet))
    (fNx)))
    (fNx)))))
    (fNx)))))) 10000)
    (fSeq (fRet (fList F_gathered (aCons (fVar 3) aNil)))
    (fNx)))))
def F_divided : GL := runB 12 b_divided
def b__law_next : SF :=
  fSeq (fSet 2 (fOpO gIxAll 0 (fC (.int 2))))
    (fSeq (fIf (fTest (fOp gEqD (fVar 2) (fC (.int 0)))) (fSeq (fSet 3 (fC (.int 0)))
    (fSeq (fIf (fTest (fOp gLt (fOpO gIxAll 0 (fC (.int 1))) (fList gLenAll (a1 (fOpO gIxAll 0 (fC (.int 0))))))) (fSeq (fSet 3 (fList gAbs (a1 (fList gInt (a1 (fOp gIxAll (fOpO gIxAll 0 (fC (.int 0))) (fOpO gIxAll 0 (fC (.int 1)))))))))
    (fSeq (fAsg (fOp gAdd (fOpO gIxAll 0 (fC (.int 1))) (fC (.int 1))) (tSub 0 (fC (.int 1)) gSet))
    (fNx))) (fNx))
    (fSeq (fSet 2 (fVar 3))
    (fSeq (fIf (fTest (fOp gLt (fVar 3) (fOp gPowI (fC (.int 10)) (fC (.int 18))))) (fSeq (fAsg (fOp gModI (fList gInt (a1 (fOp gAdd (fOp gAdd (fOp gMulI (fOpO gIxAll 0 (fC (.int 3))) (fC (.int 69621))) (fOp gMulI (fVar 3) (fC (.int 40692)))) (fC (.int 17))))) (fC (.int 2147483647))) (tSub 0 (fC (.int 3)) gSet))
    (fSeq (fRet (fOp gModI (fOp gModI (fList gInt (a1 (fOp gMulI (fList gInt (a1 (fOp gDivI (fOpO gIxAll 0 (fC (.int 3))) (fC (.int 5))))) (fC (.int 48271))))) (fC (.int 2147483647))) (fVar 1)))
    (fNx))) (fNx))
    (fNx))))) (fNx))
    (fSeq (fAsg (fOp gDivI (fVar 2) (fVar 1)) (tSub 0 (fC (.int 2)) gSet))
    (fSeq (fRet (fOp gModI (fList gInt (a1 (fVar 2))) (fVar 1)))
    (fNx))))
def F__law_next : GI := runI 4 0 b__law_next
def b__law_same (F : GL) : SF :=
  fSeq (fIf (fTest (fOp gIsN (fVar 1) (fC .non))) (fSeq (fRet (fOp gIsN (fVar 0) (fC .non)))
    (fNx)) (fNx))
    (fSeq (fIf (fTru (fUn (gIsi .bool) (fVar 1))) (fSeq (fRet (fAndV (fUn (gIsi .bool) (fVar 0)) (fOp gEqD (fVar 0) (fVar 1))))
    (fNx)) (fNx))
    (fSeq (fIf (fTru (fUn (gIsi .int) (fVar 1))) (fSeq (fRet (fAndV (fUn (gIsi .int) (fVar 0)) (fAndV (fNotV (fUn (gIsi .bool) (fVar 0))) (fOp gEqD (fVar 0) (fVar 1)))))
    (fNx)) (fNx))
    (fSeq (fIf (fTru (fUn (gIsi .str) (fVar 1))) (fSeq (fRet (fAndV (fUn (gIsi .str) (fVar 0)) (fOp gEqD (fVar 0) (fVar 1))))
    (fNx)) (fNx))
    (fSeq (fIf (fOrT (fAndT (fTru (fUn (gIsi .list) (fVar 1))) (fNotT (fTru (fUn (gIsi .list) (fVar 0))))) (fAndT (fTru (fUn (gIsi .tuple) (fVar 1))) (fNotT (fTru (fUn (gIsi .tuple) (fVar 0)))))) (fSeq (fRet (fC (.bl false)))
    (fNx)) (fNx))
    (fSeq (fRet (fAndV (fOp gEqD (fList gLenAll (a1 (fVar 0))) (fList gLenAll (a1 (fVar 1)))) (fOp gEqD (fLC [2] (iR1 (fList gLenAll (a1 (fVar 1)))) (tName 2) (fNotT (fTru (fList F (aCons (fOp gIxAll (fVar 0) (fVar 2)) (aCons (fOp gIxAll (fVar 1) (fVar 2)) aNil))))) (fC (.int 1))) (fList gListD aNil))))
    (fNx))))))
def F__law_same : Nat → GL
  | 0 => fun _ => none
  | n + 1 => runB 3 (b__law_same (F__law_same n))
def b__law_plus : SF :=
  fSeq (fSet 2 (fList gDictP (a1 (fVar 0))))
    (fSeq (fFor (iS (fVar 1)) (tTupG 2 (tsCons (tName 3) (tsCons (tName 4) tsNil)))
   (fSeq (fAsg (fOp gAdd (fGetO 2 (fVar 3) (fC (.int 0))) (fVar 4)) (tSub 2 (fVar 3) gSet))
    (fNx)))
    (fSeq (fRet (fList gTupOf (a1 (fLC [3] (iS (fList gSorted (a1 (fVar 2)))) (tName 3) (fTest (fOp gNeD (fOpO gIxAll 2 (fVar 3)) (fC (.int 0)))) (fList gTuple (aCons (fVar 3) (aCons (fOpO gIxAll 2 (fVar 3)) aNil)))))))
    (fNx)))
def F__law_plus : GL := runB 5 b__law_plus
def b__law_times : SF :=
  fSeq (fSet 2 (fList gTuple aNil))
    (fSeq (fFor (iS (fVar 0)) (tTupG 2 (tsCons (tName 3) (tsCons (tName 4) tsNil)))
   (fSeq (fSet 2 (fList F__law_plus (aCons (fVar 2) (aCons (fList gTupOf (a1 (fLC [5, 6] (iS (fVar 1)) (tTupG 2 (tsCons (tName 5) (tsCons (tName 6) tsNil))) (fYes) (fList gTuple (aCons (fOp gAdd (fVar 3) (fVar 5)) (aCons (fOp gMulI (fVar 4) (fVar 6)) aNil)))))) aNil))))
    (fNx)))
    (fSeq (fRet (fVar 2))
    (fNx)))
def F__law_times : GL := runB 7 b__law_times
def b__law_power : SF :=
  fSeq (fSet 2 (fList gTuple (aCons (fList gTuple (aCons (fC (.int 0)) (aCons (fC (.int 1)) aNil))) aNil)))
    (fSeq (fFor (iR1 (fVar 1)) (tName 3)
   (fSeq (fSet 2 (fList F__law_times (aCons (fVar 2) (aCons (fVar 0) aNil))))
    (fNx)))
    (fSeq (fRet (fVar 2))
    (fNx)))
def F__law_power : GL := runB 4 b__law_power
end Lau
namespace Tl
open PySem PySem.Spec PyProof.Rows L2 PT PT.Lau
def b_unit_diagram : SF :=
  fSeq (fRet (fList gTupOf (a1 (fOp gAdd (fLC [1] (iR1 (fVar 0)) (tName 1) (fYes) (fOp gAdd (fVar 1) (fVar 0))) (fLstRg (rg1 (fVar 0)))))))
    (fNx)
def F_unit_diagram : GL := runB 2 b_unit_diagram
def b_cup_diagram : SF :=
  fSeq (fSet 2 (fList gListAll (a1 (fList F_unit_diagram (aCons (fVar 1) aNil)))))
    (fSeq (fPar 3 4 (fOp gSubI (fVar 0) (fC (.int 1))) (fVar 0))
    (fSeq (fAsg (fList gTuple (aCons (fVar 4) (aCons (fVar 3) aNil))) (tTupG 2 (tsCons (tSub 2 (fVar 3) gSet) (tsCons (tSub 2 (fVar 4) gSet) tsNil))))
    (fSeq (fAsg (fList gTuple (aCons (fOp gAdd (fVar 4) (fVar 1)) (aCons (fOp gAdd (fVar 3) (fVar 1)) aNil))) (tTupG 2 (tsCons (tSub 2 (fOp gAdd (fVar 3) (fVar 1)) gSet) (tsCons (tSub 2 (fOp gAdd (fVar 4) (fVar 1)) gSet) tsNil))))
    (fSeq (fRet (fList gTupOf (a1 (fVar 2))))
    (fNx)))))
def F_cup_diagram : GL := runB 5 b_cup_diagram
def b_circles_between : SF :=
  fSeq (fSet 3 (fList gLenAll (a1 (fVar 2))))
    (fSeq (fSet 4 (fC (.int 0)))
    (fSeq (fFor (iR1 (fVar 3)) (tName 5)
   (fSeq (fIf (fNotT (fTru (fOpO gIxAll 2 (fVar 5)))) (fSeq (fAug 4 gAddI (fC (.int 1)))
    (fSeq (fSet 6 (fVar 5))
    (fSeq (fWhile (fNotT (fTru (fOpO gIxAll 2 (fVar 6))))
   (fSeq (fAsg (fC (.bl true)) (tSub 2 (fVar 6) gSet))
    (fSeq (fSet 7 (fOp gIxAll (fVar 1) (fVar 6)))
    (fSeq (fAsg (fC (.bl true)) (tSub 2 (fVar 7) gSet))
    (fSeq (fSet 6 (fOp gSubI (fOp gIxAll (fVar 0) (fOp gAdd (fVar 7) (fVar 3))) (fVar 3)))
    (fNx))))) 10000)
    (fNx)))) (fNx))
    (fNx)))
    (fSeq (fRet (fVar 4))
    (fNx))))
def F_circles_between : GI := runI 8 2 b_circles_between
def b_stacked : SF :=
  fSeq (fSet 2 (fOp gDivI (fList gLenAll (a1 (fVar 0))) (fC (.int 2))))
    (fSeq (fSet 3 (fRep (fC .non) (fOp gMulI (fC (.int 2)) (fVar 2))))
    (fSeq (fSet 4 (fRep (fC (.bl false)) (fVar 2)))
    (fSeq (fFor (iR1 (fOp gMulI (fC (.int 2)) (fVar 2))) (tName 5)
   (fSeq (fIf (fTest (fOp gIsN (fOpO gIxAll 3 (fVar 5)) (fC .non))) (fSeq (fPar 6 7 (fOp gLt (fVar 5) (fVar 2)) (fVar 5))
    (fSeq (fWhile (fTru (fC (.bl true)))
   (fSeq (fSet 7 (fIf (fTru (fVar 6)) (fOp gIxAll (fVar 0) (fVar 7)) (fOp gIxAll (fVar 1) (fVar 7))))
    (fSeq (fIf (fTest (fOp gEqD (fVar 6) (fOp gLt (fVar 7) (fVar 2)))) (fSeq (fun ρ => some (.bk, ρ))
    (fNx)) (fNx))
    (fSeq (fSet 8 (fIf (fTru (fVar 6)) (fOp gSubI (fVar 7) (fVar 2)) (fVar 7)))
    (fSeq (fAsg (fC (.bl true)) (tSub 4 (fVar 8) gSet))
    (fSeq (fSet 7 (fIf (fTru (fVar 6)) (fVar 8) (fOp gAdd (fVar 8) (fVar 2))))
    (fSeq (fSet 6 (fNotV (fVar 6)))
    (fNx))))))) 10000)
    (fSeq (fAsg (fList gTuple (aCons (fVar 7) (aCons (fVar 5) aNil))) (tTupG 2 (tsCons (tSub 3 (fVar 5) gSet) (tsCons (tSub 3 (fVar 7) gSet) tsNil))))
    (fNx)))) (fNx))
    (fNx)))
    (fSeq (fRet (fList gTuple (aCons (fCallI 4 F_circles_between (oCons (fVar 0) (oCons (fVar 1) (oHole 4 oNil)))) (aCons (fList gTupOf (a1 (fVar 3))) aNil))))
    (fNx)))))
def F_stacked : GL := runB 9 b_stacked
def b_matchings (F : GL) : SF :=
  fSeq (fIf (fTest (fOp gEqD (fVar 0) (fVar 1))) (fSeq (fRet (fList gListD (aCons (fList gTuple aNil) aNil)))
    (fNx)) (fNx))
    (fSeq (fSet 2 (fList gListD aNil))
    (fSeq (fFor (iR3 (fOp gAdd (fVar 0) (fC (.int 1))) (fVar 1) (fC (.int 2))) (tName 3)
   (fSeq (fFor (iS (fList F (aCons (fOp gAdd (fVar 0) (fC (.int 1))) (aCons (fVar 3) aNil)))) (tName 4)
   (fSeq (fExt 2 (fLC [5] (iS (fList F (aCons (fOp gAdd (fVar 3) (fC (.int 1))) (aCons (fVar 1) aNil)))) (tName 5) (fYes) (fOp gAdd (fOp gAdd (fList gTuple (aCons (fList gTuple (aCons (fVar 0) (aCons (fVar 3) aNil))) aNil)) (fVar 4)) (fVar 5))))
    (fNx)))
    (fNx)))
    (fSeq (fRet (fVar 2))
    (fNx))))
def F_matchings : Nat → GL
  | 0 => fun _ => none
  | n + 1 => runB 6 (b_matchings (F_matchings n))
def b_all_diagrams : SF :=
  fSeq (fSet 1 (fOp gAdd (fLstRg (rg1 (fVar 0))) (fLstRg (rg3 (fOp gSubI (fOp gMulI (fC (.int 2)) (fVar 0)) (fC (.int 1))) (fOp gSubI (fVar 0) (fC (.int 1))) (fUn gNeg (fC (.int 1)))))))
    (fSeq (fSet 2 (fList gListD aNil))
    (fSeq (fFor (iS (fList (F_matchings 30) (aCons (fC (.int 0)) (aCons (fOp gMulI (fC (.int 2)) (fVar 0)) aNil)))) (tName 3)
   (fSeq (fSet 4 (fRep (fC (.int 0)) (fOp gMulI (fC (.int 2)) (fVar 0))))
    (fSeq (fFor (iS (fVar 3)) (tTupG 2 (tsCons (tName 5) (tsCons (tName 6) tsNil)))
   (fSeq (fAsg (fList gTuple (aCons (fOp gIxAll (fVar 1) (fVar 6)) (aCons (fOp gIxAll (fVar 1) (fVar 5)) aNil))) (tTupG 2 (tsCons (tSub 4 (fOp gIxAll (fVar 1) (fVar 5)) gSet) (tsCons (tSub 4 (fOp gIxAll (fVar 1) (fVar 6)) gSet) tsNil))))
    (fNx)))
    (fSeq (fDrop (fMut isLst 2 gAppend (aCons (fList gTupOf (a1 (fVar 4))) aNil)))
    (fNx)))))
    (fSeq (fRet (fList gSorted (a1 (fVar 2))))
    (fNx))))
def F_all_diagrams : GL := runB 7 b_all_diagrams
def b_combined : SF :=
  fSeq (fSet 2 (fList gDictX (a1 (fVar 0))))
    (fSeq (fFor (iX (fVar 1)) (tName 3)
   (fSeq (fSet 4 (fList F_plus (aCons (fMpO "dict" 2 gGetX (aCons (fVar 3) (aCons (fList gTuple aNil) aNil))) (aCons (fOp gIxX (fVar 1) (fVar 3)) aNil))))
    (fSeq (fAsg (fVar 4) (tSub 2 (fVar 3) gSetX))
    (fNx))))
    (fSeq (fRet (fDC gSetX (.dit []) [3] (iX (fVar 2)) (tName 3) (fTest (fOp gNeD (fOp gIxX (fVar 2) (fVar 3)) (fList gTuple aNil))) (fVar 3) (fOp gIxX (fVar 2) (fVar 3))))
    (fNx)))
def F_combined : GL := runB 5 b_combined
def b_multiplied : SF :=
  fSeq (fSet 3 (fC (.dit [])))
    (fSeq (fFor (iX (fVar 0)) (tName 4)
   (fSeq (fFor (iX (fVar 1)) (tName 5)
   (fSeq (fAsg (fList F_stacked (aCons (fVar 4) (aCons (fVar 5) aNil))) (tTupG 2 (tsCons (tName 6) (tsCons (tName 7) tsNil))))
    (fSeq (fSet 8 (fList F_times (aCons (fOp gIxX (fVar 0) (fVar 4)) (aCons (fOp gIxX (fVar 1) (fVar 5)) aNil))))
    (fSeq (fFor (iR1 (fVar 6)) (tName 9)
   (fSeq (fSet 8 (fList F_times (aCons (fVar 8) (aCons (fVar 2) aNil))))
    (fNx)))
    (fSeq (fAsg (fList F_plus (aCons (fMpO "dict" 3 gGetX (aCons (fVar 7) (aCons (fList gTuple aNil) aNil))) (aCons (fVar 8) aNil))) (tSub 3 (fVar 7) gSetX))
    (fNx))))))
    (fNx)))
    (fSeq (fRet (fDC gSetX (.dit []) [4] (iX (fVar 3)) (tName 4) (fTest (fOp gNeD (fOp gIxX (fVar 3) (fVar 4)) (fList gTuple aNil))) (fVar 4) (fOp gIxX (fVar 3) (fVar 4))))
    (fNx)))
def F_multiplied : GL := runB 10 b_multiplied
def b_scaled_by : SF :=
  fSeq (fRet (fDC gSetX (.dit []) [2] (iX (fVar 0)) (tName 2) (fTest (fOp gNeD (fVar 1) (fList gTuple aNil))) (fVar 2) (fList F_times (aCons (fOp gIxX (fVar 0) (fVar 2)) (aCons (fVar 1) aNil)))))
    (fNx)
def F_scaled_by : GL := runB 3 b_scaled_by
def b_widened : SF :=
  fSeq (fSet 1 (fC (.dit [])))
    (fSeq (fFor (iX (fVar 0)) (tName 2)
   (fSeq (fSet 3 (fOp gDivI (fList gLenAll (a1 (fVar 2))) (fC (.int 2))))
    (fSeq (fSet 4 (fLC [5] (iS (fVar 2)) (tName 5) (fYes) (fIf (fTest (fOp gLt (fVar 5) (fVar 3))) (fVar 5) (fOp gAdd (fVar 5) (fC (.int 1))))))
    (fSeq (fAsg (fOp gIxX (fVar 0) (fVar 2)) (tSub 1 (fList gTupOf (a1 (fOp gAdd (fOp gAdd (fOp gAdd (fSlice gSl (fVar 4) pNone (pSome (fVar 3))) (fList gListD (aCons (fOp gAdd (fOp gMulI (fC (.int 2)) (fVar 3)) (fC (.int 1))) aNil))) (fSlice gSl (fVar 4) (pSome (fVar 3)) pNone)) (fList gListD (aCons (fVar 3) aNil))))) gSetX))
    (fNx)))))
    (fSeq (fRet (fVar 1))
    (fNx)))
def F_widened : GL := runB 6 b_widened
def b_chebyshev : SF :=
  fSeq (fAsg (fList gTuple (aCons (fList gTuple aNil) (aCons (fList gTuple (aCons (fList gTuple (aCons (fC (.int 0)) (aCons (fC (.int 1)) aNil))) aNil)) aNil))) (tTupG 2 (tsCons (tName 1) (tsCons (tName 2) tsNil))))
    (fSeq (fFor (iR1 (fVar 0)) (tName 3)
   (fSeq (fPar 1 2 (fVar 2) (fList F_minus (aCons (fList F_times (aCons (fList gTuple (aCons (fList gTuple (aCons (fC (.int 1)) (aCons (fC (.int 1)) aNil))) aNil)) (aCons (fVar 2) aNil))) (aCons (fVar 1) aNil))))
    (fNx)))
    (fSeq (fRet (fVar 2))
    (fNx)))
def F_chebyshev : GL := runB 4 b_chebyshev
def b_closed_circles : SF :=
  fSeq (fSet 1 (fOp gDivI (fList gLenAll (a1 (fVar 0))) (fC (.int 2))))
    (fSeq (fSet 2 (fList gListD aNil))
    (fSeq (fSet 3 (fC (.int 0)))
    (fSeq (fFor (iR1 (fOp gMulI (fC (.int 2)) (fVar 1))) (tName 4)
   (fSeq (fIf (fTest (fOp gNotIn (fVar 4) (fVar 2))) (fSeq (fAug 3 gAddI (fC (.int 1)))
    (fSeq (fSet 5 (fVar 4))
    (fSeq (fWhile (fTest (fOp gNotIn (fVar 5) (fVar 2)))
   (fSeq (fDrop (fMut isLst 2 gAppend (aCons (fVar 5) aNil)))
    (fSeq (fSet 5 (fOp gIxAll (fVar 0) (fVar 5)))
    (fSeq (fDrop (fMut isLst 2 gAppend (aCons (fVar 5) aNil)))
    (fSeq (fSet 5 (fIf (fTest (fOp gLt (fVar 5) (fVar 1))) (fOp gAdd (fVar 5) (fVar 1)) (fOp gSubI (fVar 5) (fVar 1))))
    (fNx))))) 10000)
    (fNx)))) (fNx))
    (fNx)))
    (fSeq (fRet (fVar 3))
    (fNx)))))
def F_closed_circles : GL := runB 6 b_closed_circles
def b_projector : SF :=
  fSeq (fPar 1 2 (fDispX [(fList F_unit_diagram (aCons (fC (.int 1)) aNil), fList gTuple (aCons (fList gTuple (aCons (fC (.int 0)) (aCons (fC (.int 1)) aNil))) aNil))]) (fList gTuple (aCons (fList gTuple (aCons (fC (.int 0)) (aCons (fC (.int 1)) aNil))) aNil)))
    (fSeq (fFor (iR2 (fC (.int 1)) (fVar 0)) (tName 3)
   (fSeq (fSet 4 (fList F_widened (aCons (fVar 1) aNil)))
    (fSeq (fSet 5 (fDispX [(fList F_cup_diagram (aCons (fVar 3) (aCons (fOp gAdd (fVar 3) (fC (.int 1))) aNil)), fList gTuple (aCons (fList gTuple (aCons (fC (.int 0)) (aCons (fC (.int 1)) aNil))) aNil))]))
    (fSeq (fSet 6 (fList F_multiplied (aCons (fList F_multiplied (aCons (fVar 4) (aCons (fVar 5) (aCons (fList gTuple (aCons (fList gTuple (aCons (fC (.int 1)) (aCons (fC (.int 1)) aNil))) aNil)) aNil)))) (aCons (fVar 4) (aCons (fList gTuple (aCons (fList gTuple (aCons (fC (.int 1)) (aCons (fC (.int 1)) aNil))) aNil)) aNil)))))
    (fSeq (fSet 7 (fList F_scaled_by (aCons (fVar 4) (aCons (fList F_times (aCons (fList F_chebyshev (aCons (fVar 3) aNil)) (aCons (fVar 2) aNil))) aNil))))
    (fSeq (fSet 1 (fList F_combined (aCons (fVar 7) (aCons (fList F_scaled_by (aCons (fVar 6) (aCons (fList F_scaled (aCons (fList F_chebyshev (aCons (fOp gSubI (fVar 3) (fC (.int 1))) aNil)) (aCons (fUn gNeg (fC (.int 1))) aNil))) aNil))) aNil))))
    (fSeq (fSet 2 (fList F_times (aCons (fList F_chebyshev (aCons (fVar 3) aNil)) (aCons (fList F_times (aCons (fVar 2) (aCons (fVar 2) aNil))) aNil))))
    (fNx))))))))
    (fSeq (fRet (fList gTuple (aCons (fVar 1) (aCons (fVar 2) aNil))))
    (fNx)))
def F_projector : GL := runB 8 b_projector
def b_is_killed : SF :=
  fSeq (fFor (iR2 (fC (.int 1)) (fVar 1)) (tName 2)
   (fSeq (fSet 3 (fDispX [(fList F_cup_diagram (aCons (fVar 2) (aCons (fVar 1) aNil)), fList gTuple (aCons (fList gTuple (aCons (fC (.int 0)) (aCons (fC (.int 1)) aNil))) aNil))]))
    (fSeq (fIf (fOrT (fTest (fOp gNeX (fList F_multiplied (aCons (fVar 0) (aCons (fVar 3) (aCons (fList gTuple (aCons (fList gTuple (aCons (fC (.int 1)) (aCons (fC (.int 1)) aNil))) aNil)) aNil)))) (fC (.dit [])))) (fTest (fOp gNeX (fList F_multiplied (aCons (fVar 3) (aCons (fVar 0) (aCons (fList gTuple (aCons (fList gTuple (aCons (fC (.int 1)) (aCons (fC (.int 1)) aNil))) aNil)) aNil)))) (fC (.dit []))))) (fSeq (fRet (fC (.bl false)))
    (fNx)) (fNx))
    (fNx))))
    (fSeq (fRet (fC (.bl true)))
    (fNx))
def F_is_killed : GL := runB 4 b_is_killed
end Tl
end PT

set_option Elab.async false
set_option linter.all false
set_option autoImplicit false
set_option maxRecDepth 100000
set_option maxHeartbeats 4000000
namespace PT.k83
open PySem PySem.Spec PyProof.Rows L2 PT PT.Lau PT.Tl
def b__law_word : SF :=
  fSeq (fIf (fTest (fOp gLt (fVar 1) (fC (.int 2)))) (fSeq (fRet (fList gTuple aNil))
    (fNx)) (fNx))
    (fSeq (fSet 3 (fList gTuple aNil))
    (fSeq (fFor (iR1 (fCallI 0 F__law_next (oHole 0 (oCons (fOp gAdd (fVar 2) (fC (.int 1))) oNil)))) (tName 4)
   (fSeq (fSet 5 (fOp gAdd (fC (.int 1)) (fCallI 0 F__law_next (oHole 0 (oCons (fOp gSubI (fVar 1) (fC (.int 1))) oNil)))))
    (fSeq (fSet 3 (fOp gAdd (fVar 3) (fList gTuple (aCons (fOp gIxAll (fList gTuple (aCons (fVar 5) (aCons (fOp gSubI (fC (.int 0)) (fVar 5)) aNil))) (fCallI 0 F__law_next (oHole 0 (oCons (fC (.int 2)) oNil)))) aNil))))
    (fNx))))
    (fSeq (fRet (fVar 3))
    (fNx))))
def F__law_word : GI := runI 6 0 b__law_word
def b_is_triple : SF :=
  fSeq (fIf (fOrT (fTest (fOp gNeD (fList gAbs (a1 (fVar 0))) (fList gAbs (a1 (fVar 2))))) (fTest (fOp gNeD (fList gAbs (a1 (fOp gSubI (fList gAbs (a1 (fVar 0))) (fList gAbs (a1 (fVar 1)))))) (fC (.int 1))))) (fSeq (fRet (fC (.bl false)))
    (fNx)) (fNx))
    (fSeq (fRet (fOrV (fOp gEqD (fOp gGt (fVar 0) (fC (.int 0))) (fOp gGt (fVar 1) (fC (.int 0)))) (fOp gEqD (fOp gGt (fVar 1) (fC (.int 0))) (fOp gGt (fVar 2) (fC (.int 0))))))
    (fNx))
def F_is_triple : GL := runB 3 b_is_triple
def b_side_of : SF :=
  fSeq (fSet 2 (fList gListD aNil))
    (fSeq (fIf (fAndT (fTest (fOp gLt (fOp gAdd (fVar 1) (fC (.int 1))) (fList gLenAll (a1 (fVar 0))))) (fTest (fOp gGt (fList gAbs (a1 (fOp gSubI (fList gAbs (a1 (fOp gIxAll (fVar 0) (fVar 1)))) (fList gAbs (a1 (fOp gIxAll (fVar 0) (fOp gAdd (fVar 1) (fC (.int 1))))))))) (fC (.int 1))))) (fSeq (fDrop (fMut isLst 2 gAppend (aCons (fC (.str "swap")) aNil)))
    (fNx)) (fNx))
    (fSeq (fIf (fAndT (fTest (fOp gLt (fOp gAdd (fVar 1) (fC (.int 1))) (fList gLenAll (a1 (fVar 0))))) (fTest (fOp gEqD (fOp gIxAll (fVar 0) (fVar 1)) (fOp gSubI (fC (.int 0)) (fOp gIxAll (fVar 0) (fOp gAdd (fVar 1) (fC (.int 1)))))))) (fSeq (fDrop (fMut isLst 2 gAppend (aCons (fC (.str "cancel")) aNil)))
    (fNx)) (fNx))
    (fSeq (fIf (fAndT (fTest (fOp gLt (fOp gAdd (fVar 1) (fC (.int 2))) (fList gLenAll (a1 (fVar 0))))) (fTru (fList F_is_triple (aCons (fOp gIxAll (fVar 0) (fVar 1)) (aCons (fOp gIxAll (fVar 0) (fOp gAdd (fVar 1) (fC (.int 1)))) (aCons (fOp gIxAll (fVar 0) (fOp gAdd (fVar 1) (fC (.int 2)))) aNil)))))) (fSeq (fDrop (fMut isLst 2 gAppend (aCons (fC (.str "triple")) aNil)))
    (fNx)) (fNx))
    (fSeq (fRet (fVar 2))
    (fNx)))))
def F_side_of : GL := runB 3 b_side_of
def b_turned : SF :=
  fSeq (fPar 3 4 (fList gAbs (a1 (fVar 0))) (fList gAbs (a1 (fVar 1))))
    (fSeq (fRet (fList gTuple (aCons (fIf (fTest (fOp gGt (fVar 2) (fC (.int 0)))) (fVar 4) (fOp gSubI (fC (.int 0)) (fVar 4))) (aCons (fIf (fTest (fOp gGt (fVar 1) (fC (.int 0)))) (fVar 3) (fOp gSubI (fC (.int 0)) (fVar 3))) (aCons (fIf (fTest (fOp gGt (fVar 0) (fC (.int 0)))) (fVar 4) (fOp gSubI (fC (.int 0)) (fVar 4))) aNil)))))
    (fNx))
def F_turned : GL := runB 5 b_turned
def b_is_word : SF :=
  fSeq (fIf (fNotT (fTru (fUn (gIsi .tuple) (fVar 0)))) (fSeq (fRet (fC (.bl false)))
    (fNx)) (fNx))
    (fSeq (fRet (fList gAll (a1 (fLC [2] (iS (fVar 0)) (tName 2) (fYes) (fAndV (fUn (gIsi .int) (fVar 2)) (fAndV (fNotV (fUn (gIsi .bool) (fVar 2))) (fChain gLt gLt (fC (.int 0)) (fList gAbs (a1 (fVar 2))) (fVar 1))))))))
    (fNx))
def F_is_word : GL := runB 3 b_is_word
def b_moved : SF :=
  fSeq (fIf (fTest (fOp gEqD (fOp gIxAll (fVar 2) (fC (.int 0))) (fC (.str "insert")))) (fSeq (fIf (fOrT (fTest (fOp gGt (fOp gIxAll (fVar 2) (fC (.int 1))) (fList gLenAll (a1 (fVar 0))))) (fNotT (fTru (fList F_is_word (aCons (fSlice gSl (fVar 2) (pSome (fC (.int 2))) (pSome (fC (.int 3)))) (aCons (fVar 1) aNil)))))) (fSeq (fRet (fC .non))
    (fNx)) (fNx))
    (fSeq (fRet (fOp gAdd (fOp gAdd (fSlice gSl (fVar 0) pNone (pSome (fOp gIxAll (fVar 2) (fC (.int 1))))) (fList gTuple (aCons (fOp gIxAll (fVar 2) (fC (.int 2))) (aCons (fOp gSubI (fC (.int 0)) (fOp gIxAll (fVar 2) (fC (.int 2)))) aNil)))) (fSlice gSl (fVar 0) (pSome (fOp gIxAll (fVar 2) (fC (.int 1)))) pNone)))
    (fNx))) (fNx))
    (fSeq (fSet 3 (fOp gIxAll (fVar 2) (fC (.int 1))))
    (fSeq (fIf (fTest (fOp gNotIn (fOp gIxAll (fVar 2) (fC (.int 0))) (fList F_side_of (aCons (fVar 0) (aCons (fVar 3) aNil))))) (fSeq (fRet (fC .non))
    (fNx)) (fNx))
    (fSeq (fIf (fTest (fOp gEqD (fOp gIxAll (fVar 2) (fC (.int 0))) (fC (.str "swap")))) (fSeq (fRet (fOp gAdd (fOp gAdd (fSlice gSl (fVar 0) pNone (pSome (fVar 3))) (fList gTuple (aCons (fOp gIxAll (fVar 0) (fOp gAdd (fVar 3) (fC (.int 1)))) (aCons (fOp gIxAll (fVar 0) (fVar 3)) aNil)))) (fSlice gSl (fVar 0) (pSome (fOp gAdd (fVar 3) (fC (.int 2)))) pNone)))
    (fNx)) (fNx))
    (fSeq (fIf (fTest (fOp gEqD (fOp gIxAll (fVar 2) (fC (.int 0))) (fC (.str "cancel")))) (fSeq (fRet (fOp gAdd (fSlice gSl (fVar 0) pNone (pSome (fVar 3))) (fSlice gSl (fVar 0) (pSome (fOp gAdd (fVar 3) (fC (.int 2)))) pNone)))
    (fNx)) (fNx))
    (fSeq (fRet (fOp gAdd (fOp gAdd (fSlice gSl (fVar 0) pNone (pSome (fVar 3))) (fList F_turned (aCons (fOp gIxAll (fVar 0) (fVar 3)) (aCons (fOp gIxAll (fVar 0) (fOp gAdd (fVar 3) (fC (.int 1)))) (aCons (fOp gIxAll (fVar 0) (fOp gAdd (fVar 3) (fC (.int 2)))) aNil))))) (fSlice gSl (fVar 0) (pSome (fOp gAdd (fVar 3) (fC (.int 3)))) pNone)))
    (fNx))))))
def F_moved : GL := runB 4 b_moved
def b_markov_moved : SF :=
  fSeq (fSet 3 (fOp gIxAll (fVar 2) (fC (.int 0))))
    (fSeq (fIf (fTest (fOp gEqD (fVar 3) (fC (.str "cycle")))) (fSeq (fRet (fIf (fTest (fOp gNeD (fVar 0) (fList gTuple aNil))) (fList gTuple (aCons (fOp gAdd (fSlice gSl (fVar 0) (pSome (fC (.int 1))) pNone) (fSlice gSl (fVar 0) pNone (pSome (fC (.int 1))))) (aCons (fVar 1) aNil))) (fC .non)))
    (fNx)) (fNx))
    (fSeq (fIf (fTest (fOp gEqD (fVar 3) (fC (.str "back")))) (fSeq (fRet (fIf (fTest (fOp gNeD (fVar 0) (fList gTuple aNil))) (fList gTuple (aCons (fOp gAdd (fSlice gSl (fVar 0) (pSome (fUn gNeg (fC (.int 1)))) pNone) (fSlice gSl (fVar 0) pNone (pSome (fUn gNeg (fC (.int 1)))))) (aCons (fVar 1) aNil))) (fC .non)))
    (fNx)) (fNx))
    (fSeq (fIf (fTest (fOp gEqD (fVar 3) (fC (.str "up")))) (fSeq (fRet (fList gTuple (aCons (fOp gAdd (fVar 0) (fList gTuple (aCons (fOp gMulI (fOp gIxAll (fVar 2) (fC (.int 1))) (fVar 1)) aNil))) (aCons (fOp gAdd (fVar 1) (fC (.int 1))) aNil))))
    (fNx)) (fNx))
    (fSeq (fIf (fTest (fOp gEqD (fVar 3) (fC (.str "down")))) (fSeq (fIf (fOrT (fTest (fOp gLt (fVar 1) (fC (.int 2)))) (fOrT (fTest (fOp gEqD (fVar 0) (fList gTuple aNil))) (fTest (fOp gNeD (fList gAbs (a1 (fOp gIxAll (fVar 0) (fUn gNeg (fC (.int 1)))))) (fOp gSubI (fVar 1) (fC (.int 1))))))) (fSeq (fRet (fC .non))
    (fNx)) (fNx))
    (fSeq (fIf (fTru (fList gAny (a1 (fLC [4] (iS (fSlice gSl (fVar 0) pNone (pSome (fUn gNeg (fC (.int 1)))))) (tName 4) (fYes) (fOp gEqD (fList gAbs (a1 (fVar 4))) (fOp gSubI (fVar 1) (fC (.int 1)))))))) (fSeq (fRet (fC .non))
    (fNx)) (fNx))
    (fSeq (fRet (fList gTuple (aCons (fSlice gSl (fVar 0) pNone (pSome (fUn gNeg (fC (.int 1))))) (aCons (fOp gSubI (fVar 1) (fC (.int 1))) aNil))))
    (fNx)))) (fNx))
    (fSeq (fSet 5 (fList F_moved (aCons (fVar 0) (aCons (fVar 1) (aCons (fVar 2) aNil)))))
    (fSeq (fRet (fIf (fTest (fOp gIsN (fVar 5) (fC .non))) (fC .non) (fList gTuple (aCons (fVar 5) (aCons (fVar 1) aNil)))))
    (fNx)))))))
def F_markov_moved : GL := runB 6 b_markov_moved
def b_possible_moves : SF :=
  fSeq (fSet 2 (fList gListD aNil))
    (fSeq (fFor (iR1 (fOp gSubI (fList gLenAll (a1 (fVar 0))) (fC (.int 1)))) (tName 3)
   (fSeq (fFor (iS (fList gTuple (aCons (fC (.str "swap")) (aCons (fC (.str "cancel")) (aCons (fC (.str "triple")) aNil))))) (tName 4)
   (fSeq (fIf (fTest (fOp gIsNotN (fList F_markov_moved (aCons (fVar 0) (aCons (fVar 1) (aCons (fList gTuple (aCons (fVar 4) (aCons (fVar 3) aNil))) aNil)))) (fC .non))) (fSeq (fDrop (fMut isLst 2 gAppend (aCons (fList gTuple (aCons (fVar 4) (aCons (fVar 3) aNil))) aNil)))
    (fNx)) (fNx))
    (fNx)))
    (fNx)))
    (fSeq (fFor (iS (fList gTuple (aCons (fList gTuple (aCons (fC (.str "cycle")) aNil)) (aCons (fList gTuple (aCons (fC (.str "back")) aNil)) (aCons (fList gTuple (aCons (fC (.str "down")) aNil)) aNil))))) (tName 5)
   (fSeq (fIf (fTest (fOp gIsNotN (fList F_markov_moved (aCons (fVar 0) (aCons (fVar 1) (aCons (fVar 5) aNil)))) (fC .non))) (fSeq (fDrop (fMut isLst 2 gAppend (aCons (fVar 5) aNil)))
    (fNx)) (fNx))
    (fNx)))
    (fSeq (fRet (fVar 2))
    (fNx))))
def F_possible_moves : GL := runB 6 b_possible_moves
def b_lessened_way : SF :=
  fSeq (fSet 3 (fList gListD (aCons (fList gTuple (aCons (fList gTuple (aCons (fVar 0) (aCons (fVar 1) aNil))) (aCons (fList gListD aNil) aNil))) aNil)))
    (fSeq (fSet 4 (fDispX [(fList gTuple (aCons (fVar 0) (aCons (fVar 1) aNil)), fC (.bl true))]))
    (fSeq (fSet 5 (fList gTuple (aCons (fList gTuple (aCons (fVar 1) (aCons (fList gLenAll (a1 (fVar 0))) aNil))) (aCons (fList gListD aNil) (aCons (fList gTuple (aCons (fVar 0) (aCons (fVar 1) aNil))) aNil)))))
    (fSeq (fWhile (fTest (fOpO gNeD 3 (fList gListD aNil)))
   (fSeq (fAsg (fMut isLst 3 gPopAt (aCons (fC (.int 0)) aNil)) (tTupG 2 (tsCons (tTupG 2 (tsCons (tName 6) (tsCons (tName 7) tsNil))) (tsCons (tName 8) tsNil))))
    (fSeq (fFor (iS (fList F_possible_moves (aCons (fVar 6) (aCons (fVar 7) aNil)))) (tName 9)
   (fSeq (fSet 10 (fList F_markov_moved (aCons (fVar 6) (aCons (fVar 7) (aCons (fVar 9) aNil)))))
    (fSeq (fIf (fTest (fOp gNotInX (fVar 10) (fVar 4))) (fSeq (fIf (fTest (fOp gEqD (fList gLenX (a1 (fVar 4))) (fVar 2))) (fSeq (fRet (fList gTuple (aCons (fOp gIxAll (fVar 5) (fC (.int 1))) (aCons (fOp gIxAll (fVar 5) (fC (.int 2))) aNil))))
    (fNx)) (fNx))
    (fSeq (fAsg (fC (.bl true)) (tSub 4 (fVar 10) gSetX))
    (fSeq (fDrop (fMut isLst 3 gAppend (aCons (fList gTuple (aCons (fVar 10) (aCons (fOp gAdd (fVar 8) (fList gListD (aCons (fVar 9) aNil))) aNil))) aNil)))
    (fSeq (fIf (fTest (fOp gLtA (fList gTuple (aCons (fOp gIxAll (fVar 10) (fC (.int 1))) (aCons (fList gLenAll (a1 (fOp gIxAll (fVar 10) (fC (.int 0))))) aNil))) (fOp gIxAll (fVar 5) (fC (.int 0))))) (fSeq (fSet 5 (fList gTuple (aCons (fList gTuple (aCons (fOp gIxAll (fVar 10) (fC (.int 1))) (aCons (fList gLenAll (a1 (fOp gIxAll (fVar 10) (fC (.int 0))))) aNil))) (aCons (fOp gAdd (fVar 8) (fList gListD (aCons (fVar 9) aNil))) (aCons (fVar 10) aNil)))))
    (fNx)) (fNx))
    (fNx))))) (fNx))
    (fNx))))
    (fNx))) 10000)
    (fSeq (fRet (fList gTuple (aCons (fOp gIxAll (fVar 5) (fC (.int 1))) (aCons (fOp gIxAll (fVar 5) (fC (.int 2))) aNil))))
    (fNx)))))
def F_lessened_way : GL := runB 11 b_lessened_way
def b_back_move : SF :=
  fSeq (fSet 3 (fOp gIxAll (fVar 2) (fC (.int 0))))
    (fSeq (fIf (fTest (fOp gEqD (fVar 3) (fC (.str "cycle")))) (fSeq (fRet (fList gListD (aCons (fList gTuple (aCons (fC (.str "back")) aNil)) aNil)))
    (fNx)) (fNx))
    (fSeq (fIf (fTest (fOp gEqD (fVar 3) (fC (.str "back")))) (fSeq (fRet (fList gListD (aCons (fList gTuple (aCons (fC (.str "cycle")) aNil)) aNil)))
    (fNx)) (fNx))
    (fSeq (fIf (fTest (fOp gEqD (fVar 3) (fC (.str "up")))) (fSeq (fRet (fList gListD (aCons (fList gTuple (aCons (fC (.str "down")) aNil)) aNil)))
    (fNx)) (fNx))
    (fSeq (fIf (fTest (fOp gEqD (fVar 3) (fC (.str "down")))) (fSeq (fRet (fList gListD (aCons (fList gTuple (aCons (fC (.str "up")) (aCons (fIf (fTest (fOp gGt (fOp gIxAll (fVar 0) (fUn gNeg (fC (.int 1)))) (fC (.int 0)))) (fC (.int 1)) (fUn gNeg (fC (.int 1)))) aNil))) aNil)))
    (fNx)) (fNx))
    (fSeq (fIf (fTest (fOp gEqD (fVar 3) (fC (.str "cancel")))) (fSeq (fRet (fList gListD (aCons (fList gTuple (aCons (fC (.str "insert")) (aCons (fOp gIxAll (fVar 2) (fC (.int 1))) (aCons (fOp gIxAll (fVar 0) (fOp gIxAll (fVar 2) (fC (.int 1)))) aNil)))) aNil)))
    (fNx)) (fNx))
    (fSeq (fIf (fTest (fOp gEqD (fVar 3) (fC (.str "insert")))) (fSeq (fRet (fList gListD (aCons (fList gTuple (aCons (fC (.str "cancel")) (aCons (fOp gIxAll (fVar 2) (fC (.int 1))) aNil))) aNil)))
    (fNx)) (fNx))
    (fSeq (fRet (fList gListD (aCons (fVar 2) aNil)))
    (fNx))))))))
def F_back_move : GL := runB 4 b_back_move
def b_back_way : SF :=
  fSeq (fSet 3 (fList gListD aNil))
    (fSeq (fFor (iS (fVar 2)) (tName 4)
   (fSeq (fSet 3 (fOp gAdd (fList F_back_move (aCons (fVar 0) (aCons (fVar 1) (aCons (fVar 4) aNil)))) (fVar 3)))
    (fSeq (fAsg (fList F_markov_moved (aCons (fVar 0) (aCons (fVar 1) (aCons (fVar 4) aNil)))) (tTupG 2 (tsCons (tName 0) (tsCons (tName 1) tsNil))))
    (fNx))))
    (fSeq (fRet (fVar 3))
    (fNx)))
def F_back_way : GL := runB 5 b_back_way
def b_joining_way : SF :=
  fSeq (fAsg (fList F_lessened_way (aCons (fOp gIxAll (fVar 0) (fC (.int 0))) (aCons (fOp gIxAll (fVar 0) (fC (.int 1))) (aCons (fVar 2) aNil)))) (tTupG 2 (tsCons (tName 3) (tsCons (tName 4) tsNil))))
    (fSeq (fAsg (fList F_lessened_way (aCons (fOp gIxAll (fVar 1) (fC (.int 0))) (aCons (fOp gIxAll (fVar 1) (fC (.int 1))) (aCons (fVar 2) aNil)))) (tTupG 2 (tsCons (tName 5) (tsCons (tName 6) tsNil))))
    (fSeq (fIf (fTest (fOp gEqD (fVar 4) (fVar 6))) (fSeq (fRet (fOp gAdd (fVar 3) (fList F_back_way (aCons (fOp gIxAll (fVar 1) (fC (.int 0))) (aCons (fOp gIxAll (fVar 1) (fC (.int 1))) (aCons (fVar 5) aNil))))))
    (fNx)) (fNx))
    (fSeq (fSet 7 (fList gListD (aCons (fList gTuple (aCons (fVar 4) (aCons (fList gListD aNil) aNil))) aNil)))
    (fSeq (fSet 8 (fDispX [(fVar 4, fC (.bl true))]))
    (fSeq (fWhile (fTest (fOpO gNeD 7 (fList gListD aNil)))
   (fSeq (fAsg (fMut isLst 7 gPopAt (aCons (fC (.int 0)) aNil)) (tTupG 2 (tsCons (tName 9) (tsCons (tName 10) tsNil))))
    (fSeq (fFor (iS (fList F_possible_moves (aCons (fOp gIxAll (fVar 9) (fC (.int 0))) (aCons (fOp gIxAll (fVar 9) (fC (.int 1))) aNil)))) (tName 11)
   (fSeq (fSet 12 (fList F_markov_moved (aCons (fOp gIxAll (fVar 9) (fC (.int 0))) (aCons (fOp gIxAll (fVar 9) (fC (.int 1))) (aCons (fVar 11) aNil)))))
    (fSeq (fIf (fTest (fOp gEqD (fVar 12) (fVar 6))) (fSeq (fRet (fOp gAdd (fOp gAdd (fOp gAdd (fVar 3) (fVar 10)) (fList gListD (aCons (fVar 11) aNil))) (fList F_back_way (aCons (fOp gIxAll (fVar 1) (fC (.int 0))) (aCons (fOp gIxAll (fVar 1) (fC (.int 1))) (aCons (fVar 5) aNil))))))
    (fNx)) (fNx))
    (fSeq (fIf (fAndT (fTest (fOp gNotInX (fVar 12) (fVar 8))) (fTest (fOp gLt (fList gLenX (a1 (fVar 8))) (fVar 2)))) (fSeq (fAsg (fC (.bl true)) (tSub 8 (fVar 12) gSetX))
    (fSeq (fDrop (fMut isLst 7 gAppend (aCons (fList gTuple (aCons (fVar 12) (aCons (fOp gAdd (fVar 10) (fList gListD (aCons (fVar 11) aNil))) aNil))) aNil)))
    (fNx))) (fNx))
    (fNx)))))
    (fNx))) 10000)
    (fSeq (fRet (fC .non))
    (fNx)))))))
def F_joining_way : GL := runB 13 b_joining_way
def b_is_move : SF :=
  fSeq (fIf (fOrT (fNotT (fTru (fUn (gIsi .tuple) (fVar 0)))) (fOrT (fTest (fOp gLt (fList gLenAll (a1 (fVar 0))) (fC (.int 2)))) (fTest (fOp gNotInA (fOp gIxAll (fVar 0) (fC (.int 0))) (fList gTuple (aCons (fC (.str "swap")) (aCons (fC (.str "triple")) (aCons (fC (.str "cancel")) (aCons (fC (.str "insert")) aNil))))))))) (fSeq (fRet (fC (.bl false)))
    (fNx)) (fNx))
    (fSeq (fIf (fTest (fOp gNeD (fList gLenAll (a1 (fVar 0))) (fIf (fTest (fOp gEqD (fOp gIxAll (fVar 0) (fC (.int 0))) (fC (.str "insert")))) (fC (.int 3)) (fC (.int 2))))) (fSeq (fRet (fC (.bl false)))
    (fNx)) (fNx))
    (fSeq (fRet (fAndV (fList gAll (a1 (fLC [1] (iS (fSlice gSl (fVar 0) (pSome (fC (.int 1))) pNone)) (tName 1) (fYes) (fAndV (fUn (gIsi .int) (fVar 1)) (fNotV (fUn (gIsi .bool) (fVar 1))))))) (fOp gGe (fOp gIxAll (fVar 0) (fC (.int 1))) (fC (.int 0)))))
    (fNx)))
def F_is_move : GL := runB 2 b_is_move
def b_is_markov_move : SF :=
  fSeq (fIf (fTest (fOp gInA (fVar 0) (fList gTuple (aCons (fList gTuple (aCons (fC (.str "cycle")) aNil)) (aCons (fList gTuple (aCons (fC (.str "back")) aNil)) (aCons (fList gTuple (aCons (fC (.str "up")) (aCons (fC (.int 1)) aNil))) (aCons (fList gTuple (aCons (fC (.str "up")) (aCons (fUn gNeg (fC (.int 1))) aNil))) (aCons (fList gTuple (aCons (fC (.str "down")) aNil)) aNil)))))))) (fSeq (fRet (fList gAll (a1 (fLC [1] (iS (fVar 0)) (tName 1) (fYes) (fNotV (fUn (gIsi .bool) (fVar 1)))))))
    (fNx)) (fNx))
    (fSeq (fRet (fList F_is_move (aCons (fVar 0) aNil)))
    (fNx))
def F_is_markov_move : GL := runB 2 b_is_markov_move
def b_markov_behind : SF :=
  fSeq (fFor (iR1 (fList gLenAll (a1 (fVar 2)))) (tName 3)
   (fSeq (fSet 4 (fIf (fTru (fList F_is_markov_move (aCons (fOp gIxAll (fVar 2) (fVar 3)) aNil))) (fList F_markov_moved (aCons (fVar 0) (aCons (fVar 1) (aCons (fOp gIxAll (fVar 2) (fVar 3)) aNil)))) (fC .non)))
    (fSeq (fIf (fTest (fOp gIsN (fVar 4) (fC .non))) (fSeq (fun _ => none)
    (fNx)) (fNx))
    (fSeq (fAsg (fVar 4) (tTupG 2 (tsCons (tName 0) (tsCons (tName 1) tsNil))))
    (fNx)))))
    (fSeq (fRet (fList gTuple (aCons (fVar 0) (aCons (fVar 1) aNil))))
    (fNx))
def F_markov_behind : GL := runB 5 b_markov_behind
def b_is_markov_way : SF :=
  fSeq (fIf (fNotT (fTru (fUn (gIsi .list) (fVar 2)))) (fSeq (fRet (fC (.bl false)))
    (fNx)) (fNx))
    (fSeq (fSeq (fRet (fOp gEqD (fList F_markov_behind (aCons (fOp gIxAll (fVar 0) (fC (.int 0))) (aCons (fOp gIxAll (fVar 0) (fC (.int 1))) (aCons (fVar 2) aNil)))) (fVar 1)))
    (fNx))
    (fNx))
def F_is_markov_way : GL := runB 3 b_is_markov_way
def b__law_best : SF :=
  fSeq (fSet 3 (fDispX [(fList gTuple (aCons (fVar 0) (aCons (fVar 1) aNil)), fList gListD aNil)]))
    (fSeq (fPar 4 5 (fList gListD (aCons (fList gTuple (aCons (fVar 0) (aCons (fVar 1) aNil))) aNil)) (fList gTuple (aCons (fVar 0) (aCons (fVar 1) aNil))))
    (fSeq (fWhile (fAndT (fTest (fOp gNeD (fVar 4) (fList gListD aNil))) (fTest (fOp gLe (fList gLenX (a1 (fVar 3))) (fVar 2))))
   (fSeq (fPar 6 4 (fOp gIxAll (fVar 4) (fC (.int 0))) (fSlice gSlL (fVar 4) (pSome (fC (.int 1))) pNone))
    (fSeq (fFor (iS (fList F_possible_moves (aCons (fOp gIxAll (fVar 6) (fC (.int 0))) (aCons (fOp gIxAll (fVar 6) (fC (.int 1))) aNil)))) (tName 7)
   (fSeq (fSet 8 (fList F_markov_moved (aCons (fOp gIxAll (fVar 6) (fC (.int 0))) (aCons (fOp gIxAll (fVar 6) (fC (.int 1))) (aCons (fVar 7) aNil)))))
    (fSeq (fIf (fTest (fOp gNotInX (fVar 8) (fVar 3))) (fSeq (fIf (fTest (fOp gEqD (fList gLenX (a1 (fVar 3))) (fVar 2))) (fSeq (fRet (fList gTuple (aCons (fOpO gIxX 3 (fVar 5)) (aCons (fVar 5) aNil))))
    (fNx)) (fNx))
    (fSeq (fAsg (fOp gAdd (fOpO gIxX 3 (fVar 6)) (fList gListD (aCons (fVar 7) aNil))) (tSub 3 (fVar 8) gSetX))
    (fSeq (fDrop (fMut isLst 4 gAppend (aCons (fVar 8) aNil)))
    (fSeq (fIf (fTest (fOp gLtA (fList gTuple (aCons (fOp gIxAll (fVar 8) (fC (.int 1))) (aCons (fList gLenAll (a1 (fOp gIxAll (fVar 8) (fC (.int 0))))) aNil))) (fList gTuple (aCons (fOp gIxAll (fVar 5) (fC (.int 1))) (aCons (fList gLenAll (a1 (fOp gIxAll (fVar 5) (fC (.int 0))))) aNil))))) (fSeq (fSet 5 (fVar 8))
    (fNx)) (fNx))
    (fNx))))) (fNx))
    (fNx))))
    (fNx))) 10000)
    (fSeq (fRet (fList gTuple (aCons (fOpO gIxX 3 (fVar 5)) (aCons (fVar 5) aNil))))
    (fNx))))
def F__law_best : GL := runB 9 b__law_best
def b_law : SF :=
  fSeq (fSet 1 (fList gListD (aCons (fList gListAll (a1 (fVar 0))) (aCons (fC (.int 0)) (aCons (fC (.int 0)) (aCons (fC (.int 83)) aNil))))))
    (fSeq (fSet 2 (fOp gAdd (fC (.int 1)) (fCallI 1 F__law_next (oHole 1 (oCons (fC (.int 3)) oNil)))))
    (fSeq (fSet 3 (fCallI 1 F__law_word (oHole 1 (oCons (fVar 2) (oCons (fC (.int 4)) oNil)))))
    (fSeq (fPar 4 5 (fVar 3) (fVar 2))
    (fSeq (fFor (iR1 (fCallI 1 F__law_next (oHole 1 (oCons (fC (.int 4)) oNil)))) (tName 6)
   (fSeq (fPar 7 8 (fCallI 1 F__law_next (oHole 1 (oCons (fC (.int 3)) oNil))) (fCallI 1 F__law_next (oHole 1 (oCons (fOp gAdd (fList gLenAll (a1 (fVar 4))) (fC (.int 1))) oNil))))
    (fSeq (fIf (fAndT (fTest (fOp gEqD (fVar 7) (fC (.int 0)))) (fTest (fOp gGt (fVar 5) (fC (.int 1))))) (fSeq (fSet 9 (fOp gMulI (fOp gAdd (fC (.int 1)) (fCallI 1 F__law_next (oHole 1 (oCons (fOp gSubI (fVar 5) (fC (.int 1))) oNil)))) (fOp gIxAll (fList gTuple (aCons (fC (.int 1)) (aCons (fUn gNeg (fC (.int 1))) aNil))) (fCallI 1 F__law_next (oHole 1 (oCons (fC (.int 2)) oNil))))))
    (fSeq (fSet 4 (fOp gAdd (fOp gAdd (fSlice gSl (fVar 4) pNone (pSome (fVar 8))) (fList gTuple (aCons (fVar 9) (aCons (fOp gSubI (fC (.int 0)) (fVar 9)) aNil)))) (fSlice gSl (fVar 4) (pSome (fVar 8)) pNone)))
    (fNx))) (fSeq (fIf (fAndT (fTest (fOp gEqD (fVar 7) (fC (.int 1)))) (fTest (fOp gLt (fVar 5) (fC (.int 5))))) (fSeq (fPar 4 5 (fOp gAdd (fVar 4) (fList gTuple (aCons (fOp gMulI (fVar 5) (fOp gIxAll (fList gTuple (aCons (fC (.int 1)) (aCons (fUn gNeg (fC (.int 1))) aNil))) (fCallI 1 F__law_next (oHole 1 (oCons (fC (.int 2)) oNil))))) aNil))) (fOp gAdd (fVar 5) (fC (.int 1))))
    (fNx)) (fSeq (fSet 4 (fOp gAdd (fSlice gSl (fVar 4) (pSome (fVar 8)) pNone) (fSlice gSl (fVar 4) pNone (pSome (fVar 8)))))
    (fNx)))
    (fNx)))
    (fNx))))
    (fSeq (fSet 10 (fOp gIxAll (fList gTuple (aCons (fC (.int 1)) (aCons (fC (.int 20)) (aCons (fC (.int 300)) aNil)))) (fCallI 1 F__law_next (oHole 1 (oCons (fC (.int 3)) oNil)))))
    (fSeq (fAsg (fList F_lessened_way (aCons (fVar 4) (aCons (fVar 5) (aCons (fVar 10) aNil)))) (tTupG 2 (tsCons (tName 11) (tsCons (tName 12) tsNil))))
    (fSeq (fIf (fOrT (fNotT (fTru (fList (F__law_same 30) (aCons (fList gTuple (aCons (fVar 11) (aCons (fVar 12) aNil))) (aCons (fList F__law_best (aCons (fVar 4) (aCons (fVar 5) (aCons (fVar 10) aNil)))) aNil))))) (fTest (fOp gIsNotB (fList F_is_markov_way (aCons (fList gTuple (aCons (fVar 4) (aCons (fVar 5) aNil))) (aCons (fVar 12) (aCons (fVar 11) aNil)))) (fC (.bl true))))) (fSeq (fRet (fC (.bl false)))
    (fNx)) (fNx))
    (fSeq (fIf (fOrT (fTest (fOp gGtA (fList gTuple (aCons (fOp gIxAll (fVar 12) (fC (.int 1))) (aCons (fList gLenAll (a1 (fOp gIxAll (fVar 12) (fC (.int 0))))) aNil))) (fList gTuple (aCons (fVar 5) (aCons (fList gLenAll (a1 (fVar 4))) aNil))))) (fTest (fOp gNeD (fList F_markov_behind (aCons (fVar 4) (aCons (fVar 5) (aCons (fVar 11) aNil)))) (fVar 12)))) (fSeq (fRet (fC (.bl false)))
    (fNx)) (fNx))
    (fSeq (fSet 13 (fList F_joining_way (aCons (fList gTuple (aCons (fVar 3) (aCons (fVar 2) aNil))) (aCons (fList gTuple (aCons (fVar 4) (aCons (fVar 5) aNil))) (aCons (fC (.int 300)) aNil)))))
    (fSeq (fIf (fAndT (fTest (fOp gIsNotN (fVar 13) (fC .non))) (fTest (fOp gIsNotB (fList F_is_markov_way (aCons (fList gTuple (aCons (fVar 3) (aCons (fVar 2) aNil))) (aCons (fList gTuple (aCons (fVar 4) (aCons (fVar 5) aNil))) (aCons (fVar 13) aNil)))) (fC (.bl true))))) (fSeq (fRet (fC (.bl false)))
    (fNx)) (fNx))
    (fSeq (fSet 14 (fList F_joining_way (aCons (fList gTuple (aCons (fVar 4) (aCons (fVar 5) aNil))) (aCons (fList gTuple (aCons (fVar 4) (aCons (fVar 5) aNil))) (aCons (fVar 10) aNil)))))
    (fSeq (fRet (fAndV (fOp gIsNotN (fVar 14) (fC .non)) (fOp gIsB (fList F_is_markov_way (aCons (fList gTuple (aCons (fVar 4) (aCons (fVar 5) aNil))) (aCons (fList gTuple (aCons (fVar 4) (aCons (fVar 5) aNil))) (aCons (fVar 14) aNil)))) (fC (.bl true)))))
    (fNx)))))))))))))
def F_law : GL := runB 15 b_law
end PT.k83

set_option Elab.async false
set_option linter.all false
set_option autoImplicit false
set_option maxRecDepth 100000
set_option maxHeartbeats 4000000
namespace PT.k83
open PySem PySem.Spec PyProof.Rows L2 PT PT.Lau PT.Tl
def top (i : Nat) : Stmt := PySem.Challenge.pw_knotpapers_k83_whole_ways_to_lesser_word.main.body.getD i (.Pass ⟨0, 0, 0, 0⟩)
section
variable {P : Program} {w : World} {K : PySem.W.Frag} {mg : Str → Option Value} {base : Heap}
structure Txt (K : PySem.W.Frag) (mg : Str → Option Value) : Prop where
  n_abs : mg "abs" = none
  n_all : mg "all" = none
  n_any : mg "any" = none
  n_bool : mg "bool" = none
  n_int : mg "int" = none
  n_isinstance : mg "isinstance" = none
  n_len : mg "len" = none
  n_list : mg "list" = none
  n_range : mg "range" = none
  n_str : mg "str" = none
  n_tuple : mg "tuple" = none
abbrev s__law_next : Stmt := top 21
abbrev N__law_next : List Str := ["tape", "many", "rest", "cell"]
theorem sc__law_next : FnScope N__law_next ["tape", "many"] (defScope s__law_next) := ⟨rfl, rfl, rfl, by decide +kernel, rfl, by decide +kernel, by decide +kernel⟩
theorem ok__law_next {f : Addr} {fd : FuncData} (Fn : Fun K "_law_next" "_law_next" s__law_next f fd) (T : Txt K mg) : FnOk P w K mg base CX0 1 f fd ["tape", "many"] (spI K 2 0 F__law_next) := by
  refine ok_io (own' := [0]) (k := 0) (body := b__law_next) Fn sc__law_next (fun args v e => e) (fun cdv A outer s H E hr => ?_)
  have hu64 := hr.units
  have hu65 := units65 hr
  have hu1 := hu_of hr
  have nd := sc__law_next.nd
  exact (ss_cons (sx_set (i := 2) nd rfl (by first | exact .inl rfl | exact .inr rfl) (by decide) (ex_ixO (iv_all hu1) (pv 0) (by decide) ex_int (fun _ _ => rfl))) (ss_cons (sx_if (tx_cmp (ov_eqD hu64) (ex_var (pv 2) (by decide)) ex_int (nomark _)) (ss_cons (sx_set (i := 3) nd rfl (by first | exact .inl rfl | exact .inr rfl) (by decide) ex_int) (ss_cons (sx_if (tx_cmp ov_lt (ex_ixO (iv_all hu1) (pv 0) (by decide) ex_int (fun _ _ => rfl)) (ex_b1 cv_lenAll ((ex_ixO (iv_all hu1) (pv 0) (by decide) ex_int (fun _ _ => rfl))).peek (by rfl) T.n_len (by decide +kernel)) (nomark _)) (ss_cons (sx_set (i := 3) nd rfl (by first | exact .inl rfl | exact .inr rfl) (by decide) (ex_b1 cv_abs ((ex_t1 cv_int ((ex_ix (iv_all hu1) (ex_ixO (iv_all hu1) (pv 0) (by decide) ex_int (fun _ _ => rfl)) (ex_ixO (iv_all hu1) (pv 0) (by decide) ex_int (fun _ _ => rfl)) (fun _ _ => rfl))).peek (by rfl) T.n_int (by decide +kernel))).peek (by rfl) T.n_abs (by decide +kernel))) (ss_cons (sx_asg (ex_op ov_addAll (ex_ixO (iv_all hu1) (pv 0) (by decide) ex_int (fun _ _ => rfl)) ex_int) (gx_sub (si_all hu1) (pv 0) (by decide) ex_int)) ss_nil)) ss_nil) (ss_cons (sx_set (i := 2) nd rfl (by first | exact .inl rfl | exact .inr rfl) (by decide) (ex_var (pv 3) (by decide))) (ss_cons (sx_if (tx_cmp ov_lt (ex_var (pv 3) (by decide)) (ex_op ov_pow ex_int ex_int) (nomark _)) (ss_cons (sx_asg (ex_op ov_mod (ex_t1 cv_int ((ex_op ov_addAll (ex_op ov_addAll (ex_op ov_mul (ex_ixO (iv_all hu1) (pv 0) (by decide) ex_int (fun _ _ => rfl)) ex_int) (ex_op ov_mul (ex_var (pv 3) (by decide)) ex_int)) ex_int)).peek (by rfl) T.n_int (by decide +kernel)) ex_int) (gx_sub (si_all hu1) (pv 0) (by decide) ex_int)) (ss_cons (sx_ret (ex_op ov_mod (ex_op ov_mod (ex_t1 cv_int ((ex_op ov_mul (ex_t1 cv_int ((ex_op ov_div (ex_ixO (iv_all hu1) (pv 0) (by decide) ex_int (fun _ _ => rfl)) ex_int)).peek (by rfl) T.n_int (by decide +kernel)) ex_int)).peek (by rfl) T.n_int (by decide +kernel)) ex_int) (ex_var (pv 1) (by decide)))) ss_nil)) ss_nil) ss_nil)))) ss_nil) (ss_cons (sx_asg (ex_op ov_div (ex_var (pv 2) (by decide)) (ex_var (pv 1) (by decide))) (gx_sub (si_all hu1) (pv 0) (by decide) ex_int)) (ss_cons (sx_ret (ex_op ov_mod (ex_t1 cv_int ((ex_var (pv 2) (by decide))).peek (by rfl) T.n_int (by decide +kernel)) (ex_var (pv 1) (by decide)))) ss_nil))))
abbrev s__law_word : Stmt := top 23
abbrev N__law_word : List Str := ["tape", "strings", "most", "found", "turn", "letter"]
theorem sc__law_word : FnScope N__law_word ["tape", "strings", "most"] (defScope s__law_word) := ⟨rfl, rfl, rfl, by decide +kernel, rfl, by decide +kernel, by decide +kernel⟩
theorem ok__law_word {f : Addr} {fd : FuncData} (Fn : Fun K "_law_word" "_law_word" s__law_word f fd) (T : Txt K mg) (c__law_next : CallIo P w K mg base 1 "_law_next" 2 0 F__law_next) : FnOk P w K mg base CX0 2 f fd ["tape", "strings", "most"] (spI K 3 0 F__law_word) := by
  refine ok_io (own' := [0]) (k := 1) (body := b__law_word) Fn sc__law_word (fun args v e => e) (fun cdv A outer s H E hr => ?_)
  have hu64 := hr.units
  have hu65 := units65 hr
  have hu1 := hu_of hr
  have nd := sc__law_word.nd
  exact (ss_cons (sx_if (tx_cmp ov_lt (ex_var (pv 1) (by decide)) ex_int (nomark _)) (ss_cons (sx_ret (ex_tup ax_nil)) ss_nil) ss_nil) (ss_cons (sx_set (i := 3) nd rfl (by first | exact .inl rfl | exact .inr rfl) (by decide) (ex_tup ax_nil)) (ss_cons (sx_for PassesOwn.never rfl (ix_rng1 (by rfl) T.n_range (ex_callIC c__law_next (hr.mono (by decide)) (by rfl) (by decide) (ox_hole (pv 0) (by decide) (ox_cons (ex_op ov_addAll (ex_var (pv 2) (by decide)) ex_int) ox_nil)) (hole_ok (oh_hole (oh_cons oh_nil)) (by decide)))) (gx_name (i := 4) nd rfl (by first | exact .inl rfl | exact .inr rfl) (by decide)) (ss_cons (sx_set (i := 5) nd rfl (by first | exact .inl rfl | exact .inr rfl) (by decide) (ex_op ov_addAll ex_int (ex_callIC c__law_next (hr.mono (by decide)) (by rfl) (by decide) (ox_hole (pv 0) (by decide) (ox_cons (ex_op ov_sub (ex_var (pv 1) (by decide)) ex_int) ox_nil)) (hole_ok (oh_hole (oh_cons oh_nil)) (by decide))))) (ss_cons (sx_set (i := 3) nd rfl (by first | exact .inl rfl | exact .inr rfl) (by decide) (ex_op ov_addAll (ex_var (pv 3) (by decide)) (ex_tup (ax_cons (ex_ix (iv_all hu1) (ex_tup (ax_cons (ex_var (pv 5) (by decide)) (ax_cons (ex_op ov_sub ex_int (ex_var (pv 5) (by decide))) ax_nil))) (ex_callIC c__law_next (hr.mono (by decide)) (by rfl) (by decide) (ox_hole (pv 0) (by decide) (ox_cons ex_int ox_nil)) (hole_ok (oh_hole (oh_cons oh_nil)) (by decide))) (fun _ _ => rfl)) ax_nil)))) ss_nil))) (ss_cons (sx_ret (ex_var (pv 3) (by decide))) ss_nil))))
abbrev s_is_triple : Stmt := top 6
abbrev N_is_triple : List Str := ["first", "second", "third"]
theorem sc_is_triple : FnScope N_is_triple ["first", "second", "third"] (defScope s_is_triple) := ⟨rfl, rfl, rfl, by decide +kernel, rfl, by decide +kernel, by decide +kernel⟩
theorem ok_is_triple {f : Addr} {fd : FuncData} (Fn : Fun K "is_triple" "is_triple" s_is_triple f fd) (T : Txt K mg) : FnOk P w K mg base CX0 1 f fd ["first", "second", "third"] (spF K 3 F_is_triple) := by
  refine ok_pure (own' := []) (k := 0) (body := b_is_triple) Fn sc_is_triple (fun args v e => e) (fun cdv A outer s H E hr => ?_)
  have hu64 := hr.units
  have hu65 := units65 hr
  have hu1 := hu_of hr
  have nd := sc_is_triple.nd
  exact (ss_cons (sx_if ((wx_or (tx_cmp (ov_neD hu64) (ex_b1 cv_abs ((ex_var (pv 0) (by decide))).peek (by rfl) T.n_abs (by decide +kernel)) (ex_b1 cv_abs ((ex_var (pv 2) (by decide))).peek (by rfl) T.n_abs (by decide +kernel)) (nomark _)) (wx_or1 (tx_cmp (ov_neD hu64) (ex_b1 cv_abs ((ex_op ov_sub (ex_b1 cv_abs ((ex_var (pv 0) (by decide))).peek (by rfl) T.n_abs (by decide +kernel)) (ex_b1 cv_abs ((ex_var (pv 1) (by decide))).peek (by rfl) T.n_abs (by decide +kernel)))).peek (by rfl) T.n_abs (by decide +kernel)) ex_int (nomark _))))).t (ss_cons (sx_ret ex_bl) ss_nil) ss_nil) (ss_cons (sx_ret (ex_or (ex_cmp (ov_eqD hu64) (ex_cmp ov_gt (ex_var (pv 0) (by decide)) ex_int (nomark _)) (ex_cmp ov_gt (ex_var (pv 1) (by decide)) ex_int (nomark _)) (nomark _)) (ex_one (ex_cmp (ov_eqD hu64) (ex_cmp ov_gt (ex_var (pv 1) (by decide)) ex_int (nomark _)) (ex_cmp ov_gt (ex_var (pv 2) (by decide)) ex_int (nomark _)) (nomark _))))) ss_nil))
abbrev s_side_of : Stmt := top 5
abbrev N_side_of : List Str := ["word", "k", "found"]
theorem sc_side_of : FnScope N_side_of ["word", "k"] (defScope s_side_of) := ⟨rfl, rfl, rfl, by decide +kernel, rfl, by decide +kernel, by decide +kernel⟩
theorem ok_side_of {f : Addr} {fd : FuncData} (Fn : Fun K "side_of" "side_of" s_side_of f fd) (T : Txt K mg) (c_is_triple : CallOk P w K mg base 1 "is_triple" 3 F_is_triple) : FnOk P w K mg base CX0 2 f fd ["word", "k"] (spF K 2 F_side_of) := by
  refine ok_pure (own' := []) (k := 1) (body := b_side_of) Fn sc_side_of (fun args v e => e) (fun cdv A outer s H E hr => ?_)
  have hu64 := hr.units
  have hu65 := units65 hr
  have hu1 := hu_of hr
  have nd := sc_side_of.nd
  exact (ss_cons (sx_setN (own' := [2]) (i := 2) nd rfl (by first | exact .inl rfl | exact .inr rfl) (by decide) (ownIns (by decide)) (en_lst ax_nil)) (ss_cons (sx_if ((wx_and (tx_cmp ov_lt (ex_op ov_addAll (ex_var (pv 1) (by decide)) ex_int) (ex_b1 cv_lenAll ((ex_var (pv 0) (by decide))).peek (by rfl) T.n_len (by decide +kernel)) (nomark _)) (wx_and1 (tx_cmp ov_gt (ex_b1 cv_abs ((ex_op ov_sub (ex_b1 cv_abs ((ex_ix (iv_all hu1) (ex_var (pv 0) (by decide)) (ex_var (pv 1) (by decide)) (fun _ _ => rfl))).peek (by rfl) T.n_abs (by decide +kernel)) (ex_b1 cv_abs ((ex_ix (iv_all hu1) (ex_var (pv 0) (by decide)) (ex_op ov_addAll (ex_var (pv 1) (by decide)) ex_int) (fun _ _ => rfl))).peek (by rfl) T.n_abs (by decide +kernel)))).peek (by rfl) T.n_abs (by decide +kernel)) ex_int (nomark _))))).t (ss_cons (sx_expr (ex_mt PySem.F.plainAttrs_list PySem.F.slot_list_append PySem.F.type_list_append mi_append ty_lst (pv 2) (by decide) (ax_cons ex_str ax_nil))) ss_nil) ss_nil) (ss_cons (sx_if ((wx_and (tx_cmp ov_lt (ex_op ov_addAll (ex_var (pv 1) (by decide)) ex_int) (ex_b1 cv_lenAll ((ex_var (pv 0) (by decide))).peek (by rfl) T.n_len (by decide +kernel)) (nomark _)) (wx_and1 (tx_cmp (ov_eqD hu64) (ex_ix (iv_all hu1) (ex_var (pv 0) (by decide)) (ex_var (pv 1) (by decide)) (fun _ _ => rfl)) (ex_op ov_sub ex_int (ex_ix (iv_all hu1) (ex_var (pv 0) (by decide)) (ex_op ov_addAll (ex_var (pv 1) (by decide)) ex_int) (fun _ _ => rfl))) (nomark _))))).t (ss_cons (sx_expr (ex_mt PySem.F.plainAttrs_list PySem.F.slot_list_append PySem.F.type_list_append mi_append ty_lst (pv 2) (by decide) (ax_cons ex_str ax_nil))) ss_nil) ss_nil) (ss_cons (sx_if ((wx_and (tx_cmp ov_lt (ex_op ov_addAll (ex_var (pv 1) (by decide)) ex_int) (ex_b1 cv_lenAll ((ex_var (pv 0) (by decide))).peek (by rfl) T.n_len (by decide +kernel)) (nomark _)) (wx_and1 (tx_tru ((ex_callC c_is_triple (hr.mono (by decide)) (by rfl) (ax_cons (ex_ix (iv_all hu1) (ex_var (pv 0) (by decide)) (ex_var (pv 1) (by decide)) (fun _ _ => rfl)) (ax_cons (ex_ix (iv_all hu1) (ex_var (pv 0) (by decide)) (ex_op ov_addAll (ex_var (pv 1) (by decide)) ex_int) (fun _ _ => rfl)) (ax_cons (ex_ix (iv_all hu1) (ex_var (pv 0) (by decide)) (ex_op ov_addAll (ex_var (pv 1) (by decide)) ex_int) (fun _ _ => rfl)) ax_nil))) (len_cons (len_cons (len_cons len_nil))))).peek)))).t (ss_cons (sx_expr (ex_mt PySem.F.plainAttrs_list PySem.F.slot_list_append PySem.F.type_list_append mi_append ty_lst (pv 2) (by decide) (ax_cons ex_str ax_nil))) ss_nil) ss_nil) (ss_fz (own2 := []) 2 (by decide) (ownIns (by decide)) (by decide) (ss_cons (sx_ret (ex_var (pv 2) (by decide))) ss_nil))))))
abbrev s_turned : Stmt := top 7
abbrev N_turned : List Str := ["first", "second", "third", "one", "other"]
theorem sc_turned : FnScope N_turned ["first", "second", "third"] (defScope s_turned) := ⟨rfl, rfl, rfl, by decide +kernel, rfl, by decide +kernel, by decide +kernel⟩
theorem ok_turned {f : Addr} {fd : FuncData} (Fn : Fun K "turned" "turned" s_turned f fd) (T : Txt K mg) : FnOk P w K mg base CX0 1 f fd ["first", "second", "third"] (spF K 3 F_turned) := by
  refine ok_pure (own' := []) (k := 0) (body := b_turned) Fn sc_turned (fun args v e => e) (fun cdv A outer s H E hr => ?_)
  have hu64 := hr.units
  have hu65 := units65 hr
  have hu1 := hu_of hr
  have nd := sc_turned.nd
  exact (ss_cons (sx_par (i := 3) (j := 4) rfl nd rfl rfl (by decide) rfl rfl (ex_b1 cv_abs ((ex_var (pv 0) (by decide))).peek (by rfl) T.n_abs (by decide +kernel)) (ex_b1 cv_abs ((ex_var (pv 1) (by decide))).peek (by rfl) T.n_abs (by decide +kernel)) (by decide) (by decide)) (ss_cons (sx_ret (ex_tup (ax_cons (ex_ifExp (tx_cmp ov_gt (ex_var (pv 2) (by decide)) ex_int (nomark _)) (ex_var (pv 4) (by decide)) (ex_op ov_sub ex_int (ex_var (pv 4) (by decide)))) (ax_cons (ex_ifExp (tx_cmp ov_gt (ex_var (pv 1) (by decide)) ex_int (nomark _)) (ex_var (pv 3) (by decide)) (ex_op ov_sub ex_int (ex_var (pv 3) (by decide)))) (ax_cons (ex_ifExp (tx_cmp ov_gt (ex_var (pv 0) (by decide)) ex_int (nomark _)) (ex_var (pv 4) (by decide)) (ex_op ov_sub ex_int (ex_var (pv 4) (by decide)))) ax_nil))))) ss_nil))
abbrev s_is_word : Stmt := top 4
abbrev N_is_word : List Str := ["value", "many", "one"]
theorem sc_is_word : FnScope N_is_word ["value", "many"] (defScope s_is_word) := ⟨rfl, rfl, rfl, by decide +kernel, rfl, by decide +kernel, by decide +kernel⟩
theorem ok_is_word {f : Addr} {fd : FuncData} (Fn : Fun K "is_word" "is_word" s_is_word f fd) (T : Txt K mg) : FnOk P w K mg base CX0 1 f fd ["value", "many"] (spF K 2 F_is_word) := by
  refine ok_pure (own' := []) (k := 0) (body := b_is_word) Fn sc_is_word (fun args v e => e) (fun cdv A outer s H E hr => ?_)
  have hu64 := hr.units
  have hu65 := units65 hr
  have hu1 := hu_of hr
  have nd := sc_is_word.nd
  exact (ss_cons (sx_if (tx_not (tx_tru ((ex_isi .tuple ((ex_var (pv 0) (by decide))).peek (pe_bltn (by rfl) T.n_tuple (by decide +kernel) rfl) (by rfl) T.n_isinstance (by decide +kernel))).peek)) (ss_cons (sx_ret ex_bl) ss_nil) ss_nil) (ss_cons (sx_ret (ex_b1 (cv_all rfl) ((en_lc (nm := [("one", 2)]) (vs := [2]) rfl nd (ix_seq' (ex_var (pv 0) (by decide))) (blkOk_by (by rfl)) rfl (by decide) (fun _ _ _ _ _ => (gc_name (i := 2) nd rfl (by first | exact .inl rfl | exact .inr rfl) (by decide) (by decide))) (fun _ _ _ _ _ => ts_nil) (fun _ _ _ _ _ => (ex_and (ex_isi .int ((ex_var (pv 2) (by decide))).peek (pe_bltn (by rfl) T.n_int (by decide +kernel) rfl) (by rfl) T.n_isinstance (by decide +kernel)) (ex_and (ex_not (ex_isi .bool ((ex_var (pv 2) (by decide))).peek (pe_bltn (by rfl) T.n_bool (by decide +kernel) rfl) (by rfl) T.n_isinstance (by decide +kernel))) (ex_one (ex_chain ov_lt ov_lt ex_int (ex_b1 cv_abs ((ex_var (pv 2) (by decide))).peek (by rfl) T.n_abs (by decide +kernel)) (ex_var (pv 1) (by decide))))))))).peek (by rfl) T.n_all (by decide +kernel))) ss_nil))
abbrev s_moved : Stmt := top 9
abbrev N_moved : List Str := ["word", "many", "move", "k"]
theorem sc_moved : FnScope N_moved ["word", "many", "move"] (defScope s_moved) := ⟨rfl, rfl, rfl, by decide +kernel, rfl, by decide +kernel, by decide +kernel⟩
theorem ok_moved {f : Addr} {fd : FuncData} (Fn : Fun K "moved" "moved" s_moved f fd) (T : Txt K mg) (c_side_of : CallOk P w K mg base 2 "side_of" 2 F_side_of) (c_turned : CallOk P w K mg base 1 "turned" 3 F_turned) (c_is_word : CallOk P w K mg base 1 "is_word" 2 F_is_word) : FnOk P w K mg base CX0 3 f fd ["word", "many", "move"] (spF K 3 F_moved) := by
  refine ok_pure (own' := []) (k := 2) (body := b_moved) Fn sc_moved (fun args v e => e) (fun cdv A outer s H E hr => ?_)
  have hu64 := hr.units
  have hu65 := units65 hr
  have hu1 := hu_of hr
  have nd := sc_moved.nd
  exact (ss_cons (sx_if (tx_cmp (ov_eqD hu64) (ex_ix (iv_all hu1) (ex_var (pv 2) (by decide)) ex_int (fun _ _ => rfl)) ex_str (nomark _)) (ss_cons (sx_if ((wx_or (tx_cmp ov_gt (ex_ix (iv_all hu1) (ex_var (pv 2) (by decide)) ex_int (fun _ _ => rfl)) (ex_b1 cv_lenAll ((ex_var (pv 0) (by decide))).peek (by rfl) T.n_len (by decide +kernel)) (nomark _)) (wx_or1 (tx_not (tx_tru ((ex_callC c_is_word (hr.mono (by decide)) (by rfl) (ax_cons (ex_slice sv_seq (ex_var (pv 2) (by decide)) (px_some ex_int) (px_some ex_int)) (ax_cons (ex_var (pv 1) (by decide)) ax_nil)) (len_cons (len_cons len_nil)))).peek))))).t (ss_cons (sx_ret ex_non) ss_nil) ss_nil) (ss_cons (sx_ret (ex_op ov_addAll (ex_op ov_addAll (ex_slice sv_seq (ex_var (pv 0) (by decide)) px_none (px_some (ex_ix (iv_all hu1) (ex_var (pv 2) (by decide)) ex_int (fun _ _ => rfl)))) (ex_tup (ax_cons (ex_ix (iv_all hu1) (ex_var (pv 2) (by decide)) ex_int (fun _ _ => rfl)) (ax_cons (ex_op ov_sub ex_int (ex_ix (iv_all hu1) (ex_var (pv 2) (by decide)) ex_int (fun _ _ => rfl))) ax_nil)))) (ex_slice sv_seq (ex_var (pv 0) (by decide)) (px_some (ex_ix (iv_all hu1) (ex_var (pv 2) (by decide)) ex_int (fun _ _ => rfl))) px_none))) ss_nil)) ss_nil) (ss_cons (sx_set (i := 3) nd rfl (by first | exact .inl rfl | exact .inr rfl) (by decide) (ex_ix (iv_all hu1) (ex_var (pv 2) (by decide)) ex_int (fun _ _ => rfl))) (ss_cons (sx_if (tx_cmp (ov_notIn hu65) (ex_ix (iv_all hu1) (ex_var (pv 2) (by decide)) ex_int (fun _ _ => rfl)) (ex_callC c_side_of (hr.mono (by decide)) (by rfl) (ax_cons (ex_var (pv 0) (by decide)) (ax_cons (ex_var (pv 3) (by decide)) ax_nil)) (len_cons (len_cons len_nil))) rfl) (ss_cons (sx_ret ex_non) ss_nil) ss_nil) (ss_cons (sx_if (tx_cmp (ov_eqD hu64) (ex_ix (iv_all hu1) (ex_var (pv 2) (by decide)) ex_int (fun _ _ => rfl)) ex_str (nomark _)) (ss_cons (sx_ret (ex_op ov_addAll (ex_op ov_addAll (ex_slice sv_seq (ex_var (pv 0) (by decide)) px_none (px_some (ex_var (pv 3) (by decide)))) (ex_tup (ax_cons (ex_ix (iv_all hu1) (ex_var (pv 0) (by decide)) (ex_op ov_addAll (ex_var (pv 3) (by decide)) ex_int) (fun _ _ => rfl)) (ax_cons (ex_ix (iv_all hu1) (ex_var (pv 0) (by decide)) (ex_var (pv 3) (by decide)) (fun _ _ => rfl)) ax_nil)))) (ex_slice sv_seq (ex_var (pv 0) (by decide)) (px_some (ex_op ov_addAll (ex_var (pv 3) (by decide)) ex_int)) px_none))) ss_nil) ss_nil) (ss_cons (sx_if (tx_cmp (ov_eqD hu64) (ex_ix (iv_all hu1) (ex_var (pv 2) (by decide)) ex_int (fun _ _ => rfl)) ex_str (nomark _)) (ss_cons (sx_ret (ex_op ov_addAll (ex_slice sv_seq (ex_var (pv 0) (by decide)) px_none (px_some (ex_var (pv 3) (by decide)))) (ex_slice sv_seq (ex_var (pv 0) (by decide)) (px_some (ex_op ov_addAll (ex_var (pv 3) (by decide)) ex_int)) px_none))) ss_nil) ss_nil) (ss_cons (sx_ret (ex_op ov_addAll (ex_op ov_addAll (ex_slice sv_seq (ex_var (pv 0) (by decide)) px_none (px_some (ex_var (pv 3) (by decide)))) (ex_callC c_turned (hr.mono (by decide)) (by rfl) (ax_cons (ex_ix (iv_all hu1) (ex_var (pv 0) (by decide)) (ex_var (pv 3) (by decide)) (fun _ _ => rfl)) (ax_cons (ex_ix (iv_all hu1) (ex_var (pv 0) (by decide)) (ex_op ov_addAll (ex_var (pv 3) (by decide)) ex_int) (fun _ _ => rfl)) (ax_cons (ex_ix (iv_all hu1) (ex_var (pv 0) (by decide)) (ex_op ov_addAll (ex_var (pv 3) (by decide)) ex_int) (fun _ _ => rfl)) ax_nil))) (len_cons (len_cons (len_cons len_nil))))) (ex_slice sv_seq (ex_var (pv 0) (by decide)) (px_some (ex_op ov_addAll (ex_var (pv 3) (by decide)) ex_int)) px_none))) ss_nil))))))
abbrev s_markov_moved : Stmt := top 12
abbrev N_markov_moved : List Str := ["word", "many", "move", "kind", "letter", "now"]
theorem sc_markov_moved : FnScope N_markov_moved ["word", "many", "move"] (defScope s_markov_moved) := ⟨rfl, rfl, rfl, by decide +kernel, rfl, by decide +kernel, by decide +kernel⟩
theorem ok_markov_moved {f : Addr} {fd : FuncData} (Fn : Fun K "markov_moved" "markov_moved" s_markov_moved f fd) (T : Txt K mg) (c_moved : CallOk P w K mg base 3 "moved" 3 F_moved) : FnOk P w K mg base CX0 4 f fd ["word", "many", "move"] (spF K 3 F_markov_moved) := by
  refine ok_pure (own' := []) (k := 3) (body := b_markov_moved) Fn sc_markov_moved (fun args v e => e) (fun cdv A outer s H E hr => ?_)
  have hu64 := hr.units
  have hu65 := units65 hr
  have hu1 := hu_of hr
  have nd := sc_markov_moved.nd
  exact (ss_cons (sx_set (i := 3) nd rfl (by first | exact .inl rfl | exact .inr rfl) (by decide) (ex_ix (iv_all hu1) (ex_var (pv 2) (by decide)) ex_int (fun _ _ => rfl))) (ss_cons (sx_if (tx_cmp (ov_eqD hu64) (ex_var (pv 3) (by decide)) ex_str (nomark _)) (ss_cons (sx_ret (ex_ifExp (tx_cmp (ov_neD hu64) (ex_var (pv 0) (by decide)) (ex_tup ax_nil) (nomark _)) (ex_tup (ax_cons (ex_op ov_addAll (ex_slice sv_seq (ex_var (pv 0) (by decide)) (px_some ex_int) px_none) (ex_slice sv_seq (ex_var (pv 0) (by decide)) px_none (px_some ex_int))) (ax_cons (ex_var (pv 1) (by decide)) ax_nil))) ex_non)) ss_nil) ss_nil) (ss_cons (sx_if (tx_cmp (ov_eqD hu64) (ex_var (pv 3) (by decide)) ex_str (nomark _)) (ss_cons (sx_ret (ex_ifExp (tx_cmp (ov_neD hu64) (ex_var (pv 0) (by decide)) (ex_tup ax_nil) (nomark _)) (ex_tup (ax_cons (ex_op ov_addAll (ex_slice sv_seq (ex_var (pv 0) (by decide)) (px_some (ex_un uv_neg ex_int)) px_none) (ex_slice sv_seq (ex_var (pv 0) (by decide)) px_none (px_some (ex_un uv_neg ex_int)))) (ax_cons (ex_var (pv 1) (by decide)) ax_nil))) ex_non)) ss_nil) ss_nil) (ss_cons (sx_if (tx_cmp (ov_eqD hu64) (ex_var (pv 3) (by decide)) ex_str (nomark _)) (ss_cons (sx_ret (ex_tup (ax_cons (ex_op ov_addAll (ex_var (pv 0) (by decide)) (ex_tup (ax_cons (ex_op ov_mul (ex_ix (iv_all hu1) (ex_var (pv 2) (by decide)) ex_int (fun _ _ => rfl)) (ex_var (pv 1) (by decide))) ax_nil))) (ax_cons (ex_op ov_addAll (ex_var (pv 1) (by decide)) ex_int) ax_nil)))) ss_nil) ss_nil) (ss_cons (sx_if (tx_cmp (ov_eqD hu64) (ex_var (pv 3) (by decide)) ex_str (nomark _)) (ss_cons (sx_if ((wx_or (tx_cmp ov_lt (ex_var (pv 1) (by decide)) ex_int (nomark _)) (wx_or (tx_cmp (ov_eqD hu64) (ex_var (pv 0) (by decide)) (ex_tup ax_nil) (nomark _)) (wx_or1 (tx_cmp (ov_neD hu64) (ex_b1 cv_abs ((ex_ix (iv_all hu1) (ex_var (pv 0) (by decide)) (ex_un uv_neg ex_int) (fun _ _ => rfl))).peek (by rfl) T.n_abs (by decide +kernel)) (ex_op ov_sub (ex_var (pv 1) (by decide)) ex_int) (nomark _)))))).t (ss_cons (sx_ret ex_non) ss_nil) ss_nil) (ss_cons (sx_if (tx_tru ((ex_b1 (cv_any rfl) ((en_lc (nm := [("letter", 4)]) (vs := [4]) rfl nd (ix_seq' (ex_slice sv_seq (ex_var (pv 0) (by decide)) px_none (px_some (ex_un uv_neg ex_int)))) (blkOk_by (by rfl)) rfl (by decide) (fun _ _ _ _ _ => (gc_name (i := 4) nd rfl (by first | exact .inl rfl | exact .inr rfl) (by decide) (by decide))) (fun _ _ _ _ _ => ts_nil) (fun _ _ _ _ _ => (ex_cmp (ov_eqD hu64) (ex_b1 cv_abs ((ex_var (pv 4) (by decide))).peek (by rfl) T.n_abs (by decide +kernel)) (ex_op ov_sub (ex_var (pv 1) (by decide)) ex_int) (nomark _))))).peek (by rfl) T.n_any (by decide +kernel))).peek) (ss_cons (sx_ret ex_non) ss_nil) ss_nil) (ss_cons (sx_ret (ex_tup (ax_cons (ex_slice sv_seq (ex_var (pv 0) (by decide)) px_none (px_some (ex_un uv_neg ex_int))) (ax_cons (ex_op ov_sub (ex_var (pv 1) (by decide)) ex_int) ax_nil)))) ss_nil))) ss_nil) (ss_cons (sx_set (i := 5) nd rfl (by first | exact .inl rfl | exact .inr rfl) (by decide) (ex_callC c_moved (hr.mono (by decide)) (by rfl) (ax_cons (ex_var (pv 0) (by decide)) (ax_cons (ex_var (pv 1) (by decide)) (ax_cons (ex_var (pv 2) (by decide)) ax_nil))) (len_cons (len_cons (len_cons len_nil))))) (ss_cons (sx_ret (ex_ifExp (tx_cmp ov_isN (ex_var (pv 5) (by decide)) ex_non (nomark _)) ex_non (ex_tup (ax_cons (ex_var (pv 5) (by decide)) (ax_cons (ex_var (pv 1) (by decide)) ax_nil))))) ss_nil)))))))
abbrev s_possible_moves : Stmt := top 17
abbrev N_possible_moves : List Str := ["word", "many", "found", "k", "kind", "move"]
theorem sc_possible_moves : FnScope N_possible_moves ["word", "many"] (defScope s_possible_moves) := ⟨rfl, rfl, rfl, by decide +kernel, rfl, by decide +kernel, by decide +kernel⟩
theorem ok_possible_moves {f : Addr} {fd : FuncData} (Fn : Fun K "possible_moves" "possible_moves" s_possible_moves f fd) (T : Txt K mg) (c_markov_moved : CallOk P w K mg base 4 "markov_moved" 3 F_markov_moved) : FnOk P w K mg base CX0 5 f fd ["word", "many"] (spF K 2 F_possible_moves) := by
  refine ok_pure (own' := []) (k := 4) (body := b_possible_moves) Fn sc_possible_moves (fun args v e => e) (fun cdv A outer s H E hr => ?_)
  have hu64 := hr.units
  have hu65 := units65 hr
  have hu1 := hu_of hr
  have nd := sc_possible_moves.nd
  exact (ss_cons (sx_setN (own' := [2]) (i := 2) nd rfl (by first | exact .inl rfl | exact .inr rfl) (by decide) (ownIns (by decide)) (en_lst ax_nil)) (ss_cons (sx_for PassesOwn.never rfl (ix_rng1 (by rfl) T.n_range (ex_op ov_sub (ex_b1 cv_lenAll ((ex_var (pv 0) (by decide))).peek (by rfl) T.n_len (by decide +kernel)) ex_int)) (gx_name (i := 3) nd rfl (by first | exact .inl rfl | exact .inr rfl) (by decide)) (ss_cons (sx_for PassesOwn.never rfl (ix_seq' (ex_tup (ax_cons ex_str (ax_cons ex_str (ax_cons ex_str ax_nil))))) (gx_name (i := 4) nd rfl (by first | exact .inl rfl | exact .inr rfl) (by decide)) (ss_cons (sx_if (tx_cmp ov_notN (ex_callC c_markov_moved (hr.mono (by decide)) (by rfl) (ax_cons (ex_var (pv 0) (by decide)) (ax_cons (ex_var (pv 1) (by decide)) (ax_cons (ex_tup (ax_cons (ex_var (pv 4) (by decide)) (ax_cons (ex_var (pv 3) (by decide)) ax_nil))) ax_nil))) (len_cons (len_cons (len_cons len_nil)))) ex_non (nomark _)) (ss_cons (sx_expr (ex_mt PySem.F.plainAttrs_list PySem.F.slot_list_append PySem.F.type_list_append mi_append ty_lst (pv 2) (by decide) (ax_cons (ex_tup (ax_cons (ex_var (pv 4) (by decide)) (ax_cons (ex_var (pv 3) (by decide)) ax_nil))) ax_nil))) ss_nil) ss_nil) ss_nil)) ss_nil)) (ss_cons (sx_for PassesOwn.never rfl (ix_seq' (ex_tup (ax_cons (ex_tup (ax_cons ex_str ax_nil)) (ax_cons (ex_tup (ax_cons ex_str ax_nil)) (ax_cons (ex_tup (ax_cons ex_str ax_nil)) ax_nil))))) (gx_name (i := 5) nd rfl (by first | exact .inl rfl | exact .inr rfl) (by decide)) (ss_cons (sx_if (tx_cmp ov_notN (ex_callC c_markov_moved (hr.mono (by decide)) (by rfl) (ax_cons (ex_var (pv 0) (by decide)) (ax_cons (ex_var (pv 1) (by decide)) (ax_cons (ex_var (pv 5) (by decide)) ax_nil))) (len_cons (len_cons (len_cons len_nil)))) ex_non (nomark _)) (ss_cons (sx_expr (ex_mt PySem.F.plainAttrs_list PySem.F.slot_list_append PySem.F.type_list_append mi_append ty_lst (pv 2) (by decide) (ax_cons (ex_var (pv 5) (by decide)) ax_nil))) ss_nil) ss_nil) ss_nil)) (ss_fz (own2 := []) 2 (by decide) (ownIns (by decide)) (by decide) (ss_cons (sx_ret (ex_var (pv 2) (by decide))) ss_nil)))))
abbrev s_lessened_way : Stmt := top 18
abbrev N_lessened_way : List Str := ["word", "many", "most", "waiting", "met", "best", "now", "strings", "way", "move", "other"]
theorem sc_lessened_way : FnScope N_lessened_way ["word", "many", "most"] (defScope s_lessened_way) := ⟨rfl, rfl, rfl, by decide +kernel, rfl, by decide +kernel, by decide +kernel⟩
theorem ok_lessened_way {f : Addr} {fd : FuncData} (Fn : Fun K "lessened_way" "lessened_way" s_lessened_way f fd) (T : Txt K mg) (c_possible_moves : CallOk P w K mg base 5 "possible_moves" 2 F_possible_moves) (c_markov_moved : CallOk P w K mg base 4 "markov_moved" 3 F_markov_moved) : FnOk P w K mg base CX0 6 f fd ["word", "many", "most"] (spF K 3 F_lessened_way) := by
  refine ok_pure (own' := [3, 4]) (k := 5) (body := b_lessened_way) Fn sc_lessened_way (fun args v e => e) (fun cdv A outer s H E hr => ?_)
  have hu64 := hr.units
  have hu65 := units65 hr
  have hu1 := hu_of hr
  have nd := sc_lessened_way.nd
  exact (ss_cons (sx_setN (own' := [3]) (i := 3) nd rfl (by first | exact .inl rfl | exact .inr rfl) (by decide) (ownIns (by decide)) (en_lst (ax_cons (ex_tup (ax_cons (ex_tup (ax_cons (ex_var (pv 0) (by decide)) (ax_cons (ex_var (pv 1) (by decide)) ax_nil))) (ax_cons ((en_lst ax_nil)).ex ax_nil))) ax_nil))) (ss_cons (sx_setN (own' := [3, 4]) (i := 4) nd rfl (by first | exact .inl rfl | exact .inr rfl) (by decide) (ownIns (by decide)) (en_dispX hu65 (by decide) (by decide) (dp_cons (ex_tup (ax_cons (ex_var (pv 0) (by decide)) (ax_cons (ex_var (pv 1) (by decide)) ax_nil))) ex_bl dp_nil))) (ss_cons (sx_set (i := 5) nd rfl (by first | exact .inl rfl | exact .inr rfl) (by decide) (ex_tup (ax_cons (ex_tup (ax_cons (ex_var (pv 1) (by decide)) (ax_cons (ex_b1 cv_lenAll ((ex_var (pv 0) (by decide))).peek (by rfl) T.n_len (by decide +kernel)) ax_nil))) (ax_cons ((en_lst ax_nil)).ex (ax_cons (ex_tup (ax_cons (ex_var (pv 0) (by decide)) (ax_cons (ex_var (pv 1) (by decide)) ax_nil))) ax_nil))))) (ss_cons (sx_while 10000 PassesOwn.never (tx_cmpO (ov_neD hu64) (pv 3) (by decide) ((en_lst ax_nil)).ex (nomark _)) (ss_cons (sx_asg (ex_mt PySem.F.plainAttrs_list PySem.F.slot_list_pop PySem.F.type_list_pop mi_popAt ty_lst (pv 3) (by decide) (ax_cons ex_int ax_nil)) (gx_tup rfl (gs_cons (gx_tup rfl (gs_cons (gx_name (i := 6) nd rfl (by first | exact .inl rfl | exact .inr rfl) (by decide)) (gs_cons (gx_name (i := 7) nd rfl (by first | exact .inl rfl | exact .inr rfl) (by decide)) gs_nil))) (gs_cons (gx_name (i := 8) nd rfl (by first | exact .inl rfl | exact .inr rfl) (by decide)) gs_nil)))) (ss_cons (sx_for PassesOwn.never rfl (ix_seq' (ex_callC c_possible_moves (hr.mono (by decide)) (by rfl) (ax_cons (ex_var (pv 6) (by decide)) (ax_cons (ex_var (pv 7) (by decide)) ax_nil)) (len_cons (len_cons len_nil)))) (gx_name (i := 9) nd rfl (by first | exact .inl rfl | exact .inr rfl) (by decide)) (ss_cons (sx_set (i := 10) nd rfl (by first | exact .inl rfl | exact .inr rfl) (by decide) (ex_callC c_markov_moved (hr.mono (by decide)) (by rfl) (ax_cons (ex_var (pv 6) (by decide)) (ax_cons (ex_var (pv 7) (by decide)) (ax_cons (ex_var (pv 9) (by decide)) ax_nil))) (len_cons (len_cons (len_cons len_nil))))) (ss_cons (sx_if (tx_cmpP (ov_notInX hu65) (ex_var (pv 10) (by decide)) (ep_own (pv 4) (by decide)) rfl) (ss_cons (sx_if (tx_cmp (ov_eqD hu64) (ex_b1 cv_lenX (ep_own (pv 4) (by decide)) (by rfl) T.n_len (by decide +kernel)) (ex_var (pv 2) (by decide)) (nomark _)) (ss_cons (sx_ret (ex_tup (ax_cons (ex_ix (iv_all hu1) (ex_var (pv 5) (by decide)) ex_int (fun _ _ => rfl)) (ax_cons (ex_ix (iv_all hu1) (ex_var (pv 5) (by decide)) ex_int (fun _ _ => rfl)) ax_nil)))) ss_nil) ss_nil) (ss_cons (sx_asg ex_bl (gx_sub (si_dit hu65) (pv 4) (by decide) (ex_var (pv 10) (by decide)))) (ss_cons (sx_expr (ex_mt PySem.F.plainAttrs_list PySem.F.slot_list_append PySem.F.type_list_append mi_append ty_lst (pv 3) (by decide) (ax_cons (ex_tup (ax_cons (ex_var (pv 10) (by decide)) (ax_cons (ex_op ov_addAll (ex_var (pv 8) (by decide)) ((en_lst (ax_cons (ex_var (pv 9) (by decide)) ax_nil))).ex) ax_nil))) ax_nil))) (ss_cons (sx_if (tx_cmp (ov_ltA hu1) (ex_tup (ax_cons (ex_ix (iv_all hu1) (ex_var (pv 10) (by decide)) ex_int (fun _ _ => rfl)) (ax_cons (ex_b1 cv_lenAll ((ex_ix (iv_all hu1) (ex_var (pv 10) (by decide)) ex_int (fun _ _ => rfl))).peek (by rfl) T.n_len (by decide +kernel)) ax_nil))) (ex_ix (iv_all hu1) (ex_var (pv 5) (by decide)) ex_int (fun _ _ => rfl)) (nomark _)) (ss_cons (sx_set (i := 5) nd rfl (by first | exact .inl rfl | exact .inr rfl) (by decide) (ex_tup (ax_cons (ex_tup (ax_cons (ex_ix (iv_all hu1) (ex_var (pv 10) (by decide)) ex_int (fun _ _ => rfl)) (ax_cons (ex_b1 cv_lenAll ((ex_ix (iv_all hu1) (ex_var (pv 10) (by decide)) ex_int (fun _ _ => rfl))).peek (by rfl) T.n_len (by decide +kernel)) ax_nil))) (ax_cons (ex_op ov_addAll (ex_var (pv 8) (by decide)) ((en_lst (ax_cons (ex_var (pv 9) (by decide)) ax_nil))).ex) (ax_cons (ex_var (pv 10) (by decide)) ax_nil))))) ss_nil) ss_nil) ss_nil)))) ss_nil) ss_nil))) ss_nil))) (ss_cons (sx_ret (ex_tup (ax_cons (ex_ix (iv_all hu1) (ex_var (pv 5) (by decide)) ex_int (fun _ _ => rfl)) (ax_cons (ex_ix (iv_all hu1) (ex_var (pv 5) (by decide)) ex_int (fun _ _ => rfl)) ax_nil)))) ss_nil)))))
abbrev s_back_move : Stmt := top 15
abbrev N_back_move : List Str := ["word", "many", "move", "kind"]
theorem sc_back_move : FnScope N_back_move ["word", "many", "move"] (defScope s_back_move) := ⟨rfl, rfl, rfl, by decide +kernel, rfl, by decide +kernel, by decide +kernel⟩
theorem ok_back_move {f : Addr} {fd : FuncData} (Fn : Fun K "back_move" "back_move" s_back_move f fd) (T : Txt K mg) : FnOk P w K mg base CX0 1 f fd ["word", "many", "move"] (spF K 3 F_back_move) := by
  refine ok_pure (own' := []) (k := 0) (body := b_back_move) Fn sc_back_move (fun args v e => e) (fun cdv A outer s H E hr => ?_)
  have hu64 := hr.units
  have hu65 := units65 hr
  have hu1 := hu_of hr
  have nd := sc_back_move.nd
  exact (ss_cons (sx_set (i := 3) nd rfl (by first | exact .inl rfl | exact .inr rfl) (by decide) (ex_ix (iv_all hu1) (ex_var (pv 2) (by decide)) ex_int (fun _ _ => rfl))) (ss_cons (sx_if (tx_cmp (ov_eqD hu64) (ex_var (pv 3) (by decide)) ex_str (nomark _)) (ss_cons (sx_ret ((en_lst (ax_cons (ex_tup (ax_cons ex_str ax_nil)) ax_nil))).ex) ss_nil) ss_nil) (ss_cons (sx_if (tx_cmp (ov_eqD hu64) (ex_var (pv 3) (by decide)) ex_str (nomark _)) (ss_cons (sx_ret ((en_lst (ax_cons (ex_tup (ax_cons ex_str ax_nil)) ax_nil))).ex) ss_nil) ss_nil) (ss_cons (sx_if (tx_cmp (ov_eqD hu64) (ex_var (pv 3) (by decide)) ex_str (nomark _)) (ss_cons (sx_ret ((en_lst (ax_cons (ex_tup (ax_cons ex_str ax_nil)) ax_nil))).ex) ss_nil) ss_nil) (ss_cons (sx_if (tx_cmp (ov_eqD hu64) (ex_var (pv 3) (by decide)) ex_str (nomark _)) (ss_cons (sx_ret ((en_lst (ax_cons (ex_tup (ax_cons ex_str (ax_cons (ex_ifExp (tx_cmp ov_gt (ex_ix (iv_all hu1) (ex_var (pv 0) (by decide)) (ex_un uv_neg ex_int) (fun _ _ => rfl)) ex_int (nomark _)) ex_int (ex_un uv_neg ex_int)) ax_nil))) ax_nil))).ex) ss_nil) ss_nil) (ss_cons (sx_if (tx_cmp (ov_eqD hu64) (ex_var (pv 3) (by decide)) ex_str (nomark _)) (ss_cons (sx_ret ((en_lst (ax_cons (ex_tup (ax_cons ex_str (ax_cons (ex_ix (iv_all hu1) (ex_var (pv 2) (by decide)) ex_int (fun _ _ => rfl)) (ax_cons (ex_ix (iv_all hu1) (ex_var (pv 0) (by decide)) (ex_ix (iv_all hu1) (ex_var (pv 2) (by decide)) ex_int (fun _ _ => rfl)) (fun _ _ => rfl)) ax_nil)))) ax_nil))).ex) ss_nil) ss_nil) (ss_cons (sx_if (tx_cmp (ov_eqD hu64) (ex_var (pv 3) (by decide)) ex_str (nomark _)) (ss_cons (sx_ret ((en_lst (ax_cons (ex_tup (ax_cons ex_str (ax_cons (ex_ix (iv_all hu1) (ex_var (pv 2) (by decide)) ex_int (fun _ _ => rfl)) ax_nil))) ax_nil))).ex) ss_nil) ss_nil) (ss_cons (sx_ret ((en_lst (ax_cons (ex_var (pv 2) (by decide)) ax_nil))).ex) ss_nil))))))))
abbrev s_back_way : Stmt := top 16
abbrev N_back_way : List Str := ["word", "many", "row", "found", "move"]
theorem sc_back_way : FnScope N_back_way ["word", "many", "row"] (defScope s_back_way) := ⟨rfl, rfl, rfl, by decide +kernel, rfl, by decide +kernel, by decide +kernel⟩
theorem ok_back_way {f : Addr} {fd : FuncData} (Fn : Fun K "back_way" "back_way" s_back_way f fd) (T : Txt K mg) (c_markov_moved : CallOk P w K mg base 4 "markov_moved" 3 F_markov_moved) (c_back_move : CallOk P w K mg base 1 "back_move" 3 F_back_move) : FnOk P w K mg base CX0 5 f fd ["word", "many", "row"] (spF K 3 F_back_way) := by
  refine ok_pure (own' := []) (k := 4) (body := b_back_way) Fn sc_back_way (fun args v e => e) (fun cdv A outer s H E hr => ?_)
  have hu64 := hr.units
  have hu65 := units65 hr
  have hu1 := hu_of hr
  have nd := sc_back_way.nd
  exact (ss_cons (sx_set (i := 3) nd rfl (by first | exact .inl rfl | exact .inr rfl) (by decide) ((en_lst ax_nil)).ex) (ss_cons (sx_for PassesOwn.never rfl (ix_seq' (ex_var (pv 2) (by decide))) (gx_name (i := 4) nd rfl (by first | exact .inl rfl | exact .inr rfl) (by decide)) (ss_cons (sx_set (i := 3) nd rfl (by first | exact .inl rfl | exact .inr rfl) (by decide) (ex_op ov_addAll (ex_callC c_back_move (hr.mono (by decide)) (by rfl) (ax_cons (ex_var (pv 0) (by decide)) (ax_cons (ex_var (pv 1) (by decide)) (ax_cons (ex_var (pv 4) (by decide)) ax_nil))) (len_cons (len_cons (len_cons len_nil)))) (ex_var (pv 3) (by decide)))) (ss_cons (sx_asg (ex_callC c_markov_moved (hr.mono (by decide)) (by rfl) (ax_cons (ex_var (pv 0) (by decide)) (ax_cons (ex_var (pv 1) (by decide)) (ax_cons (ex_var (pv 4) (by decide)) ax_nil))) (len_cons (len_cons (len_cons len_nil)))) (gx_tup rfl (gs_cons (gx_name (i := 0) nd rfl (by first | exact .inl rfl | exact .inr rfl) (by decide)) (gs_cons (gx_name (i := 1) nd rfl (by first | exact .inl rfl | exact .inr rfl) (by decide)) gs_nil)))) ss_nil))) (ss_cons (sx_ret (ex_var (pv 3) (by decide))) ss_nil)))
abbrev s_joining_way : Stmt := top 19
abbrev N_joining_way : List Str := ["first", "second", "most", "one", "low", "other", "least", "waiting", "met", "now", "way", "move", "behind"]
theorem sc_joining_way : FnScope N_joining_way ["first", "second", "most"] (defScope s_joining_way) := ⟨rfl, rfl, rfl, by decide +kernel, rfl, by decide +kernel, by decide +kernel⟩
theorem ok_joining_way {f : Addr} {fd : FuncData} (Fn : Fun K "joining_way" "joining_way" s_joining_way f fd) (T : Txt K mg) (c_lessened_way : CallOk P w K mg base 6 "lessened_way" 3 F_lessened_way) (c_possible_moves : CallOk P w K mg base 5 "possible_moves" 2 F_possible_moves) (c_back_way : CallOk P w K mg base 5 "back_way" 3 F_back_way) (c_markov_moved : CallOk P w K mg base 4 "markov_moved" 3 F_markov_moved) : FnOk P w K mg base CX0 7 f fd ["first", "second", "most"] (spF K 3 F_joining_way) := by
  refine ok_pure (own' := [7, 8]) (k := 6) (body := b_joining_way) Fn sc_joining_way (fun args v e => e) (fun cdv A outer s H E hr => ?_)
  have hu64 := hr.units
  have hu65 := units65 hr
  have hu1 := hu_of hr
  have nd := sc_joining_way.nd
  exact (ss_cons (sx_asg (ex_callC c_lessened_way (hr.mono (by decide)) (by rfl) (ax_cons (ex_ix (iv_all hu1) (ex_var (pv 0) (by decide)) ex_int (fun _ _ => rfl)) (ax_cons (ex_ix (iv_all hu1) (ex_var (pv 0) (by decide)) ex_int (fun _ _ => rfl)) (ax_cons (ex_var (pv 2) (by decide)) ax_nil))) (len_cons (len_cons (len_cons len_nil)))) (gx_tup rfl (gs_cons (gx_name (i := 3) nd rfl (by first | exact .inl rfl | exact .inr rfl) (by decide)) (gs_cons (gx_name (i := 4) nd rfl (by first | exact .inl rfl | exact .inr rfl) (by decide)) gs_nil)))) (ss_cons (sx_asg (ex_callC c_lessened_way (hr.mono (by decide)) (by rfl) (ax_cons (ex_ix (iv_all hu1) (ex_var (pv 1) (by decide)) ex_int (fun _ _ => rfl)) (ax_cons (ex_ix (iv_all hu1) (ex_var (pv 1) (by decide)) ex_int (fun _ _ => rfl)) (ax_cons (ex_var (pv 2) (by decide)) ax_nil))) (len_cons (len_cons (len_cons len_nil)))) (gx_tup rfl (gs_cons (gx_name (i := 5) nd rfl (by first | exact .inl rfl | exact .inr rfl) (by decide)) (gs_cons (gx_name (i := 6) nd rfl (by first | exact .inl rfl | exact .inr rfl) (by decide)) gs_nil)))) (ss_cons (sx_if (tx_cmp (ov_eqD hu64) (ex_var (pv 4) (by decide)) (ex_var (pv 6) (by decide)) (nomark _)) (ss_cons (sx_ret (ex_op ov_addAll (ex_var (pv 3) (by decide)) (ex_callC c_back_way (hr.mono (by decide)) (by rfl) (ax_cons (ex_ix (iv_all hu1) (ex_var (pv 1) (by decide)) ex_int (fun _ _ => rfl)) (ax_cons (ex_ix (iv_all hu1) (ex_var (pv 1) (by decide)) ex_int (fun _ _ => rfl)) (ax_cons (ex_var (pv 5) (by decide)) ax_nil))) (len_cons (len_cons (len_cons len_nil)))))) ss_nil) ss_nil) (ss_cons (sx_setN (own' := [7]) (i := 7) nd rfl (by first | exact .inl rfl | exact .inr rfl) (by decide) (ownIns (by decide)) (en_lst (ax_cons (ex_tup (ax_cons (ex_var (pv 4) (by decide)) (ax_cons ((en_lst ax_nil)).ex ax_nil))) ax_nil))) (ss_cons (sx_setN (own' := [7, 8]) (i := 8) nd rfl (by first | exact .inl rfl | exact .inr rfl) (by decide) (ownIns (by decide)) (en_dispX hu65 (by decide) (by decide) (dp_cons (ex_var (pv 4) (by decide)) ex_bl dp_nil))) (ss_cons (sx_while 10000 PassesOwn.never (tx_cmpO (ov_neD hu64) (pv 7) (by decide) ((en_lst ax_nil)).ex (nomark _)) (ss_cons (sx_asg (ex_mt PySem.F.plainAttrs_list PySem.F.slot_list_pop PySem.F.type_list_pop mi_popAt ty_lst (pv 7) (by decide) (ax_cons ex_int ax_nil)) (gx_tup rfl (gs_cons (gx_name (i := 9) nd rfl (by first | exact .inl rfl | exact .inr rfl) (by decide)) (gs_cons (gx_name (i := 10) nd rfl (by first | exact .inl rfl | exact .inr rfl) (by decide)) gs_nil)))) (ss_cons (sx_for PassesOwn.never rfl (ix_seq' (ex_callC c_possible_moves (hr.mono (by decide)) (by rfl) (ax_cons (ex_ix (iv_all hu1) (ex_var (pv 9) (by decide)) ex_int (fun _ _ => rfl)) (ax_cons (ex_ix (iv_all hu1) (ex_var (pv 9) (by decide)) ex_int (fun _ _ => rfl)) ax_nil)) (len_cons (len_cons len_nil)))) (gx_name (i := 11) nd rfl (by first | exact .inl rfl | exact .inr rfl) (by decide)) (ss_cons (sx_set (i := 12) nd rfl (by first | exact .inl rfl | exact .inr rfl) (by decide) (ex_callC c_markov_moved (hr.mono (by decide)) (by rfl) (ax_cons (ex_ix (iv_all hu1) (ex_var (pv 9) (by decide)) ex_int (fun _ _ => rfl)) (ax_cons (ex_ix (iv_all hu1) (ex_var (pv 9) (by decide)) ex_int (fun _ _ => rfl)) (ax_cons (ex_var (pv 11) (by decide)) ax_nil))) (len_cons (len_cons (len_cons len_nil))))) (ss_cons (sx_if (tx_cmp (ov_eqD hu64) (ex_var (pv 12) (by decide)) (ex_var (pv 6) (by decide)) (nomark _)) (ss_cons (sx_ret (ex_op ov_addAll (ex_op ov_addAll (ex_op ov_addAll (ex_var (pv 3) (by decide)) (ex_var (pv 10) (by decide))) ((en_lst (ax_cons (ex_var (pv 11) (by decide)) ax_nil))).ex) (ex_callC c_back_way (hr.mono (by decide)) (by rfl) (ax_cons (ex_ix (iv_all hu1) (ex_var (pv 1) (by decide)) ex_int (fun _ _ => rfl)) (ax_cons (ex_ix (iv_all hu1) (ex_var (pv 1) (by decide)) ex_int (fun _ _ => rfl)) (ax_cons (ex_var (pv 5) (by decide)) ax_nil))) (len_cons (len_cons (len_cons len_nil)))))) ss_nil) ss_nil) (ss_cons (sx_if ((wx_and (tx_cmpP (ov_notInX hu65) (ex_var (pv 12) (by decide)) (ep_own (pv 8) (by decide)) rfl) (wx_and1 (tx_cmp ov_lt (ex_b1 cv_lenX (ep_own (pv 8) (by decide)) (by rfl) T.n_len (by decide +kernel)) (ex_var (pv 2) (by decide)) (nomark _))))).t (ss_cons (sx_asg ex_bl (gx_sub (si_dit hu65) (pv 8) (by decide) (ex_var (pv 12) (by decide)))) (ss_cons (sx_expr (ex_mt PySem.F.plainAttrs_list PySem.F.slot_list_append PySem.F.type_list_append mi_append ty_lst (pv 7) (by decide) (ax_cons (ex_tup (ax_cons (ex_var (pv 12) (by decide)) (ax_cons (ex_op ov_addAll (ex_var (pv 10) (by decide)) ((en_lst (ax_cons (ex_var (pv 11) (by decide)) ax_nil))).ex) ax_nil))) ax_nil))) ss_nil)) ss_nil) ss_nil)))) ss_nil))) (ss_cons (sx_ret ex_non) ss_nil)))))))
abbrev s__law_same : Stmt := top 22
abbrev N__law_same : List Str := ["told", "due", "k"]
theorem sc__law_same : FnScope N__law_same ["told", "due"] (defScope s__law_same) := ⟨rfl, rfl, rfl, by decide +kernel, rfl, by decide +kernel, by decide +kernel⟩
theorem ok__law_same {f : Addr} {fd : FuncData} (Fn : Fun K "_law_same" "_law_same" s__law_same f fd) (T : Txt K mg) (hg : mg "_law_same" = some (.ref f)) (bi : Binds K fd ["told", "due"] []) : ∀ n, FnOk P w K mg base CX0 (1 + n) f fd ["told", "due"] (spF K 2 (F__law_same n))
  | 0 => ok_none (by rfl)
  | n + 1 => by
    have ih : CallOk P w K mg base (1 + n) "_law_same" 2 (F__law_same n) := ⟨f, fd, ["told", "due"], hg, ok__law_same Fn T hg bi  n, Fn.kp, bi, rfl⟩
    refine ok_pure (own' := []) (k := 1 + n) (body := b__law_same (F__law_same n)) Fn sc__law_same (fun args v e => e) (fun cdv A outer s H E hr => ?_)
    have hu64 := hr.units
    have hu65 := units65 hr
    have hu1 := hu_of hr
    have nd := sc__law_same.nd
    exact (ss_cons (sx_if (tx_cmp ov_isN (ex_var (pv 1) (by decide)) ex_non (nomark _)) (ss_cons (sx_ret (ex_cmp ov_isN (ex_var (pv 0) (by decide)) ex_non (nomark _))) ss_nil) ss_nil) (ss_cons (sx_if (tx_tru ((ex_isi .bool ((ex_var (pv 1) (by decide))).peek (pe_bltn (by rfl) T.n_bool (by decide +kernel) rfl) (by rfl) T.n_isinstance (by decide +kernel))).peek) (ss_cons (sx_ret (ex_and (ex_isi .bool ((ex_var (pv 0) (by decide))).peek (pe_bltn (by rfl) T.n_bool (by decide +kernel) rfl) (by rfl) T.n_isinstance (by decide +kernel)) (ex_one (ex_cmp (ov_eqD hu64) (ex_var (pv 0) (by decide)) (ex_var (pv 1) (by decide)) (nomark _))))) ss_nil) ss_nil) (ss_cons (sx_if (tx_tru ((ex_isi .int ((ex_var (pv 1) (by decide))).peek (pe_bltn (by rfl) T.n_int (by decide +kernel) rfl) (by rfl) T.n_isinstance (by decide +kernel))).peek) (ss_cons (sx_ret (ex_and (ex_isi .int ((ex_var (pv 0) (by decide))).peek (pe_bltn (by rfl) T.n_int (by decide +kernel) rfl) (by rfl) T.n_isinstance (by decide +kernel)) (ex_and (ex_not (ex_isi .bool ((ex_var (pv 0) (by decide))).peek (pe_bltn (by rfl) T.n_bool (by decide +kernel) rfl) (by rfl) T.n_isinstance (by decide +kernel))) (ex_one (ex_cmp (ov_eqD hu64) (ex_var (pv 0) (by decide)) (ex_var (pv 1) (by decide)) (nomark _)))))) ss_nil) ss_nil) (ss_cons (sx_if (tx_tru ((ex_isi .str ((ex_var (pv 1) (by decide))).peek (pe_bltn (by rfl) T.n_str (by decide +kernel) rfl) (by rfl) T.n_isinstance (by decide +kernel))).peek) (ss_cons (sx_ret (ex_and (ex_isi .str ((ex_var (pv 0) (by decide))).peek (pe_bltn (by rfl) T.n_str (by decide +kernel) rfl) (by rfl) T.n_isinstance (by decide +kernel)) (ex_one (ex_cmp (ov_eqD hu64) (ex_var (pv 0) (by decide)) (ex_var (pv 1) (by decide)) (nomark _))))) ss_nil) ss_nil) (ss_cons (sx_if ((wx_or ((wx_and (tx_tru ((ex_isi .list ((ex_var (pv 1) (by decide))).peek (pe_bltn (by rfl) T.n_list (by decide +kernel) rfl) (by rfl) T.n_isinstance (by decide +kernel))).peek) (wx_and1 (tx_not (tx_tru ((ex_isi .list ((ex_var (pv 0) (by decide))).peek (pe_bltn (by rfl) T.n_list (by decide +kernel) rfl) (by rfl) T.n_isinstance (by decide +kernel))).peek))))).t (wx_or1 ((wx_and (tx_tru ((ex_isi .tuple ((ex_var (pv 1) (by decide))).peek (pe_bltn (by rfl) T.n_tuple (by decide +kernel) rfl) (by rfl) T.n_isinstance (by decide +kernel))).peek) (wx_and1 (tx_not (tx_tru ((ex_isi .tuple ((ex_var (pv 0) (by decide))).peek (pe_bltn (by rfl) T.n_tuple (by decide +kernel) rfl) (by rfl) T.n_isinstance (by decide +kernel))).peek))))).t))).t (ss_cons (sx_ret ex_bl) ss_nil) ss_nil) (ss_cons (sx_ret (ex_and (ex_cmp (ov_eqD hu64) (ex_b1 cv_lenAll ((ex_var (pv 0) (by decide))).peek (by rfl) T.n_len (by decide +kernel)) (ex_b1 cv_lenAll ((ex_var (pv 1) (by decide))).peek (by rfl) T.n_len (by decide +kernel)) (nomark _)) (ex_one (ex_cmp (ov_eqD hu64) ((en_lc (nm := [("k", 2)]) (vs := [2]) rfl nd (ix_rng1 (by rfl) T.n_range (ex_b1 cv_lenAll ((ex_var (pv 1) (by decide))).peek (by rfl) T.n_len (by decide +kernel))) (blkOk_by (by rfl)) rfl (by decide) (fun _ _ _ _ _ => (gc_name (i := 2) nd rfl (by first | exact .inl rfl | exact .inr rfl) (by decide) (by decide))) (fun _ _ _ _ _ => (ts_one (tx_not (tx_tru ((ex_callC ih (hr.mono (by omega)) (by rfl) (ax_cons (ex_ix (iv_all hu1) (ex_var (pv 0) (by decide)) (ex_var (pv 2) (by decide)) (fun _ _ => rfl)) (ax_cons (ex_ix (iv_all hu1) (ex_var (pv 1) (by decide)) (ex_var (pv 2) (by decide)) (fun _ _ => rfl)) ax_nil)) (len_cons (len_cons len_nil)))).peek)))) (fun _ _ _ _ _ => ex_int))).ex ((en_lst ax_nil)).ex (nomark _))))) ss_nil))))))
abbrev s_is_move : Stmt := top 8
abbrev N_is_move : List Str := ["value", "one"]
theorem sc_is_move : FnScope N_is_move ["value"] (defScope s_is_move) := ⟨rfl, rfl, rfl, by decide +kernel, rfl, by decide +kernel, by decide +kernel⟩
theorem ok_is_move {f : Addr} {fd : FuncData} (Fn : Fun K "is_move" "is_move" s_is_move f fd) (T : Txt K mg) : FnOk P w K mg base CX0 1 f fd ["value"] (spF K 1 F_is_move) := by
  refine ok_pure (own' := []) (k := 0) (body := b_is_move) Fn sc_is_move (fun args v e => e) (fun cdv A outer s H E hr => ?_)
  have hu64 := hr.units
  have hu65 := units65 hr
  have hu1 := hu_of hr
  have nd := sc_is_move.nd
  exact (ss_cons (sx_if ((wx_or (tx_not (tx_tru ((ex_isi .tuple ((ex_var (pv 0) (by decide))).peek (pe_bltn (by rfl) T.n_tuple (by decide +kernel) rfl) (by rfl) T.n_isinstance (by decide +kernel))).peek)) (wx_or (tx_cmp ov_lt (ex_b1 cv_lenAll ((ex_var (pv 0) (by decide))).peek (by rfl) T.n_len (by decide +kernel)) ex_int (nomark _)) (wx_or1 (tx_cmp (ov_notInA hu65) (ex_ix (iv_all hu1) (ex_var (pv 0) (by decide)) ex_int (fun _ _ => rfl)) (ex_tup (ax_cons ex_str (ax_cons ex_str (ax_cons ex_str (ax_cons ex_str ax_nil))))) rfl))))).t (ss_cons (sx_ret ex_bl) ss_nil) ss_nil) (ss_cons (sx_if (tx_cmp (ov_neD hu64) (ex_b1 cv_lenAll ((ex_var (pv 0) (by decide))).peek (by rfl) T.n_len (by decide +kernel)) (ex_ifExp (tx_cmp (ov_eqD hu64) (ex_ix (iv_all hu1) (ex_var (pv 0) (by decide)) ex_int (fun _ _ => rfl)) ex_str (nomark _)) ex_int ex_int) (nomark _)) (ss_cons (sx_ret ex_bl) ss_nil) ss_nil) (ss_cons (sx_ret (ex_and (ex_b1 (cv_all rfl) ((en_lc (nm := [("one", 1)]) (vs := [1]) rfl nd (ix_seq' (ex_slice sv_seq (ex_var (pv 0) (by decide)) (px_some ex_int) px_none)) (blkOk_by (by rfl)) rfl (by decide) (fun _ _ _ _ _ => (gc_name (i := 1) nd rfl (by first | exact .inl rfl | exact .inr rfl) (by decide) (by decide))) (fun _ _ _ _ _ => ts_nil) (fun _ _ _ _ _ => (ex_and (ex_isi .int ((ex_var (pv 1) (by decide))).peek (pe_bltn (by rfl) T.n_int (by decide +kernel) rfl) (by rfl) T.n_isinstance (by decide +kernel)) (ex_one (ex_not (ex_isi .bool ((ex_var (pv 1) (by decide))).peek (pe_bltn (by rfl) T.n_bool (by decide +kernel) rfl) (by rfl) T.n_isinstance (by decide +kernel)))))))).peek (by rfl) T.n_all (by decide +kernel)) (ex_one (ex_cmp ov_ge (ex_ix (iv_all hu1) (ex_var (pv 0) (by decide)) ex_int (fun _ _ => rfl)) ex_int (nomark _))))) ss_nil)))
abbrev s_is_markov_move : Stmt := top 11
abbrev N_is_markov_move : List Str := ["value", "part"]
theorem sc_is_markov_move : FnScope N_is_markov_move ["value"] (defScope s_is_markov_move) := ⟨rfl, rfl, rfl, by decide +kernel, rfl, by decide +kernel, by decide +kernel⟩
theorem ok_is_markov_move {f : Addr} {fd : FuncData} (Fn : Fun K "is_markov_move" "is_markov_move" s_is_markov_move f fd) (T : Txt K mg) (c_is_move : CallOk P w K mg base 1 "is_move" 1 F_is_move) : FnOk P w K mg base CX0 2 f fd ["value"] (spF K 1 F_is_markov_move) := by
  refine ok_pure (own' := []) (k := 1) (body := b_is_markov_move) Fn sc_is_markov_move (fun args v e => e) (fun cdv A outer s H E hr => ?_)
  have hu64 := hr.units
  have hu65 := units65 hr
  have hu1 := hu_of hr
  have nd := sc_is_markov_move.nd
  exact (ss_cons (sx_if (tx_cmp (ov_inA hu65) (ex_var (pv 0) (by decide)) (ex_tup (ax_cons (ex_tup (ax_cons ex_str ax_nil)) (ax_cons (ex_tup (ax_cons ex_str ax_nil)) (ax_cons (ex_tup (ax_cons ex_str (ax_cons ex_int ax_nil))) (ax_cons (ex_tup (ax_cons ex_str (ax_cons (ex_un uv_neg ex_int) ax_nil))) (ax_cons (ex_tup (ax_cons ex_str ax_nil)) ax_nil)))))) rfl) (ss_cons (sx_ret (ex_b1 (cv_all rfl) ((en_lc (nm := [("part", 1)]) (vs := [1]) rfl nd (ix_seq' (ex_var (pv 0) (by decide))) (blkOk_by (by rfl)) rfl (by decide) (fun _ _ _ _ _ => (gc_name (i := 1) nd rfl (by first | exact .inl rfl | exact .inr rfl) (by decide) (by decide))) (fun _ _ _ _ _ => ts_nil) (fun _ _ _ _ _ => (ex_not (ex_isi .bool ((ex_var (pv 1) (by decide))).peek (pe_bltn (by rfl) T.n_bool (by decide +kernel) rfl) (by rfl) T.n_isinstance (by decide +kernel)))))).peek (by rfl) T.n_all (by decide +kernel))) ss_nil) ss_nil) (ss_cons (sx_ret (ex_callC c_is_move (hr.mono (by decide)) (by rfl) (ax_cons (ex_var (pv 0) (by decide)) ax_nil) (len_cons len_nil))) ss_nil))
abbrev s_markov_behind : Stmt := top 13
abbrev N_markov_behind : List Str := ["word", "many", "row", "k", "now"]
theorem sc_markov_behind : FnScope N_markov_behind ["word", "many", "row"] (defScope s_markov_behind) := ⟨rfl, rfl, rfl, by decide +kernel, rfl, by decide +kernel, by decide +kernel⟩
theorem ok_markov_behind {f : Addr} {fd : FuncData} (Fn : Fun K "markov_behind" "markov_behind" s_markov_behind f fd) (T : Txt K mg) (c_is_markov_move : CallOk P w K mg base 2 "is_markov_move" 1 F_is_markov_move) (c_markov_moved : CallOk P w K mg base 4 "markov_moved" 3 F_markov_moved) : FnOk P w K mg base CX0 5 f fd ["word", "many", "row"] (spF K 3 F_markov_behind) := by
  refine ok_pure (own' := []) (k := 4) (body := b_markov_behind) Fn sc_markov_behind (fun args v e => e) (fun cdv A outer s H E hr => ?_)
  have hu64 := hr.units
  have hu65 := units65 hr
  have hu1 := hu_of hr
  have nd := sc_markov_behind.nd
  exact (ss_cons (sx_for PassesOwn.never rfl (ix_rng1 (by rfl) T.n_range (ex_b1 cv_lenAll ((ex_var (pv 2) (by decide))).peek (by rfl) T.n_len (by decide +kernel))) (gx_name (i := 3) nd rfl (by first | exact .inl rfl | exact .inr rfl) (by decide)) (ss_cons (sx_set (i := 4) nd rfl (by first | exact .inl rfl | exact .inr rfl) (by decide) (ex_ifExp (tx_tru ((ex_callC c_is_markov_move (hr.mono (by decide)) (by rfl) (ax_cons (ex_ix (iv_all hu1) (ex_var (pv 2) (by decide)) (ex_var (pv 3) (by decide)) (fun _ _ => rfl)) ax_nil) (len_cons len_nil))).peek) (ex_callC c_markov_moved (hr.mono (by decide)) (by rfl) (ax_cons (ex_var (pv 0) (by decide)) (ax_cons (ex_var (pv 1) (by decide)) (ax_cons (ex_ix (iv_all hu1) (ex_var (pv 2) (by decide)) (ex_var (pv 3) (by decide)) (fun _ _ => rfl)) ax_nil))) (len_cons (len_cons (len_cons len_nil)))) ex_non)) (ss_cons (sx_if (tx_cmp ov_isN (ex_var (pv 4) (by decide)) ex_non (nomark _)) (ss_cons sx_never ss_nil) ss_nil) (ss_cons (sx_asg (ex_var (pv 4) (by decide)) (gx_tup rfl (gs_cons (gx_name (i := 0) nd rfl (by first | exact .inl rfl | exact .inr rfl) (by decide)) (gs_cons (gx_name (i := 1) nd rfl (by first | exact .inl rfl | exact .inr rfl) (by decide)) gs_nil)))) ss_nil)))) (ss_cons (sx_ret (ex_tup (ax_cons (ex_var (pv 0) (by decide)) (ax_cons (ex_var (pv 1) (by decide)) ax_nil)))) ss_nil))
abbrev s_is_markov_way : Stmt := top 14
abbrev N_is_markov_way : List Str := ["first", "second", "value"]
theorem sc_is_markov_way : FnScope N_is_markov_way ["first", "second", "value"] (defScope s_is_markov_way) := ⟨rfl, rfl, rfl, by decide +kernel, rfl, by decide +kernel, by decide +kernel⟩
theorem ok_is_markov_way {f : Addr} {fd : FuncData} (Fn : Fun K "is_markov_way" "is_markov_way" s_is_markov_way f fd) (T : Txt K mg) (c_markov_behind : CallOk P w K mg base 5 "markov_behind" 3 F_markov_behind) : FnOk P w K mg base CX0 6 f fd ["first", "second", "value"] (spF K 3 F_is_markov_way) := by
  refine ok_pure (own' := []) (k := 5) (body := b_is_markov_way) Fn sc_is_markov_way (fun args v e => e) (fun cdv A outer s H E hr => ?_)
  have hu64 := hr.units
  have hu65 := units65 hr
  have hu1 := hu_of hr
  have nd := sc_is_markov_way.nd
  exact (ss_cons (sx_if (tx_not (tx_tru ((ex_isi .list ((ex_var (pv 2) (by decide))).peek (pe_bltn (by rfl) T.n_list (by decide +kernel) rfl) (by rfl) T.n_isinstance (by decide +kernel))).peek)) (ss_cons (sx_ret ex_bl) ss_nil) ss_nil) (ss_cons (sx_try (ss_cons (sx_ret (ex_cmp (ov_eqD hu64) (ex_callC c_markov_behind (hr.mono (by decide)) (by rfl) (ax_cons (ex_ix (iv_all hu1) (ex_var (pv 0) (by decide)) ex_int (fun _ _ => rfl)) (ax_cons (ex_ix (iv_all hu1) (ex_var (pv 0) (by decide)) ex_int (fun _ _ => rfl)) (ax_cons (ex_var (pv 2) (by decide)) ax_nil))) (len_cons (len_cons (len_cons len_nil)))) (ex_var (pv 1) (by decide)) (nomark _))) ss_nil)) ss_nil))
abbrev s__law_best : Stmt := top 25
abbrev N__law_best : List Str := ["word", "strings", "most", "ways", "waiting", "best", "now", "move", "other"]
theorem sc__law_best : FnScope N__law_best ["word", "strings", "most"] (defScope s__law_best) := ⟨rfl, rfl, rfl, by decide +kernel, rfl, by decide +kernel, by decide +kernel⟩
theorem ok__law_best {f : Addr} {fd : FuncData} (Fn : Fun K "_law_best" "_law_best" s__law_best f fd) (T : Txt K mg) (c_possible_moves : CallOk P w K mg base 5 "possible_moves" 2 F_possible_moves) (c_markov_moved : CallOk P w K mg base 4 "markov_moved" 3 F_markov_moved) : FnOk P w K mg base CX0 6 f fd ["word", "strings", "most"] (spF K 3 F__law_best) := by
  refine ok_pure (own' := [3]) (k := 5) (body := b__law_best) Fn sc__law_best (fun args v e => e) (fun cdv A outer s H E hr => ?_)
  have hu64 := hr.units
  have hu65 := units65 hr
  have hu1 := hu_of hr
  have nd := sc__law_best.nd
  exact (ss_cons (sx_setN (own' := [3]) (i := 3) nd rfl (by first | exact .inl rfl | exact .inr rfl) (by decide) (ownIns (by decide)) (en_dispX hu65 (by decide) (by decide) (dp_cons (ex_tup (ax_cons (ex_var (pv 0) (by decide)) (ax_cons (ex_var (pv 1) (by decide)) ax_nil))) ((en_lst ax_nil)).ex dp_nil))) (ss_cons (sx_par (i := 4) (j := 5) rfl nd rfl rfl (by decide) rfl rfl ((en_lst (ax_cons (ex_tup (ax_cons (ex_var (pv 0) (by decide)) (ax_cons (ex_var (pv 1) (by decide)) ax_nil))) ax_nil))).ex (ex_tup (ax_cons (ex_var (pv 0) (by decide)) (ax_cons (ex_var (pv 1) (by decide)) ax_nil))) (by decide) (by decide)) (ss_cons (sx_while 10000 PassesOwn.never ((wx_and (tx_cmp (ov_neD hu64) (ex_var (pv 4) (by decide)) ((en_lst ax_nil)).ex (nomark _)) (wx_and1 (tx_cmp ov_le (ex_b1 cv_lenX (ep_own (pv 3) (by decide)) (by rfl) T.n_len (by decide +kernel)) (ex_var (pv 2) (by decide)) (nomark _))))).t (ss_cons (sx_parN (own' := [3, 4]) (i := 6) (j := 4) rfl nd rfl rfl (by decide) rfl rfl (ex_ix (iv_all hu1) (ex_var (pv 4) (by decide)) ex_int (fun _ _ => rfl)) (en_slice sf_lst (ex_var (pv 4) (by decide)) (px_some ex_int) px_none) (by decide) (by decide) (ownIns (by decide))) (ss_cons (sx_for PassesOwn.never rfl (ix_seq' (ex_callC c_possible_moves (hr.mono (by decide)) (by rfl) (ax_cons (ex_ix (iv_all hu1) (ex_var (pv 6) (by decide)) ex_int (fun _ _ => rfl)) (ax_cons (ex_ix (iv_all hu1) (ex_var (pv 6) (by decide)) ex_int (fun _ _ => rfl)) ax_nil)) (len_cons (len_cons len_nil)))) (gx_name (i := 7) nd rfl (by first | exact .inl rfl | exact .inr rfl) (by decide)) (ss_cons (sx_set (i := 8) nd rfl (by first | exact .inl rfl | exact .inr rfl) (by decide) (ex_callC c_markov_moved (hr.mono (by decide)) (by rfl) (ax_cons (ex_ix (iv_all hu1) (ex_var (pv 6) (by decide)) ex_int (fun _ _ => rfl)) (ax_cons (ex_ix (iv_all hu1) (ex_var (pv 6) (by decide)) ex_int (fun _ _ => rfl)) (ax_cons (ex_var (pv 7) (by decide)) ax_nil))) (len_cons (len_cons (len_cons len_nil))))) (ss_cons (sx_if (tx_cmpP (ov_notInX hu65) (ex_var (pv 8) (by decide)) (ep_own (pv 3) (by decide)) rfl) (ss_cons (sx_if (tx_cmp (ov_eqD hu64) (ex_b1 cv_lenX (ep_own (pv 3) (by decide)) (by rfl) T.n_len (by decide +kernel)) (ex_var (pv 2) (by decide)) (nomark _)) (ss_cons (sx_ret (ex_tup (ax_cons (ex_ixO (iv_dit hu65) (pv 3) (by decide) (ex_var (pv 5) (by decide)) (fun _ _ => rfl)) (ax_cons (ex_var (pv 5) (by decide)) ax_nil)))) ss_nil) ss_nil) (ss_cons (sx_asg (ex_op ov_addAll (ex_ixO (iv_dit hu65) (pv 3) (by decide) (ex_var (pv 6) (by decide)) (fun _ _ => rfl)) ((en_lst (ax_cons (ex_var (pv 7) (by decide)) ax_nil))).ex) (gx_sub (si_dit hu65) (pv 3) (by decide) (ex_var (pv 8) (by decide)))) (ss_cons (sx_expr (ex_mt PySem.F.plainAttrs_list PySem.F.slot_list_append PySem.F.type_list_append mi_append ty_lst (pv 4) (by decide) (ax_cons (ex_var (pv 8) (by decide)) ax_nil))) (ss_cons (sx_if (tx_cmp (ov_ltA hu1) (ex_tup (ax_cons (ex_ix (iv_all hu1) (ex_var (pv 8) (by decide)) ex_int (fun _ _ => rfl)) (ax_cons (ex_b1 cv_lenAll ((ex_ix (iv_all hu1) (ex_var (pv 8) (by decide)) ex_int (fun _ _ => rfl))).peek (by rfl) T.n_len (by decide +kernel)) ax_nil))) (ex_tup (ax_cons (ex_ix (iv_all hu1) (ex_var (pv 5) (by decide)) ex_int (fun _ _ => rfl)) (ax_cons (ex_b1 cv_lenAll ((ex_ix (iv_all hu1) (ex_var (pv 5) (by decide)) ex_int (fun _ _ => rfl))).peek (by rfl) T.n_len (by decide +kernel)) ax_nil))) (nomark _)) (ss_cons (sx_set (i := 5) nd rfl (by first | exact .inl rfl | exact .inr rfl) (by decide) (ex_var (pv 8) (by decide))) ss_nil) ss_nil) ss_nil)))) ss_nil) ss_nil))) (ss_fz (own2 := [3]) 4 (by decide) (ownIns (by decide)) (by decide) ss_nil)))) (ss_cons (sx_ret (ex_tup (ax_cons (ex_ixO (iv_dit hu65) (pv 3) (by decide) (ex_var (pv 5) (by decide)) (fun _ _ => rfl)) (ax_cons (ex_var (pv 5) (by decide)) ax_nil)))) ss_nil))))
abbrev s_law : Stmt := top 26
abbrev N_law : List Str := ["script", "tape", "strings", "word", "longer", "many", "turn", "kind", "at", "letter", "most", "way", "least", "joined", "same"]
theorem sc_law : FnScope N_law ["script"] (defScope s_law) := ⟨rfl, rfl, rfl, by decide +kernel, rfl, by decide +kernel, by decide +kernel⟩
theorem ok_law {f : Addr} {fd : FuncData} (Fn : Fun K "law" "law" s_law f fd) (T : Txt K mg) (c__law_word : CallIo P w K mg base 2 "_law_word" 3 0 F__law_word) (c_lessened_way : CallOk P w K mg base 6 "lessened_way" 3 F_lessened_way) (c_joining_way : CallOk P w K mg base 7 "joining_way" 3 F_joining_way) (c__law_next : CallIo P w K mg base 1 "_law_next" 2 0 F__law_next) (c__law_same : CallOk P w K mg base 31 "_law_same" 2 (F__law_same 30)) (c_is_markov_way : CallOk P w K mg base 6 "is_markov_way" 3 F_is_markov_way) (c_markov_behind : CallOk P w K mg base 5 "markov_behind" 3 F_markov_behind) (c__law_best : CallOk P w K mg base 6 "_law_best" 3 F__law_best) : FnOk P w K mg base CX0 32 f fd ["script"] (spF K 1 F_law) := by
  refine ok_pure (own' := [1]) (k := 31) (body := b_law) Fn sc_law (fun args v e => e) (fun cdv A outer s H E hr => ?_)
  have hu64 := hr.units
  have hu65 := units65 hr
  have hu1 := hu_of hr
  have nd := sc_law.nd
  exact (ss_cons (sx_setN (own' := [1]) (i := 1) nd rfl (by first | exact .inl rfl | exact .inr rfl) (by decide) (ownIns (by decide)) (en_lst (ax_cons ((en_t1 (cf_listAll rfl) ((ex_var (pv 0) (by decide))).peek (by rfl) T.n_list (by decide +kernel))).ex (ax_cons ex_int (ax_cons ex_int (ax_cons ex_int ax_nil)))))) (ss_cons (sx_set (i := 2) nd rfl (by first | exact .inl rfl | exact .inr rfl) (by decide) (ex_op ov_addAll ex_int (ex_callIC c__law_next (hr.mono (by decide)) (by rfl) (by decide) (ox_hole (pv 1) (by decide) (ox_cons ex_int ox_nil)) (hole_ok (oh_hole (oh_cons oh_nil)) (by decide))))) (ss_cons (sx_set (i := 3) nd rfl (by first | exact .inl rfl | exact .inr rfl) (by decide) (ex_callIC c__law_word (hr.mono (by decide)) (by rfl) (by decide) (ox_hole (pv 1) (by decide) (ox_cons (ex_var (pv 2) (by decide)) (ox_cons ex_int ox_nil))) (hole_ok (oh_hole (oh_cons (oh_cons oh_nil))) (by decide)))) (ss_cons (sx_par (i := 4) (j := 5) rfl nd rfl rfl (by decide) rfl rfl (ex_var (pv 3) (by decide)) (ex_var (pv 2) (by decide)) (by decide) (by decide)) (ss_cons (sx_for PassesOwn.never rfl (ix_rng1 (by rfl) T.n_range (ex_callIC c__law_next (hr.mono (by decide)) (by rfl) (by decide) (ox_hole (pv 1) (by decide) (ox_cons ex_int ox_nil)) (hole_ok (oh_hole (oh_cons oh_nil)) (by decide)))) (gx_name (i := 6) nd rfl (by first | exact .inl rfl | exact .inr rfl) (by decide)) (ss_cons (sx_par (i := 7) (j := 8) rfl nd rfl rfl (by decide) rfl rfl (ex_callIC c__law_next (hr.mono (by decide)) (by rfl) (by decide) (ox_hole (pv 1) (by decide) (ox_cons ex_int ox_nil)) (hole_ok (oh_hole (oh_cons oh_nil)) (by decide))) (ex_callIC c__law_next (hr.mono (by decide)) (by rfl) (by decide) (ox_hole (pv 1) (by decide) (ox_cons (ex_op ov_addAll (ex_b1 cv_lenAll ((ex_var (pv 4) (by decide))).peek (by rfl) T.n_len (by decide +kernel)) ex_int) ox_nil)) (hole_ok (oh_hole (oh_cons oh_nil)) (by decide))) (by decide) (by decide)) (ss_cons (sx_if ((wx_and (tx_cmp (ov_eqD hu64) (ex_var (pv 7) (by decide)) ex_int (nomark _)) (wx_and1 (tx_cmp ov_gt (ex_var (pv 5) (by decide)) ex_int (nomark _))))).t (ss_cons (sx_set (i := 9) nd rfl (by first | exact .inl rfl | exact .inr rfl) (by decide) (ex_op ov_mul (ex_op ov_addAll ex_int (ex_callIC c__law_next (hr.mono (by decide)) (by rfl) (by decide) (ox_hole (pv 1) (by decide) (ox_cons (ex_op ov_sub (ex_var (pv 5) (by decide)) ex_int) ox_nil)) (hole_ok (oh_hole (oh_cons oh_nil)) (by decide)))) (ex_ix (iv_all hu1) (ex_tup (ax_cons ex_int (ax_cons (ex_un uv_neg ex_int) ax_nil))) (ex_callIC c__law_next (hr.mono (by decide)) (by rfl) (by decide) (ox_hole (pv 1) (by decide) (ox_cons ex_int ox_nil)) (hole_ok (oh_hole (oh_cons oh_nil)) (by decide))) (fun _ _ => rfl)))) (ss_cons (sx_set (i := 4) nd rfl (by first | exact .inl rfl | exact .inr rfl) (by decide) (ex_op ov_addAll (ex_op ov_addAll (ex_slice sv_seq (ex_var (pv 4) (by decide)) px_none (px_some (ex_var (pv 8) (by decide)))) (ex_tup (ax_cons (ex_var (pv 9) (by decide)) (ax_cons (ex_op ov_sub ex_int (ex_var (pv 9) (by decide))) ax_nil)))) (ex_slice sv_seq (ex_var (pv 4) (by decide)) (px_some (ex_var (pv 8) (by decide))) px_none))) ss_nil)) (ss_cons (sx_if ((wx_and (tx_cmp (ov_eqD hu64) (ex_var (pv 7) (by decide)) ex_int (nomark _)) (wx_and1 (tx_cmp ov_lt (ex_var (pv 5) (by decide)) ex_int (nomark _))))).t (ss_cons (sx_par (i := 4) (j := 5) rfl nd rfl rfl (by decide) rfl rfl (ex_op ov_addAll (ex_var (pv 4) (by decide)) (ex_tup (ax_cons (ex_op ov_mul (ex_var (pv 5) (by decide)) (ex_ix (iv_all hu1) (ex_tup (ax_cons ex_int (ax_cons (ex_un uv_neg ex_int) ax_nil))) (ex_callIC c__law_next (hr.mono (by decide)) (by rfl) (by decide) (ox_hole (pv 1) (by decide) (ox_cons ex_int ox_nil)) (hole_ok (oh_hole (oh_cons oh_nil)) (by decide))) (fun _ _ => rfl))) ax_nil))) (ex_op ov_addAll (ex_var (pv 5) (by decide)) ex_int) (by decide) (by decide)) ss_nil) (ss_cons (sx_set (i := 4) nd rfl (by first | exact .inl rfl | exact .inr rfl) (by decide) (ex_op ov_addAll (ex_slice sv_seq (ex_var (pv 4) (by decide)) (px_some (ex_var (pv 8) (by decide))) px_none) (ex_slice sv_seq (ex_var (pv 4) (by decide)) px_none (px_some (ex_var (pv 8) (by decide)))))) ss_nil)) ss_nil)) ss_nil))) (ss_cons (sx_set (i := 10) nd rfl (by first | exact .inl rfl | exact .inr rfl) (by decide) (ex_ix (iv_all hu1) (ex_tup (ax_cons ex_int (ax_cons ex_int (ax_cons ex_int ax_nil)))) (ex_callIC c__law_next (hr.mono (by decide)) (by rfl) (by decide) (ox_hole (pv 1) (by decide) (ox_cons ex_int ox_nil)) (hole_ok (oh_hole (oh_cons oh_nil)) (by decide))) (fun _ _ => rfl))) (ss_cons (sx_asg (ex_callC c_lessened_way (hr.mono (by decide)) (by rfl) (ax_cons (ex_var (pv 4) (by decide)) (ax_cons (ex_var (pv 5) (by decide)) (ax_cons (ex_var (pv 10) (by decide)) ax_nil))) (len_cons (len_cons (len_cons len_nil)))) (gx_tup rfl (gs_cons (gx_name (i := 11) nd rfl (by first | exact .inl rfl | exact .inr rfl) (by decide)) (gs_cons (gx_name (i := 12) nd rfl (by first | exact .inl rfl | exact .inr rfl) (by decide)) gs_nil)))) (ss_cons (sx_if ((wx_or (tx_not (tx_tru ((ex_callC c__law_same (hr.mono (by decide)) (by rfl) (ax_cons (ex_tup (ax_cons (ex_var (pv 11) (by decide)) (ax_cons (ex_var (pv 12) (by decide)) ax_nil))) (ax_cons (ex_callC c__law_best (hr.mono (by decide)) (by rfl) (ax_cons (ex_var (pv 4) (by decide)) (ax_cons (ex_var (pv 5) (by decide)) (ax_cons (ex_var (pv 10) (by decide)) ax_nil))) (len_cons (len_cons (len_cons len_nil)))) ax_nil)) (len_cons (len_cons len_nil)))).peek)) (wx_or1 (tx_cmp ov_notB (ex_callC c_is_markov_way (hr.mono (by decide)) (by rfl) (ax_cons (ex_tup (ax_cons (ex_var (pv 4) (by decide)) (ax_cons (ex_var (pv 5) (by decide)) ax_nil))) (ax_cons (ex_var (pv 12) (by decide)) (ax_cons (ex_var (pv 11) (by decide)) ax_nil))) (len_cons (len_cons (len_cons len_nil)))) ex_bl (nomark _))))).t (ss_cons (sx_ret ex_bl) ss_nil) ss_nil) (ss_cons (sx_if ((wx_or (tx_cmp (ov_gtA hu1) (ex_tup (ax_cons (ex_ix (iv_all hu1) (ex_var (pv 12) (by decide)) ex_int (fun _ _ => rfl)) (ax_cons (ex_b1 cv_lenAll ((ex_ix (iv_all hu1) (ex_var (pv 12) (by decide)) ex_int (fun _ _ => rfl))).peek (by rfl) T.n_len (by decide +kernel)) ax_nil))) (ex_tup (ax_cons (ex_var (pv 5) (by decide)) (ax_cons (ex_b1 cv_lenAll ((ex_var (pv 4) (by decide))).peek (by rfl) T.n_len (by decide +kernel)) ax_nil))) (nomark _)) (wx_or1 (tx_cmp (ov_neD hu64) (ex_callC c_markov_behind (hr.mono (by decide)) (by rfl) (ax_cons (ex_var (pv 4) (by decide)) (ax_cons (ex_var (pv 5) (by decide)) (ax_cons (ex_var (pv 11) (by decide)) ax_nil))) (len_cons (len_cons (len_cons len_nil)))) (ex_var (pv 12) (by decide)) (nomark _))))).t (ss_cons (sx_ret ex_bl) ss_nil) ss_nil) (ss_cons (sx_set (i := 13) nd rfl (by first | exact .inl rfl | exact .inr rfl) (by decide) (ex_callC c_joining_way (hr.mono (by decide)) (by rfl) (ax_cons (ex_tup (ax_cons (ex_var (pv 3) (by decide)) (ax_cons (ex_var (pv 2) (by decide)) ax_nil))) (ax_cons (ex_tup (ax_cons (ex_var (pv 4) (by decide)) (ax_cons (ex_var (pv 5) (by decide)) ax_nil))) (ax_cons ex_int ax_nil))) (len_cons (len_cons (len_cons len_nil))))) (ss_cons (sx_if ((wx_and (tx_cmp ov_notN (ex_var (pv 13) (by decide)) ex_non (nomark _)) (wx_and1 (tx_cmp ov_notB (ex_callC c_is_markov_way (hr.mono (by decide)) (by rfl) (ax_cons (ex_tup (ax_cons (ex_var (pv 3) (by decide)) (ax_cons (ex_var (pv 2) (by decide)) ax_nil))) (ax_cons (ex_tup (ax_cons (ex_var (pv 4) (by decide)) (ax_cons (ex_var (pv 5) (by decide)) ax_nil))) (ax_cons (ex_var (pv 13) (by decide)) ax_nil))) (len_cons (len_cons (len_cons len_nil)))) ex_bl (nomark _))))).t (ss_cons (sx_ret ex_bl) ss_nil) ss_nil) (ss_cons (sx_set (i := 14) nd rfl (by first | exact .inl rfl | exact .inr rfl) (by decide) (ex_callC c_joining_way (hr.mono (by decide)) (by rfl) (ax_cons (ex_tup (ax_cons (ex_var (pv 4) (by decide)) (ax_cons (ex_var (pv 5) (by decide)) ax_nil))) (ax_cons (ex_tup (ax_cons (ex_var (pv 4) (by decide)) (ax_cons (ex_var (pv 5) (by decide)) ax_nil))) (ax_cons (ex_var (pv 10) (by decide)) ax_nil))) (len_cons (len_cons (len_cons len_nil))))) (ss_cons (sx_ret (ex_and (ex_cmp ov_notN (ex_var (pv 14) (by decide)) ex_non (nomark _)) (ex_one (ex_cmp ov_isB (ex_callC c_is_markov_way (hr.mono (by decide)) (by rfl) (ax_cons (ex_tup (ax_cons (ex_var (pv 4) (by decide)) (ax_cons (ex_var (pv 5) (by decide)) ax_nil))) (ax_cons (ex_tup (ax_cons (ex_var (pv 4) (by decide)) (ax_cons (ex_var (pv 5) (by decide)) ax_nil))) (ax_cons (ex_var (pv 14) (by decide)) ax_nil))) (len_cons (len_cons (len_cons len_nil)))) ex_bl (nomark _))))) ss_nil)))))))))))))
end
end PT.k83

set_option Elab.async false
set_option linter.all false
set_option autoImplicit false
set_option maxRecDepth 100000
set_option maxHeartbeats 4000000
/-! PM0: how the printed functions are evaluated: sequences, loops, lists of items. -/
namespace PT

/-! ### one step -/
theorem seq_nx {f g : SF} {ρ ρ' : Env} (h : f ρ = some (.nx, ρ')) : fSeq f g ρ = g ρ' := by unfold fSeq; rw [h]; rfl
theorem seq_rt {f g : SF} {ρ ρ' : Env} {v : PV} (h : f ρ = some (.rt v, ρ')) : fSeq f g ρ = some (.rt v, ρ') := by unfold fSeq; rw [h]; rfl
theorem run_rt {n : Nat} {b : SF} {args : List PV} {v : PV} {ρ' : Env} (h : b (startP n args) = some (.rt v, ρ')) : runB n b args = some v := by unfold runB; rw [h]; rfl
theorem run_nx {n : Nat} {b : SF} {args : List PV} {ρ' : Env} (h : b (startP n args) = some (.nx, ρ')) : runB n b args = some .non := by unfold runB; rw [h]; rfl
theorem if_tt {α : Type} {c : TF} {f g : Env → Option (α × Env)} {ρ ρ' : Env} (h : c ρ = some (true, ρ')) : fIf c f g ρ = f ρ' := by unfold fIf; rw [h]; rfl
theorem if_ff {α : Type} {c : TF} {f g : Env → Option (α × Env)} {ρ ρ' : Env} (h : c ρ = some (false, ρ')) : fIf c f g ρ = g ρ' := by unfold fIf; rw [h]; rfl


/-! ### the parts, at slots -/
section
variable {α : Type} {f g h : EF} {c d : TF} {a b : AF} {s t : SF} {ρ : Env} {i j n : Nat} {v p q : PV} {G : G2} {GL' : GL} {ps : List PV}
theorem ap_seq : fSeq s t ρ = (s ρ).bind fun r => match r.1 with | .nx => t r.2 | fl => some (fl, r.2) := rfl
theorem ap_nx : fNx ρ = some (.nx, ρ) := rfl
theorem ap_ret : fRet f ρ = (f ρ).bind fun r => some (.rt r.1, r.2) := rfl
theorem ap_drop : fDrop f ρ = (f ρ).bind fun r => some (.nx, r.2) := rfl
theorem ap_set : fSet i f ρ = (f ρ).bind fun r => some (.nx, r.2.set i (some r.1)) := rfl
theorem ap_list : fList GL' a ρ = (a ρ).bind fun r => (GL' r.1).map fun v => (v, r.2) := rfl
theorem ap_aNil : aNil ρ = some ([], ρ) := rfl
theorem ap_aCons : aCons f a ρ = (f ρ).bind fun r => (a r.2).bind fun s => some (r.1 :: s.1, s.2) := rfl
theorem ap_a1 : a1 f ρ = (f ρ).bind fun r => some ([r.1], r.2) := rfl
theorem ap_var : fVar i ρ = (look ρ i).map fun v => (v, ρ) := rfl
theorem ap_look : look ρ i = match ρ[i]? with | some (some v) => some v | _ => none := rfl
theorem ap_c : fC v ρ = some (v, ρ) := rfl
theorem ap_op : fOp G f g ρ = (f ρ).bind fun r => (g r.2).bind fun s => (G r.1 s.1).map fun v => (v, s.2) := rfl
theorem ap_opO : fOpO G i g ρ = (look ρ i).bind fun _ => (g ρ).bind fun s => (look s.2 i).bind fun p => (G p s.1).map fun v => (v, s.2) := rfl
theorem ap_un {U : PV → Option PV} : fUn U f ρ = (f ρ).bind fun r => (U r.1).map fun v => (v, r.2) := rfl
theorem ap_test : fTest f ρ = (f ρ).bind fun r => match r.1 with | .bl b => some (b, r.2) | _ => none := rfl
theorem ap_if {x y : Env → Option (α × Env)} : fIf c x y ρ = (c ρ).bind fun r => if r.1 = true then x r.2 else y r.2 := rfl
theorem ap_notT : fNotT c ρ = (c ρ).bind fun r => some (!r.1, r.2) := rfl
theorem ap_andT : fAndT c d ρ = (c ρ).bind fun r => if r.1 = true then d r.2 else some (false, r.2) := rfl
theorem ap_orT : fOrT c d ρ = (c ρ).bind fun r => if r.1 = true then some (true, r.2) else d r.2 := rfl
theorem ap_tru : fTru f ρ = (f ρ).bind fun r => (gTru r.1).map fun b => (b, r.2) := rfl
theorem ap_notV : fNotV f ρ = (f ρ).bind fun r => (match r.1 with | .bl b => some (.bl (!b)) | _ => none : Option PV).map fun v => (v, r.2) := rfl
theorem ap_andV : fAndV f g ρ = (f ρ).bind fun r => match r.1 with | .bl true => g r.2 | .bl false => some (.bl false, r.2) | _ => none := rfl
theorem ap_orV : fOrV f g ρ = (f ρ).bind fun r => match r.1 with | .bl false => g r.2 | .bl true => some (.bl true, r.2) | _ => none := rfl
theorem ap_for {T : PV → Env → Option Env} : fFor a T s ρ = (a ρ).bind fun r => loopF T s r.1 r.2 := rfl
theorem ap_iS : iS f ρ = (f ρ).bind fun r => (rowOf r.1).map fun xs => (xs, r.2) := rfl
theorem ap_iR1 : iR1 f ρ = (f ρ).bind fun r => match r.1 with | .int j => if i62 j = true then some (rngP 0 j.toNat, r.2) else none | _ => none := rfl
theorem ap_iR2 : iR2 f g ρ = (f ρ).bind fun r => (g r.2).bind fun s => match r.1, s.1 with
  | .int i, .int j => if (i62 i && i62 j) = true then some (rngP i (j - i).toNat, s.2) else none
  | _, _ => none := rfl
theorem ap_name : tName i p ρ = some (ρ.set i (some p)) := rfl
theorem ap_tup {u : List PV → Env → Option Env} : tTupG n u (.tup ps) ρ = if ps.length = n then u ps ρ else none := rfl
theorem ap_tsNil : tsNil [] ρ = some ρ := rfl
theorem ap_tsCons {T : PV → Env → Option Env} {u : List PV → Env → Option Env} : tsCons T u (p :: ps) ρ = (T p ρ).bind fun ρ1 => u ps ρ1 := rfl
theorem ap_asg {T : PV → Env → Option Env} : fAsg f T ρ = (f ρ).bind fun r => (T r.1 r.2).map fun ρ' => (.nx, ρ') := rfl
theorem ap_sub {S : GS} : tSub i f S p ρ = (look ρ i).bind fun _ => (f ρ).bind fun r => (look r.2 i).bind fun q => (S q r.1 p).map fun w => r.2.set i (some w) := rfl
theorem ap_par : fPar i j f g ρ = (f ρ).bind fun r => (g r.2).bind fun s => some (.nx, (s.2.set i (some r.1)).set j (some s.1)) := rfl
theorem ap_aug : fAug i G f ρ = (look ρ i).bind fun p => (f ρ).bind fun r => (G p r.1).map fun v => (.nx, r.2.set i (some v)) := rfl
theorem ap_get : fGet f g h ρ = (f ρ).bind fun r => if isDct r.1 = true then (g r.2).bind fun s => (h s.2).bind fun t => (gGet r.1 s.1 t.1).map fun v => (v, t.2) else none := rfl
theorem ap_getO : fGetO i g h ρ = (look ρ i).bind fun p0 => if isDct p0 = true then (g ρ).bind fun s => (h s.2).bind fun t => (look t.2 i).bind fun p => (gGet p s.1 t.1).map fun v => (v, t.2) else none := rfl
theorem ap_yes : fYes ρ = some (true, ρ) := rfl
theorem ap_lc {vs : List Nat} {T : PV → Env → Option Env} : fLC vs a T c f ρ = (a ρ).bind fun r => (lcLoop vs T c f r.1 r.2 []).bind fun s => some (.lst s.1, s.2) := rfl
theorem ap_mut {C : PV → Bool} {M : GM} : fMut C i M a ρ = (look ρ i).bind fun p0 => if C p0 = true then (a ρ).bind fun r => (look r.2 i).bind fun p => (M p r.1).bind fun q => some (q.1, r.2.set i (some q.2)) else none := rfl
theorem ap_run : runB n s ps = (s (startP n ps)).bind fun r => outF r.1 := rfl
end

theorem iR1_of {f : EF} {ρ ρ' : Env} {j : Int} (h : f ρ = some (.int j, ρ')) (h2 : i62 j = true) : iR1 f ρ = some (rngP 0 j.toNat, ρ') := by
  unfold iR1
  rw [h]
  simp only [Option.bind_some]
  rw [if_pos h2]
theorem iR2_of {f g : EF} {ρ ρ' ρ'' : Env} {i j : Int} (h : f ρ = some (.int i, ρ')) (hg : g ρ' = some (.int j, ρ'')) (h1 : i62 i = true) (h2 : i62 j = true) : iR2 f g ρ = some (rngP i (j - i).toNat, ρ'') := by
  unfold iR2
  rw [h]
  simp only [Option.bind_some]
  rw [hg]
  simp only [Option.bind_some]
  rw [if_pos (by rw [h1, h2]; rfl)]
theorem gTup0 : gTuple [] = some (.tup []) := rfl
theorem gTup1 (a : PV) : gTuple [a] = some (.tup [a]) := rfl
theorem gTup2 (a b : PV) : gTuple [a, b] = some (.tup [a, b]) := rfl
theorem gTup3 (a b c : PV) : gTuple [a, b, c] = some (.tup [a, b, c]) := rfl
theorem gLst0 : gListD [] = some (.lst []) := rfl
theorem gLst1 (a : PV) : gListD [a] = some (.lst [a]) := rfl
theorem gLst2 (a b : PV) : gListD [a, b] = some (.lst [a, b]) := rfl
theorem gLst3 (a b c : PV) : gListD [a, b, c] = some (.lst [a, b, c]) := rfl
theorem gLst4 (a b c d : PV) : gListD [a, b, c, d] = some (.lst [a, b, c, d]) := rfl
/-! ### for: a relation between the items met so far and the slots -/
theorem loop_inv {α σ : Type} (enc : α → PV) (I : σ → Env → Prop) (step : σ → α → σ) {t : PV → Env → Option Env} {body : SF}
    (h : ∀ s a ρ, I s ρ → ∃ ρ1 ρ', t (enc a) ρ = some ρ1 ∧ (body ρ1 = some (.nx, ρ') ∨ body ρ1 = some (.ct, ρ')) ∧ I (step s a) ρ') :
    ∀ (xs : List α) (s : σ) (ρ : Env), I s ρ → ∃ ρ', loopF t body (xs.map enc) ρ = some (.nx, ρ') ∧ I (xs.foldl step s) ρ'
  | [], s, ρ, i => ⟨ρ, rfl, i⟩
  | x :: xs, s, ρ, i => by
    obtain ⟨ρ1, ρ', h1, h2, h3⟩ := h s x ρ i
    obtain ⟨ρ'', e, j⟩ := loop_inv enc I step h xs _ _ h3
    refine ⟨ρ'', ?_, j⟩
    rw [List.map_cons]
    unfold loopF
    rw [h1]
    rcases h2 with h2 | h2 <;> (simp only [Option.bind_some, h2]; exact e)
/-- the same, the items known by membership -/
theorem loop_invM {α σ : Type} (enc : α → PV) (I : σ → Env → Prop) (step : σ → α → σ) {t : PV → Env → Option Env} {body : SF} :
    ∀ (xs : List α) (s : σ) (ρ : Env), (∀ s a ρ, a ∈ xs → I s ρ → ∃ ρ1 ρ', t (enc a) ρ = some ρ1 ∧ (body ρ1 = some (.nx, ρ') ∨ body ρ1 = some (.ct, ρ')) ∧ I (step s a) ρ') → I s ρ → ∃ ρ', loopF t body (xs.map enc) ρ = some (.nx, ρ') ∧ I (xs.foldl step s) ρ'
  | [], s, ρ, h, i => ⟨ρ, rfl, i⟩
  | x :: xs, s, ρ, h, i => by
    obtain ⟨ρ1, ρ', h1, h2, h3⟩ := h s x ρ (by simp) i
    obtain ⟨ρ'', e, j⟩ := loop_invM enc I step xs _ _ (fun s a ρ m => h s a ρ (List.mem_cons_of_mem _ m)) h3
    refine ⟨ρ'', ?_, j⟩
    rw [List.map_cons]
    unfold loopF
    rw [h1]
    rcases h2 with h2 | h2 <;> (simp only [Option.bind_some, h2]; exact e)
/-- the same, the turns counted -/
theorem loop_invN {α σ : Type} (enc : α → PV) (I : Nat → σ → Env → Prop) (step : σ → α → σ) (N : Nat) {t : PV → Env → Option Env} {body : SF} :
    ∀ (xs : List α) (k : Nat) (s : σ) (ρ : Env), k + xs.length ≤ N → (∀ k s a ρ, k < N → a ∈ xs → I k s ρ → ∃ ρ1 ρ', t (enc a) ρ = some ρ1 ∧ (body ρ1 = some (.nx, ρ') ∨ body ρ1 = some (.ct, ρ')) ∧ I (k + 1) (step s a) ρ') → I k s ρ → ∃ ρ', loopF t body (xs.map enc) ρ = some (.nx, ρ') ∧ I (k + xs.length) (xs.foldl step s) ρ'
  | [], k, s, ρ, _, h, i => ⟨ρ, rfl, i⟩
  | x :: xs, k, s, ρ, hk, h, i => by
    rw [List.length_cons] at hk
    obtain ⟨ρ1, ρ', h1, h2, h3⟩ := h k s x ρ (by omega) (by simp) i
    obtain ⟨ρ'', e, j⟩ := loop_invN enc I step N xs _ _ _ (by omega) (fun k s a ρ hk m => h k s a ρ hk (List.mem_cons_of_mem _ m)) h3
    refine ⟨ρ'', ?_, by rw [List.length_cons, show k + (xs.length + 1) = k + 1 + xs.length from by omega]; exact j⟩
    rw [List.map_cons]
    unfold loopF
    rw [h1]
    rcases h2 with h2 | h2 <;> (simp only [Option.bind_some, h2]; exact e)
/-- the loop over places: P i holds ahead of the i-th item -/
theorem loop_at {t : PV → Env → Option Env} {body : SF} (P : Nat → Env → Prop) :
    ∀ (its : List PV) (k : Nat) (ρ : Env), P k ρ → (∀ i p ρ, its[i]? = some p → P (k + i) ρ → ∃ ρ1 ρ', t p ρ = some ρ1 ∧ (body ρ1 = some (.nx, ρ') ∨ body ρ1 = some (.ct, ρ')) ∧ P (k + i + 1) ρ') → ∃ ρ', loopF t body its ρ = some (.nx, ρ') ∧ P (k + its.length) ρ'
  | [], k, ρ, i, _ => ⟨ρ, rfl, i⟩
  | x :: xs, k, ρ, i, h => by
    obtain ⟨ρ1, ρ', h1, h2, h3⟩ := h 0 x ρ rfl i
    obtain ⟨ρ'', e, j⟩ := loop_at P xs (k + 1) ρ' h3 (fun i p ρ hi hP => by
      have := h (i + 1) p ρ (by simpa using hi) (by rw [show k + (i + 1) = k + 1 + i from by omega]; exact hP)
      rw [show k + (i + 1) + 1 = k + 1 + i + 1 from by omega] at this
      exact this)
    refine ⟨ρ'', ?_, by rw [List.length_cons, show k + (xs.length + 1) = k + 1 + xs.length from by omega]; exact j⟩
    unfold loopF
    rw [h1]
    rcases h2 with h2 | h2 <;> (simp only [Option.bind_some, h2]; exact e)
theorem loop_cons {t : PV → Env → Option Env} {body : SF} {p : PV} {ps : List PV} {ρ ρ1 ρ' : Env} (h1 : t p ρ = some ρ1) (h2 : body ρ1 = some (.nx, ρ')) : loopF t body (p :: ps) ρ = loopF t body ps ρ' := by
  rw [loopF, h1]
  simp only [Option.bind_some, h2]
theorem rngP_succ (lo : Int) (n : Nat) : rngP lo (n + 1) = .int lo :: rngP (lo + 1) n := by
  unfold rngP
  rw [List.range_succ_eq_map, List.map_cons, List.map_map]
  have h1 : (PV.int (lo + ((0 : Nat) : Int))) = .int lo := by rw [show lo + ((0 : Nat) : Int) = lo from by omega]
  rw [h1]
  refine congrArg (fun l => PV.int lo :: l) (List.map_congr_left fun i _ => ?_)
  show PV.int (lo + ((i + 1 : Nat) : Int)) = PV.int (lo + 1 + (i : Int))
  rw [show lo + ((i + 1 : Nat) : Int) = lo + 1 + (i : Int) from by omega]
theorem for_of {its : AF} {t : PV → Env → Option Env} {body : SF} {ρ ρ0 : Env} {l : List PV} {r : Option (Fl × Env)} (h : its ρ = some (l, ρ0)) (h2 : loopF t body l ρ0 = r) : fFor its t body ρ = r := by unfold fFor; rw [h]; exact h2

/-! ### a comprehension whose parts leave the slots as they were -/
theorem lc_map {α : Type} (enc : α → PV) (keep : α → Bool) (val : α → PV) {vs : List Nat} {t : PV → Env → Option Env} {ft : TF} {fe : EF} {ρ : Env} :
    ∀ (xs : List α) (acc : List PV), (∀ a ∈ xs, ∃ ρ1, t (enc a) (wipeP ρ vs) = some ρ1 ∧ ft ρ1 = some (keep a, ρ1) ∧ (keep a = true → fe ρ1 = some (val a, ρ1)) ∧ backP ρ vs ρ1 = ρ) → acc.length + xs.length ≤ 1000000 →
    lcLoop vs t ft fe (xs.map enc) ρ acc = some (acc ++ (xs.filter keep).map val, ρ)
  | [], acc, h, _ => by simp [lcLoop]
  | x :: xs, acc, h, hl => by
    obtain ⟨ρ1, h1, h2, h3, h4⟩ := h x (by simp)
    have hl' : acc.length < 1000000 := by rw [List.length_cons] at hl; omega
    rw [List.map_cons]
    unfold lcLoop
    rw [h1]
    simp only [Option.bind_some, h2]
    cases hk : keep x with
    | true =>
      have h5 := h3 hk
      simp only [if_true]
      rw [h5]
      simp only [Option.bind_some, h4, if_pos hl']
      rw [lc_map enc keep val xs _ (fun a m => h a (List.mem_cons_of_mem _ m)) (by simp at hl ⊢; omega)]
      simp [hk]
    | false =>
      simp only [Bool.false_eq_true, if_false, h4]
      rw [lc_map enc keep val xs _ (fun a m => h a (List.mem_cons_of_mem _ m)) (by simp at hl ⊢; omega)]
      simp [hk]
theorem lc_of {vs : List Nat} {its : AF} {t : PV → Env → Option Env} {ft : TF} {fe : EF} {ρ : Env} {l : List PV} {r : List PV} (h : its ρ = some (l, ρ)) (h2 : lcLoop vs t ft fe l ρ [] = some (r, ρ)) : fLC vs its t ft fe ρ = some (.lst r, ρ) := by unfold fLC; rw [h]; simp only [Option.bind_some, h2]

/-! ### equality of plain trees, decided -/
mutual
def eqPV : PV → PV → Bool
  | .non, .non => true
  | .bl a, .bl b => a == b
  | .int a, .int b => a == b
  | .str a, .str b => decide (a = b)
  | .tup a, .tup b => eqPVs a b
  | .lst a, .lst b => eqPVs a b
  | .dct a, .dct b => eqPVk a b
  | .dit a, .dit b => eqPVk a b
  | .obj a x, .obj b y => a == b && eqPVs x y
  | _, _ => false
def eqPVs : List PV → List PV → Bool
  | [], [] => true
  | x :: xs, y :: ys => eqPV x y && eqPVs xs ys
  | _, _ => false
def eqPVk : List (PV × PV) → List (PV × PV) → Bool
  | [], [] => true
  | (a, b) :: xs, (c, d) :: ys => eqPV a c && (eqPV b d && eqPVk xs ys)
  | _, _ => false
end
mutual
theorem eqPV_eq : ∀ (a b : PV), eqPV a b = true → a = b
  | .non, b, h => by cases b <;> simp_all [eqPV]
  | .bl a, b, h => by cases b <;> simp_all [eqPV]
  | .int a, b, h => by cases b <;> simp_all [eqPV]
  | .str a, b, h => by cases b <;> simp_all [eqPV]
  | .tup a, b, h => by
    cases b <;> try simp [eqPV] at h
    rw [eqPVs_eq _ _ h]
  | .lst a, b, h => by
    cases b <;> try simp [eqPV] at h
    rw [eqPVs_eq _ _ h]
  | .dct a, b, h => by
    cases b <;> try simp [eqPV] at h
    rw [eqPVk_eq _ _ h]
  | .dit a, b, h => by
    cases b <;> try simp [eqPV] at h
    rw [eqPVk_eq _ _ h]
  | .obj a x, b, h => by
    cases b <;> try simp [eqPV] at h
    rw [eqPVs_eq _ _ h.2, h.1]
theorem eqPVs_eq : ∀ (a b : List PV), eqPVs a b = true → a = b
  | [], b, h => by cases b <;> simp_all [eqPVs]
  | x :: xs, b, h => by
    cases b with
    | nil => simp [eqPVs] at h
    | cons y ys =>
      simp only [eqPVs, Bool.and_eq_true] at h
      rw [eqPV_eq _ _ h.1, eqPVs_eq _ _ h.2]
theorem eqPVk_eq : ∀ (a b : List (PV × PV)), eqPVk a b = true → a = b
  | [], b, h => by cases b <;> simp_all [eqPVk]
  | (p, q) :: xs, b, h => by
    cases b with
    | nil => simp [eqPVk] at h
    | cons y ys =>
      obtain ⟨c, d⟩ := y
      simp only [eqPVk, Bool.and_eq_true] at h
      rw [eqPV_eq _ _ h.1, eqPV_eq _ _ h.2.1, eqPVk_eq _ _ h.2.2]
end
def isV (o : Option PV) (v : PV) : Bool := match o with
  | some u => eqPV u v
  | none => false
theorem isV_eq {o : Option PV} {v : PV} (h : isV o v = true) : o = some v := by
  cases o with
  | none => cases h
  | some u => exact congrArg some (eqPV_eq _ _ h)
end PT

set_option Elab.async false
set_option linter.all false
set_option autoImplicit false
set_option maxRecDepth 100000
set_option maxHeartbeats 4000000
/-! PM1: Laurent polynomials as lists of (exponent, number). -/
namespace PT
namespace Lau
abbrev Poly := List (Int × Int)
/-- the number at an exponent -/
def cf (p : Poly) (e : Int) : Int := match p with
  | [] => 0
  | t :: p => (if t.1 = e then t.2 else 0) + cf p e
/-- exponents rise, no number is 0 -/
def Canon (p : Poly) : Prop := p.Pairwise (fun a b => a.1 < b.1) ∧ ∀ t ∈ p, t.2 ≠ 0
@[simp] theorem cf_nil (e : Int) : cf [] e = 0 := rfl
@[simp] theorem cf_cons (t : Int × Int) (p : Poly) (e : Int) : cf (t :: p) e = (if t.1 = e then t.2 else 0) + cf p e := rfl
theorem cf_append (p q : Poly) (e : Int) : cf (p ++ q) e = cf p e + cf q e := by
  induction p with
  | nil => simp
  | cons t p ih => simp [ih]; omega
theorem cf_zero {p : Poly} {e : Int} (h : ∀ t ∈ p, t.1 ≠ e) : cf p e = 0 := by
  induction p with
  | nil => rfl
  | cons t p ih => rw [cf_cons, if_neg (h t (by simp)), ih fun u hu => h u (by simp [hu])]; rfl
theorem Canon.tail {t : Int × Int} {p : Poly} (h : Canon (t :: p)) : Canon p := ⟨(List.pairwise_cons.mp h.1).2, fun u hu => h.2 u (by simp [hu])⟩
theorem Canon.lt {t : Int × Int} {p : Poly} (h : Canon (t :: p)) : ∀ u ∈ p, t.1 < u.1 := (List.pairwise_cons.mp h.1).1
theorem Canon.nil : Canon [] := ⟨.nil, by simp⟩
theorem cf_low {t : Int × Int} {p : Poly} (h : Canon (t :: p)) {e : Int} (he : e < t.1) : cf (t :: p) e = 0 := cf_zero fun u hu => by
  rcases List.mem_cons.mp hu with rfl | hu
  · omega
  · have := h.lt u hu; omega
theorem cf_head {t : Int × Int} {p : Poly} (h : Canon (t :: p)) : cf (t :: p) t.1 = t.2 := by
  rw [cf_cons, if_pos rfl, cf_zero fun u hu => by have := h.lt u hu; omega]; omega
theorem canon_ext : ∀ {p q : Poly}, Canon p → Canon q → (∀ e, cf p e = cf q e) → p = q
  | [], [], _, _, _ => rfl
  | [], t :: q, _, hq, h => by
    have := h t.1
    rw [cf_head hq] at this
    exact absurd this.symm (hq.2 t (by simp))
  | t :: p, [], hp, _, h => by
    have := h t.1
    rw [cf_head hp] at this
    exact absurd this (hp.2 t (by simp))
  | t :: p, u :: q, hp, hq, h => by
    have e : t.1 = u.1 := by
      rcases Int.lt_trichotomy t.1 u.1 with hl | he | hg
      · have := h t.1
        rw [cf_head hp, cf_low hq hl] at this
        exact absurd this (hp.2 t (by simp))
      · exact he
      · have := h u.1
        rw [cf_head hq, cf_low hp hg] at this
        exact absurd this.symm (hq.2 u (by simp))
    have e2 : t.2 = u.2 := by
      have := h t.1
      rw [cf_head hp, e, cf_head hq] at this
      exact this
    have e3 : t = u := Prod.ext e e2
    subst e3
    rw [canon_ext hp.tail hq.tail fun e => by have := h e; rw [cf_cons, cf_cons] at this; omega]
/-- a term is put in -/
def insT (e c : Int) : Poly → Poly
  | [] => if c = 0 then [] else [(e, c)]
  | (f, d) :: q => if e < f then (if c = 0 then (f, d) :: q else (e, c) :: (f, d) :: q) else if e = f then (if c + d = 0 then q else (e, c + d) :: q) else (f, d) :: insT e c q
theorem cf_insT (e c : Int) (f : Int) : ∀ q : Poly, cf (insT e c q) f = (if e = f then c else 0) + cf q f
  | [] => by
    unfold insT
    by_cases h : c = 0
    · simp [h]
    · simp [h]
  | (g, d) :: q => by
    unfold insT
    by_cases h1 : e < g
    · rw [if_pos h1]
      by_cases h : c = 0
      · simp [h]
      · simp [h]
    · rw [if_neg h1]
      by_cases h2 : e = g
      · rw [if_pos h2]
        by_cases h3 : c + d = 0
        · rw [if_pos h3, cf_cons]
          subst h2
          dsimp only
          split <;> omega
        · rw [if_neg h3, cf_cons, cf_cons]
          subst h2
          dsimp only
          split <;> omega
      · rw [if_neg h2, cf_cons, cf_insT e c f q, cf_cons]; omega
theorem insT_mem {e c : Int} {u : Int × Int} : ∀ {q : Poly}, u ∈ insT e c q → u.1 = e ∨ u ∈ q
  | [], h => by
    unfold insT at h
    split at h
    · cases h
    · simp at h; exact .inl (by rw [h])
  | (g, d) :: q, h => by
    unfold insT at h
    split at h
    · split at h
      · exact .inr h
      · rcases List.mem_cons.mp h with rfl | h
        · exact .inl rfl
        · exact .inr h
    · split at h
      · split at h
        · exact .inr (by simp [h])
        · rcases List.mem_cons.mp h with rfl | h
          · exact .inl rfl
          · exact .inr (by simp [h])
      · rcases List.mem_cons.mp h with rfl | h
        · exact .inr (by simp)
        · rcases insT_mem h with h | h
          · exact .inl h
          · exact .inr (by simp [h])
theorem canon_cons {t : Int × Int} {p : Poly} (h0 : t.2 ≠ 0) (h1 : ∀ u ∈ p, t.1 < u.1) (h : Canon p) : Canon (t :: p) := ⟨List.pairwise_cons.mpr ⟨h1, h.1⟩, fun u hu => by
  rcases List.mem_cons.mp hu with rfl | hu
  · exact h0
  · exact h.2 u hu⟩
theorem Canon.insT {e c : Int} : ∀ {q : Poly}, Canon q → Canon (insT e c q)
  | [], h => by
    unfold Lau.insT
    split
    · exact .nil
    · rename_i h0
      exact canon_cons h0 (by simp) .nil
  | (g, d) :: q, h => by
    unfold Lau.insT
    have hd := h.2 (g, d) (by simp)
    split
    · rename_i h1
      split
      · exact h
      · rename_i h0
        refine canon_cons h0 (fun u hu => ?_) h
        rcases List.mem_cons.mp hu with rfl | hu
        · exact h1
        · have := h.lt u hu; dsimp only at *; omega
    · rename_i h1
      split
      · rename_i h2
        split
        · exact h.tail
        · rename_i h0
          exact canon_cons h0 (fun u hu => by have := h.lt u hu; dsimp only at *; omega) h.tail
      · rename_i h2
        refine canon_cons hd (fun u hu => ?_) h.tail.insT
        rcases insT_mem hu with hu | hu
        · dsimp only; omega
        · exact h.lt u hu
/-- the one form -/
def norm : Poly → Poly
  | [] => []
  | t :: p => insT t.1 t.2 (norm p)
theorem canon_norm : ∀ p : Poly, Canon (norm p)
  | [] => .nil
  | t :: p => (canon_norm p).insT
@[simp] theorem cf_norm (e : Int) : ∀ p : Poly, cf (norm p) e = cf p e
  | [] => rfl
  | t :: p => by rw [norm, cf_insT, cf_norm e p, cf_cons]
theorem norm_eq {p q : Poly} (h : ∀ e, cf p e = cf q e) : norm p = norm q := canon_ext (canon_norm p) (canon_norm q) fun e => by rw [cf_norm, cf_norm, h e]
theorem norm_of_canon {p : Poly} (h : Canon p) : norm p = p := canon_ext (canon_norm p) h fun e => cf_norm e p
theorem norm_norm (p : Poly) : norm (norm p) = norm p := norm_of_canon (canon_norm p)
theorem canon_norm_eq {p q : Poly} (hp : Canon p) (h : ∀ e, cf p e = cf q e) : p = norm q := canon_ext hp (canon_norm q) fun e => by rw [h e, cf_norm]

/-! ### the product, not yet in its one form -/
def mulT (p q : Poly) : Poly := p.flatMap fun t => q.map fun u => (t.1 + u.1, t.2 * u.2)
def sclT (n : Int) (p : Poly) : Poly := p.map fun t => (t.1, t.2 * n)
theorem cf_scl (n e : Int) (p : Poly) : cf (sclT n p) e = cf p e * n := by
  induction p with
  | nil => simp [sclT]
  | cons t p ih =>
    have : cf (sclT n (t :: p)) e = (if t.1 = e then t.2 * n else 0) + cf (sclT n p) e := rfl
    rw [this, ih, cf_cons, Int.add_mul]
    split <;> simp
/-- the sum of c * f (e - x) over the terms (x, c) -/
def sumT (p : Poly) (f : Int → Int) (e : Int) : Int := match p with
  | [] => 0
  | t :: p => t.2 * f (e - t.1) + sumT p f e
theorem sumT_congr {f g : Int → Int} (h : ∀ e, f e = g e) (p : Poly) (e : Int) : sumT p f e = sumT p g e := by
  induction p with
  | nil => rfl
  | cons t p ih => simp only [sumT, h, ih]
theorem cf_shift (t : Int × Int) (q : Poly) (e : Int) : cf (q.map fun u => (t.1 + u.1, t.2 * u.2)) e = t.2 * cf q (e - t.1) := by
  induction q with
  | nil => simp
  | cons u q ih =>
    rw [List.map_cons, cf_cons, ih, cf_cons, Int.mul_add]
    congr 1
    by_cases h : t.1 + u.1 = e
    · rw [if_pos h, if_pos (by omega)]
    · rw [if_neg h, if_neg (by omega)]; simp
/-- the product by the left's terms -/
theorem cf_mul (p q : Poly) (e : Int) : cf (mulT p q) e = sumT p (cf q) e := by
  induction p with
  | nil => rfl
  | cons t p ih =>
    have : mulT (t :: p) q = (q.map fun u => (t.1 + u.1, t.2 * u.2)) ++ mulT p q := rfl
    rw [this, cf_append, cf_shift, ih]; rfl
/-- .. by the right's terms -/
theorem cf_mul' (p q : Poly) (e : Int) : cf (mulT p q) e = sumT q (cf p) e := by
  rw [cf_mul]
  induction q generalizing e with
  | nil =>
    induction p with
    | nil => rfl
    | cons t p ih => simp only [sumT, cf_nil, ih]; simp [sumT]
  | cons u q ih =>
    have hq : sumT p (cf (u :: q)) e = u.2 * cf p (e - u.1) + sumT p (cf q) e := by
      clear ih
      induction p with
      | nil => simp [sumT]
      | cons t p ih =>
        simp only [sumT, cf_cons, ih]
        have h1 : t.2 * ((if u.1 = e - t.1 then u.2 else 0) + cf q (e - t.1)) = t.2 * (if u.1 = e - t.1 then u.2 else 0) + t.2 * cf q (e - t.1) := Int.mul_add _ _ _
        have h2 : u.2 * ((if t.1 = e - u.1 then t.2 else 0) + cf p (e - u.1)) = u.2 * (if t.1 = e - u.1 then t.2 else 0) + u.2 * cf p (e - u.1) := Int.mul_add _ _ _
        have h3 : t.2 * (if u.1 = e - t.1 then u.2 else 0) = u.2 * (if t.1 = e - u.1 then t.2 else 0) := by
          by_cases h : u.1 = e - t.1
          · rw [if_pos h, if_pos (by omega), Int.mul_comm]
          · rw [if_neg h, if_neg (by omega)]; simp
        rw [h1, h2, h3]; omega
    rw [hq, ih]; rfl
theorem mul_congr {p p' q q' : Poly} (hp : ∀ e, cf p e = cf p' e) (hq : ∀ e, cf q e = cf q' e) (e : Int) : cf (mulT p q) e = cf (mulT p' q') e := by
  rw [cf_mul, sumT_congr hq, ← cf_mul, cf_mul', sumT_congr hp, ← cf_mul']
theorem mul_comm (p q : Poly) (e : Int) : cf (mulT p q) e = cf (mulT q p) e := by rw [cf_mul, cf_mul']
theorem mul_add_r (p q r : Poly) (e : Int) : cf (mulT p (q ++ r)) e = cf (mulT p q) e + cf (mulT p r) e := by
  have happ : ∀ (q r : Poly) (f : Int → Int), sumT (q ++ r) f e = sumT q f e + sumT r f e := fun q r f => by
    induction q with
    | nil => simp [sumT]
    | cons t q ih => simp only [List.cons_append, sumT, ih]; omega
  rw [cf_mul', cf_mul', cf_mul', happ]
theorem mul_add_l (p q r : Poly) (e : Int) : cf (mulT (p ++ q) r) e = cf (mulT p r) e + cf (mulT q r) e := by
  rw [mul_comm, mul_add_r, mul_comm r p, mul_comm r q]
theorem sumT_shift (q : Poly) (f : Int → Int) (t : Int × Int) (e : Int) : sumT (q.map fun u => (t.1 + u.1, t.2 * u.2)) f e = t.2 * sumT q f (e - t.1) := by
  induction q with
  | nil => simp [sumT]
  | cons u q ih =>
    simp only [List.map_cons, sumT, ih, Int.mul_add]
    rw [show e - (t.1 + u.1) = e - t.1 - u.1 from by omega, Int.mul_assoc]
theorem mul_assoc (p q r : Poly) (e : Int) : cf (mulT (mulT p q) r) e = cf (mulT p (mulT q r)) e := by
  induction p generalizing e with
  | nil => rfl
  | cons t p ih =>
    have h1 : mulT (t :: p) q = (q.map fun u => (t.1 + u.1, t.2 * u.2)) ++ mulT p q := rfl
    rw [h1, mul_add_l, ih, cf_mul, cf_mul (t :: p) (mulT q r), sumT_shift, ← cf_mul]
    simp only [sumT]
    rw [← cf_mul]
theorem mul_one_r (p : Poly) (e : Int) : cf (mulT p [(0, 1)]) e = cf p e := by
  rw [cf_mul']; simp [sumT]
end Lau
end PT

set_option Elab.async false
set_option linter.all false
set_option autoImplicit false
set_option maxRecDepth 100000
set_option maxHeartbeats 4000000
/-! PM2: the printed functions that many laws share, and what they compute. -/
namespace PT
namespace Lau
/-! ### plain trees of polynomials -/
def encT (t : Int × Int) : PV := .tup [.int t.1, .int t.2]
def encP (p : Poly) : PV := .tup (p.map encT)
def encK (t : Int × Int) : PV × PV := (.int t.1, .int t.2)
def encD (d : Poly) : PV := .dct (d.map encK)
/-- d.get(k, 0) -/
def dget (d : Poly) (k : Int) : Int := match d with
  | [] => 0
  | t :: d => if t.1 = k then t.2 else dget d k
def dhas (d : Poly) (k : Int) : Bool := d.any fun t => t.1 == k
def putD (d : Poly) (k v : Int) : Poly := if dhas d k = true then d.map fun t => if t.1 = k then (t.1, v) else t else d ++ [(k, v)]
theorem beq_int (a b : Int) : (a == b) = decide (a = b) := by
  by_cases h : a = b <;> simp [h]
theorem any_encK (d : Poly) (k : Int) : ((d.map encK).any fun kv => keyEqb kv.1 (.int k)) = dhas d k := by
  unfold dhas
  rw [List.any_map]
  rfl
theorem findP_enc (d : Poly) (k : Int) : findP (d.map encK) (.int k) = if dhas d k = true then some (.int (dget d k)) else none := by
  induction d with
  | nil => rfl
  | cons t d ih =>
    unfold findP at ih ⊢
    rw [List.map_cons, List.find?_cons]
    have e : keyEqb (encK t).1 (.int k) = (t.1 == k) := rfl
    rw [e]
    by_cases h : t.1 = k
    · have : (t.1 == k) = true := by simp [h]
      rw [this]
      simp only [dhas, List.any_cons, this, Bool.true_or, if_true, dget, if_pos h]
      rfl
    · have h' : (t.1 == k) = false := by simp [h]
      rw [h']
      simp only [dhas, List.any_cons, h', Bool.false_or, dget, if_neg h]
      exact ih
theorem putP_enc (d : Poly) (k v : Int) : putP (d.map encK) (.int k) (.int v) = (putD d k v).map encK := by
  unfold putP putD
  rw [any_encK]
  split
  · rw [List.map_map, List.map_map]
    apply List.map_congr_left
    intro t _
    simp only [Function.comp]
    have e : keyEqb (encK t).1 (.int k) = (t.1 == k) := rfl
    rw [e]
    by_cases h : t.1 = k
    · simp [h, encK]
    · simp [h]
  · simp [encK]
theorem dget_none {d : Poly} {k : Int} (h : dhas d k = false) : dget d k = 0 := by
  induction d with
  | nil => rfl
  | cons t d ih =>
    simp only [dhas, List.any_cons, Bool.or_eq_false_iff] at h
    have : t.1 ≠ k := by simpa using h.1
    rw [dget, if_neg this, ih h.2]
theorem dhas_iff {d : Poly} {k : Int} : dhas d k = true ↔ k ∈ d.map (·.1) := by
  unfold dhas
  simp [List.any_eq_true]
theorem gGet_enc (d : Poly) (k : Int) : gGet (encD d) (.int k) (.int 0) = some (.int (dget d k)) := by
  unfold gGet encD
  dsimp only
  rw [if_pos (show isKey (.int k) = true from rfl), findP_enc]
  split
  · rfl
  · rename_i h
    rw [dget_none (by simpa using h)]
    rfl
theorem gIxAll_enc {d : Poly} {k : Int} (h : dhas d k = true) : gIxAll (encD d) (.int k) = some (.int (dget d k)) := by
  have : gIxAll (encD d) (.int k) = findP (d.map encK) (.int k) := by
    unfold gIxAll orG gIxT gIxL gIxS gIxD encD
    rfl
  rw [this, findP_enc, if_pos h]
theorem gSet_enc {d : Poly} {k v : Int} (h : d.length < 1000000) : gSet (encD d) (.int k) (.int v) = some (encD (putD d k v)) := by
  unfold gSet orS gSetL gSetD encD
  dsimp only
  have : (isKey (.int k) && decide ((d.map encK).length < 1000000)) = true := by simp [isKey, keyK, h]
  rw [if_pos this, putP_enc]
theorem putD_keys (d : Poly) (k v : Int) : (putD d k v).map (·.1) = if dhas d k = true then d.map (·.1) else d.map (·.1) ++ [k] := by
  unfold putD
  split
  · rw [List.map_map]
    apply List.map_congr_left
    intro t _
    simp only [Function.comp]
    split <;> rfl
  · simp
theorem putD_nodup {d : Poly} (k v : Int) (h : (d.map (·.1)).Nodup) : ((putD d k v).map (·.1)).Nodup := by
  rw [putD_keys]
  split
  · exact h
  · rename_i hn
    rw [List.nodup_append]
    refine ⟨h, by simp, fun a ha b hb => ?_⟩
    simp only [List.mem_singleton] at hb
    subst hb
    intro e
    subst e
    exact hn (dhas_iff.mpr ha)
theorem putD_len (d : Poly) (k v : Int) : (putD d k v).length ≤ d.length + 1 := by
  unfold putD
  split <;> simp
theorem dget_put (d : Poly) (k v j : Int) : dget (putD d k v) j = if j = k then v else dget d j := by
  unfold putD
  split
  · rename_i h
    induction d with
    | nil => simp [dhas] at h
    | cons t d ih =>
      simp only [dhas, List.any_cons, Bool.or_eq_true] at h
      by_cases e : t.1 = k
      · by_cases ej : j = k
        · simp [dget, e, ej]
        · rw [if_neg ej]
          simp only [List.map_cons, if_pos e, dget]
          rw [if_neg (by omega), if_neg (by omega)]
          clear ih h
          induction d with
          | nil => rfl
          | cons u d ih =>
            simp only [List.map_cons, dget]
            by_cases eu : u.1 = k
            · rw [if_pos eu, if_neg (by dsimp only; omega), if_neg (by omega), ih]
            · rw [if_neg eu, ih]
      · have h2 : dhas d k = true := by
          rcases h with h | h
          · exact absurd (by simpa using h) e
          · exact h
        simp only [List.map_cons, if_neg e, dget]
        rw [ih h2]
        by_cases ej : j = k
        · rw [if_pos ej, if_pos ej, if_neg (by omega)]
        · simp [ej]
  · rename_i h
    have h : dhas d k = false := by simpa using h
    induction d with
    | nil =>
      simp only [List.nil_append, dget]
      by_cases ej : j = k
      · simp [ej]
      · rw [if_neg (by omega), if_neg ej]
    | cons t d ih =>
      simp only [dhas, List.any_cons, Bool.or_eq_false_iff] at h
      have e : t.1 ≠ k := by simpa using h.1
      simp only [List.cons_append, dget]
      rw [ih (by unfold dhas; simp [h.2]) h.2]
      by_cases ej : j = k
      · rw [if_pos ej, if_neg (by omega), if_pos ej]
      · simp [ej]
/-- with keys once each, what is found is what is summed -/
theorem cf_dget {d : Poly} (h : (d.map (·.1)).Nodup) (e : Int) : cf d e = dget d e := by
  induction d with
  | nil => rfl
  | cons t d ih =>
    rw [List.map_cons, List.nodup_cons] at h
    rw [cf_cons, dget]
    by_cases he : t.1 = e
    · rw [if_pos he, if_pos he, cf_zero fun u hu hue => h.1 (by rw [he, ← hue]; exact List.mem_map_of_mem hu)]; omega
    · rw [if_neg he, if_neg he, ih h.2]; omega
def addD (d : Poly) (t : Int × Int) : Poly := putD d t.1 (dget d t.1 + t.2)
theorem addD_nodup {d : Poly} (t : Int × Int) (h : (d.map (·.1)).Nodup) : ((addD d t).map (·.1)).Nodup := putD_nodup _ _ h
theorem cf_addD {d : Poly} (t : Int × Int) (h : (d.map (·.1)).Nodup) (e : Int) : cf (addD d t) e = cf d e + (if t.1 = e then t.2 else 0) := by
  rw [cf_dget (addD_nodup t h), cf_dget h, addD, dget_put]
  by_cases he : e = t.1
  · rw [if_pos he, if_pos he.symm, he]
  · rw [if_neg he, if_neg (by omega)]; omega
theorem addD_len (d : Poly) (t : Int × Int) : (addD d t).length ≤ d.length + 1 := putD_len _ _ _
theorem addDs_nodup {p : Poly} : ∀ {d : Poly}, (d.map (·.1)).Nodup → ((p.foldl addD d).map (·.1)).Nodup := by
  induction p with
  | nil => exact fun h => h
  | cons t p ih => exact fun h => ih (addD_nodup t h)
theorem cf_addDs (e : Int) : ∀ {p d : Poly}, (d.map (·.1)).Nodup → cf (p.foldl addD d) e = cf d e + cf p e
  | [], d, h => by simp
  | t :: p, d, h => by rw [List.foldl_cons, cf_addDs e (addD_nodup t h), cf_addD t h, cf_cons]; omega
theorem addDs_len : ∀ (p d : Poly), (p.foldl addD d).length ≤ d.length + p.length
  | [], d => by simp
  | t :: p, d => by
    have h1 := addDs_len p (addD d t)
    have h2 := putD_len d t.1 (dget d t.1 + t.2)
    rw [List.foldl_cons, List.length_cons]
    unfold addD at h1 ⊢
    omega

/-! ### sorted, of numbers -/
theorem leP_int (a b : Int) : leP (.int a) (.int b) = decide (a ≤ b) := by
  unfold leP
  simp only [toD]
  rw [PySem.W.dataLt_int]
  by_cases h : b < a
  · simp [h]
  · simp [h]; omega
theorem isortP_int (is : List Int) : isortP leP (is.map PV.int) = (isortI is).map PV.int := by
  have ins : ∀ (x : Int) (l : List Int), insP leP (.int x) (l.map PV.int) = (insP (fun a b : Int => decide (a ≤ b)) x l).map PV.int := fun x l => by
    induction l with
    | nil => rfl
    | cons y ys ih =>
      simp only [List.map_cons, insP, leP_int]
      split
      · simp
      · rw [ih]; simp
  induction is with
  | nil => rfl
  | cons x xs ih => unfold isortI at ih ⊢; rw [List.map_cons, isortP, ih, ins]; rfl
theorem sortOk_int {is : List Int} (h : is.length ≤ 1000000) : sortOk (is.map PV.int) = true := by
  unfold sortOk
  have h1 : ∀ n : Nat, okDs n (is.map PV.int) = true := fun n => by
    induction is with
    | nil => rfl
    | cons x xs ih => simp only [List.map_cons, okDs, okD, Bool.true_and]; exact ih (by simp at h; omega)
  have h2 : (is.map PV.int).all isAtom = true := by simp [isAtom]
  have h3 : ((is.map PV.int).all fun x => (is.map PV.int).all fun y => PySem.W.alike (toD x) (toD y)) = true := by
    rw [List.all_eq_true]
    intro x hx
    rw [List.all_eq_true]
    intro y hy
    obtain ⟨i, _, rfl⟩ := List.mem_map.mp hx
    obtain ⟨j, _, rfl⟩ := List.mem_map.mp hy
    simp [toD, PySem.W.alike]
  rw [h1, h2, h3]
  simp [h]
theorem gSorted_int {is : List Int} (h : is.length ≤ 1000000) : gSorted [.lst (is.map PV.int)] = some (.lst ((isortI is).map PV.int)) := by
  unfold gSorted orL gSortL
  dsimp only
  rw [if_pos (sortOk_int h), isortP_int]

/-! ### gathered -/
def gath (d : Poly) : Poly := ((isortI (d.map (·.1))).filter fun k => decide (dget d k ≠ 0)).map fun k => (k, dget d k)
theorem gath_norm {d : Poly} (h : (d.map (·.1)).Nodup) : gath d = norm d := by
  have hs : (isortI (d.map (·.1))).Pairwise (· < ·) := by
    have h1 := sortI_pair (d.map (·.1))
    have h2 : (isortI (d.map (·.1))).Nodup := (sortI_perm _).nodup_iff.mpr h
    exact (h1.and h2).imp fun ⟨a, b⟩ => by omega
  have hc : Canon (gath d) := by
    refine ⟨?_, fun t ht => ?_⟩
    · unfold gath
      rw [List.pairwise_map]
      exact hs.filter _
    · obtain ⟨k, hk, rfl⟩ := List.mem_map.mp ht
      simpa using (List.mem_filter.mp hk).2
  refine canon_norm_eq hc fun e => ?_
  have hnd : ((gath d).map (·.1)).Nodup := by
    refine List.Pairwise.imp (R := fun a b : Int => a < b) (fun h => by omega) ?_
    rw [List.pairwise_map]
    exact hc.1
  rw [cf_dget hnd, cf_dget h]
  have key : ∀ l : List Int, dget ((l.filter fun k => decide (dget d k ≠ 0)).map fun k => (k, dget d k)) e = if e ∈ l then dget d e else 0 := fun l => by
    induction l with
    | nil => rfl
    | cons k l ih =>
      rw [List.filter_cons]
      by_cases hk : dget d k = 0
      · simp only [hk, ne_eq, not_true_eq_false, decide_false, Bool.false_eq_true, if_false]
        rw [ih]
        by_cases hke : e = k
        · subst hke; simp [hk]
        · simp [hke]
      · simp only [ne_eq, hk, not_false_eq_true, decide_true, if_true, List.map_cons, dget]
        rw [ih]
        by_cases hke : e = k
        · subst hke; simp
        · rw [if_neg (by omega)]; simp [hke]
  unfold gath
  rw [key]
  by_cases hm : e ∈ isortI (d.map (·.1))
  · rw [if_pos hm]
  · rw [if_neg hm, dget_none]
    have : e ∉ d.map (·.1) := fun z => hm ((sortI_perm _).mem_iff.mpr z)
    rw [← dhas_iff] at this
    simpa using this
section
@[local simp] def zsPM21_ap_seq := @ap_seq
@[local simp] def zsPM21_ap_nx := @ap_nx
@[local simp] def zsPM21_ap_ret := @ap_ret
@[local simp] def zsPM21_ap_drop := @ap_drop
@[local simp] def zsPM21_ap_set := @ap_set
@[local simp] def zsPM21_ap_list := @ap_list
@[local simp] def zsPM21_ap_aNil := @ap_aNil
@[local simp] def zsPM21_ap_aCons := @ap_aCons
@[local simp] def zsPM21_ap_a1 := @ap_a1
@[local simp] def zsPM21_ap_var := @ap_var
@[local simp] def zsPM21_ap_look := @ap_look
@[local simp] def zsPM21_ap_c := @ap_c
@[local simp] def zsPM21_ap_op := @ap_op
@[local simp] def zsPM21_ap_opO := @ap_opO
@[local simp] def zsPM21_ap_un := @ap_un
@[local simp] def zsPM21_ap_test := @ap_test
@[local simp] def zsPM21_ap_if := @ap_if
@[local simp] def zsPM21_ap_notT := @ap_notT
@[local simp] def zsPM21_ap_andT := @ap_andT
@[local simp] def zsPM21_ap_orT := @ap_orT
@[local simp] def zsPM21_ap_tru := @ap_tru
@[local simp] def zsPM21_ap_notV := @ap_notV
@[local simp] def zsPM21_ap_andV := @ap_andV
@[local simp] def zsPM21_ap_orV := @ap_orV
@[local simp] def zsPM21_ap_for := @ap_for
@[local simp] def zsPM21_ap_iS := @ap_iS
@[local simp] def zsPM21_ap_iR1 := @ap_iR1
@[local simp] def zsPM21_ap_iR2 := @ap_iR2
@[local simp] def zsPM21_ap_name := @ap_name
@[local simp] def zsPM21_ap_tup := @ap_tup
@[local simp] def zsPM21_ap_tsNil := @ap_tsNil
@[local simp] def zsPM21_ap_tsCons := @ap_tsCons
@[local simp] def zsPM21_ap_asg := @ap_asg
@[local simp] def zsPM21_ap_sub := @ap_sub
@[local simp] def zsPM21_ap_par := @ap_par
@[local simp] def zsPM21_ap_aug := @ap_aug
@[local simp] def zsPM21_ap_get := @ap_get
@[local simp] def zsPM21_ap_getO := @ap_getO
@[local simp] def zsPM21_ap_yes := @ap_yes
@[local simp] def zsPM21_ap_mut := @ap_mut
@[local simp] theorem zsPM21_startP (n : Nat) (args : List PV) : startP n args = args.map some ++ List.replicate (n - args.length) none := rfl
@[local simp] theorem zsPM21_rowOfa (xs : List PV) : rowOf (.lst xs) = some xs := rfl
@[local simp] theorem zsPM21_rowOfb (xs : List PV) : rowOf (.tup xs) = some xs := rfl
@[local simp] def zsPM21_gTup0 := @gTup0
@[local simp] def zsPM21_gTup1 := @gTup1
@[local simp] def zsPM21_gTup2 := @gTup2
@[local simp] def zsPM21_gLst0 := @gLst0
@[local simp] def zsPM21_gLst1 := @gLst1
@[local simp] def zsPM21_gLst2 := @gLst2
theorem gNeD_int (a b : Int) : gNeD (.int a) (.int b) = some (.bl (decide (a ≠ b))) := by
  unfold gNeD
  simp only [okD, Bool.and_self, if_true, toD, PySem.PyData.eqv, beq_int]
  by_cases h : a = b <;> simp [h]
theorem gEqD_int (a b : Int) : gEqD (.int a) (.int b) = some (.bl (decide (a = b))) := by
  unfold gEqD
  simp only [okD, Bool.and_self, if_true, toD, PySem.PyData.eqv, beq_int]
theorem F_gathered_gath {d : Poly} (hl : d.length ≤ 1000000) : F_gathered [encD d] = some (encP (gath d)) := by
  have hk : (d.map encK).map (·.1) = (d.map (·.1)).map PV.int := by simp [encK]
  have hs := gSorted_int (is := d.map (·.1)) (by simpa using hl)
  have hlen : (isortI (d.map (·.1))).length = d.length := by rw [(sortI_perm _).length_eq, List.length_map]
  have hl2 := lc_map (vs := [1]) (t := tName 1) (ft := fTest (fOp gNeD (fOp gIxAll (fVar 0) (fVar 1)) (fC (.int 0)))) (fe := fList gTuple (aCons (fVar 1) (aCons (fOp gIxAll (fVar 0) (fVar 1)) aNil))) (ρ := [some (encD d), none]) PV.int (fun k => decide (dget d k ≠ 0)) (fun k => encT (k, dget d k)) (isortI (d.map (·.1))) [] (fun k hk => by
    have hh : dhas d k = true := dhas_iff.mpr ((sortI_perm _).mem_iff.mp hk)
    refine ⟨[some (encD d), some (.int k)], rfl, ?_, fun _ => ?_, rfl⟩
    · simp [gIxAll_enc hh, gNeD_int]
    · simp [gIxAll_enc hh, encT]) (by simp [hlen, hl])
  have hit : (iS (fList gSorted (a1 (fList gListAll (a1 (fVar 0)))))) [some (encD d), none] = some ((isortI (d.map (·.1))).map PV.int, [some (encD d), none]) := by
    simp only [iS, fList, a1, fVar, look, List.getElem?_cons_zero, Option.map_some, Option.bind_some, gListAll, orL, gListOf, gListD', encD, hk, hs, rowOf]
  have e1 := lc_of (vs := [1]) hit hl2
  simp only [List.nil_append] at e1
  refine run_rt (ρ' := [some (encD d), none]) ?_
  show b_gathered [some (encD d), none] = _
  simp [b_gathered, e1, gTupOf, encP, gath, Function.comp_def]
theorem F_gathered_eq {d : Poly} (h : (d.map (·.1)).Nodup) (hl : d.length ≤ 1000000) : F_gathered [encD d] = some (encP (norm d)) := by rw [F_gathered_gath hl, gath_norm h]
end
end Lau
end PT

set_option Elab.async false
set_option linter.all false
set_option autoImplicit false
set_option maxRecDepth 100000
set_option maxHeartbeats 4000000
/-! PM3: plus, scaled, minus, times and the law's own. -/
namespace PT
namespace Lau
section
@[local simp] def zsPM31_ap_seq := @ap_seq
@[local simp] def zsPM31_ap_nx := @ap_nx
@[local simp] def zsPM31_ap_ret := @ap_ret
@[local simp] def zsPM31_ap_drop := @ap_drop
@[local simp] def zsPM31_ap_set := @ap_set
@[local simp] def zsPM31_ap_list := @ap_list
@[local simp] def zsPM31_ap_aNil := @ap_aNil
@[local simp] def zsPM31_ap_aCons := @ap_aCons
@[local simp] def zsPM31_ap_a1 := @ap_a1
@[local simp] def zsPM31_ap_var := @ap_var
@[local simp] def zsPM31_ap_look := @ap_look
@[local simp] def zsPM31_ap_c := @ap_c
@[local simp] def zsPM31_ap_op := @ap_op
@[local simp] def zsPM31_ap_opO := @ap_opO
@[local simp] def zsPM31_ap_un := @ap_un
@[local simp] def zsPM31_ap_test := @ap_test
@[local simp] def zsPM31_ap_if := @ap_if
@[local simp] def zsPM31_ap_notT := @ap_notT
@[local simp] def zsPM31_ap_andT := @ap_andT
@[local simp] def zsPM31_ap_orT := @ap_orT
@[local simp] def zsPM31_ap_tru := @ap_tru
@[local simp] def zsPM31_ap_notV := @ap_notV
@[local simp] def zsPM31_ap_andV := @ap_andV
@[local simp] def zsPM31_ap_orV := @ap_orV
@[local simp] def zsPM31_ap_for := @ap_for
@[local simp] def zsPM31_ap_iS := @ap_iS
@[local simp] def zsPM31_ap_iR1 := @ap_iR1
@[local simp] def zsPM31_ap_iR2 := @ap_iR2
@[local simp] def zsPM31_ap_name := @ap_name
@[local simp] def zsPM31_ap_tup := @ap_tup
@[local simp] def zsPM31_ap_tsNil := @ap_tsNil
@[local simp] def zsPM31_ap_tsCons := @ap_tsCons
@[local simp] def zsPM31_ap_asg := @ap_asg
@[local simp] def zsPM31_ap_sub := @ap_sub
@[local simp] def zsPM31_ap_par := @ap_par
@[local simp] def zsPM31_ap_aug := @ap_aug
@[local simp] def zsPM31_ap_get := @ap_get
@[local simp] def zsPM31_ap_getO := @ap_getO
@[local simp] def zsPM31_ap_yes := @ap_yes
@[local simp] def zsPM31_ap_mut := @ap_mut
@[local simp] theorem zsPM31_startP (n : Nat) (args : List PV) : startP n args = args.map some ++ List.replicate (n - args.length) none := rfl
@[local simp] theorem zsPM31_rowOfa (xs : List PV) : rowOf (.lst xs) = some xs := rfl
@[local simp] theorem zsPM31_rowOfb (xs : List PV) : rowOf (.tup xs) = some xs := rfl
@[local simp] def zsPM31_gTup0 := @gTup0
@[local simp] def zsPM31_gTup1 := @gTup1
@[local simp] def zsPM31_gTup2 := @gTup2
@[local simp] def zsPM31_gLst0 := @gLst0
@[local simp] def zsPM31_gLst1 := @gLst1
@[local simp] def zsPM31_gLst2 := @gLst2
theorem gAdd_int (a b : Int) : gAdd (.int a) (.int b) = some (.int (a + b)) := rfl
theorem gAdd_tup {a b : List PV} (h : a.length + b.length ≤ 1000000) : gAdd (.tup a) (.tup b) = some (.tup (a ++ b)) := by
  unfold gAdd orG gAddT
  simp [gI, h]
theorem gMul_wide {a b : Int} (ha : wideI a = true) (hb : wideI b = true) : gMulI (.int a) (.int b) = some (.int (a * b)) := by
  simp [gI, ha, hb]
def WideP (p : Poly) : Prop := ∀ t ∈ p, wideI t.2 = true
theorem F_plus_eq {p q : Poly} (hl : p.length + q.length ≤ 1000000) : F_plus [encP p, encP q] = some (encP (norm (p ++ q))) := by
  have hadd : gAdd (encP p) (encP q) = some (.tup ((p ++ q).map encT)) := by
    unfold encP
    rw [gAdd_tup (by simpa using hl), List.map_append]
  obtain ⟨ρ', e, hlen, hnd, x, y, rfl⟩ := loop_invN (t := tTupG 2 (tsCons (tName 3) (tsCons (tName 4) tsNil))) (body := fSeq (fAsg (fOp gAdd (fGetO 2 (fVar 3) (fC (.int 0))) (fVar 4)) (tSub 2 (fVar 3) gSet)) fNx) encT
    (fun k d ρ => d.length ≤ k ∧ (d.map (·.1)).Nodup ∧ ∃ x y, ρ = [some (encP p), some (encP q), some (encD d), x, y]) addD 1000000 (p ++ q) 0 [] [some (encP p), some (encP q), some (encD []), none, none] (by simpa using hl)
    (fun k d a ρ hk _ ⟨h1, h2, x, y, e⟩ => by
      subst e
      have hg := gSet_enc (d := d) (k := a.1) (v := dget d a.1 + a.2) (by omega)
      refine ⟨[some (encP p), some (encP q), some (encD d), some (.int a.1), some (.int a.2)], [some (encP p), some (encP q), some (encD (addD d a)), some (.int a.1), some (.int a.2)], rfl, .inl ?_, ?_, addD_nodup a h2, _, _, rfl⟩
      · simp [gGet_enc, gAdd_int, hg, show isDct (encD d) = true from rfl, addD]
      · have := addD_len d a
        omega) ⟨Nat.le_refl _, .nil, none, none, rfl⟩
  have hg := F_gathered_eq hnd (by rw [Nat.zero_add, List.length_append] at hlen; omega)
  refine run_rt (ρ' := [some (encP p), some (encP q), some (encD ((p ++ q).foldl addD [])), x, y]) ?_
  show b_plus [some (encP p), some (encP q), none, none, none] = _
  have e' : loopF (tTupG 2 (tsCons (tName 3) (tsCons (tName 4) tsNil))) (fSeq (fAsg (fOp gAdd (fGetO 2 (fVar 3) (fC (.int 0))) (fVar 4)) (tSub 2 (fVar 3) gSet)) fNx) ((p ++ q).map encT) [some (encP p), some (encP q), some (.dct []), none, none] = _ := e
  simp only [b_plus, ap_seq, ap_set, ap_c, ap_for, ap_iS, ap_op, ap_var, ap_look, Option.bind_some, Option.map_some, List.set_cons_succ, List.set_cons_zero, List.getElem?_cons_zero, List.getElem?_cons_succ, hadd, rowOf, e', ap_ret, ap_list, ap_aCons, ap_aNil, hg]
  rw [norm_eq (q := p ++ q) fun e => by rw [cf_addDs e (d := []) (by simp)]; simp]
theorem F_scaled_eq {p : Poly} {n : Int} (hl : p.length ≤ 1000000) (hw : n = 0 ∨ (WideP p ∧ wideI n = true)) : F_scaled [encP p, .int n] = some (encP (if n = 0 then [] else sclT n p)) := by
  have hlc := lc_map (vs := [2, 3]) (t := tTupG 2 (tsCons (tName 2) (tsCons (tName 3) tsNil))) (ft := fTest (fOp gNeD (fVar 1) (fC (.int 0)))) (fe := fList gTuple (aCons (fVar 2) (aCons (fOp gMulI (fVar 3) (fVar 1)) aNil))) (ρ := [some (encP p), some (.int n), none, none]) encT (fun _ => decide (n ≠ 0)) (fun t => encT (t.1, t.2 * n)) p [] (fun t ht => by
    refine ⟨[some (encP p), some (.int n), some (.int t.1), some (.int t.2)], rfl, ?_, fun hk => ?_, rfl⟩
    · simp [gNeD_int]
    · have hn : n ≠ 0 := by simpa using hk
      obtain ⟨h1, h2⟩ := hw.resolve_left hn
      simp [gMul_wide (h1 t ht) h2, encT]) (by simpa using hl)
  have e1 := lc_of (vs := [2, 3]) (its := iS (fVar 0)) (l := p.map encT) rfl hlc
  simp only [List.nil_append] at e1
  refine run_rt (ρ' := [some (encP p), some (.int n), none, none]) ?_
  show b_scaled [some (encP p), some (.int n), none, none] = _
  simp only [b_scaled, ap_seq, ap_ret, ap_list, ap_a1, e1, Option.bind_some, gTupOf, Option.map_some]
  by_cases h : n = 0
  · simp [h, encP]
  · have hf : (p.filter fun _ => decide (n ≠ 0)) = p := List.filter_eq_self.mpr (by simp [h])
    rw [hf, if_neg h]
    simp [encP, sclT, Function.comp_def]
theorem wideI_neg1 : wideI (-1) = true := by decide +kernel
theorem F_minus_eq {p q : Poly} (hl : p.length + q.length ≤ 1000000) (hw : WideP q) : F_minus [encP p, encP q] = some (encP (norm (p ++ sclT (-1) q))) := by
  have h1 := F_scaled_eq (p := q) (n := -1) (by omega) (.inr ⟨hw, wideI_neg1⟩)
  rw [if_neg (by decide)] at h1
  have h2 := F_plus_eq (p := p) (q := sclT (-1) q) (by simpa [sclT] using hl)
  refine run_rt (ρ' := [some (encP p), some (encP q)]) ?_
  show b_minus [some (encP p), some (encP q)] = _
  have hn : gNeg (.int 1) = some (.int (-1)) := rfl
  simp [b_minus, hn, h1, h2]
theorem mulT_fold (p q d : Poly) : (mulT p q).foldl addD d = p.foldl (fun d t => q.foldl (fun d u => addD d (t.1 + u.1, t.2 * u.2)) d) d := by
  induction p generalizing d with
  | nil => rfl
  | cons t p ih =>
    have h1 : mulT (t :: p) q = (q.map fun u => (t.1 + u.1, t.2 * u.2)) ++ mulT p q := rfl
    rw [h1, List.foldl_append, List.foldl_map, ih]; rfl
theorem F_times_eq {p q : Poly} (hl : p.length * q.length < 1000000) (hp : WideP p) (hq : WideP q) : F_times [encP p, encP q] = some (encP (norm (mulT p q))) := by
  let inner : SF := fSeq (fAsg (fOp gAdd (fGetO 2 (fOp gAdd (fVar 3) (fVar 5)) (fC (.int 0))) (fOp gMulI (fVar 4) (fVar 6))) (tSub 2 (fOp gAdd (fVar 3) (fVar 5)) gSet)) fNx
  let outer : SF := fSeq (fFor (iS (fVar 1)) (tTupG 2 (tsCons (tName 5) (tsCons (tName 6) tsNil))) inner) fNx
  obtain ⟨ρ', e, hlen, hnd, x, y, x', y', rfl⟩ := loop_invN (t := tTupG 2 (tsCons (tName 3) (tsCons (tName 4) tsNil))) (body := outer) encT
    (fun k d ρ => d.length ≤ k * q.length ∧ (d.map (·.1)).Nodup ∧ ∃ x y x' y', ρ = [some (encP p), some (encP q), some (encD d), x, y, x', y']) (fun d t => q.foldl (fun d u => addD d (t.1 + u.1, t.2 * u.2)) d) p.length p 0 [] [some (encP p), some (encP q), some (encD []), none, none, none, none] (by omega)
    (fun k d a ρ hk ha ⟨h1, h2, x, y, x', y', e⟩ => by
      subst e
      have hkq : k * q.length + q.length ≤ p.length * q.length := by
        have : (k + 1) * q.length ≤ p.length * q.length := Nat.mul_le_mul_right _ hk
        rwa [Nat.succ_mul] at this
      obtain ⟨ρ2, e2, hlen2, hnd2, z, z', rfl⟩ := loop_invN (t := tTupG 2 (tsCons (tName 5) (tsCons (tName 6) tsNil))) (body := inner) encT
        (fun j d ρ => d.length ≤ k * q.length + j ∧ (d.map (·.1)).Nodup ∧ ∃ z z', ρ = [some (encP p), some (encP q), some (encD d), some (.int a.1), some (.int a.2), z, z']) (fun d u => addD d (a.1 + u.1, a.2 * u.2)) q.length q 0 d [some (encP p), some (encP q), some (encD d), some (.int a.1), some (.int a.2), x', y'] (by omega)
        (fun j d u ρ hj hu ⟨h1, h2, z, z', e⟩ => by
          subst e
          have hg := gSet_enc (d := d) (k := a.1 + u.1) (v := dget d (a.1 + u.1) + a.2 * u.2) (by omega)
          refine ⟨[some (encP p), some (encP q), some (encD d), some (.int a.1), some (.int a.2), some (.int u.1), some (.int u.2)], [some (encP p), some (encP q), some (encD (addD d (a.1 + u.1, a.2 * u.2))), some (.int a.1), some (.int a.2), some (.int u.1), some (.int u.2)], rfl, .inl ?_, ?_, addD_nodup _ h2, _, _, rfl⟩
          · simp [inner, gGet_enc, gAdd_int, hg, show isDct (encD d) = true from rfl, addD, gMul_wide (hp a ha) (hq u hu)]
          · have := addD_len d (a.1 + u.1, a.2 * u.2)
            omega) ⟨by omega, h2, x', y', rfl⟩
      refine ⟨[some (encP p), some (encP q), some (encD d), some (.int a.1), some (.int a.2), x', y'], [some (encP p), some (encP q), some (encD (q.foldl (fun d u => addD d (a.1 + u.1, a.2 * u.2)) d)), some (.int a.1), some (.int a.2), z, z'], rfl, .inl ?_, ?_, hnd2, some (.int a.1), some (.int a.2), z, z', rfl⟩
      · have hit : rowOf (encP q) = some (q.map encT) := rfl
        simp only [outer, ap_seq, ap_for, ap_iS, ap_var, ap_look, List.getElem?_cons_zero, List.getElem?_cons_succ, Option.map_some, Option.bind_some, hit, e2, ap_nx]
      · rw [Nat.succ_mul]; omega) ⟨by simp, .nil, none, none, none, none, rfl⟩
  have hnd0 := hnd
  rw [← mulT_fold] at hnd0
  have hg := F_gathered_eq hnd (by rw [Nat.zero_add] at hlen; omega)
  refine run_rt (ρ' := [some (encP p), some (encP q), some (encD (p.foldl (fun d t => q.foldl (fun d u => addD d (t.1 + u.1, t.2 * u.2)) d) [])), x, y, x', y']) ?_
  · have e' : loopF (tTupG 2 (tsCons (tName 3) (tsCons (tName 4) tsNil))) outer (p.map encT) [some (encP p), some (encP q), some (.dct []), none, none, none, none] = _ := e
    have hit : rowOf (encP p) = some (p.map encT) := rfl
    show b_times [some (encP p), some (encP q), none, none, none, none, none] = _
    simp only [b_times, ap_seq, ap_set, ap_c, ap_for, ap_iS, ap_var, ap_look, Option.bind_some, Option.map_some, List.set_cons_succ, List.set_cons_zero, List.getElem?_cons_zero, List.getElem?_cons_succ, hit]
    rw [show (fSeq (fFor (iS (fVar 1)) (tTupG 2 (tsCons (tName 5) (tsCons (tName 6) tsNil))) (fSeq (fAsg (fOp gAdd (fGetO 2 (fOp gAdd (fVar 3) (fVar 5)) (fC (.int 0))) (fOp gMulI (fVar 4) (fVar 6))) (tSub 2 (fOp gAdd (fVar 3) (fVar 5)) gSet)) fNx)) fNx) = outer from rfl, e']
    simp only [Option.bind_some, ap_ret, ap_list, ap_aCons, ap_aNil, ap_var, ap_look, List.getElem?_cons_zero, List.getElem?_cons_succ, Option.map_some, hg]
    rw [norm_eq (q := mulT p q) fun e => by rw [← mulT_fold, cf_addDs e (d := []) (by simp)]; simp]
end
end Lau
end PT

set_option Elab.async false
set_option linter.all false
set_option autoImplicit false
set_option maxRecDepth 100000
set_option maxHeartbeats 4000000
/-! PM4: the law's own plus, times, power. -/
namespace PT
namespace Lau
/-- all exponents within a list -/
def Keys (S : List Int) (p : Poly) : Prop := ∀ t ∈ p, t.1 ∈ S
theorem nodup_sub_len : ∀ {a b : List Int}, a.Nodup → (∀ x ∈ a, x ∈ b) → a.length ≤ b.length
  | [], b, _, _ => Nat.zero_le _
  | x :: a, b, h, hs => by
    rw [List.nodup_cons] at h
    have hx := hs x (by simp)
    have h2 := nodup_sub_len (b := b.erase x) h.2 (fun y hy => by
      have hne : y ≠ x := fun e => h.1 (e ▸ hy)
      exact (List.mem_erase_of_ne hne).mpr (hs y (by simp [hy])))
    rw [List.length_erase_of_mem hx] at h2
    have : 0 < b.length := List.length_pos_of_mem hx
    rw [List.length_cons]; omega
theorem keys_putD {d : Poly} {k v : Int} {S : List Int} (h : Keys S d) (hk : k ∈ S) : Keys S (putD d k v) := fun t ht => by
  have h1 : t.1 ∈ (putD d k v).map (·.1) := List.mem_map_of_mem ht
  rw [putD_keys] at h1
  split at h1
  · obtain ⟨u, hu, e⟩ := List.mem_map.mp h1
    rw [← e]; exact h u hu
  · rcases List.mem_append.mp h1 with h1 | h1
    · obtain ⟨u, hu, e⟩ := List.mem_map.mp h1
      rw [← e]; exact h u hu
    · simp only [List.mem_singleton] at h1
      rw [h1]; exact hk
theorem keys_addDs {S : List Int} : ∀ {p d : Poly}, Keys S d → Keys S p → Keys S (p.foldl addD d)
  | [], d, h, _ => h
  | t :: p, d, h, hp => keys_addDs (d := addD d t) (keys_putD h (hp t (by simp))) fun u hu => hp u (by simp [hu])
theorem len_of_keys {S : List Int} {d : Poly} (h : Keys S d) (hn : (d.map (·.1)).Nodup) : d.length ≤ S.length := by
  have := nodup_sub_len hn (b := S) (fun x hx => by
    obtain ⟨u, hu, e⟩ := List.mem_map.mp hx
    rw [← e]; exact h u hu)
  simpa using this
theorem insT_keys {S : List Int} {e c : Int} {q : Poly} (h : Keys S q) (he : e ∈ S) : Keys S (insT e c q) := fun u hu => by
  rcases insT_mem hu with h1 | h1
  · rw [h1]; exact he
  · exact h u h1
theorem norm_keys {S : List Int} : ∀ {p : Poly}, Keys S p → Keys S (norm p)
  | [], _ => by intro t ht; cases ht
  | t :: p, h => insT_keys (norm_keys fun u hu => h u (by simp [hu])) (h t (by simp))
theorem Canon.nodup {p : Poly} (h : Canon p) : (p.map (·.1)).Nodup := by
  refine List.Pairwise.imp (R := fun a b : Int => a < b) (fun h => by omega) ?_
  rw [List.pairwise_map]
  exact h.1
/-! dict(p) -/
theorem pairsP_enc (p : Poly) : pairsP (p.map encT) = some (p.map encK) := by
  induction p with
  | nil => rfl
  | cons t p ih => simp only [List.map_cons, encT, pairsP, ih]; rfl
theorem mergeP_enc (d : Poly) : ∀ p : Poly, mergeP (d.map encK) (p.map encK) = ((p.foldl (fun d t => putD d t.1 t.2) d)).map encK := fun p => by
  unfold mergeP
  induction p generalizing d with
  | nil => rfl
  | cons t p ih =>
    rw [List.map_cons, List.foldl_cons, List.foldl_cons]
    have : putP (d.map encK) (encK t).1 (encK t).2 = (putD d t.1 t.2).map encK := putP_enc d t.1 t.2
    rw [this, ih]
theorem puts_nodup : ∀ {p d : Poly}, ((d ++ p).map (·.1)).Nodup → p.foldl (fun d t => putD d t.1 t.2) d = d ++ p
  | [], d, h => by simp
  | t :: p, d, h => by
    have hn : dhas d t.1 = false := by
      rw [Bool.eq_false_iff]
      intro hh
      rw [dhas_iff] at hh
      rw [List.map_append, List.nodup_append] at h
      exact h.2.2 _ hh t.1 (by simp) rfl
    rw [List.foldl_cons]
    have e : putD d t.1 t.2 = d ++ [t] := by unfold putD; rw [hn]; simp
    rw [e, puts_nodup (by simpa using h)]
    simp
theorem gDictP_enc {p : Poly} (h : (p.map (·.1)).Nodup) (hl : p.length ≤ 1000000) : gDictP [encP p] = some (encD p) := by
  unfold gDictP encP
  dsimp only
  rw [if_pos (by simpa using hl), pairsP_enc]
  have := mergeP_enc [] p
  rw [puts_nodup (by simpa using h)] at this
  simp only [Option.map_some]
  rw [show mergeP [] (p.map encK) = (([] : Poly) ++ p).map encK from this]
  rfl
theorem keysI_enc (d : Poly) : keysI (d.map encK) = some (d.map (·.1)) := by
  induction d with
  | nil => rfl
  | cons t d ih =>
    show (keysI (d.map encK)).map _ = _
    rw [ih]; rfl
theorem gSorted_dct {d : Poly} (h : d.length < 64) : gSorted [encD d] = some (.lst ((isortI (d.map (·.1))).map PV.int)) := by
  unfold gSorted orL gSortL gSortD encD
  dsimp only
  rw [keysI_enc]
  simp [h]
section
@[local simp] def zsPM41_ap_seq := @ap_seq
@[local simp] def zsPM41_ap_nx := @ap_nx
@[local simp] def zsPM41_ap_ret := @ap_ret
@[local simp] def zsPM41_ap_drop := @ap_drop
@[local simp] def zsPM41_ap_set := @ap_set
@[local simp] def zsPM41_ap_list := @ap_list
@[local simp] def zsPM41_ap_aNil := @ap_aNil
@[local simp] def zsPM41_ap_aCons := @ap_aCons
@[local simp] def zsPM41_ap_a1 := @ap_a1
@[local simp] def zsPM41_ap_var := @ap_var
@[local simp] def zsPM41_ap_look := @ap_look
@[local simp] def zsPM41_ap_c := @ap_c
@[local simp] def zsPM41_ap_op := @ap_op
@[local simp] def zsPM41_ap_opO := @ap_opO
@[local simp] def zsPM41_ap_un := @ap_un
@[local simp] def zsPM41_ap_test := @ap_test
@[local simp] def zsPM41_ap_if := @ap_if
@[local simp] def zsPM41_ap_notT := @ap_notT
@[local simp] def zsPM41_ap_andT := @ap_andT
@[local simp] def zsPM41_ap_orT := @ap_orT
@[local simp] def zsPM41_ap_tru := @ap_tru
@[local simp] def zsPM41_ap_notV := @ap_notV
@[local simp] def zsPM41_ap_andV := @ap_andV
@[local simp] def zsPM41_ap_orV := @ap_orV
@[local simp] def zsPM41_ap_for := @ap_for
@[local simp] def zsPM41_ap_iS := @ap_iS
@[local simp] def zsPM41_ap_iR1 := @ap_iR1
@[local simp] def zsPM41_ap_iR2 := @ap_iR2
@[local simp] def zsPM41_ap_name := @ap_name
@[local simp] def zsPM41_ap_tup := @ap_tup
@[local simp] def zsPM41_ap_tsNil := @ap_tsNil
@[local simp] def zsPM41_ap_tsCons := @ap_tsCons
@[local simp] def zsPM41_ap_asg := @ap_asg
@[local simp] def zsPM41_ap_sub := @ap_sub
@[local simp] def zsPM41_ap_par := @ap_par
@[local simp] def zsPM41_ap_aug := @ap_aug
@[local simp] def zsPM41_ap_get := @ap_get
@[local simp] def zsPM41_ap_getO := @ap_getO
@[local simp] def zsPM41_ap_yes := @ap_yes
@[local simp] def zsPM41_ap_mut := @ap_mut
@[local simp] theorem zsPM41_startP (n : Nat) (args : List PV) : startP n args = args.map some ++ List.replicate (n - args.length) none := rfl
@[local simp] theorem zsPM41_rowOfa (xs : List PV) : rowOf (.lst xs) = some xs := rfl
@[local simp] theorem zsPM41_rowOfb (xs : List PV) : rowOf (.tup xs) = some xs := rfl
@[local simp] def zsPM41_gTup0 := @gTup0
@[local simp] def zsPM41_gTup1 := @gTup1
@[local simp] def zsPM41_gTup2 := @gTup2
@[local simp] def zsPM41_gLst0 := @gLst0
@[local simp] def zsPM41_gLst1 := @gLst1
@[local simp] def zsPM41_gLst2 := @gLst2
theorem F__law_plus_eq {p q : Poly} {S : List Int} (hp : (p.map (·.1)).Nodup) (hS : S.length < 64) (kp : Keys S p) (kq : Keys S q) (hl : q.length ≤ 900000) : F__law_plus [encP p, encP q] = some (encP (norm (p ++ q))) := by
  have hpl : p.length < 64 := Nat.lt_of_le_of_lt (len_of_keys kp hp) hS
  have hdict := gDictP_enc hp (by omega)
  obtain ⟨ρ', e, hlen, hkd, hnd, x, y, rfl⟩ := loop_invN (t := tTupG 2 (tsCons (tName 3) (tsCons (tName 4) tsNil))) (body := fSeq (fAsg (fOp gAdd (fGetO 2 (fVar 3) (fC (.int 0))) (fVar 4)) (tSub 2 (fVar 3) gSet)) fNx) encT
    (fun k d ρ => d.length ≤ 64 + k ∧ Keys S d ∧ (d.map (·.1)).Nodup ∧ ∃ x y, ρ = [some (encP p), some (encP q), some (encD d), x, y]) addD 900000 q 0 p [some (encP p), some (encP q), some (encD p), none, none] (by omega)
    (fun k d a ρ hk ha ⟨h1, h3, h2, x, y, e⟩ => by
      subst e
      have hg := gSet_enc (d := d) (k := a.1) (v := dget d a.1 + a.2) (by omega)
      refine ⟨[some (encP p), some (encP q), some (encD d), some (.int a.1), some (.int a.2)], [some (encP p), some (encP q), some (encD (addD d a)), some (.int a.1), some (.int a.2)], rfl, .inl ?_, ?_, keys_putD h3 (kq a ha), addD_nodup a h2, _, _, rfl⟩
      · simp [gGet_enc, gAdd_int, hg, show isDct (encD d) = true from rfl, addD]
      · have := addD_len d a
        omega) ⟨by omega, kp, hp, none, none, rfl⟩
  have hd64 : (q.foldl addD p).length < 64 := Nat.lt_of_le_of_lt (len_of_keys hkd hnd) hS
  have hs := gSorted_dct hd64
  have hlc := lc_map (vs := [3]) (t := tName 3) (ft := fTest (fOp gNeD (fOpO gIxAll 2 (fVar 3)) (fC (.int 0)))) (fe := fList gTuple (aCons (fVar 3) (aCons (fOpO gIxAll 2 (fVar 3)) aNil))) (ρ := [some (encP p), some (encP q), some (encD (q.foldl addD p)), x, y]) PV.int (fun k => decide (dget (q.foldl addD p) k ≠ 0)) (fun k => encT (k, dget (q.foldl addD p) k)) (isortI ((q.foldl addD p).map (·.1))) [] (fun k hk => by
    have hh : dhas (q.foldl addD p) k = true := dhas_iff.mpr ((sortI_perm _).mem_iff.mp hk)
    refine ⟨[some (encP p), some (encP q), some (encD (q.foldl addD p)), some (.int k), y], rfl, ?_, fun _ => ?_, rfl⟩
    · simp [gIxAll_enc hh, gNeD_int]
    · simp [gIxAll_enc hh, encT]) (by rw [(sortI_perm _).length_eq, List.length_map, List.length_nil]; omega)
  have e1 := lc_of (vs := [3]) (its := iS (fList gSorted (a1 (fVar 2)))) (l := (isortI ((q.foldl addD p).map (·.1))).map PV.int) (by simp [hs]) hlc
  simp only [List.nil_append] at e1
  refine run_rt (ρ' := [some (encP p), some (encP q), some (encD (q.foldl addD p)), x, y]) ?_
  show b__law_plus [some (encP p), some (encP q), none, none, none] = _
  have hit : rowOf (encP q) = some (q.map encT) := rfl
  simp only [b__law_plus, ap_seq, ap_set, ap_list, ap_a1, ap_var, ap_look, List.getElem?_cons_zero, List.getElem?_cons_succ, Option.map_some, Option.bind_some, hdict, List.set_cons_succ, List.set_cons_zero, ap_for, ap_iS, hit, e, ap_ret, e1, gTupOf]
  rw [show (encP (norm (p ++ q))) = .tup ((norm (p ++ q)).map encT) from rfl, norm_eq (q := q.foldl addD p) fun e => by rw [cf_append, cf_addDs e hp], ← gath_norm hnd]
  simp [gath, Function.comp_def]
/-- products of terms stay within S -/
theorem F__law_times_eq {p q : Poly} {S : List Int} (hS : S.length < 64) (kpq : Keys S (mulT p q)) (hl : q.length ≤ 900000) (hp : WideP p) (hq : WideP q) : F__law_times [encP p, encP q] = some (encP (norm (mulT p q))) := by
  have hrow : ∀ t ∈ p, Keys S (q.map fun u => (t.1 + u.1, t.2 * u.2)) := fun t ht u hu => by
    refine kpq u ?_
    unfold mulT
    exact List.mem_flatMap.mpr ⟨t, ht, hu⟩
  obtain ⟨ρ', e, _, _, _, x, y, rfl⟩ := loop_invM (t := tTupG 2 (tsCons (tName 3) (tsCons (tName 4) tsNil))) (body := fSeq (fSet 2 (fList F__law_plus (aCons (fVar 2) (aCons (fList gTupOf (a1 (fLC [5, 6] (iS (fVar 1)) (tTupG 2 (tsCons (tName 5) (tsCons (tName 6) tsNil))) (fYes) (fList gTuple (aCons (fOp gAdd (fVar 3) (fVar 5)) (aCons (fOp gMulI (fVar 4) (fVar 6)) aNil)))))) aNil)))) fNx) encT
    (fun (d : Poly × Poly) ρ => Canon d.1 ∧ Keys S d.1 ∧ (∀ e, cf d.1 e = cf d.2 e) ∧ ∃ x y, ρ = [some (encP p), some (encP q), some (encP d.1), x, y, none, none]) (fun d t => (norm (d.1 ++ q.map fun u => (t.1 + u.1, t.2 * u.2)), d.2 ++ q.map fun u => (t.1 + u.1, t.2 * u.2))) p ([], []) [some (encP p), some (encP q), some (encP []), none, none, none, none]
    (fun d a ρ ha ⟨hc, hk, hcf, x, y, e⟩ => by
      subst e
      have hplus := F__law_plus_eq (p := d.1) (q := q.map fun u => (a.1 + u.1, a.2 * u.2)) hc.nodup hS hk (hrow a ha) (by simpa using hl)
      have hlc := lc_map (vs := [5, 6]) (t := tTupG 2 (tsCons (tName 5) (tsCons (tName 6) tsNil))) (ft := fYes) (fe := fList gTuple (aCons (fOp gAdd (fVar 3) (fVar 5)) (aCons (fOp gMulI (fVar 4) (fVar 6)) aNil))) (ρ := [some (encP p), some (encP q), some (encP d.1), some (.int a.1), some (.int a.2), none, none]) encT (fun _ => true) (fun u => encT (a.1 + u.1, a.2 * u.2)) q [] (fun u hu => by
        refine ⟨[some (encP p), some (encP q), some (encP d.1), some (.int a.1), some (.int a.2), some (.int u.1), some (.int u.2)], rfl, rfl, fun _ => ?_, rfl⟩
        simp [gAdd_int, gMul_wide (hp a ha) (hq u hu), encT]) (by simp; omega)
      have e1 := lc_of (vs := [5, 6]) (its := iS (fVar 1)) (l := q.map encT) rfl hlc
      have hft : (q.filter fun _ => true) = q := List.filter_eq_self.mpr (by simp)
      simp only [List.nil_append, hft] at e1
      have ht : PV.tup (q.map fun u => encT (a.1 + u.1, a.2 * u.2)) = encP (q.map fun u => (a.1 + u.1, a.2 * u.2)) := by simp [encP, Function.comp_def]
      refine ⟨[some (encP p), some (encP q), some (encP d.1), some (.int a.1), some (.int a.2), none, none], [some (encP p), some (encP q), some (encP (norm (d.1 ++ q.map fun u => (a.1 + u.1, a.2 * u.2)))), some (.int a.1), some (.int a.2), none, none], rfl, .inl ?_, canon_norm _, norm_keys ?_, fun e => ?_, _, _, rfl⟩
      · simp only [ap_seq, ap_set, ap_list, ap_aCons, ap_aNil, ap_a1, ap_var, ap_look, List.getElem?_cons_zero, List.getElem?_cons_succ, Option.map_some, Option.bind_some, e1, gTupOf, ht, hplus, List.set_cons_succ, List.set_cons_zero, ap_nx]
      · intro t ht
        rcases List.mem_append.mp ht with ht | ht
        · exact hk t ht
        · exact hrow a ha t ht
      · rw [cf_norm, cf_append, cf_append, hcf]) ⟨.nil, (by intro t ht; cases ht), fun _ => rfl, none, none, rfl⟩
  have hfold : ∀ (l : Poly) (d : Poly × Poly), Canon d.1 → (∀ e, cf d.1 e = cf d.2 e) → (l.foldl (fun (d : Poly × Poly) t => (norm (d.1 ++ q.map fun u => (t.1 + u.1, t.2 * u.2)), d.2 ++ q.map fun u => (t.1 + u.1, t.2 * u.2))) d).1 = norm (d.2 ++ mulT l q) := fun l => by
    induction l with
    | nil =>
      intro d hc h
      rw [List.foldl_nil]
      exact canon_norm_eq hc fun e => by rw [h, cf_append]; simp [mulT]
    | cons t l ih =>
      intro d hc h
      have h1 : mulT (t :: l) q = (q.map fun u => (t.1 + u.1, t.2 * u.2)) ++ mulT l q := rfl
      rw [List.foldl_cons, ih _ (canon_norm _) (fun e => by rw [cf_norm, cf_append, cf_append, h]), h1, ← List.append_assoc]
  refine run_rt (ρ' := [some (encP p), some (encP q), some (encP (norm (mulT p q))), x, y, none, none]) ?_
  show b__law_times [some (encP p), some (encP q), none, none, none, none, none] = _
  have hit : rowOf (encP p) = some (p.map encT) := rfl
  have h0 : gTuple [] = some (encP []) := rfl
  rw [hfold p ([], []) .nil fun _ => rfl] at e
  simp only [b__law_times, ap_seq, ap_set, ap_list, ap_aNil, h0, ap_var, ap_look, List.getElem?_cons_zero, List.getElem?_cons_succ, Option.map_some, Option.bind_some, List.set_cons_succ, List.set_cons_zero, ap_for, ap_iS, hit, e, ap_ret, List.nil_append]
end
end Lau
end PT

set_option Elab.async false
set_option linter.all false
set_option autoImplicit false
set_option maxRecDepth 100000
set_option maxHeartbeats 4000000
/-! PM5: the law's tape; its own equality. -/
namespace PT
namespace Lau
section
@[local simp] def zsPM51_ap_seq := @ap_seq
@[local simp] def zsPM51_ap_nx := @ap_nx
@[local simp] def zsPM51_ap_ret := @ap_ret
@[local simp] def zsPM51_ap_drop := @ap_drop
@[local simp] def zsPM51_ap_set := @ap_set
@[local simp] def zsPM51_ap_list := @ap_list
@[local simp] def zsPM51_ap_aNil := @ap_aNil
@[local simp] def zsPM51_ap_aCons := @ap_aCons
@[local simp] def zsPM51_ap_a1 := @ap_a1
@[local simp] def zsPM51_ap_var := @ap_var
@[local simp] def zsPM51_ap_look := @ap_look
@[local simp] def zsPM51_ap_c := @ap_c
@[local simp] def zsPM51_ap_op := @ap_op
@[local simp] def zsPM51_ap_opO := @ap_opO
@[local simp] def zsPM51_ap_un := @ap_un
@[local simp] def zsPM51_ap_test := @ap_test
@[local simp] def zsPM51_ap_if := @ap_if
@[local simp] def zsPM51_ap_notT := @ap_notT
@[local simp] def zsPM51_ap_andT := @ap_andT
@[local simp] def zsPM51_ap_orT := @ap_orT
@[local simp] def zsPM51_ap_tru := @ap_tru
@[local simp] def zsPM51_ap_notV := @ap_notV
@[local simp] def zsPM51_ap_andV := @ap_andV
@[local simp] def zsPM51_ap_orV := @ap_orV
@[local simp] def zsPM51_ap_for := @ap_for
@[local simp] def zsPM51_ap_iS := @ap_iS
@[local simp] def zsPM51_ap_iR1 := @ap_iR1
@[local simp] def zsPM51_ap_iR2 := @ap_iR2
@[local simp] def zsPM51_ap_name := @ap_name
@[local simp] def zsPM51_ap_tup := @ap_tup
@[local simp] def zsPM51_ap_tsNil := @ap_tsNil
@[local simp] def zsPM51_ap_tsCons := @ap_tsCons
@[local simp] def zsPM51_ap_asg := @ap_asg
@[local simp] def zsPM51_ap_sub := @ap_sub
@[local simp] def zsPM51_ap_par := @ap_par
@[local simp] def zsPM51_ap_aug := @ap_aug
@[local simp] def zsPM51_ap_get := @ap_get
@[local simp] def zsPM51_ap_getO := @ap_getO
@[local simp] def zsPM51_ap_yes := @ap_yes
@[local simp] def zsPM51_ap_mut := @ap_mut
@[local simp] theorem zsPM51_startP (n : Nat) (args : List PV) : startP n args = args.map some ++ List.replicate (n - args.length) none := rfl
@[local simp] theorem zsPM51_rowOfa (xs : List PV) : rowOf (.lst xs) = some xs := rfl
@[local simp] theorem zsPM51_rowOfb (xs : List PV) : rowOf (.tup xs) = some xs := rfl
@[local simp] def zsPM51_gTup0 := @gTup0
@[local simp] def zsPM51_gTup1 := @gTup1
@[local simp] def zsPM51_gTup2 := @gTup2
@[local simp] def zsPM51_gLst0 := @gLst0
@[local simp] def zsPM51_gLst1 := @gLst1
@[local simp] def zsPM51_gLst2 := @gLst2
/-! ### the tape -/
def tapeP (xs : List Int) (i r s : Int) : PV := .lst [.lst (xs.map PV.int), .int i, .int r, .int s]
def TapeOk (t : PV) : Prop := ∃ (xs : List Int) (i r s : Int), t = tapeP xs i r s ∧ 0 ≤ i ∧ 0 ≤ r ∧ 0 ≤ s ∧ s < 2147483647
theorem wide_lt {a : Int} (h1 : -(2 ^ 200) < a) (h2 : a < 2 ^ 200) : wideI a = true := by
  unfold wideI
  rw [decide_eq_true_eq]
  by_cases h : a.natAbs = 0
  · rw [h]; decide +kernel
  · have : a.natAbs < 2 ^ 200 := by omega
    have := (Nat.log2_lt h).mpr this
    omega
theorem gDiv_int {a b : Int} (h : b ≠ 0) (h2 : b.natAbs < 1073741824) : gDivI (.int a) (.int b) = some (.int (a.fdiv b)) := by simp [gI, h, h2]
theorem gMod_int {a b : Int} (h : b ≠ 0) : gModI (.int a) (.int b) = some (.int (a.fmod b)) := by simp [gI, h]
theorem gIx_at {xs : List PV} {i : Nat} {v : PV} (h : xs[i]? = some v) : gIxAll (.lst xs) (.int i) = some v := by
  have hlt := (List.getElem?_eq_some_iff.mp h).1
  unfold gIxAll orG gIxT gIxL
  simp only [L2.atI, L2.ixN]
  rw [if_pos (by omega), if_pos (by omega)]
  simp [h]
theorem fmod_lt {a b : Int} (h : 0 < b) : 0 ≤ a.fmod b ∧ a.fmod b < b := ⟨Int.fmod_nonneg_of_pos a h, Int.fmod_lt_of_pos a h⟩
theorem F__law_next_ok {t : PV} {m : Int} (h : TapeOk t) (hm : 0 < m) (hm2 : m < 1073741824) : ∃ r t', F__law_next [t, .int m] = some (.int r, t') ∧ 0 ≤ r ∧ r < m ∧ TapeOk t' := by
  obtain ⟨xs, i, rest, s, rfl, hi, hr, hs, hs2⟩ := h
  have hm0 : m ≠ 0 := by omega
  have hmn : m.natAbs < 1073741824 := by omega
  have g0 : ∀ a b c d : PV, gIxAll (.lst [a, b, c, d]) (.int 0) = some a := fun a b c d => rfl
  have g1 : ∀ a b c d : PV, gIxAll (.lst [a, b, c, d]) (.int 1) = some b := fun a b c d => rfl
  have g2 : ∀ a b c d : PV, gIxAll (.lst [a, b, c, d]) (.int 2) = some c := fun a b c d => rfl
  have g3 : ∀ a b c d : PV, gIxAll (.lst [a, b, c, d]) (.int 3) = some d := fun a b c d => rfl
  have s1 : ∀ a b c d v : PV, gSet (.lst [a, b, c, d]) (.int 1) v = some (.lst [a, v, c, d]) := fun a b c d v => rfl
  have s2 : ∀ a b c d v : PV, gSet (.lst [a, b, c, d]) (.int 2) v = some (.lst [a, b, v, d]) := fun a b c d v => rfl
  have s3 : ∀ a b c d v : PV, gSet (.lst [a, b, c, d]) (.int 3) v = some (.lst [a, b, c, v]) := fun a b c d v => rfl
  have lt_ : ∀ a b : Int, gLt (.int a) (.int b) = some (.bl (decide (a < b))) := fun a b => rfl
  have pw : gPowI (.int 10) (.int 18) = some (.int 1000000000000000000) := isV_eq (by decide +kernel)
  have ii : ∀ a : Int, gInt [.int a] = some (.int a) := fun a => rfl
  have len_ : gLenAll [.lst (xs.map PV.int)] = some (.int xs.length) := by simp [gLenAll, orL, gLen]
  have sub_ : ∀ a b : Int, gSubI (.int a) (.int b) = some (.int (a - b)) := fun a b => rfl
  have abs_ : ∀ a : Int, gAbs [.int a] = some (.int (if a < 0 then -a else a)) := fun a => rfl
  suffices hb : ∃ r t' ρ', b__law_next [some (tapeP xs i rest s), some (.int m), none, none] = some (.rt (.int r), some t' :: ρ') ∧ 0 ≤ r ∧ r < m ∧ TapeOk t' by
    obtain ⟨r, t', ρ', e, q1, q2, q3⟩ := hb
    refine ⟨r, t', ?_, q1, q2, q3⟩
    show ((b__law_next [some (tapeP xs i rest s), some (.int m), none, none]).bind fun r => (outF r.1).bind fun v => (look r.2 0).map fun w => (v, w)) = _
    rw [e]; rfl
  by_cases hr0 : rest = 0
  · subst hr0
    -- a cell is drawn
    have tail : ∀ (cell i' : Int), 0 ≤ cell → 0 ≤ i' → cell < 1000000000000000000 → ∃ s', 0 ≤ s' ∧ s' < 2147483647 ∧ gMulI (.int s) (.int 69621) = some (.int (s * 69621)) ∧ gMulI (.int cell) (.int 40692) = some (.int (cell * 40692)) ∧ (s * 69621 + cell * 40692 + 17).fmod 2147483647 = s' ∧ gMulI (.int (s'.fdiv 5)) (.int 48271) = some (.int (s'.fdiv 5 * 48271)) := by
      intro cell i' hc hi' hlt
      obtain ⟨m1, m2⟩ := fmod_lt (a := s * 69621 + cell * 40692 + 17) (b := 2147483647) (by decide)
      refine ⟨_, m1, m2, gMul_wide (wide_lt (by omega) (by omega)) (by decide +kernel), gMul_wide (wide_lt (by omega) (by omega)) (by decide +kernel), rfl, ?_⟩
      generalize (s * 69621 + cell * 40692 + 17).fmod 2147483647 = s' at m1 m2
      have : s'.fdiv 5 = s' / 5 := Int.fdiv_eq_ediv_of_nonneg _ (by decide)
      refine gMul_wide (wide_lt ?_ ?_) (by decide +kernel)
      · rw [this]; omega
      · rw [this]; omega
    by_cases hlen : i < (xs.length : Int)
    · obtain ⟨j, rfl⟩ := Int.eq_ofNat_of_zero_le hi
      have hj : j < xs.length := by omega
      have gx : gIxAll (.lst (xs.map PV.int)) (.int (j : Int)) = some (.int xs[j]) := gIx_at (by simp [hj])
      generalize xs[j] = x at gx
      have hx : 0 ≤ (if x < 0 then -x else x) := by split <;> omega
      generalize hcell : (if x < 0 then -x else x) = cell at hx
      by_cases hlt : cell < 1000000000000000000
      · obtain ⟨s', m1, m2, w1, w2, hs', w3⟩ := tail cell (j + 1) hx (by omega) hlt
        obtain ⟨q1, q2⟩ := fmod_lt (a := (s'.fdiv 5 * 48271).fmod 2147483647) (b := m) hm
        refine ⟨((s'.fdiv 5 * 48271).fmod 2147483647).fmod m, tapeP xs (j + 1) 0 s', [some (.int m), some (.int cell), some (.int cell)], ?_, q1, q2, xs, j + 1, 0, s', rfl, by omega, by omega, m1, m2⟩
        simp [b__law_next, tapeP, gEqD_int, g0, g1, g2, lt_, len_, hlen, gx, ii, abs_, hcell, gAdd_int, s1, pw, hlt, g3, w1, w2, gMod_int, hs', s3, gDiv_int, w3, hm0]
      · obtain ⟨q1, q2⟩ := fmod_lt (a := cell) (b := m) hm
        refine ⟨cell.fmod m, tapeP xs (j + 1) (cell.fdiv m) s, [some (.int m), some (.int cell), some (.int cell)], ?_, q1, q2, xs, j + 1, cell.fdiv m, s, rfl, by omega, Int.fdiv_nonneg hx (by omega), hs, hs2⟩
        simp [b__law_next, tapeP, gEqD_int, g0, g1, g2, lt_, len_, hlen, gx, ii, abs_, hcell, gAdd_int, s1, s2, pw, hlt, gMod_int hm0, gDiv_int hm0 hmn]
    · obtain ⟨s', m1, m2, w1, w2, hs', w3⟩ := tail 0 i (by omega) hi (by decide)
      obtain ⟨q1, q2⟩ := fmod_lt (a := (s'.fdiv 5 * 48271).fmod 2147483647) (b := m) hm
      refine ⟨((s'.fdiv 5 * 48271).fmod 2147483647).fmod m, tapeP xs i 0 s', [some (.int m), some (.int 0), some (.int 0)], ?_, q1, q2, xs, i, 0, s', rfl, hi, by omega, m1, m2⟩
      have hs'' : (s * 69621 + 17).fmod 2147483647 = s' := by rw [← hs']; simp
      have w2' : gMulI (.int 0) (.int 40692) = some (.int 0) := by simpa using w2
      simp [b__law_next, tapeP, gEqD_int, g0, g1, g2, lt_, len_, hlen, gAdd_int, ii, pw, g3, w1, w2', gMod_int, hs'', s3, gDiv_int, w3, hm0]
  · obtain ⟨q1, q2⟩ := fmod_lt (a := rest) (b := m) hm
    refine ⟨rest.fmod m, tapeP xs i (rest.fdiv m) s, [some (.int m), some (.int rest), none], ?_, q1, q2, xs, i, rest.fdiv m, s, rfl, hi, Int.fdiv_nonneg hr (by omega), hs, hs2⟩
    simp [b__law_next, tapeP, gEqD_int, g2, hr0, ii, s2, gMod_int hm0, gDiv_int hm0 hmn]

/-! ### the law's equality of a thing with itself -/
mutual
def okS : Nat → PV → Bool
  | 0, _ => false
  | _ + 1, .non => true
  | _ + 1, .bl _ => true
  | _ + 1, .int _ => true
  | _ + 1, .str s => PySem.PyData.strOk s
  | n + 1, .tup xs => decide (xs.length ≤ 1000000) && okSs n xs
  | n + 1, .lst xs => decide (xs.length ≤ 1000000) && okSs n xs
  | _ + 1, .dct _ => false
  | _ + 1, .dit _ => false
  | _ + 1, .obj _ _ => false
def okSs : Nat → List PV → Bool
  | _, [] => true
  | n, x :: xs => okS n x && okSs n xs
end
theorem okSs_get {n : Nat} {xs : List PV} {i : Nat} {v : PV} (h : okSs n xs = true) (e : xs[i]? = some v) : okS n v = true := by
  induction xs generalizing i with
  | nil => simp at e
  | cons x xs ih =>
    simp only [okSs, Bool.and_eq_true] at h
    cases i with
    | zero => simp at e; rw [← e]; exact h.1
    | succ i => exact ih h.2 (by simpa using e)
theorem i62_len {n : Nat} (h : n ≤ 1000000) : i62 (n : Int) = true := by
  unfold i62
  simp only [Bool.and_eq_true, decide_eq_true_eq]
  omega
theorem gEqD_lst0 : gEqD (.lst []) (.lst []) = some (.bl true) := isV_eq (by decide +kernel)
theorem gEqD_bl (b : Bool) : gEqD (.bl b) (.bl b) = some (.bl true) := by cases b <;> exact isV_eq (by decide +kernel)
theorem gEqD_str {s : PySem.Str} (h : PySem.PyData.strOk s = true) : gEqD (.str s) (.str s) = some (.bl true) := by
  unfold gEqD
  simp [okD, h, toD, PySem.PyData.eqv]
theorem same_loop {n : Nat} (F : GL) (xs : List PV) (w : PV) (hl : xs.length ≤ 1000000) (hF : ∀ (i : Nat) (h : i < xs.length), F [xs[i], xs[i]] = some (.bl true)) (hix : ∀ (i : Nat) v, xs[i]? = some v → gIxAll w (.int i) = some v) (hlen : gLenAll [w] = some (.int xs.length)) :
    (fAndV (fOp gEqD (fList gLenAll (a1 (fVar 0))) (fList gLenAll (a1 (fVar 1)))) (fOp gEqD (fLC [2] (iR1 (fList gLenAll (a1 (fVar 1)))) (tName 2) (fNotT (fTru (fList F (aCons (fOp gIxAll (fVar 0) (fVar 2)) (aCons (fOp gIxAll (fVar 1) (fVar 2)) aNil))))) (fC (.int 1))) (fList gListD aNil))) [some w, some w, none] = some (.bl true, [some w, some w, none]) := by
  have hlc := lc_map (vs := [2]) (t := tName 2) (ft := fNotT (fTru (fList F (aCons (fOp gIxAll (fVar 0) (fVar 2)) (aCons (fOp gIxAll (fVar 1) (fVar 2)) aNil))))) (fe := fC (.int 1)) (ρ := [some w, some w, none]) (fun i : Nat => PV.int (0 + (i : Int))) (fun _ => false) (fun _ => PV.int 1) (List.range xs.length) [] (fun i hi => by
    have hi' : i < xs.length := by simpa using hi
    have hx : gIxAll w (.int (i : Int)) = some xs[i] := hix i _ (List.getElem?_eq_getElem hi')
    have ih := hF i hi'
    refine ⟨[some w, some w, some (.int (0 + (i : Int)))], rfl, ?_, fun hk => Bool.noConfusion hk, rfl⟩
    simp [hx, ih, gTru]) (by rw [List.length_range, List.length_nil]; omega)
  have hit : iR1 (fList gLenAll (a1 (fVar 1))) [some w, some w, none] = some (rngP 0 xs.length, [some w, some w, none]) :=
    iR1_of (j := (xs.length : Int)) (by simp only [ap_list, ap_a1, ap_var, ap_look, List.getElem?_cons_zero, List.getElem?_cons_succ, Option.map_some, Option.bind_some, hlen]) (i62_len hl)
  have e1 := lc_of (vs := [2]) hit hlc
  have hft : ((List.range xs.length).filter fun _ => false) = [] := List.filter_eq_nil_iff.mpr (by simp)
  rw [hft] at e1
  have hg : gListD [] = some (.lst []) := if_pos (Nat.zero_le _)
  simp only [List.map_nil, List.append_nil] at e1
  simp only [ap_andV, ap_op, ap_list, ap_a1, ap_var, ap_look, List.getElem?_cons_zero, List.getElem?_cons_succ, Option.map_some, Option.bind_some, hlen, gEqD_int, decide_true, e1, ap_aNil, hg, gEqD_lst0]
theorem F__law_same_refl (n : Nat) : ∀ (v : PV), okS n v = true → F__law_same n [v, v] = some (.bl true) := by
  induction n with
  | zero => exact fun v h => by simp [okS] at h
  | succ n IH =>
    intro v h
    have isn : ∀ (p : PV), p ≠ .non → gIsN p .non = some (.bl false) := fun p hp => by cases p <;> first | rfl | exact absurd rfl hp
    have hF : F__law_same (n + 1) = runB 3 (b__law_same (F__law_same n)) := rfl
    rw [hF]
    have loop := same_loop (n := n) (F__law_same n)
    generalize F__law_same n = F at *
    refine run_rt (ρ' := [some v, some v, none]) ?_
    show b__law_same F [some v, some v, none] = _
    cases v with
    | non => simp [b__law_same, gIsN]
    | bl b => simp [b__law_same, gIsN, gIsi, tyP, isTy, gTru, gEqD_bl]
    | int i => simp [b__law_same, gIsN, gIsi, tyP, isTy, gTru, gEqD_int]
    | str s => simp [b__law_same, gIsN, gIsi, tyP, isTy, gTru, gEqD_str (show PySem.PyData.strOk s = true by simpa [okS] using h)]
    | tup xs =>
      rw [okS, Bool.and_eq_true, decide_eq_true_eq] at h
      have := loop xs (.tup xs) h.1 (fun i hi => IH _ (okSs_get h.2 (List.getElem?_eq_getElem hi))) (fun i v e => by
        have hlt := (List.getElem?_eq_some_iff.mp e).1
        unfold gIxAll orG gIxT
        simp only [L2.atI, L2.ixN]
        rw [if_pos (by omega), if_pos (by omega)]
        simp [e]) (by simp [gLenAll, orL, gLen])
      simp [b__law_same, gIsN, gIsi, tyP, isTy, gTru, -zsPM51_ap_andV, this]
    | lst xs =>
      rw [okS, Bool.and_eq_true, decide_eq_true_eq] at h
      have := loop xs (.lst xs) h.1 (fun i hi => IH _ (okSs_get h.2 (List.getElem?_eq_getElem hi))) (fun i v e => gIx_at e) (by simp [gLenAll, orL, gLen])
      simp [b__law_same, gIsN, gIsi, tyP, isTy, gTru, -zsPM51_ap_andV, this]
    | dct _ => simp [okS] at h
    | dit _ => simp [okS] at h
    | obj _ _ => simp [okS] at h
end
end Lau
end PT

set_option Elab.async false
set_option linter.all false
set_option autoImplicit false
set_option maxRecDepth 100000
set_option maxHeartbeats 4000000
/-! PQ1: Laurent polynomials as a commutative ring; bounds. -/
namespace PT
namespace Lau
open PySem PT

def padd (p q : Poly) : Poly := norm (p ++ q)
def pmul (p q : Poly) : Poly := norm (mulT p q)
theorem cf_padd (p q : Poly) (e : Int) : cf (padd p q) e = cf p e + cf q e := by rw [padd, cf_norm, cf_append]
theorem cf_pmul (p q : Poly) (e : Int) : cf (pmul p q) e = cf (mulT p q) e := by rw [pmul, cf_norm]

def LP := { p : Poly // Canon p }
namespace LP
def c (p : LP) (e : Int) : Int := cf p.1 e
theorem ext {p q : LP} (h : ∀ e, p.c e = q.c e) : p = q := Subtype.ext (canon_ext p.2 q.2 h)
def of (p : Poly) : LP := ⟨norm p, canon_norm p⟩
theorem c_of (p : Poly) (e : Int) : (of p).c e = cf p e := cf_norm e p
theorem of_val (p : LP) : of p.1 = p := Subtype.ext (norm_of_canon p.2)
theorem of_congr {p q : Poly} (h : ∀ e, cf p e = cf q e) : of p = of q := ext fun e => by rw [c_of, c_of, h]
instance : Add LP := ⟨fun p q => of (p.1 ++ q.1)⟩
instance : Mul LP := ⟨fun p q => of (mulT p.1 q.1)⟩
instance : Neg LP := ⟨fun p => of (sclT (-1) p.1)⟩
instance : _root_.Sub LP := ⟨fun p q => p + -q⟩
def cst (n : Int) : LP := of [(0, n)]
instance : NatCast LP := ⟨fun n => cst n⟩
instance : IntCast LP := ⟨fun n => cst n⟩
instance instOfNat (n : Nat) : OfNat LP n := ⟨cst n⟩
instance : SMul Nat LP := ⟨fun n p => cst n * p⟩
instance : SMul Int LP := ⟨fun n p => cst n * p⟩
def pow (p : LP) : Nat → LP
  | 0 => 1
  | n + 1 => pow p n * p
instance : HPow LP Nat LP := ⟨pow⟩
theorem c_add (p q : LP) (e : Int) : (p + q).c e = p.c e + q.c e := by
  show (of (p.1 ++ q.1)).c e = _
  rw [c_of, cf_append]; rfl
theorem c_mul (p q : LP) (e : Int) : (p * q).c e = cf (mulT p.1 q.1) e := c_of _ _
theorem c_neg (p : LP) (e : Int) : (-p).c e = - p.c e := by
  show (of (sclT (-1) p.1)).c e = _
  rw [c_of, cf_scl]; show cf p.1 e * -1 = - cf p.1 e; omega
theorem c_sub (p q : LP) (e : Int) : (p - q).c e = p.c e - q.c e := by
  show (p + -q).c e = _
  rw [c_add, c_neg]; omega
theorem c_cst (n e : Int) : (cst n).c e = if e = 0 then n else 0 := by
  unfold cst
  rw [c_of]; simp [eq_comm]
theorem mulT_of_l (p q : Poly) (e : Int) : cf (mulT (of p).1 q) e = cf (mulT p q) e := mul_congr (fun e => cf_norm e p) (fun e => rfl) e
theorem mulT_of_r (p q : Poly) (e : Int) : cf (mulT p (of q).1) e = cf (mulT p q) e := mul_congr (fun e => rfl) (fun e => cf_norm e q) e
theorem of_mul (p q : Poly) : of (mulT p q) = of p * of q := ext fun e => by rw [c_of, c_mul, mulT_of_l, mulT_of_r]
theorem of_add (p q : Poly) : of (p ++ q) = of p + of q := ext fun e => by rw [c_of, c_add, c_of, c_of, cf_append]
theorem mul_assoc' (p q r : LP) : p * q * r = p * (q * r) := ext fun e => by
  rw [c_mul, c_mul]
  show cf (mulT (of (mulT p.1 q.1)).1 r.1) e = cf (mulT p.1 (of (mulT q.1 r.1)).1) e
  rw [mulT_of_l, mulT_of_r, mul_assoc]
theorem mul_comm' (p q : LP) : p * q = q * p := ext fun e => by rw [c_mul, c_mul, Lau.mul_comm]
theorem add_comm' (p q : LP) : p + q = q + p := ext fun e => by rw [c_add, c_add]; omega
theorem left_distrib' (p q r : LP) : p * (q + r) = p * q + p * r := ext fun e => by
  rw [c_mul, c_add, c_mul, c_mul]
  show cf (mulT p.1 (of (q.1 ++ r.1)).1) e = _
  rw [mulT_of_r, mul_add_r]
theorem cf_cst_mul (n : Int) (p : Poly) (e : Int) : cf (mulT p [(0, n)]) e = cf p e * n := by
  induction p with
  | nil => simp [mulT]
  | cons t p ih =>
    unfold mulT at ih ⊢
    rw [List.flatMap_cons, cf_append, ih, cf_cons]
    simp only [List.map_cons, List.map_nil, cf_cons, cf_nil, Int.add_zero]
    split
    · rw [Int.add_mul]
    · simp
theorem c_mul_cst (n : Int) (p : LP) (e : Int) : (p * cst n).c e = p.c e * n := by
  rw [c_mul]
  show cf (mulT p.1 (of [(0, n)]).1) e = _
  rw [mulT_of_r, cf_cst_mul]; rfl
theorem c_cst_mul (n : Int) (p : LP) (e : Int) : (cst n * p).c e = n * p.c e := by rw [mul_comm', c_mul_cst, Int.mul_comm]
theorem add_cst (m n : Int) : cst (m + n) = cst m + cst n := ext fun e => by
  rw [c_add, c_cst, c_cst, c_cst]; split <;> omega
theorem neg_cst (n : Int) : cst (-n) = - cst n := ext fun e => by
  rw [c_neg, c_cst, c_cst]; split <;> omega
theorem mul_cst (m n : Int) : cst (m * n) = cst m * cst n := ext fun e => by
  rw [c_mul_cst, c_cst, c_cst]; split <;> simp
instance : Lean.Grind.Semiring LP where
  nsmul := inferInstance
  npow := inferInstance
  natCast := inferInstance
  ofNat := instOfNat
  add_zero p := ext fun e => by
    rw [c_add]; show _ + (cst ((0 : Nat) : Int)).c e = _
    rw [c_cst]; split <;> omega
  add_comm := add_comm'
  add_assoc p q r := ext fun e => by rw [c_add, c_add, c_add, c_add]; omega
  mul_assoc := mul_assoc'
  mul_one p := ext fun e => by show (p * cst ((1 : Nat) : Int)).c e = _; rw [c_mul_cst]; omega
  one_mul p := ext fun e => by show (cst ((1 : Nat) : Int) * p).c e = _; rw [c_cst_mul]; omega
  left_distrib := left_distrib'
  right_distrib p q r := by rw [mul_comm', left_distrib', mul_comm' r p, mul_comm' r q]
  zero_mul p := ext fun e => by
    show (cst ((0 : Nat) : Int) * p).c e = (cst ((0 : Nat) : Int)).c e
    rw [c_cst_mul, c_cst]; split <;> simp
  mul_zero p := ext fun e => by
    show (p * cst ((0 : Nat) : Int)).c e = (cst ((0 : Nat) : Int)).c e
    rw [c_mul_cst, c_cst]; split <;> simp
  pow_zero p := rfl
  pow_succ p n := rfl
  ofNat_succ n := by show cst ((n + 1 : Nat) : Int) = cst (n : Int) + cst ((1 : Nat) : Int); rw [← add_cst]; rfl
instance : Lean.Grind.Ring LP where
  neg_add_cancel p := ext fun e => by
    show (-p + p).c e = (cst ((0 : Nat) : Int)).c e
    rw [c_add, c_neg, c_cst]; split <;> omega
  sub_eq_add_neg p q := rfl
  zsmul := inferInstance
  neg_zsmul i p := ext fun e => by
    show (cst (-i) * p).c e = (-(cst i * p)).c e
    rw [c_cst_mul, c_neg, c_cst_mul, Int.neg_mul]
  intCast_neg i := neg_cst i
instance : Lean.Grind.CommRing LP where
  mul_comm := mul_comm'
example (a b c : LP) : (a + b) * c - a * c = c * b := by grind
/-- the unknown to a power -/
def X (k : Int) : LP := of [(k, 1)]
theorem X_add (j k : Int) : X (j + k) = X j * X k := by
  unfold X
  rw [← of_mul]
  simp [mulT]
theorem X_zero : X 0 = 1 := rfl
theorem of_cons (t : Int × Int) (p : Poly) : of (t :: p) = cst t.2 * X t.1 + of p := ext fun e => by
  rw [c_of, c_add, c_cst_mul, c_of, X, c_of]; simp only [cf_cons, cf_nil]; split <;> simp
theorem of_nil : of [] = 0 := ext fun e => by rw [c_of]; show 0 = (cst ((0 : Nat) : Int)).c e; rw [c_cst]; simp
theorem zero_val : (0 : LP).1 = [] := by
  have : (0 : LP) = ⟨[], Canon.nil⟩ := ext fun e => by
    show (cst ((0 : Nat) : Int)).c e = cf [] e
    rw [c_cst]; simp
  rw [this]
theorem one_val : (1 : LP).1 = [(0, 1)] := by
  have : (1 : LP) = ⟨[(0, 1)], ⟨by simp, by simp⟩⟩ := ext fun e => by
    show (cst ((1 : Nat) : Int)).c e = cf [(0, 1)] e
    rw [c_cst]; simp [eq_comm]
  rw [this]
theorem eq_zero_iff {p : LP} : p = 0 ↔ p.1 = [] := ⟨fun h => by rw [h, zero_val], fun h => Subtype.ext (by rw [h, zero_val])⟩
end LP

/-! ### bounds -/
def n1 : Poly → Nat
  | [] => 0
  | t :: p => t.2.natAbs + n1 p
theorem n1_append (p q : Poly) : n1 (p ++ q) = n1 p + n1 q := by
  induction p with
  | nil => simp [n1]
  | cons t p ih => simp [n1, ih]; omega
theorem n1_insT (e c : Int) : ∀ q : Poly, n1 (insT e c q) ≤ c.natAbs + n1 q
  | [] => by unfold insT; split <;> simp [n1]
  | (f, d) :: q => by
    have ih := n1_insT e c q
    unfold insT
    repeat' split
    all_goals simp only [n1] <;> omega
theorem n1_norm : ∀ p : Poly, n1 (norm p) ≤ n1 p
  | [] => Nat.le_refl _
  | t :: p => by
    have h1 := n1_norm p
    have h2 := n1_insT t.1 t.2 (norm p)
    show n1 (insT t.1 t.2 (norm p)) ≤ t.2.natAbs + n1 p
    omega
theorem n1_map (t : Int × Int) (q : Poly) : n1 (q.map fun u => (t.1 + u.1, t.2 * u.2)) = t.2.natAbs * n1 q := by
  induction q with
  | nil => simp [n1]
  | cons u q ih => simp only [List.map_cons, n1, ih, Int.natAbs_mul, Nat.mul_add]
theorem n1_mul (p q : Poly) : n1 (mulT p q) = n1 p * n1 q := by
  induction p with
  | nil => simp [mulT, n1]
  | cons t p ih =>
    unfold mulT at ih ⊢
    rw [List.flatMap_cons, n1_append, ih, n1_map, n1, Nat.add_mul]
theorem n1_mem {p : Poly} {t : Int × Int} (h : t ∈ p) : t.2.natAbs ≤ n1 p := by
  induction p with
  | nil => simp at h
  | cons u p ih =>
    rcases List.mem_cons.mp h with rfl | h
    · simp only [n1]; omega
    · have := ih h; simp only [n1]; omega
theorem wide_of {p : Poly} {N : Nat} (h : n1 p ≤ N) (hN : N < 2 ^ 4096) : WideP p := fun t ht => by
  have h1 := n1_mem ht
  unfold wideI
  refine decide_eq_true ?_
  by_cases h0 : t.2.natAbs = 0
  · rw [h0]; decide
  · exact (Nat.log2_lt h0).mpr (by omega)
def Ex (L : Nat) (p : Poly) : Prop := ∀ t ∈ p, t.1.natAbs ≤ L
def exS (L : Nat) : List Int := (List.range (2 * L + 1)).map fun (i : Nat) => (i : Int) - L
theorem exS_len (L : Nat) : (exS L).length = 2 * L + 1 := by simp [exS]
theorem mem_exS {L : Nat} {e : Int} (h : e.natAbs ≤ L) : e ∈ exS L := by
  unfold exS
  refine List.mem_map.mpr ⟨(e + L).toNat, by simp; omega, by omega⟩
theorem Ex.keys {L : Nat} {p : Poly} (h : Ex L p) : Keys (exS L) p := fun t ht => mem_exS (h t ht)
theorem Ex.norm {L : Nat} {p : Poly} (h : Ex L p) : Ex L (norm p) := fun t ht => by
  have := norm_keys h.keys t ht
  unfold exS at this
  obtain ⟨i, hi, e⟩ := List.mem_map.mp this
  simp at hi
  omega
theorem Ex.mono {L M : Nat} {p : Poly} (h : Ex L p) (l : L ≤ M) : Ex M p := fun t ht => Nat.le_trans (h t ht) l
theorem Ex.append {L : Nat} {p q : Poly} (h : Ex L p) (h' : Ex L q) : Ex L (p ++ q) := fun t ht => by
  rcases List.mem_append.mp ht with h1 | h1
  · exact h t h1
  · exact h' t h1
theorem Ex.mul {L M : Nat} {p q : Poly} (h : Ex L p) (h' : Ex M q) : Ex (L + M) (mulT p q) := fun t ht => by
  unfold mulT at ht
  obtain ⟨u, hu, ht⟩ := List.mem_flatMap.mp ht
  obtain ⟨v, hv, rfl⟩ := List.mem_map.mp ht
  have h1 := h u hu
  have h2 := h' v hv
  show (u.1 + v.1).natAbs ≤ _
  omega
/-- exponents at most L, numbers together at most N -/
structure PB (L N : Nat) (p : LP) : Prop where
  ex : Ex L p.1
  n : n1 p.1 ≤ N
theorem PB.len {L N : Nat} {p : LP} (h : PB L N p) : p.1.length ≤ 2 * L + 1 := by
  have := len_of_keys h.ex.keys p.2.nodup
  rw [exS_len] at this
  exact this
theorem PB.mono {L N L' N' : Nat} {p : LP} (h : PB L N p) (l : L ≤ L') (n : N ≤ N') : PB L' N' p := ⟨h.ex.mono l, Nat.le_trans h.n n⟩
theorem PB.add {L N M : Nat} {p q : LP} (h : PB L N p) (h' : PB L M q) : PB L (N + M) (p + q) := ⟨(h.ex.append h'.ex).norm, by
  have := n1_norm (p.1 ++ q.1)
  rw [n1_append] at this
  have h1 := h.n
  have h2 := h'.n
  show n1 (norm (p.1 ++ q.1)) ≤ _
  omega⟩
theorem PB.mul {L N L' M : Nat} {p q : LP} (h : PB L N p) (h' : PB L' M q) : PB (L + L') (N * M) (p * q) := ⟨(h.ex.mul h'.ex).norm, by
  have := n1_norm (mulT p.1 q.1)
  rw [n1_mul] at this
  exact Nat.le_trans this (Nat.mul_le_mul h.n h'.n)⟩
theorem PB.zero {L N : Nat} : PB L N 0 := ⟨by rw [LP.zero_val]; intro t ht; simp at ht, by rw [LP.zero_val]; simp [n1]⟩
theorem PB.one : PB 0 1 1 := ⟨by rw [LP.one_val]; intro t ht; simp at ht; subst ht; simp, by rw [LP.one_val]; simp [n1]⟩
theorem PB.pow {L N : Nat} {p : LP} (h : PB L N p) : ∀ k : Nat, PB (k * L) (N ^ k) (p ^ k)
  | 0 => by
    show PB (0 * L) 1 (1 : LP)
    rw [Nat.zero_mul]
    exact PB.one
  | k + 1 => by
    have := (PB.pow h k).mul h
    rw [Nat.succ_mul, Nat.pow_succ]
    exact this

/-! ### the printed functions, over the ring -/
def encL (p : LP) : PV := encP p.1
theorem F_plus_L {L N M : Nat} {p q : LP} (h : PB L N p) (h' : PB L M q) (hL : L ≤ 200000) : F_plus [encL p, encL q] = some (encL (p + q)) := F_plus_eq (by have := h.len; have := h'.len; omega)
theorem F_times_L {L N L' M : Nat} {p q : LP} (h : PB L N p) (h' : PB L' M q) (hL : L ≤ 400) (hL' : L' ≤ 400) (hN : N < 2 ^ 200) (hM : M < 2 ^ 200) : F_times [encL p, encL q] = some (encL (p * q)) :=
  F_times_eq (by
    have h1 := h.len
    have h2 := h'.len
    have : p.1.length * q.1.length ≤ 801 * 801 := Nat.mul_le_mul (by omega) (by omega)
    omega) (wide_of h.n (Nat.lt_trans hN (Nat.pow_lt_pow_right (by decide) (by decide)))) (wide_of h'.n (Nat.lt_trans hM (Nat.pow_lt_pow_right (by decide) (by decide))))
theorem F__law_plus_L {L N M : Nat} {p q : LP} (h : PB L N p) (h' : PB L M q) (hL : L ≤ 31) : F__law_plus [encL p, encL q] = some (encL (p + q)) :=
  F__law_plus_eq (S := exS L) p.2.nodup (by rw [exS_len]; omega) h.ex.keys h'.ex.keys (by have := h'.len; omega)
theorem F__law_times_L {L N L' M : Nat} {p q : LP} (h : PB L N p) (h' : PB L' M q) (hL : L + L' ≤ 31) (hN : N < 2 ^ 200) (hM : M < 2 ^ 200) : F__law_times [encL p, encL q] = some (encL (p * q)) :=
  F__law_times_eq (S := exS (L + L')) (by rw [exS_len]; omega) (h.ex.mul h'.ex).keys (by have := h'.len; omega)
    (wide_of h.n (Nat.lt_trans hN (Nat.pow_lt_pow_right (by decide) (by decide)))) (wide_of h'.n (Nat.lt_trans hM (Nat.pow_lt_pow_right (by decide) (by decide))))
end Lau
end PT

set_option Elab.async false
set_option linter.all false
set_option autoImplicit false
set_option maxRecDepth 100000
set_option maxHeartbeats 4000000
/-! PW: what a printed statement leads to, rule by rule. -/
namespace PT
open PySem

def Go (f : SF) (ρ : Env) (Q : Fl → Env → Prop) : Prop := ∃ fl ρ', f ρ = some (fl, ρ') ∧ Q fl ρ'
section
variable {f g : SF} {ρ ρ1 : Env} {Q : Fl → Env → Prop} {e e2 : EF} {x y : PV} {i j : Nat} {c : TF}
theorem Go.mono {Q' : Fl → Env → Prop} (h : Go f ρ Q) (k : ∀ fl ρ', Q fl ρ' → Q' fl ρ') : Go f ρ Q' := let ⟨fl, ρ', a, b⟩ := h; ⟨fl, ρ', a, k _ _ b⟩
theorem go_run {n : Nat} {b : SF} {args : List PV} {v : PV} (h : Go b (startP n args) fun fl _ => outF fl = some v) : runB n b args = some v := by
  obtain ⟨fl, ρ', a, k⟩ := h
  unfold runB; rw [a]; exact k
theorem go_nx (h : Q .nx ρ) : Go fNx ρ Q := ⟨_, _, rfl, h⟩
theorem go_seq (h : Go f ρ fun fl ρ' => match fl with | .nx => Go g ρ' Q | fl => Q fl ρ') : Go (fSeq f g) ρ Q := by
  obtain ⟨fl, ρ', a, k⟩ := h
  cases fl with
  | nx => obtain ⟨fl2, ρ2, b, k2⟩ := k; exact ⟨fl2, ρ2, by unfold fSeq; rw [a]; exact b, k2⟩
  | bk => exact ⟨_, _, by unfold fSeq; rw [a]; rfl, k⟩
  | ct => exact ⟨_, _, by unfold fSeq; rw [a]; rfl, k⟩
  | rt v => exact ⟨_, _, by unfold fSeq; rw [a]; rfl, k⟩
theorem go_ret (h : e ρ = some (x, ρ1)) (k : Q (.rt x) ρ1) : Go (fRet e) ρ Q := ⟨_, _, by unfold fRet; rw [h]; rfl, k⟩
theorem go_drop (h : e ρ = some (x, ρ1)) (k : Q .nx ρ1) : Go (fDrop e) ρ Q := ⟨_, _, by unfold fDrop; rw [h]; rfl, k⟩
theorem go_set (h : e ρ = some (x, ρ1)) (k : Q .nx (ρ1.set i (some x))) : Go (fSet i e) ρ Q := ⟨_, _, by unfold fSet; rw [h]; rfl, k⟩
theorem go_par (h : e ρ = some (x, ρ1)) {ρ2 : Env} (h2 : e2 ρ1 = some (y, ρ2)) (k : Q .nx ((ρ2.set i (some x)).set j (some y))) : Go (fPar i j e e2) ρ Q := ⟨_, _, by unfold fPar; rw [h]; simp only [Option.bind_some, h2], k⟩
theorem go_asg {t : PV → Env → Option Env} (h : e ρ = some (x, ρ1)) {ρ2 : Env} (h2 : t x ρ1 = some ρ2) (k : Q .nx ρ2) : Go (fAsg e t) ρ Q := ⟨_, _, by unfold fAsg; rw [h]; simp only [Option.bind_some, h2, Option.map_some], k⟩
theorem go_aug {G : G2} {p v : PV} (h0 : look ρ i = some p) (h : e ρ = some (x, ρ1)) (h2 : G p x = some v) (k : Q .nx (ρ1.set i (some v))) : Go (fAug i G e) ρ Q := ⟨_, _, by unfold fAug; rw [h0]; simp only [Option.bind_some, h, h2, Option.map_some], k⟩
theorem go_if_t (h : c ρ = some (true, ρ1)) (k : Go f ρ1 Q) : Go (fIf c f g) ρ Q := let ⟨fl, ρ', a, b⟩ := k; ⟨fl, ρ', by unfold fIf; rw [h]; exact a, b⟩
theorem go_if_f (h : c ρ = some (false, ρ1)) (k : Go g ρ1 Q) : Go (fIf c f g) ρ Q := let ⟨fl, ρ', a, b⟩ := k; ⟨fl, ρ', by unfold fIf; rw [h]; exact a, b⟩
theorem go_if {b : Bool} (h : c ρ = some (b, ρ1)) (k : b = true → Go f ρ1 Q) (k2 : b = false → Go g ρ1 Q) : Go (fIf c f g) ρ Q := by
  cases b with
  | true => exact go_if_t h (k rfl)
  | false => exact go_if_f h (k2 rfl)
theorem go_bk (k : Q .bk ρ) : Go (fun ρ => some (.bk, ρ)) ρ Q := ⟨_, _, rfl, k⟩
theorem go_ct (k : Q .ct ρ) : Go (fun ρ => some (.ct, ρ)) ρ Q := ⟨_, _, rfl, k⟩
end
/-- a loop without break or return, by a relation -/
theorem go_for {α σ : Type} {its : AF} {t : PV → Env → Option Env} {body : SF} {ρ ρ0 : Env} {Q : Fl → Env → Prop} {l : List PV} (enc : α → PV) (I : σ → Env → Prop) (step : σ → α → σ) (xs : List α) (s0 : σ)
    (hi : its ρ = some (l, ρ0)) (hl : l = xs.map enc) (h0 : I s0 ρ0)
    (hs : ∀ s a ρ, a ∈ xs → I s ρ → ∃ ρ1, t (enc a) ρ = some ρ1 ∧ Go body ρ1 fun fl ρ' => (fl = .nx ∨ fl = .ct) ∧ I (step s a) ρ') (k : ∀ ρ', I (xs.foldl step s0) ρ' → Q .nx ρ') : Go (fFor its t body) ρ Q := by
  subst hl
  obtain ⟨ρ', e, j⟩ := loop_invM (t := t) (body := body) enc I step xs s0 ρ0 (fun s a ρ m i => by
    obtain ⟨ρ1, h1, fl, ρ2, h2, h3, h4⟩ := hs s a ρ m i
    refine ⟨ρ1, ρ2, h1, ?_, h4⟩
    rcases h3 with rfl | rfl
    · exact .inl h2
    · exact .inr h2) h0
  exact ⟨_, _, for_of hi e, k _ j⟩
/-- .. by places, the state told by the number of turns -/
theorem go_forN {its : AF} {t : PV → Env → Option Env} {body : SF} {ρ ρ0 : Env} {Q : Fl → Env → Prop} {l : List PV} (I : Nat → Env → Prop)
    (hi : its ρ = some (l, ρ0)) (h0 : I 0 ρ0)
    (hs : ∀ (i : Nat) p ρ, l[i]? = some p → I i ρ → ∃ ρ1, t p ρ = some ρ1 ∧ Go body ρ1 fun fl ρ' => (fl = .nx ∨ fl = .ct) ∧ I (i + 1) ρ') (k : ∀ ρ', I l.length ρ' → Q .nx ρ') : Go (fFor its t body) ρ Q := by
  obtain ⟨ρ', e, j⟩ := loop_at (t := t) (body := body) I l 0 ρ0 h0 (fun i p ρ m ii => by
    rw [Nat.zero_add] at ii ⊢
    obtain ⟨ρ1, h1, fl, ρ2, h2, h3, h4⟩ := hs i p ρ m ii
    refine ⟨ρ1, ρ2, h1, ?_, h4⟩
    rcases h3 with rfl | rfl
    · exact .inl h2
    · exact .inr h2)
  rw [Nat.zero_add] at j
  exact ⟨_, _, for_of hi e, k _ j⟩
/-- a loop that may return or break: item by item -/
theorem go_forR {its : AF} {t : PV → Env → Option Env} {body : SF} {ρ ρ0 : Env} {Q : Fl → Env → Prop} {l : List PV} (I : Nat → Env → Prop)
    (hi : its ρ = some (l, ρ0)) (h0 : I 0 ρ0)
    (hs : ∀ (i : Nat) p ρ, l[i]? = some p → I i ρ → ∃ ρ1, t p ρ = some ρ1 ∧ Go body ρ1 fun fl ρ' => match fl with | .nx => I (i + 1) ρ' | .ct => I (i + 1) ρ' | .bk => Q .nx ρ' | .rt v => Q (.rt v) ρ') (k : ∀ ρ', I l.length ρ' → Q .nx ρ') : Go (fFor its t body) ρ Q := by
  have main : ∀ (m : List PV) (i : Nat) (ρ : Env), l = l.take i ++ m → i + m.length = l.length → I i ρ → ∃ fl ρ', loopF t body m ρ = some (fl, ρ') ∧ Q fl ρ' := by
    intro m
    induction m with
    | nil =>
      intro i ρ _ hl hI
      refine ⟨.nx, ρ, rfl, k ρ ?_⟩
      simp at hl
      rw [← hl]; exact hI
    | cons p m ih =>
      intro i ρ hm hl hI
      have hp : l[i]? = some p := by
        rw [hm, List.getElem?_append_right (by simp; omega)]
        have : (l.take i).length = i := by simp at hl ⊢; omega
        rw [this]; simp
      obtain ⟨ρ1, h1, fl, ρ2, h2, h3⟩ := hs i p ρ hp hI
      unfold loopF
      rw [h1]
      simp only [Option.bind_some, h2]
      have hm' : l = l.take (i + 1) ++ m := by
        have : l.drop (i + 1) = m := by
          have e1 : l.drop i = p :: m := by
            conv => lhs; rw [hm]
            have : (l.take i).length = i := by simp at hl ⊢; omega
            rw [List.drop_append, this, List.drop_eq_nil_of_le (by omega)]; simp
          rw [← List.drop_drop, e1]; rfl
        rw [← this, List.take_append_drop]
      have hl' : i + 1 + m.length = l.length := by simp at hl; omega
      cases fl with
      | nx => exact ih (i + 1) ρ2 hm' hl' h3
      | ct => exact ih (i + 1) ρ2 hm' hl' h3
      | bk => exact ⟨_, _, rfl, h3⟩
      | rt v => exact ⟨_, _, rfl, h3⟩
  obtain ⟨fl, ρ', e, q⟩ := main l 0 ρ0 (by simp) (by simp) h0
  exact ⟨fl, ρ', for_of hi e, q⟩
/-- while: a relation and a measure -/
theorem go_while {c : TF} {body : SF} {n : Nat} {ρ : Env} {Q : Fl → Env → Prop} (I : Nat → Env → Prop) (m0 : Nat) (hm : m0 < n) (h0 : I m0 ρ)
    (hs : ∀ m ρ, I m ρ → ∃ b ρ1, c ρ = some (b, ρ1) ∧ (b = false → Q .nx ρ1) ∧ (b = true → Go body ρ1 fun fl ρ' => match fl with | .nx => ∃ m', m' < m ∧ I m' ρ' | .ct => ∃ m', m' < m ∧ I m' ρ' | .bk => Q .nx ρ' | .rt v => Q (.rt v) ρ')) : Go (fWhile c body n) ρ Q := by
  induction n generalizing m0 ρ with
  | zero => omega
  | succ n ih =>
    obtain ⟨b, ρ1, h1, h2, h3⟩ := hs m0 ρ h0
    cases b with
    | false => exact ⟨.nx, ρ1, by unfold fWhile; rw [h1]; rfl, h2 rfl⟩
    | true =>
      obtain ⟨fl, ρ', h4, h5⟩ := h3 rfl
      cases fl with
      | nx =>
        obtain ⟨m', lt, i'⟩ := h5
        obtain ⟨fl2, ρ2, e2, q2⟩ := ih m' (by omega) i'
        exact ⟨fl2, ρ2, by unfold fWhile; rw [h1]; simp only [Option.bind_some, if_true, h4]; exact e2, q2⟩
      | ct =>
        obtain ⟨m', lt, i'⟩ := h5
        obtain ⟨fl2, ρ2, e2, q2⟩ := ih m' (by omega) i'
        exact ⟨fl2, ρ2, by unfold fWhile; rw [h1]; simp only [Option.bind_some, if_true, h4]; exact e2, q2⟩
      | bk => exact ⟨.nx, ρ', by unfold fWhile; rw [h1]; simp only [Option.bind_some, if_true, h4], h5⟩
      | rt v => exact ⟨.rt v, ρ', by unfold fWhile; rw [h1]; simp only [Option.bind_some, if_true, h4], h5⟩
/-- a dict comprehension whose parts leave the slots as they were -/
theorem dc_map {α : Type} (enc : α → PV) (keep : α → Bool) (key val : α → PV) {gs : GS} {vs : List Nat} {t : PV → Env → Option Env} {ft : TF} {fk fe : EF} {ρ : Env} (put : PV → α → PV) :
    ∀ (xs : List α) (acc : PV), (∀ a ∈ xs, ∃ ρ1, t (enc a) (wipeP ρ vs) = some ρ1 ∧ ft ρ1 = some (keep a, ρ1) ∧ (keep a = true → fk ρ1 = some (key a, ρ1) ∧ fe ρ1 = some (val a, ρ1)) ∧ backP ρ vs ρ1 = ρ) →
    (∀ (ys : List α) a zs, xs.filter keep = ys ++ a :: zs → gs (ys.foldl put acc) (key a) (val a) = some (put (ys.foldl put acc) a)) →
    dcLoop gs vs t ft fk fe (xs.map enc) ρ acc = some ((xs.filter keep).foldl put acc, ρ)
  | [], acc, h, _ => by simp [dcLoop]
  | x :: xs, acc, h, hp => by
    obtain ⟨ρ1, h1, h2, h3, h4⟩ := h x (by simp)
    rw [List.map_cons]
    unfold dcLoop
    rw [h1]
    simp only [Option.bind_some, h2]
    cases hk : keep x with
    | true =>
      obtain ⟨h5, h6⟩ := h3 hk
      have h7 := hp [] x (xs.filter keep) (by simp [hk])
      simp only [List.foldl_nil] at h7
      simp only [if_true]
      rw [h5]
      simp only [Option.bind_some]
      rw [h6]
      simp only [Option.bind_some, h7, h4]
      rw [dc_map enc keep key val put xs _ (fun a m => h a (List.mem_cons_of_mem _ m)) (fun ys a zs e => by
        have := hp (x :: ys) a zs (by simp [hk, e])
        simpa using this)]
      simp [hk]
    | false =>
      simp only [Bool.false_eq_true, if_false, h4]
      rw [dc_map enc keep key val put xs _ (fun a m => h a (List.mem_cons_of_mem _ m)) (fun ys a zs e => hp ys a zs (by simp [hk, e]))]
      simp [hk]
end PT

set_option Elab.async false
set_option linter.all false
set_option autoImplicit false
set_option maxRecDepth 100000
set_option maxHeartbeats 4000000
/-! PQ2: dicts with tuple keys as lists of pairs; sums over keys. -/
namespace PT
open PySem PT.Lau

structure KEnc {G : Type} [DecidableEq G] (eg : G → PV) : Prop where
  eq : ∀ a b, eqT (eg a) (eg b) = decide (a = b)
  key : ∀ a, isTKey (eg a) = true
section
variable {G R : Type} [DecidableEq G] (eg : G → PV) (er : R → PV)
def encK' (x : G × R) : PV × PV := (eg x.1, er x.2)
def encS (s : List (G × R)) : List (PV × PV) := s.map (encK' eg er)
def lookS (s : List (G × R)) (g : G) : Option R := (s.find? fun x => decide (x.1 = g)).map (·.2)
def putS (s : List (G × R)) (g : G) (r : R) : List (G × R) := if (s.any fun x => decide (x.1 = g)) = true then s.map (fun x => if x.1 = g then (x.1, r) else x) else s ++ [(g, r)]
def dropS (s : List (G × R)) (g : G) : List (G × R) := s.filter fun x => !decide (x.1 = g)
def keysS (s : List (G × R)) : List G := s.map (·.1)
variable {eg er}
variable {s : List (G × R)} {g h : G} {r : R}
theorem any_enc (k : KEnc eg) (s : List (G × R)) (g : G) : ((encS eg er s).any fun kv => eqT kv.1 (eg g)) = s.any fun x => decide (x.1 = g) := by
  unfold encS
  rw [List.any_map]
  congr 1
  funext x
  exact k.eq x.1 g
theorem findX_enc (k : KEnc eg) (s : List (G × R)) (g : G) : findX (encS eg er s) (eg g) = (lookS s g).map er := by
  induction s with
  | nil => rfl
  | cons x s ih =>
    unfold findX lookS encS at ih ⊢
    rw [List.map_cons]
    by_cases e : x.1 = g
    · rw [List.find?_cons_of_pos (by simp [encK', k.eq, e]), List.find?_cons_of_pos (by simp [e])]; rfl
    · rw [List.find?_cons_of_neg (by simp [encK', k.eq, e]), List.find?_cons_of_neg (by simp [e])]; exact ih
theorem putX_enc (k : KEnc eg) (s : List (G × R)) (g : G) (r : R) : putX (encS eg er s) (eg g) (er r) = encS eg er (putS s g r) := by
  unfold putX putS
  rw [any_enc k]
  split
  · unfold encS
    rw [List.map_map, List.map_map]
    refine List.map_congr_left fun x _ => ?_
    simp only [Function.comp, encK', k.eq]
    by_cases e : x.1 = g
    · simp [e]
    · simp [e]
  · simp [encS, encK']
theorem dropX_enc (k : KEnc eg) (s : List (G × R)) (g : G) : dropX (encS eg er s) (eg g) = encS eg er (dropS s g) := by
  unfold dropX dropS encS
  rw [List.filter_map]
  congr 1
  refine List.filter_congr fun x _ => ?_
  simp [Function.comp, encK', k.eq]
theorem gGetX_enc (k : KEnc eg) (s : List (G × R)) (g : G) (d : R) : gGetX (.dit (encS eg er s)) [eg g, er d] = some (er ((lookS s g).getD d)) := by
  unfold gGetX
  simp only [k.key, if_true, findX_enc k]
  cases lookS s g <;> rfl
theorem gIxX_enc (k : KEnc eg) (h : lookS s g = some r) : gIxX (.dit (encS eg er s)) (eg g) = some (er r) := by
  unfold gIxX
  simp only [k.key, if_true, findX_enc k, h]; rfl
theorem gInX_enc (k : KEnc eg) (s : List (G × R)) (g : G) : gInX (eg g) (.dit (encS eg er s)) = some (.bl (lookS s g).isSome) := by
  unfold gInX
  simp only [k.key, if_true, findX_enc k, Option.isSome_map]
theorem gNotInX_enc (k : KEnc eg) (s : List (G × R)) (g : G) : gNotInX (eg g) (.dit (encS eg er s)) = some (.bl (!(lookS s g).isSome)) := by
  unfold gNotInX
  simp only [k.key, if_true, findX_enc k, Option.isSome_map]
theorem gSetX_enc (k : KEnc eg) (hl : s.length < 1000000) : gSetX (.dit (encS eg er s)) (eg g) (er r) = some (.dit (encS eg er (putS s g r))) := by
  have e : (encS eg er s).length = s.length := by simp [encS]
  unfold gSetX
  simp only [k.key, e, hl, decide_true, Bool.and_self, if_true, putX_enc k]
theorem lookS_nil : lookS ([] : List (G × R)) g = none := rfl
theorem lookS_cons (x : G × R) (s : List (G × R)) (g : G) : lookS (x :: s) g = if x.1 = g then some x.2 else lookS s g := by
  unfold lookS
  by_cases e : x.1 = g
  · rw [List.find?_cons_of_pos (by simp [e]), if_pos e]; rfl
  · rw [List.find?_cons_of_neg (by simp [e]), if_neg e]
theorem lookS_some_mem (h : lookS s g = some r) : (g, r) ∈ s := by
  unfold lookS at h
  obtain ⟨x, hx, rfl⟩ := Option.map_eq_some_iff.mp h
  have h1 := List.find?_some hx
  have h2 := List.mem_of_find?_eq_some hx
  simp at h1
  rw [← h1]; exact h2
theorem lookS_of_mem (hn : (keysS s).Nodup) (h : (g, r) ∈ s) : lookS s g = some r := by
  induction s with
  | nil => simp at h
  | cons x s ih =>
    rw [lookS_cons]
    unfold keysS at hn ih
    rw [List.map_cons, List.nodup_cons] at hn
    rcases List.mem_cons.mp h with e | h
    · rw [if_pos (by rw [← e])]; rw [← e]
    · have : x.1 ≠ g := fun e => hn.1 (by rw [e]; exact List.mem_map_of_mem (f := (·.1)) h)
      rw [if_neg this]; exact ih hn.2 h
theorem lookS_none : lookS s g = none ↔ g ∉ keysS s := by
  induction s with
  | nil => simp [lookS_nil, keysS]
  | cons x s ih =>
    rw [lookS_cons]
    unfold keysS at ih ⊢
    by_cases e : x.1 = g
    · simp [e]
    · rw [if_neg e, ih]; simp [Ne.symm e]
theorem any_iff : (s.any fun x => decide (x.1 = g)) = true ↔ g ∈ keysS s := by
  unfold keysS; simp
theorem keys_put (s : List (G × R)) (g : G) (r : R) : keysS (putS s g r) = if g ∈ keysS s then keysS s else keysS s ++ [g] := by
  unfold putS
  by_cases h : g ∈ keysS s
  · rw [if_pos (any_iff.mpr h), if_pos h]
    unfold keysS
    rw [List.map_map]
    refine List.map_congr_left fun x _ => ?_
    simp only [Function.comp]
    split <;> rfl
  · rw [if_neg (by rw [any_iff]; exact h), if_neg h]
    simp [keysS]
theorem nodup_put (h : (keysS s).Nodup) (g : G) (r : R) : (keysS (putS s g r)).Nodup := by
  rw [keys_put]
  split
  · exact h
  · rename_i hg
    rw [List.nodup_append]
    exact ⟨h, by simp, fun a ha b hb e => by simp at hb; subst hb; subst e; exact hg ha⟩
theorem map_absent (s : List (G × R)) (g : G) (r : R) (hm : g ∉ keysS s) : (s.map fun x => if x.1 = g then (x.1, r) else x) = s := by
  conv => rhs; rw [← List.map_id s]
  refine List.map_congr_left fun y hy => ?_
  rw [if_neg]; rfl
  intro ey; exact hm (by rw [← ey]; exact List.mem_map_of_mem (f := (·.1)) hy)
theorem look_map (g h : G) (r : R) : ∀ s : List (G × R), g ∈ keysS s → lookS (s.map fun x => if x.1 = g then (x.1, r) else x) h = if h = g then some r else lookS s h
  | [], hg => by simp [keysS] at hg
  | x :: s, hg => by
    rw [List.map_cons, lookS_cons, lookS_cons]
    by_cases e : x.1 = g
    · rw [if_pos e]
      by_cases e2 : h = g
      · rw [if_pos (show x.1 = h from e.trans e2.symm), if_pos e2]
      · rw [if_neg (show ¬ x.1 = h from fun z => e2 (z.symm.trans e)), if_neg e2, if_neg (show ¬ x.1 = h from fun z => e2 (z.symm.trans e))]
        by_cases hm : g ∈ keysS s
        · rw [look_map g h r s hm, if_neg e2]
        · rw [map_absent s g r hm]
    · rw [if_neg e]
      have hm : g ∈ keysS s := by
        unfold keysS at hg ⊢
        rw [List.map_cons] at hg
        exact (List.mem_cons.mp hg).resolve_left (Ne.symm e)
      rw [look_map g h r s hm]
      by_cases e2 : h = g
      · subst e2; rw [if_neg e, if_pos rfl, if_pos rfl]
      · rw [if_neg e2, if_neg e2]
theorem look_snoc (g h : G) (r : R) : ∀ s : List (G × R), lookS s g = none → lookS (s ++ [(g, r)]) h = if h = g then some r else lookS s h
  | [], _ => by rw [List.nil_append, lookS_cons, lookS_nil]; simp [eq_comm]
  | x :: s, hn => by
    rw [lookS_cons] at hn
    rw [List.cons_append, lookS_cons, lookS_cons]
    by_cases e : x.1 = g
    · rw [if_pos e] at hn; cases hn
    · rw [if_neg e] at hn
      rw [look_snoc g h r s hn]
      by_cases e2 : h = g
      · subst e2; rw [if_neg e, if_pos rfl, if_pos rfl]
      · rw [if_neg e2, if_neg e2]
theorem look_put (s : List (G × R)) (g h : G) (r : R) : lookS (putS s g r) h = if h = g then some r else lookS s h := by
  unfold putS
  by_cases hg : g ∈ keysS s
  · rw [if_pos (any_iff.mpr hg), look_map g h r s hg]
  · rw [if_neg (by rw [any_iff]; exact hg), look_snoc g h r s (lookS_none.mpr hg)]
theorem len_put (s : List (G × R)) (g : G) (r : R) : (putS s g r).length ≤ s.length + 1 := by
  unfold putS; split <;> simp
theorem keys_len (s : List (G × R)) : (keysS s).length = s.length := by simp [keysS]
theorem nodup_sub_len' {a b : List G} (hn : a.Nodup) (h : ∀ x ∈ a, x ∈ b) : a.length ≤ b.length := by
  induction a generalizing b with
  | nil => simp
  | cons x a ih =>
    rw [List.nodup_cons] at hn
    have hx := h x (by simp)
    have := ih (b := b.erase x) hn.2 fun y hy => by
      have : y ≠ x := fun e => hn.1 (e ▸ hy)
      exact (List.mem_erase_of_ne this).mpr (h y (by simp [hy]))
    rw [List.length_erase_of_mem hx] at this
    have : 0 < b.length := List.length_pos_of_mem hx
    simp only [List.length_cons]; omega

/-! ### numbers at keys -/
theorem keyP_filter {keep : G × R → Bool} (hn : (keysS s).Nodup) : (keysS (s.filter keep)).Nodup := by
  unfold keysS at hn ⊢
  exact List.Nodup.sublist (List.Sublist.map _ (List.filter_sublist)) hn
/-- the dict comprehension that keeps some of the pairs -/
theorem foldl_put_nil : ∀ (l : List (G × R)) (acc : List (G × R)), (keysS (acc ++ l)).Nodup → l.foldl (fun a x => putS a x.1 x.2) acc = acc ++ l
  | [], acc, _ => by simp
  | x :: l, acc, h => by
    have h1 : x.1 ∉ keysS acc := by
      unfold keysS at h ⊢
      rw [List.map_append, List.map_cons] at h
      intro hm
      exact (List.nodup_append.mp h).2.2 _ hm _ (by simp) rfl
    have e : putS acc x.1 x.2 = acc ++ [x] := by
      unfold putS
      rw [if_neg (by rw [any_iff]; exact h1)]
    rw [List.foldl_cons, e, foldl_put_nil l (acc ++ [x]) (by simpa using h)]
    simp
end

/-! ### values in a ring -/
class RVal (R : Type) extends Lean.Grind.CommRing R where
  enc : R → PV
  ok : ∀ r : R, okD 16 (enc r) = true
  dec : DecidableEq R
instance {R : Type} [RVal R] : DecidableEq R := RVal.dec
section
variable {G R : Type} [DecidableEq G] [RVal R] {eg : G → PV}
open Lean.Grind
def co (s : List (G × R)) (g : G) : R := (lookS s g).getD 0
theorem co_put (s : List (G × R)) (g h : G) (r : R) : co (putS s g r) h = if h = g then r else co s h := by
  unfold co; rw [look_put]; split <;> rfl
theorem co_nil (g : G) : co ([] : List (G × R)) g = 0 := rfl
/-- keys once, numbers not 0 -/
structure SOk (s : List (G × R)) : Prop where
  nd : (keysS s).Nodup
  nz : ∀ x ∈ s, x.2 ≠ 0
theorem SOk.nil : SOk ([] : List (G × R)) := ⟨by simp [keysS], by simp⟩
theorem SOk.look {s : List (G × R)} (h : SOk s) {g : G} : lookS s g = if co s g = 0 then none else some (co s g) := by
  unfold co
  cases e : lookS s g with
  | none => simp
  | some r =>
    have := h.nz _ (lookS_some_mem e)
    simp [this]
theorem SOk.mem_key {s : List (G × R)} (h : SOk s) {g : G} : g ∈ keysS s ↔ co s g ≠ 0 := by
  have h1 := h.look (g := g)
  constructor
  · intro hm e
    rw [if_pos e] at h1
    exact lookS_none.mp h1 hm
  · intro hm
    rw [if_neg hm] at h1
    refine Classical.byContradiction fun hk => ?_
    rw [lookS_none.mpr hk] at h1; cases h1
theorem SOk.len_eq {s t : List (G × R)} (h : SOk s) (h' : SOk t) (e : ∀ g, co s g = co t g) : s.length = t.length := by
  have h1 : (keysS s).length ≤ (keysS t).length := nodup_sub_len' h.nd fun x hx => h'.mem_key.mpr (by rw [← e]; exact h.mem_key.mp hx)
  have h2 : (keysS t).length ≤ (keysS s).length := nodup_sub_len' h'.nd fun x hx => h.mem_key.mpr (by rw [e]; exact h'.mem_key.mp hx)
  rw [keys_len, keys_len] at h1 h2
  omega
theorem okX_enc (s : List (G × R)) : okX (encS eg RVal.enc s) = true := by
  unfold okX encS
  rw [List.all_map, List.all_eq_true]
  exact fun x _ => RVal.ok x.2
theorem eqv_ok (r : R) : PyData.eqv (toD (RVal.enc r)) (toD (RVal.enc r)) = true := PySem.SeqAt.eqv_refl _ (okD_lay 16 _ (RVal.ok r)).1
theorem eqX_enc (k : KEnc eg) {t : List (G × R)} : ∀ s : List (G × R), (∀ x ∈ s, lookS t x.1 = some x.2) → eqX (encS eg RVal.enc t) (encS eg RVal.enc s) = true
  | [], _ => rfl
  | x :: s, h => by
    have h1 := h x (by simp)
    have ih := eqX_enc k (t := t) s fun y hy => h y (by simp [hy])
    show eqX _ ((eg x.1, RVal.enc x.2) :: encS eg RVal.enc s) = true
    unfold eqX
    rw [findX_enc k, h1]
    simp only [Option.map_some, eqv_ok, Bool.true_and]
    exact ih
theorem gEqX_enc (k : KEnc eg) {s t : List (G × R)} (h : SOk s) (h' : SOk t) (e : ∀ g, co s g = co t g) : gEqX (.dit (encS eg RVal.enc s)) (.dit (encS eg RVal.enc t)) = some (.bl true) := by
  unfold gEqX
  simp only [okX_enc, Bool.and_self, if_true]
  have hl : (encS eg RVal.enc s).length = (encS eg RVal.enc t).length := by simp [encS, h.len_eq h' e]
  rw [hl, beq_self_eq_true, Bool.true_and, eqX_enc k s fun x hx => ?_]
  rw [h'.look, ← e]
  have h1 : lookS s x.1 = some x.2 := lookS_of_mem h.nd hx
  have h2 : co s x.1 = x.2 := by unfold co; rw [h1]; rfl
  rw [h2, if_neg (h.nz x hx)]
theorem gNeX_enc (k : KEnc eg) {s t : List (G × R)} (h : SOk s) (h' : SOk t) (e : ∀ g, co s g = co t g) : gNeX (.dit (encS eg RVal.enc s)) (.dit (encS eg RVal.enc t)) = some (.bl false) := by
  have := gEqX_enc k h h' e
  unfold gEqX at this
  unfold gNeX
  simp only [okX_enc, Bool.and_self, if_true, Option.some.injEq, PV.bl.injEq] at this ⊢
  rw [this]; rfl
theorem gNeX_nil {s : List (G × R)} : gNeX (.dit (encS eg RVal.enc s)) (.dit []) = some (.bl (!s.isEmpty)) := by
  unfold gNeX
  have : okX [] = true := rfl
  simp only [okX_enc, this, Bool.and_self, if_true]
  cases s with
  | nil => rfl
  | cons x s => rfl
end
theorem eqv_nil (p : Poly) : PyData.eqv (toD (encP p)) (toD (.tup [])) = decide (p = []) := by
  cases p with
  | nil => rfl
  | cons t p => rfl
theorem okDs_ints (p : Poly) : okDs 15 (p.map encT) = true := by
  induction p with
  | nil => rfl
  | cons t p ih => simp only [List.map_cons, okDs, ih, Bool.and_true]; rfl
instance : DecidableEq LP := fun p q => if h : p.1 = q.1 then isTrue (Subtype.ext h) else isFalse fun e => h (by rw [e])
instance : RVal LP where
  enc := encL
  ok p := okDs_ints p.1
  dec := inferInstance
theorem encL_zero : encL 0 = .tup [] := by unfold encL; rw [LP.zero_val]; rfl
theorem encL_one : encL 1 = .tup [.tup [.int 0, .int 1]] := by unfold encL; rw [LP.one_val]; rfl
theorem gNeD_zero (p : LP) : gNeD (encL p) (.tup []) = some (.bl (decide (p ≠ 0))) := by
  unfold gNeD
  have h1 : okD 16 (encL p) = true := RVal.ok p
  have h2 : okD 16 (.tup []) = true := rfl
  rw [h1, h2]
  simp only [Bool.and_self, if_true]
  show some (PV.bl (!PyData.eqv (toD (encP p.1)) (toD (.tup [])))) = _
  rw [eqv_nil]
  by_cases h : p = 0
  · simp [h, LP.zero_val]
  · simp [h, mt LP.eq_zero_iff.mpr h]
end PT

set_option Elab.async false
set_option linter.all false
set_option autoImplicit false
set_option maxRecDepth 100000
set_option maxHeartbeats 4000000
/-! PQ3: finite sums; linear functions of dicts. -/
namespace PT
open PySem PT.Lau
section
variable {α β R : Type} [Lean.Grind.CommRing R]
open Lean.Grind
def sm (l : List α) (f : α → R) : R := l.foldr (fun a r => f a + r) 0
theorem sm_nil (f : α → R) : sm [] f = 0 := rfl
theorem sm_cons (a : α) (l : List α) (f : α → R) : sm (a :: l) f = f a + sm l f := rfl
theorem sm_append (l m : List α) (f : α → R) : sm (l ++ m) f = sm l f + sm m f := by
  induction l with
  | nil => rw [List.nil_append, sm_nil]; grind
  | cons a l ih => rw [List.cons_append, sm_cons, sm_cons, ih]; grind
theorem sm_congr {l : List α} {f g : α → R} (h : ∀ a ∈ l, f a = g a) : sm l f = sm l g := by
  induction l with
  | nil => rfl
  | cons a l ih => rw [sm_cons, sm_cons, h a (by simp), ih fun b hb => h b (by simp [hb])]
theorem sm_add (l : List α) (f g : α → R) : sm l (fun a => f a + g a) = sm l f + sm l g := by
  induction l with
  | nil => simp only [sm_nil]; grind
  | cons a l ih => rw [sm_cons, sm_cons, sm_cons, ih]; grind
theorem sm_zero (l : List α) : sm l (fun _ => (0 : R)) = 0 := by
  induction l with
  | nil => rfl
  | cons a l ih => rw [sm_cons, ih]; grind
theorem sm_mul (l : List α) (f : α → R) (c : R) : sm l (fun a => f a * c) = sm l f * c := by
  induction l with
  | nil => simp only [sm_nil]; grind
  | cons a l ih => rw [sm_cons, sm_cons, ih]; grind
theorem sm_mul_l (l : List α) (f : α → R) (c : R) : sm l (fun a => c * f a) = c * sm l f := by
  induction l with
  | nil => simp only [sm_nil]; grind
  | cons a l ih => rw [sm_cons, sm_cons, ih]; grind
theorem sm_map (l : List α) (g : α → β) (f : β → R) : sm (l.map g) f = sm l fun a => f (g a) := by
  induction l with
  | nil => rfl
  | cons a l ih => rw [List.map_cons, sm_cons, sm_cons, ih]
theorem sm_flat (l : List α) (g : α → List β) (f : β → R) : sm (l.flatMap g) f = sm l fun a => sm (g a) f := by
  induction l with
  | nil => rfl
  | cons a l ih => rw [List.flatMap_cons, sm_append, sm_cons, ih]
theorem sm_comm (l : List α) (m : List β) (f : α → β → R) : sm l (fun a => sm m fun b => f a b) = sm m fun b => sm l fun a => f a b := by
  induction l with
  | nil => simp only [sm_nil, sm_zero]
  | cons a l ih => simp only [sm_cons, ih, sm_add]
theorem sm_single [DecidableEq α] {l : List α} (hn : l.Nodup) {x : α} (hx : x ∈ l) (f : α → R) : sm l (fun a => if x = a then f a else 0) = f x := by
  induction l with
  | nil => simp at hx
  | cons a l ih =>
    rw [List.nodup_cons] at hn
    rw [sm_cons]
    by_cases e : x = a
    · have h0 : sm l (fun b => if x = b then f b else 0) = sm l fun _ => (0 : R) := sm_congr fun b hb => if_neg fun e2 => hn.1 (by rw [← e, e2]; exact hb)
      rw [if_pos e, h0, sm_zero, e]; grind
    · rw [if_neg e, ih hn.2 ((List.mem_cons.mp hx).resolve_left e)]; grind
end
section
variable {G R ι : Type} [DecidableEq G] [Lean.Grind.CommRing R]
/-- a family of numbers at keys, its sum at each key -/
def at' (Z : List ι) (key : ι → G) (val : ι → R) (g : G) : R := sm Z fun z => if key z = g then val z else 0
structure Lin (F : G → R → R) : Prop where
  add : ∀ g a b, F g (a + b) = F g a + F g b
  zero : ∀ g, F g 0 = 0
theorem lin_sum {F : G → R → R} (hF : Lin F) {D : List G} (hD : D.Nodup) (key : ι → G) (val : ι → R) : ∀ Z : List ι, (∀ z ∈ Z, key z ∈ D) → sm Z (fun z => F (key z) (val z)) = sm D fun g => F g (at' Z key val g)
  | [], _ => by
    unfold at'
    simp only [sm_nil, hF.zero, sm_zero]
  | z :: Z, h => by
    rw [sm_cons, lin_sum hF hD key val Z fun y hy => h y (by simp [hy])]
    unfold at'
    simp only [sm_cons, hF.add, sm_add]
    congr 1
    rw [← sm_single hD (h z (by simp)) fun g => F g (val z)]
    refine sm_congr fun g _ => ?_
    by_cases e : key z = g
    · rw [if_pos e, if_pos e]
    · rw [if_neg e, if_neg e, hF.zero]
def ddup : List G → List G
  | [] => []
  | x :: l => if x ∈ ddup l then ddup l else x :: ddup l
theorem mem_ddup {x : G} : ∀ {l : List G}, x ∈ ddup l ↔ x ∈ l
  | [] => Iff.rfl
  | y :: l => by
    unfold ddup
    split
    · rename_i h
      rw [mem_ddup, List.mem_cons]
      exact ⟨.inr, fun q => q.elim (fun e => by rw [e]; exact mem_ddup.mp h) id⟩
    · rw [List.mem_cons, List.mem_cons, mem_ddup]
theorem nodup_ddup : ∀ l : List G, (ddup l).Nodup
  | [] => List.nodup_nil
  | y :: l => by
    unfold ddup
    split
    · exact nodup_ddup l
    · rename_i h
      exact List.nodup_cons.mpr ⟨h, nodup_ddup l⟩
/-- families that are one at each key are one for each linear function -/
theorem lin_congr {κ : Type} {F : G → R → R} (hF : Lin F) {Z : List ι} {key : ι → G} {val : ι → R} {Y : List κ} {key2 : κ → G} {val2 : κ → R} (h : ∀ g, at' Z key val g = at' Y key2 val2 g) :
    sm Z (fun z => F (key z) (val z)) = sm Y fun y => F (key2 y) (val2 y) := by
  have hD := nodup_ddup (Z.map key ++ Y.map key2)
  rw [lin_sum hF hD key val Z fun z hz => mem_ddup.mpr (List.mem_append_left _ (List.mem_map_of_mem hz)), lin_sum hF hD key2 val2 Y fun z hz => mem_ddup.mpr (List.mem_append_right _ (List.mem_map_of_mem hz))]
  exact sm_congr fun g _ => by rw [h]
end
section
variable {G R : Type} [DecidableEq G] [RVal R]
theorem co_at (s : List (G × R)) (h : (keysS s).Nodup) (g : G) : co s g = at' s (·.1) (·.2) g := by
  induction s with
  | nil => rfl
  | cons x s ih =>
    unfold keysS at h ih
    rw [List.map_cons, List.nodup_cons] at h
    have h2 := ih h.2
    unfold at' co at *
    rw [sm_cons, lookS_cons]
    by_cases e : x.1 = g
    · rw [if_pos e, if_pos e]
      have : lookS s g = none := lookS_none.mpr (by unfold keysS; rw [← e]; exact h.1)
      rw [this] at h2
      rw [← h2]
      show x.2 = x.2 + 0
      grind
    · rw [if_neg e, if_neg e, h2]
      grind
/-- the pairs of a family gathered into a dict, zeros thrown out -/
def gatherS {ι : Type} (Z : List ι) (key : ι → G) (val : ι → R) (acc : List (G × R)) : List (G × R) := Z.foldl (fun a z => putS a (key z) (co a (key z) + val z)) acc
theorem gather_nd {ι : Type} (key : ι → G) (val : ι → R) : ∀ (Z : List ι) (acc : List (G × R)), (keysS acc).Nodup → (keysS (gatherS Z key val acc)).Nodup
  | [], acc, h => h
  | z :: Z, acc, h => gather_nd key val Z _ (nodup_put h _ _)
theorem gather_co {ι : Type} (key : ι → G) (val : ι → R) (g : G) : ∀ (Z : List ι) (acc : List (G × R)), co (gatherS Z key val acc) g = co acc g + at' Z key val g
  | [], acc => by
    show co acc g = co acc g + 0
    grind
  | z :: Z, acc => by
    show co (gatherS Z key val (putS acc (key z) (co acc (key z) + val z))) g = _
    rw [gather_co key val g Z, co_put]
    unfold at'
    rw [sm_cons]
    by_cases e : g = key z
    · subst e; simp only [if_true]; grind
    · rw [if_neg e, if_neg (Ne.symm e)]; grind
theorem gather_len {ι : Type} (key : ι → G) (val : ι → R) : ∀ (Z : List ι) (acc : List (G × R)), (gatherS Z key val acc).length ≤ acc.length + Z.length
  | [], acc => by simp [gatherS]
  | z :: Z, acc => by
    have h1 := gather_len key val Z (putS acc (key z) (co acc (key z) + val z))
    have h2 := len_put acc (key z) (co acc (key z) + val z)
    show (gatherS Z key val (putS acc (key z) (co acc (key z) + val z))).length ≤ _
    simp only [List.length_cons]; omega
theorem gather_keys {ι : Type} (key : ι → G) (val : ι → R) (P : G → Prop) : ∀ (Z : List ι) (acc : List (G × R)), (∀ g ∈ keysS acc, P g) → (∀ z ∈ Z, P (key z)) → ∀ g ∈ keysS (gatherS Z key val acc), P g
  | [], acc, h, _ => h
  | z :: Z, acc, h, h2 => gather_keys key val P Z _ (fun g hg => by
      rw [keys_put] at hg
      split at hg
      · exact h g hg
      · rcases List.mem_append.mp hg with q | q
        · exact h g q
        · simp at q; subst q; exact h2 z (by simp)) fun y hy => h2 y (by simp [hy])
/-- the values, by what stays under sums -/
theorem gather_vals {ι : Type} (key : ι → G) (val : ι → R) (P : R → Prop) (h0 : P 0) (ha : ∀ a b, P a → P b → P (a + b)) : ∀ (Z : List ι) (acc : List (G × R)), (∀ x ∈ acc, P x.2) → (∀ z ∈ Z, P (val z)) → ∀ x ∈ gatherS Z key val acc, P x.2
  | [], acc, h, _ => h
  | z :: Z, acc, h, h2 => gather_vals key val P h0 ha Z _ (fun x hx => by
      have hc : P (co acc (key z)) := by
        unfold co
        cases e : lookS acc (key z) with
        | none => exact h0
        | some r => exact h _ (lookS_some_mem e)
      change x ∈ putS acc (key z) (co acc (key z) + val z) at hx
      unfold putS at hx
      split at hx
      · obtain ⟨y, hy, rfl⟩ := List.mem_map.mp hx
        split
        · exact ha _ _ hc (h2 z (by simp))
        · exact h y hy
      · rcases List.mem_append.mp hx with q | q
        · exact h x q
        · simp at q; subst q; exact ha _ _ hc (h2 z (by simp))) fun y hy => h2 y (by simp [hy])
def nzS (s : List (G × R)) : List (G × R) := s.filter fun x => decide (x.2 ≠ 0)
theorem nzS_ok {s : List (G × R)} (h : (keysS s).Nodup) : SOk (nzS s) := ⟨keyP_filter h, fun x hx => by simpa using (List.mem_filter.mp hx).2⟩
theorem nzS_co {s : List (G × R)} (h : (keysS s).Nodup) (g : G) : co (nzS s) g = co s g := by
  unfold co
  cases e : lookS s g with
  | none =>
    have : lookS (nzS s) g = none := lookS_none.mpr fun hm => lookS_none.mp e (by
      unfold keysS nzS at *
      obtain ⟨x, hx, rfl⟩ := List.mem_map.mp hm
      exact List.mem_map_of_mem (f := (·.1)) (List.mem_filter.mp hx).1)
    rw [this]
  | some r =>
    by_cases hr : r = 0
    · have : lookS (nzS s) g = none := by
        refine lookS_none.mpr fun hm => ?_
        unfold keysS nzS at hm
        obtain ⟨x, hx, e2⟩ := List.mem_map.mp hm
        obtain ⟨h1, h2⟩ := List.mem_filter.mp hx
        have e3 := lookS_of_mem h h1
        rw [e2, e] at e3
        cases e3
        simp at h2; exact h2 hr
      rw [this, hr]; rfl
    · have : lookS (nzS s) g = some r := lookS_of_mem (keyP_filter h) (List.mem_filter.mpr ⟨lookS_some_mem e, by simpa using hr⟩)
      rw [this]
end
end PT

set_option Elab.async false
set_option linter.all false
set_option autoImplicit false
set_option maxRecDepth 100000
set_option maxHeartbeats 4000000
/-! PQ4: sums of diagrams: combined, multiplied, scaled_by. -/
namespace PT
namespace Tl
open PySem PT PT.Lau
@[local simp] def zsPQ41_ap_seq := @ap_seq
@[local simp] def zsPQ41_ap_nx := @ap_nx
@[local simp] def zsPQ41_ap_ret := @ap_ret
@[local simp] def zsPQ41_ap_drop := @ap_drop
@[local simp] def zsPQ41_ap_set := @ap_set
@[local simp] def zsPQ41_ap_list := @ap_list
@[local simp] def zsPQ41_ap_aNil := @ap_aNil
@[local simp] def zsPQ41_ap_aCons := @ap_aCons
@[local simp] def zsPQ41_ap_a1 := @ap_a1
@[local simp] def zsPQ41_ap_var := @ap_var
@[local simp] def zsPQ41_ap_look := @ap_look
@[local simp] def zsPQ41_ap_c := @ap_c
@[local simp] def zsPQ41_ap_op := @ap_op
@[local simp] def zsPQ41_ap_opO := @ap_opO
@[local simp] def zsPQ41_ap_un := @ap_un
@[local simp] def zsPQ41_ap_test := @ap_test
@[local simp] def zsPQ41_ap_if := @ap_if
@[local simp] def zsPQ41_ap_notT := @ap_notT
@[local simp] def zsPQ41_ap_andT := @ap_andT
@[local simp] def zsPQ41_ap_orT := @ap_orT
@[local simp] def zsPQ41_ap_tru := @ap_tru
@[local simp] def zsPQ41_ap_notV := @ap_notV
@[local simp] def zsPQ41_ap_andV := @ap_andV
@[local simp] def zsPQ41_ap_orV := @ap_orV
@[local simp] def zsPQ41_ap_for := @ap_for
@[local simp] def zsPQ41_ap_iS := @ap_iS
@[local simp] def zsPQ41_ap_name := @ap_name
@[local simp] def zsPQ41_ap_tup := @ap_tup
@[local simp] def zsPQ41_ap_tsNil := @ap_tsNil
@[local simp] def zsPQ41_ap_tsCons := @ap_tsCons
@[local simp] def zsPQ41_ap_asg := @ap_asg
@[local simp] def zsPQ41_ap_sub := @ap_sub
@[local simp] def zsPQ41_ap_par := @ap_par
@[local simp] def zsPQ41_ap_aug := @ap_aug
@[local simp] def zsPQ41_ap_get := @ap_get
@[local simp] def zsPQ41_ap_getO := @ap_getO
@[local simp] def zsPQ41_ap_yes := @ap_yes
@[local simp] def zsPQ41_ap_mut := @ap_mut
@[local simp] theorem zsPQ41_startP (n : Nat) (args : List PV) : startP n args = args.map some ++ List.replicate (n - args.length) none := rfl
@[local simp] theorem zsPQ41_rowOfa (xs : List PV) : rowOf (.lst xs) = some xs := rfl
@[local simp] theorem zsPQ41_rowOfb (xs : List PV) : rowOf (.tup xs) = some xs := rfl
@[local simp] def zsPQ41_gTup0 := @gTup0
@[local simp] def zsPQ41_gTup1 := @gTup1
@[local simp] def zsPQ41_gTup2 := @gTup2
@[local simp] def zsPQ41_gLst0 := @gLst0
@[local simp] def zsPQ41_gLst1 := @gLst1
@[local simp] def zsPQ41_gLst2 := @gLst2

def encN (n : Nat) : PV := .int (n : Int)
abbrev Dg := List Nat
def encG (g : Dg) : PV := .tup (g.map encN)
theorem nkeys_encN (g : Dg) : nkeys (g.map encN) = some (g.map fun (n : Nat) => NestedKey.num (n : Int)) := by
  induction g with
  | nil => rfl
  | cons n g ih => simp only [List.map_cons, nkeys, ih, encN, nkey]
theorem depth_nums (g : Dg) : NestedKey.depthAll (g.map fun (n : Nat) => NestedKey.num (n : Int)) = 0 := by
  induction g with
  | nil => rfl
  | cons n g ih => simp [NestedKey.depthAll, NestedKey.depth, ih]
theorem tkey_encG (g : Dg) : tkey (encG g) = some (.tup (g.map fun (n : Nat) => NestedKey.num (n : Int))) := by
  unfold tkey encG
  simp only [nkeys_encN, NestedKey.depth, depth_nums]
  rfl
theorem eqTs_encN : ∀ a b : Dg, eqTs (a.map encN) (b.map encN) = decide (a = b)
  | [], [] => rfl
  | [], _ :: _ => rfl
  | _ :: _, [] => rfl
  | x :: a, y :: b => by
    simp only [List.map_cons, eqTs, eqTs_encN a b, encN, eqT, List.cons.injEq, Bool.decide_and]
    congr 1
    by_cases e : x = y
    · simp [e]
    · have : ¬ ((x : Int) = (y : Int)) := fun h => e (by omega)
      simp [e, this]
theorem kencG : KEnc encG := ⟨fun a b => by unfold encG; simp only [eqT]; exact eqTs_encN a b, fun a => by unfold isTKey; rw [tkey_encG]; rfl⟩

abbrev Sum := List (Dg × LP)
def encSum (s : Sum) : PV := .dit (encS encG RVal.enc s)
theorem encE : (RVal.enc : LP → PV) = encL := rfl
theorem encK_enc (p : LP) : RVal.enc p = encL p := rfl
theorem keys_encS (s : Sum) : (encS encG RVal.enc s).map (·.1) = (keysS s).map encG := by
  unfold encS keysS
  rw [List.map_map, List.map_map]; rfl
theorem iX_of {f : EF} {ρ ρ' : Env} {s : Sum} (h : f ρ = some (encSum s, ρ')) : iX f ρ = some (s.map fun x => encG x.1, ρ') := by
  unfold iX
  rw [h]
  simp only [Option.bind_some, encSum, keys_encS]
  unfold keysS
  rw [List.map_map]; rfl
def ExL (L : Nat) (p : LP) : Prop := Ex L p.1
theorem ExL.len {L : Nat} {p : LP} (h : ExL L p) : p.1.length ≤ 2 * L + 1 := by
  have := len_of_keys h.keys p.2.nodup
  rw [exS_len] at this
  exact this
theorem ExL.zero {L : Nat} : ExL L 0 := (PB.zero (L := L) (N := 0)).ex
theorem ExL.add {L : Nat} {p q : LP} (h : ExL L p) (h' : ExL L q) : ExL L (p + q) := (Ex.append h h').norm
theorem F_plus_X {L : Nat} {p q : LP} (h : ExL L p) (h' : ExL L q) (hL : L ≤ 200000) : F_plus [encL p, encL q] = some (encL (p + q)) := F_plus_eq (by have := h.len; have := h'.len; omega)
/-- the last row: zeros thrown out -/
theorem drop_zeros {i j : Nat} {s : Sum} {ρ : Env} (hn : (keysS s).Nodup) (hl : s.length ≤ 900000) (hi : ρ[i]? = some (some (encSum s))) (hij : i ≠ j) (hj : ∃ o, ρ[j]? = some o) :
    fDC gSetX (.dit []) [j] (iX (fVar i)) (tName j) (fTest (fOp gNeD (fOp gIxX (fVar i) (fVar j)) (fList gTuple aNil))) (fVar j) (fOp gIxX (fVar i) (fVar j)) ρ = some (encSum (nzS s), ρ) := by
  have e1 : iX (fVar i) ρ = some (s.map fun x => encG x.1, ρ) := iX_of (by simp [hi])
  obtain ⟨o, hj⟩ := hj
  have hjl : j < ρ.length := (List.getElem?_eq_some_iff.mp hj).1
  unfold fDC
  rw [e1]
  simp only [Option.bind_some]
  have wl : (wipeP ρ [j]).length = ρ.length := wipeP_length ρ [j]
  have main := dc_map (fun x : Dg × LP => encG x.1) (fun x => decide (x.2 ≠ 0)) (fun x => encG x.1) (fun x => encL x.2) (gs := gSetX) (vs := [j]) (t := tName j) (ft := fTest (fOp gNeD (fOp gIxX (fVar i) (fVar j)) (fList gTuple aNil))) (fk := fVar j) (fe := fOp gIxX (fVar i) (fVar j)) (ρ := ρ)
    (fun a x => match a with | .dit ks => .dit (putX ks (encG x.1) (encL x.2)) | _ => a) s (.dit []) (fun x hx => ?_) ?_
  · rw [main]
    have : ∀ (l acc : Sum), l.foldl (fun (a : PV) x => match a with | .dit ks => .dit (putX ks (encG x.1) (encL x.2)) | _ => a) (encSum acc) = encSum (l.foldl (fun a x => putS a x.1 x.2) acc) := by
      intro l
      induction l with
      | nil => intro acc; rfl
      | cons x l ih =>
        intro acc
        rw [List.foldl_cons, List.foldl_cons, ← ih]
        congr 1
        exact congrArg PV.dit (putX_enc kencG acc x.1 x.2)
    have h2 := this (s.filter fun x => decide (x.2 ≠ 0)) []
    have h3 : encSum [] = PV.dit [] := rfl
    rw [h3] at h2
    rw [h2, foldl_put_nil _ _ (by rw [List.nil_append]; exact keyP_filter hn), List.nil_append]
    rfl
  · have hlk : lookS s x.1 = some x.2 := lookS_of_mem hn hx
    have hw : (wipeP ρ [j]) = ρ.set j none := rfl
    have hs : ((ρ.set j none).set j (some (encG x.1))) = ρ.set j (some (encG x.1)) := by rw [List.set_set]
    have gi : (ρ.set j (some (encG x.1)))[i]? = some (some (encSum s)) := by rw [List.getElem?_set_ne (Ne.symm hij)]; exact hi
    have gj : (ρ.set j (some (encG x.1)))[j]? = some (some (encG x.1)) := List.getElem?_set_self hjl
    have gx : gIxX (encSum s) (encG x.1) = some (encL x.2) := gIxX_enc kencG hlk
    refine ⟨ρ.set j (some (encG x.1)), ?_, ?_, fun _ => ⟨?_, ?_⟩, ?_⟩
    · rw [hw, ap_name, hs]
    · simp [gi, gj, gx, gNeD_zero]
    · simp [gj]
    · simp [gi, gj, gx]
    · show backP ρ [j] (ρ.set j (some (encG x.1))) = ρ
      simp only [backP]
      rw [hj]
      simp only [Option.getD_some, List.set_set]
      refine List.ext_getElem? fun k => ?_
      by_cases e : k = j
      · subst e; rw [List.getElem?_set_self hjl, hj]
      · rw [List.getElem?_set_ne (Ne.symm e)]
  · intro ys a zs e
    have : ∀ (l acc : Sum), l.foldl (fun (a : PV) x => match a with | .dit ks => .dit (putX ks (encG x.1) (encL x.2)) | _ => a) (encSum acc) = encSum (l.foldl (fun a x => putS a x.1 x.2) acc) := by
      intro l
      induction l with
      | nil => intro acc; rfl
      | cons x l ih =>
        intro acc
        rw [List.foldl_cons, List.foldl_cons, ← ih]
        congr 1
        exact congrArg PV.dit (putX_enc kencG acc x.1 x.2)
    have h2 := this ys []
    have h3 : encSum [] = PV.dit [] := rfl
    rw [h3] at h2
    rw [h2]
    have hlen : ys.length ≤ s.length := by
      have h5 : (s.filter fun x => decide (x.2 ≠ 0)).length ≤ s.length := List.length_filter_le _ _
      rw [e] at h5; simp at h5; omega
    have hys : (keysS ([] ++ ys)).Nodup := by
      have := keyP_filter (keep := fun x => decide (x.2 ≠ 0)) hn
      rw [e] at this
      unfold keysS at this ⊢
      rw [List.map_append] at this
      simpa using (List.nodup_append.mp this).1
    rw [foldl_put_nil ys [] hys, List.nil_append]
    have := gSetX_enc (er := encL) kencG (s := ys) (g := a.1) (r := a.2) (by omega)
    show gSetX (.dit (encS encG encL ys)) _ _ = _
    rw [this]
    exact congrArg (fun z => some (PV.dit z)) (putX_enc kencG ys a.1 a.2).symm

theorem look_none0 (s : Sum) (g : Dg) : (lookS s g).getD 0 = co s g := rfl
theorem getX_sum (s : Sum) (g : Dg) : gGetX (encSum s) [encG g, .tup []] = some (encL (co s g)) := by
  have := gGetX_enc (er := encL) kencG s g 0
  rw [encL_zero] at this
  exact this
theorem setX_sum {s : Sum} (g : Dg) (r : LP) (hl : s.length < 1000000) : gSetX (encSum s) (encG g) (encL r) = some (encSum (putS s g r)) := gSetX_enc kencG hl
theorem ixX_sum {s : Sum} {g : Dg} {r : LP} (h : lookS s g = some r) : gIxX (encSum s) (encG g) = some (encL r) := gIxX_enc kencG h
theorem tyOf_sum (s : Sum) : tyOf (encSum s) = "dict" := rfl
theorem pb_ex {L N : Nat} {p : LP} (h : PB L N p) : ExL L p := h.ex
/-- p * l ** k, factor by factor -/
theorem pow_succ' (p l : LP) (k : Nat) : p * l ^ (k + 1) = p * l ^ k * l := by
  have : l ^ (k + 1) = l ^ k * l := rfl
  rw [this]; grind
/-- what a product says of its parts -/
structure MulOk (stk : Dg → Dg → Nat × Dg) (s t : Sum) (l : LP) (L1 N1 L2 N2 L3 N3 K : Nat) : Prop where
  ns : (keysS s).Nodup
  nt : (keysS t).Nodup
  bs : ∀ x ∈ s, PB L1 N1 x.2
  bt : ∀ x ∈ t, PB L2 N2 x.2
  bl : PB L3 N3 l
  st : ∀ x ∈ s, ∀ y ∈ t, F_stacked [encG x.1, encG y.1] = some (.tup [.int ((stk x.1 y.1).1 : Int), encG (stk x.1 y.1).2]) ∧ (stk x.1 y.1).1 ≤ K
  hL : L1 + L2 + K * L3 ≤ 400
  hN : N1 * N2 * N3 ^ K < 2 ^ 200
  hN3 : 1 ≤ N3
  hK : K ≤ 1000
  hst : s.length * t.length ≤ 900000
/-- the pairs of a product -/
def prodZ (s t : Sum) : List ((Dg × LP) × (Dg × LP)) := s.flatMap fun x => t.map fun y => (x, y)
def pKey (stk : Dg → Dg → Nat × Dg) (z : (Dg × LP) × (Dg × LP)) : Dg := (stk z.1.1 z.2.1).2
def pVal (stk : Dg → Dg → Nat × Dg) (l : LP) (z : (Dg × LP) × (Dg × LP)) : LP := z.1.2 * z.2.2 * l ^ (stk z.1.1 z.2.1).1
theorem gather_append {ι : Type} (key : ι → Dg) (val : ι → LP) (Y Z : List ι) (acc : Sum) : gatherS (Y ++ Z) key val acc = gatherS Z key val (gatherS Y key val acc) := List.foldl_append
def mulS (stk : Dg → Dg → Nat × Dg) (s t : Sum) (l : LP) : Sum := nzS (gatherS (prodZ s t) (pKey stk) (pVal stk l) [])
section
variable {stk : Dg → Dg → Nat × Dg} {s t : Sum} {l : LP} {L1 N1 L2 N2 L3 N3 K : Nat}
theorem MulOk.pb (h : MulOk stk s t l L1 N1 L2 N2 L3 N3 K) {x y : Dg × LP} (hx : x ∈ s) (hy : y ∈ t) : ∀ k ≤ K, PB (L1 + L2 + k * L3) (N1 * N2 * N3 ^ k) (x.2 * y.2 * l ^ k) := fun k _ => by
  have := ((h.bs x hx).mul (h.bt y hy)).mul (h.bl.pow k)
  exact this
theorem MulOk.small (h : MulOk stk s t l L1 N1 L2 N2 L3 N3 K) {k : Nat} (hk : k ≤ K) : L1 + L2 + k * L3 ≤ 400 ∧ N1 * N2 * N3 ^ k < 2 ^ 200 := by
  refine ⟨?_, ?_⟩
  · have : k * L3 ≤ K * L3 := Nat.mul_le_mul_right _ hk
    have := h.hL
    omega
  · refine Nat.lt_of_le_of_lt ?_ h.hN
    exact Nat.mul_le_mul_left _ (Nat.pow_le_pow_right h.hN3 hk)
theorem MulOk.val_ex (h : MulOk stk s t l L1 N1 L2 N2 L3 N3 K) : ∀ z ∈ prodZ s t, ExL 400 (pVal stk l z) := fun z hz => by
  obtain ⟨x, hx, hz⟩ := List.mem_flatMap.mp hz
  obtain ⟨y, hy, rfl⟩ := List.mem_map.mp hz
  have hk := (h.st x hx y hy).2
  exact Ex.mono (h.pb hx hy _ hk).ex (h.small hk).1
theorem prodZ_len (s t : Sum) : (prodZ s t).length = s.length * t.length := by
  unfold prodZ
  induction s with
  | nil => simp
  | cons x s ih => rw [List.flatMap_cons, List.length_append, ih]; simp [Nat.succ_mul, Nat.add_comm]
theorem get_map {α β : Type} {l : List α} {f : α → β} {i : Nat} {p : β} (h : (l.map f)[i]? = some p) : ∃ x, l[i]? = some x ∧ p = f x := by
  rw [List.getElem?_map] at h
  obtain ⟨x, h1, h2⟩ := Option.map_eq_some_iff.mp h
  exact ⟨x, h1, h2.symm⟩
theorem take_get {α : Type} {l : List α} {i : Nat} {x : α} (h : l[i]? = some x) : l.take (i + 1) = l.take i ++ [x] := by
  rw [List.take_add_one, h]; rfl
theorem prodZ_snoc (a : Sum) (x : Dg × LP) (t : Sum) : prodZ (a ++ [x]) t = prodZ a t ++ t.map fun y => (x, y) := by
  unfold prodZ; simp
theorem go_pow {i j k : Nat} {rest : SF} {ρ : Env} {Q : Fl → Env → Prop} {L0 N0 L3 N3 n : Nat} {p l : LP} (hp : PB L0 N0 p) (hl : PB L3 N3 l) (h3 : 1 ≤ N3) (hL : L0 + n * L3 ≤ 400) (hL3 : L3 ≤ 400) (hN : N0 * N3 ^ n < 2 ^ 200) (hN3 : N3 < 2 ^ 200) (hn : n ≤ 1000)
    (hij : i ≠ j ∧ i ≠ k ∧ j ≠ k) (gi : ρ[i]? = some (some (encL p))) (gj : ρ[j]? = some (some (encL l))) (gk : k < ρ.length) {f : EF} (hf : f ρ = some (.int (n : Int), ρ))
    (kk : ∀ o, Q .nx ((ρ.set k o).set i (some (encL (p * l ^ n))))) : Go (fFor (iR1 f) (tName k) (fSeq (fSet i (fList F_times (aCons (fVar i) (aCons (fVar j) aNil)))) fNx)) ρ Q := by
  have i62n : i62 (n : Int) = true := i62_len (by omega)
  have hi : i < ρ.length := (List.getElem?_eq_some_iff.mp gi).1
  refine go_forN (l := rngP 0 n) (fun m ρ' => ∃ o, ρ' = (ρ.set k o).set i (some (encL (p * l ^ m)))) (by have := iR1_of hf i62n; simpa using this) ?_ ?_ ?_
  · refine ⟨(ρ[k]?.getD none), ?_⟩
    have e : p * l ^ 0 = p := by
      have : l ^ 0 = (1 : LP) := rfl
      rw [this]; grind
    rw [e]
    refine List.ext_getElem? fun m => ?_
    by_cases e1 : m = i
    · subst e1; rw [List.getElem?_set_self (by simpa using hi), gi]
    · rw [List.getElem?_set_ne (Ne.symm e1)]
      by_cases e2 : m = k
      · subst e2; rw [List.getElem?_set_self gk, List.getElem?_eq_getElem gk]; rfl
      · rw [List.getElem?_set_ne (Ne.symm e2)]
  · rintro m q ρ' hq ⟨o, rfl⟩
    obtain ⟨hm, rfl⟩ := rngP_get hq
    refine ⟨_, rfl, ?_⟩
    have hmn : m + 1 ≤ n := hm
    have h1 : m * L3 ≤ n * L3 := Nat.mul_le_mul_right _ (by omega)
    have h2 : N0 * N3 ^ m ≤ N0 * N3 ^ n := Nat.mul_le_mul_left _ (Nat.pow_le_pow_right h3 (by omega))
    have ft := F_times_L (hp.mul (hl.pow m)) hl (by omega) hL3 (by omega) hN3
    have ge : ((((ρ.set k o).set i (some (encL (p * l ^ m)))).set k (some (.int (0 + (m : Int))))))[i]? = some (some (encL (p * l ^ m))) := by
      rw [List.getElem?_set_ne (Ne.symm hij.2.1)]; exact List.getElem?_set_self (by simpa using hi)
    have gf : ((((ρ.set k o).set i (some (encL (p * l ^ m)))).set k (some (.int (0 + (m : Int))))))[j]? = some (some (encL l)) := by
      rw [List.getElem?_set_ne (Ne.symm hij.2.2), List.getElem?_set_ne hij.1, List.getElem?_set_ne (Ne.symm hij.2.2)]; exact gj
    refine go_seq (go_set (x := encL (p * l ^ m * l)) (ρ1 := ((ρ.set k o).set i (some (encL (p * l ^ m)))).set k (some (.int (0 + (m : Int))))) ?_ (go_nx ⟨.inl rfl, some (.int (0 + (m : Int))), ?_⟩))
    · generalize (((ρ.set k o).set i (some (encL (p * l ^ m)))).set k (some (.int (0 + (m : Int))))) = ρ5 at ge gf ⊢
      simp [ge, gf, ft]
    · rw [pow_succ']
      refine List.ext_getElem? fun a => ?_
      by_cases e1 : a = i
      · subst e1; rw [List.getElem?_set_self (by simpa using hi), List.getElem?_set_self (by simpa using hi)]
      · rw [List.getElem?_set_ne (Ne.symm e1), List.getElem?_set_ne (Ne.symm e1)]
        by_cases e2 : a = k
        · subst e2; rw [List.getElem?_set_self (by simpa using gk), List.getElem?_set_self gk]
        · rw [List.getElem?_set_ne (Ne.symm e2), List.getElem?_set_ne (Ne.symm e2), List.getElem?_set_ne (Ne.symm e1), List.getElem?_set_ne (Ne.symm e2)]
  · rintro ρ' ⟨o, rfl⟩
    rw [rngP_length]
    exact kk o
theorem F_multiplied_sum (h : MulOk stk s t l L1 N1 L2 N2 L3 N3 K) (hL3 : L3 ≤ 400) (hN3 : N3 < 2 ^ 200) (hL1 : L1 ≤ 400) (hL2 : L2 ≤ 400) (hN1 : N1 < 2 ^ 200) (hN2 : N2 < 2 ^ 200) : F_multiplied [encSum s, encSum t, encL l] = some (encSum (mulS stk s t l)) := by
  refine go_run (b := b_multiplied) ?_
  show Go b_multiplied [some (encSum s), some (encSum t), some (encL l), none, none, none, none, none, none, none] _
  refine go_seq (go_set (x := encSum []) rfl (go_seq ?_))
  have nd0 : (keysS ([] : Sum)).Nodup := by simp [keysS]
  have hlen : ∀ Z : List ((Dg × LP) × (Dg × LP)), (gatherS Z (pKey stk) (pVal stk l) []).length ≤ Z.length := fun Z => by
    have := gather_len (pKey stk) (pVal stk l) Z []
    simpa using this
  have fin : ∀ j1 j2 j3 j4 j5 j6, Go (fSeq (fRet (fDC gSetX (.dit []) [4] (iX (fVar 3)) (tName 4) (fTest (fOp gNeD (fOp gIxX (fVar 3) (fVar 4)) (fList gTuple aNil))) (fVar 4) (fOp gIxX (fVar 3) (fVar 4)))) fNx)
      [some (encSum s), some (encSum t), some (encL l), some (encSum (gatherS (prodZ s t) (pKey stk) (pVal stk l) [])), j1, j2, j3, j4, j5, j6] fun fl _ => outF fl = some (encSum (mulS stk s t l)) := fun j1 j2 j3 j4 j5 j6 => by
    refine go_seq (go_ret (drop_zeros (gather_nd _ _ _ _ nd0) ?_ rfl (by decide) ⟨j1, rfl⟩) rfl)
    have := hlen (prodZ s t)
    rw [prodZ_len] at this
    have := h.hst
    omega
  refine go_forN (fun i ρ => ∃ j1 j2 j3 j4 j5 j6, ρ = [some (encSum s), some (encSum t), some (encL l), some (encSum (gatherS (prodZ (s.take i) t) (pKey stk) (pVal stk l) [])), j1, j2, j3, j4, j5, j6])
    (iX_of rfl) ⟨none, none, none, none, none, none, rfl⟩ ?_ ?_
  · rintro i p ρ hp ⟨j1, j2, j3, j4, j5, j6, rfl⟩
    obtain ⟨x, hx, rfl⟩ := get_map hp
    have hxs : x ∈ s := List.mem_of_getElem? hx
    have hi : i < s.length := (List.getElem?_eq_some_iff.mp hx).1
    have lx : lookS s x.1 = some x.2 := lookS_of_mem h.ns hxs
    refine ⟨_, rfl, ?_⟩
    refine go_seq (go_forN (fun j ρ => ∃ j2 j3 j4 j5 j6, ρ = [some (encSum s), some (encSum t), some (encL l), some (encSum (gatherS (prodZ (s.take i) t ++ (t.take j).map fun y => (x, y)) (pKey stk) (pVal stk l) [])), some (encG x.1), j2, j3, j4, j5, j6])
      (iX_of rfl) ⟨j2, j3, j4, j5, j6, by simp⟩ ?_ ?_)
    · rintro j q ρ hq ⟨j2, j3, j4, j5, j6, rfl⟩
      obtain ⟨y, hy, rfl⟩ := get_map hq
      have hyt : y ∈ t := List.mem_of_getElem? hy
      have hj : j < t.length := (List.getElem?_eq_some_iff.mp hy).1
      have ly : lookS t y.1 = some y.2 := lookS_of_mem h.nt hyt
      obtain ⟨hst, hk⟩ := h.st x hxs y hyt
      obtain ⟨hs1, hs2⟩ := h.small hk
      have ft := F_times_L (h.bs x hxs) (h.bt y hyt) hL1 hL2 hN1 hN2
      have hkK := h.hK
      refine ⟨_, rfl, ?_⟩
      generalize hA : gatherS (prodZ (s.take i) t ++ (t.take j).map fun y => (x, y)) (pKey stk) (pVal stk l) [] = A
      have hAx : ∀ g, ExL 400 (co A g) := fun g => by
        have hv := gather_vals (pKey stk) (pVal stk l) (ExL 400) ExL.zero (fun a b => ExL.add) (prodZ (s.take i) t ++ (t.take j).map fun y => (x, y)) [] (by simp) fun z hz => h.val_ex z (by
          rcases List.mem_append.mp hz with hz | hz
          · obtain ⟨u, hu, hz⟩ := List.mem_flatMap.mp hz
            exact List.mem_flatMap.mpr ⟨u, List.mem_of_mem_take hu, hz⟩
          · obtain ⟨u, hu, rfl⟩ := List.mem_map.mp hz
            exact List.mem_flatMap.mpr ⟨x, hxs, List.mem_map_of_mem (List.mem_of_mem_take hu)⟩)
        rw [hA] at hv
        unfold co
        cases e : lookS A g with
        | none => exact ExL.zero
        | some r => exact hv _ (lookS_some_mem e)
      have hAl : A.length < 1000000 := by
        have := hlen (prodZ (s.take i) t ++ (t.take j).map fun y => (x, y))
        rw [hA, List.length_append, prodZ_len, List.length_map, List.length_take, List.length_take] at this
        have h1 : min i s.length * t.length + min j t.length ≤ s.length * t.length := by
          have : (i + 1) * t.length ≤ s.length * t.length := Nat.mul_le_mul_right _ hi
          rw [Nat.succ_mul] at this
          rw [Nat.min_eq_left (by omega), Nat.min_eq_left (by omega)]
          omega
        have := h.hst
        omega
      refine go_seq (go_asg (x := .tup [.int ((stk x.1 y.1).1 : Int), encG (stk x.1 y.1).2]) (ρ1 := [some (encSum s), some (encSum t), some (encL l), some (encSum A), some (encG x.1), some (encG y.1), j3, j4, j5, j6]) (ρ2 := [some (encSum s), some (encSum t), some (encL l), some (encSum A), some (encG x.1), some (encG y.1), some (.int ((stk x.1 y.1).1 : Int)), some (encG (stk x.1 y.1).2), j5, j6]) (by simp [hst]) rfl ?_)
      refine go_seq (go_set (x := encL (x.2 * y.2)) (ρ1 := [some (encSum s), some (encSum t), some (encL l), some (encSum A), some (encG x.1), some (encG y.1), some (.int ((stk x.1 y.1).1 : Int)), some (encG (stk x.1 y.1).2), j5, j6]) (by simp [ixX_sum lx, ixX_sum ly, ft]) ?_)
      refine go_seq (go_pow (rest := fNx) (i := 8) (j := 2) (k := 9) ((h.bs x hxs).mul (h.bt y hyt)) h.bl h.hN3 hs1 hL3 hs2 hN3 (by omega) (by decide) rfl rfl (by simp) rfl ?_)
      intro o
      have fp := F_plus_X (hAx (stk x.1 y.1).2) (h.val_ex (x, y) (List.mem_flatMap.mpr ⟨x, hxs, List.mem_map_of_mem hyt⟩)) (by decide)
      refine go_seq (go_asg (x := encL (co A (stk x.1 y.1).2 + pVal stk l (x, y))) (ρ1 := [some (encSum s), some (encSum t), some (encL l), some (encSum A), some (encG x.1), some (encG y.1), some (.int ((stk x.1 y.1).1 : Int)), some (encG (stk x.1 y.1).2), some (encL (x.2 * y.2 * l ^ (stk x.1 y.1).1)), o])
        (ρ2 := [some (encSum s), some (encSum t), some (encL l), some (encSum (putS A (stk x.1 y.1).2 (co A (stk x.1 y.1).2 + pVal stk l (x, y)))), some (encG x.1), some (encG y.1), some (.int ((stk x.1 y.1).1 : Int)), some (encG (stk x.1 y.1).2), some (encL (x.2 * y.2 * l ^ (stk x.1 y.1).1)), o]) ?_ ?_ (go_nx ⟨.inl rfl, ?_⟩))
      · have e1 : pVal stk l (x, y) = x.2 * y.2 * l ^ (stk x.1 y.1).1 := rfl
        rw [← e1]
        simp [fMpO, tyOf_sum, getX_sum, fp]
      · simp [setX_sum _ _ hAl]
      · refine ⟨some (encG y.1), some (.int ((stk x.1 y.1).1 : Int)), some (encG (stk x.1 y.1).2), some (encL (x.2 * y.2 * l ^ (stk x.1 y.1).1)), o, ?_⟩
        rw [take_get hy, List.map_append, ← List.append_assoc, gather_append, hA]
        rfl
    · rintro ρ ⟨j2, j3, j4, j5, j6, rfl⟩
      refine go_nx ⟨.inl rfl, some (encG x.1), j2, j3, j4, j5, j6, ?_⟩
      have e1 : (t.map fun x : Dg × LP => encG x.1).length = t.length := by simp
      rw [e1, List.take_length, take_get hx, prodZ_snoc]
  · rintro ρ ⟨j1, j2, j3, j4, j5, j6, rfl⟩
    have e1 : (s.map fun x : Dg × LP => encG x.1).length = s.length := by simp
    rw [e1, List.take_length]
    exact fin j1 j2 j3 j4 j5 j6
end
end Tl
end PT

set_option Elab.async false
set_option linter.all false
set_option autoImplicit false
set_option maxRecDepth 100000
set_option maxHeartbeats 4000000
/-! PQ5: the law's own throwing out of zeros; what a product with one diagram keeps. -/
namespace PT
namespace Tl
open PySem PT PT.Lau
@[local simp] def zsPQ51_ap_seq := @ap_seq
@[local simp] def zsPQ51_ap_nx := @ap_nx
@[local simp] def zsPQ51_ap_ret := @ap_ret
@[local simp] def zsPQ51_ap_drop := @ap_drop
@[local simp] def zsPQ51_ap_set := @ap_set
@[local simp] def zsPQ51_ap_list := @ap_list
@[local simp] def zsPQ51_ap_aNil := @ap_aNil
@[local simp] def zsPQ51_ap_aCons := @ap_aCons
@[local simp] def zsPQ51_ap_a1 := @ap_a1
@[local simp] def zsPQ51_ap_var := @ap_var
@[local simp] def zsPQ51_ap_look := @ap_look
@[local simp] def zsPQ51_ap_c := @ap_c
@[local simp] def zsPQ51_ap_op := @ap_op
@[local simp] def zsPQ51_ap_opO := @ap_opO
@[local simp] def zsPQ51_ap_un := @ap_un
@[local simp] def zsPQ51_ap_test := @ap_test
@[local simp] def zsPQ51_ap_if := @ap_if
@[local simp] def zsPQ51_ap_notT := @ap_notT
@[local simp] def zsPQ51_ap_andT := @ap_andT
@[local simp] def zsPQ51_ap_orT := @ap_orT
@[local simp] def zsPQ51_ap_tru := @ap_tru
@[local simp] def zsPQ51_ap_notV := @ap_notV
@[local simp] def zsPQ51_ap_andV := @ap_andV
@[local simp] def zsPQ51_ap_orV := @ap_orV
@[local simp] def zsPQ51_ap_for := @ap_for
@[local simp] def zsPQ51_ap_iS := @ap_iS
@[local simp] def zsPQ51_ap_name := @ap_name
@[local simp] def zsPQ51_ap_tup := @ap_tup
@[local simp] def zsPQ51_ap_tsNil := @ap_tsNil
@[local simp] def zsPQ51_ap_tsCons := @ap_tsCons
@[local simp] def zsPQ51_ap_asg := @ap_asg
@[local simp] def zsPQ51_ap_sub := @ap_sub
@[local simp] def zsPQ51_ap_par := @ap_par
@[local simp] def zsPQ51_ap_aug := @ap_aug
@[local simp] def zsPQ51_ap_get := @ap_get
@[local simp] def zsPQ51_ap_getO := @ap_getO
@[local simp] def zsPQ51_ap_yes := @ap_yes
@[local simp] def zsPQ51_ap_mut := @ap_mut
@[local simp] theorem zsPQ51_startP (n : Nat) (args : List PV) : startP n args = args.map some ++ List.replicate (n - args.length) none := rfl
@[local simp] theorem zsPQ51_rowOfa (xs : List PV) : rowOf (.lst xs) = some xs := rfl
@[local simp] theorem zsPQ51_rowOfb (xs : List PV) : rowOf (.tup xs) = some xs := rfl
@[local simp] def zsPQ51_gTup0 := @gTup0
@[local simp] def zsPQ51_gTup1 := @gTup1
@[local simp] def zsPQ51_gTup2 := @gTup2
@[local simp] def zsPQ51_gLst0 := @gLst0
@[local simp] def zsPQ51_gLst1 := @gLst1
@[local simp] def zsPQ51_gLst2 := @gLst2
def encPr (x : Dg × LP) : PV := .tup [encG x.1, encL x.2]
theorem pairsX_enc : ∀ s : Sum, pairsX (s.map encPr) = some (encS encG RVal.enc s)
  | [] => rfl
  | x :: s => by
    have ih := pairsX_enc s
    show pairsX (.tup [encG x.1, encL x.2] :: s.map encPr) = _
    unfold pairsX
    rw [if_pos (kencG.key x.1), ih]; rfl
theorem mergeX_enc (acc : Sum) : ∀ s : Sum, mergeX (encS encG RVal.enc acc) (encS encG RVal.enc s) = encS encG RVal.enc (s.foldl (fun a x => putS a x.1 x.2) acc) := fun s => by
  induction s generalizing acc with
  | nil => rfl
  | cons x s ih =>
    show mergeX (putX (encS encG RVal.enc acc) (encG x.1) (RVal.enc x.2)) (encS encG RVal.enc s) = _
    rw [putX_enc kencG, ih]; rfl
theorem gDictX_pairs {s : Sum} (hn : (keysS s).Nodup) (hl : s.length ≤ 1000000) : gDictX [.lst (s.map encPr)] = some (encSum s) := by
  unfold gDictX
  simp only [List.length_map, hl, decide_true, if_true, pairsX_enc, Option.map_some]
  have := mergeX_enc [] s
  rw [foldl_put_nil s [] (by rw [List.nil_append]; exact hn), List.nil_append] at this
  exact congrArg (fun z => some (PV.dit z)) this
/-- dict([(one, found[one]) for one in found if found[one] != ()]) -/
theorem law_nz {i j : Nat} {s : Sum} {ρ : Env} (hn : (keysS s).Nodup) (hl : s.length ≤ 900000) (hi : ρ[i]? = some (some (encSum s))) (hij : i ≠ j) (hj : ∃ o, ρ[j]? = some o) :
    fList gDictX (a1 (fLC [j] (iX (fVar i)) (tName j) (fTest (fOp gNeD (fOp gIxX (fVar i) (fVar j)) (fList gTuple aNil))) (fList gTuple (aCons (fVar j) (aCons (fOp gIxX (fVar i) (fVar j)) aNil))))) ρ = some (encSum (nzS s), ρ) := by
  have e1 : iX (fVar i) ρ = some (s.map fun x => encG x.1, ρ) := iX_of (by simp [hi])
  obtain ⟨o, hj⟩ := hj
  have hjl : j < ρ.length := (List.getElem?_eq_some_iff.mp hj).1
  have main := lc_map (fun x : Dg × LP => encG x.1) (fun x => decide (x.2 ≠ 0)) encPr (vs := [j]) (t := tName j) (ft := fTest (fOp gNeD (fOp gIxX (fVar i) (fVar j)) (fList gTuple aNil))) (fe := fList gTuple (aCons (fVar j) (aCons (fOp gIxX (fVar i) (fVar j)) aNil))) (ρ := ρ) s [] (fun x hx => by
    have hlk : lookS s x.1 = some x.2 := lookS_of_mem hn hx
    have hw : (wipeP ρ [j]) = ρ.set j none := rfl
    have hs : ((ρ.set j none).set j (some (encG x.1))) = ρ.set j (some (encG x.1)) := by rw [List.set_set]
    have gi : (ρ.set j (some (encG x.1)))[i]? = some (some (encSum s)) := by rw [List.getElem?_set_ne (Ne.symm hij)]; exact hi
    have gj : (ρ.set j (some (encG x.1)))[j]? = some (some (encG x.1)) := List.getElem?_set_self hjl
    have gx : gIxX (encSum s) (encG x.1) = some (encL x.2) := gIxX_enc kencG hlk
    refine ⟨ρ.set j (some (encG x.1)), ?_, ?_, fun _ => ?_, ?_⟩
    · rw [hw, ap_name, hs]
    · simp [gi, gj, gx, gNeD_zero]
    · simp [gi, gj, gx, encPr]
    · show backP ρ [j] (ρ.set j (some (encG x.1))) = ρ
      simp only [backP]
      rw [hj]
      simp only [Option.getD_some, List.set_set]
      refine List.ext_getElem? fun k => ?_
      by_cases e : k = j
      · subst e; rw [List.getElem?_set_self hjl, hj]
      · rw [List.getElem?_set_ne (Ne.symm e)]) (by simp; omega)
  have e2 := lc_of e1 main
  rw [List.nil_append] at e2
  have hf : (s.filter fun x => decide (x.2 ≠ 0)).length ≤ 1000000 := Nat.le_trans (List.length_filter_le _ _) (by omega)
  have gd := gDictX_pairs (s := nzS s) (nzS_ok hn).nd hf
  rw [ap_list, ap_a1, e2]
  simp only [Option.bind_some]
  show (gDictX [.lst ((nzS s).map encPr)]).map _ = _
  rw [gd]; rfl
/-- the product with one diagram, its number 1 -/
theorem mul_one_co {stk : Dg → Dg → Nat × Dg} {s : Sum} {b : Dg} {l : LP} (hn : (keysS s).Nodup) (g : Dg) : co (mulS stk s [(b, 1)] l) g = sm s fun x => if (stk x.1 b).2 = g then x.2 * l ^ (stk x.1 b).1 else 0 := by
  unfold mulS
  rw [nzS_co (gather_nd _ _ _ _ (by simp [keysS])), gather_co, co_nil]
  have e : prodZ s [(b, (1 : LP))] = s.map fun x => (x, (b, 1)) := by
    unfold prodZ
    induction s with
    | nil => rfl
    | cons x s ih =>
      unfold keysS at hn ih
      rw [List.map_cons, List.nodup_cons] at hn
      rw [List.flatMap_cons, ih hn.2]; rfl
  unfold at'
  rw [e, sm_map]
  have : ∀ z : LP, 0 + z = z := fun z => by grind
  rw [this]
  refine sm_congr fun x _ => ?_
  show (if (stk x.1 b).2 = g then x.2 * 1 * l ^ (stk x.1 b).1 else 0) = _
  split
  · grind
  · rfl
/-- a number put to one diagram -/
theorem put_add_co (s : Sum) (h : (keysS s).Nodup) (a : Dg) (δ : LP) (F : Dg → LP → LP) (hF : Lin F) : sm (nzS (putS s a (co s a + δ))) (fun x => F x.1 x.2) = sm s (fun x => F x.1 x.2) + F a δ := by
  have h1 := nodup_put h a (co s a + δ)
  have e := lin_congr hF (Z := nzS (putS s a (co s a + δ))) (key := (·.1)) (val := (·.2)) (Y := s ++ [(a, δ)]) (key2 := (·.1)) (val2 := (·.2)) fun g => by
    rw [← co_at _ (nzS_ok h1).nd, nzS_co h1, co_put]
    unfold at'
    rw [sm_append]
    have := co_at s h g
    unfold at' at this
    rw [← this, sm_cons, sm_nil]
    by_cases e : g = a
    · subst e; simp only [if_true]; grind
    · rw [if_neg e, if_neg (Ne.symm e)]; grind
  rw [e, sm_append, sm_cons, sm_nil]
  grind
end Tl
end PT

set_option Elab.async false
set_option linter.all false
set_option autoImplicit false
set_option maxRecDepth 100000
set_option maxHeartbeats 4000000
/-! PQ6: draws of the law's tape; rules of expressions, big step. -/
namespace PT
open PySem PT.Lau
section
variable {f g : EF} {c d : TF} {a b : AF} {ρ ρ1 ρ2 : Env} {i : Nat} {v w x : PV} {G : G2} {L : GL} {us vs : List PV} {p q : Bool}
theorem r_var (h : ρ[i]? = some (some v)) : fVar i ρ = some (v, ρ) := by unfold fVar look; rw [h]; rfl
theorem r_c : fC v ρ = some (v, ρ) := rfl
theorem r_list (h : a ρ = some (vs, ρ1)) (hL : L vs = some v) : fList L a ρ = some (v, ρ1) := by rw [ap_list, h]; simp only [Option.bind_some, hL, Option.map_some]
theorem r_cons (h : f ρ = some (v, ρ1)) (h2 : a ρ1 = some (vs, ρ2)) : aCons f a ρ = some (v :: vs, ρ2) := by rw [ap_aCons, h]; simp only [Option.bind_some, h2]
theorem r_nil : aNil ρ = some ([], ρ) := rfl
theorem r_a1 (h : f ρ = some (v, ρ1)) : a1 f ρ = some ([v], ρ1) := by rw [ap_a1, h]; rfl
theorem r_op (h : f ρ = some (v, ρ1)) (h2 : g ρ1 = some (w, ρ2)) (hG : G v w = some x) : fOp G f g ρ = some (x, ρ2) := by rw [ap_op, h]; simp only [Option.bind_some, h2, hG, Option.map_some]
theorem r_opO (h : ∃ u, ρ[i]? = some (some u)) (h2 : g ρ = some (w, ρ2)) (h3 : ρ2[i]? = some (some v)) (hG : G v w = some x) : fOpO G i g ρ = some (x, ρ2) := by
  obtain ⟨u, h⟩ := h
  rw [ap_opO]; unfold look; rw [h]; simp only [Option.bind_some, h2, h3, hG, Option.map_some]
theorem r_un {U : PV → Option PV} (h : f ρ = some (v, ρ1)) (hU : U v = some x) : fUn U f ρ = some (x, ρ1) := by rw [ap_un, h]; simp only [Option.bind_some, hU, Option.map_some]
theorem r_test (h : f ρ = some (.bl p, ρ1)) : fTest f ρ = some (p, ρ1) := by rw [ap_test, h]; rfl
theorem r_tru (h : f ρ = some (v, ρ1)) (ht : gTru v = some p) : fTru f ρ = some (p, ρ1) := by rw [ap_tru, h]; simp only [Option.bind_some, ht, Option.map_some]
theorem r_not (h : c ρ = some (p, ρ1)) : fNotT c ρ = some (!p, ρ1) := by rw [ap_notT, h]; rfl
theorem r_or (h : c ρ = some (false, ρ1)) (h2 : d ρ1 = some (q, ρ2)) : fOrT c d ρ = some (q, ρ2) := by rw [ap_orT, h]; simp only [Option.bind_some, Bool.false_eq_true, if_false, h2]
theorem r_or_t (h : c ρ = some (true, ρ1)) : fOrT c d ρ = some (true, ρ1) := by rw [ap_orT, h]; simp
theorem r_and (h : c ρ = some (true, ρ1)) (h2 : d ρ1 = some (q, ρ2)) : fAndT c d ρ = some (q, ρ2) := by rw [ap_andT, h]; simp only [Option.bind_some, if_true, h2]
theorem r_and_f (h : c ρ = some (false, ρ1)) : fAndT c d ρ = some (false, ρ1) := by rw [ap_andT, h]; simp
theorem r_andV (h : f ρ = some (.bl true, ρ1)) (h2 : g ρ1 = some (v, ρ2)) : fAndV f g ρ = some (v, ρ2) := by rw [ap_andV, h]; simp only [Option.bind_some, h2]
theorem r_andV_f (h : f ρ = some (.bl false, ρ1)) : fAndV f g ρ = some (.bl false, ρ1) := by rw [ap_andV, h]; rfl
theorem r_mpO {T : String} {M : GP} (h : ∃ u, ρ[i]? = some (some u) ∧ tyOf u = T) (h2 : a ρ = some (vs, ρ1)) (h3 : ρ1[i]? = some (some v)) (hG : M v vs = some x) : fMpO T i M a ρ = some (x, ρ1) := by
  obtain ⟨u, h, hT⟩ := h
  unfold fMpO look
  rw [h]
  simp only [Option.bind_some, hT, if_true, h2, h3, hG, Option.map_some]
theorem r_mp {T : String} {M : GP} (h : f ρ = some (v, ρ1)) (hT : tyOf v = T) (h2 : a ρ1 = some (vs, ρ2)) (hG : M v vs = some x) : fMp T M f a ρ = some (x, ρ2) := by
  unfold fMp
  rw [h]
  simp only [Option.bind_some, hT, if_true, h2, hG, Option.map_some]
/-- a draw -/
theorem r_draw {t : PV} {m : Int} (ht : TapeOk t) (hi : ρ[i]? = some (some t)) (hm : 0 < m) (hm2 : m < 1073741824) (hf : f ρ = some (.int m, ρ)) :
    ∃ r t', fCallI i F__law_next (oHole i (oCons f oNil)) ρ = some (.int r, ρ.set i (some t')) ∧ 0 ≤ r ∧ r < m ∧ TapeOk t' := by
  obtain ⟨r, t', e, h1, h2, h3⟩ := F__law_next_ok ht hm hm2
  refine ⟨r, t', ?_, h1, h2, h3⟩
  unfold fCallI oHole oCons oNil look
  simp only [hi, Option.bind_some, hf]
  show (F__law_next (fillP t [none, some (.int m)])).bind _ = _
  have : fillP t [none, some (.int m)] = [t, .int m] := rfl
  rw [this, e]; rfl
end
theorem tape0 (ns : List Int) (k : Int) (h0 : 0 ≤ k) (h1 : k < 2147483647) : TapeOk (tapeP ns 0 0 k) := ⟨ns, 0, 0, k, rfl, by decide, by decide, h0, h1⟩
theorem gAdd_ints (a b : Int) : gAdd (.int a) (.int b) = some (.int (a + b)) := rfl
theorem gLen_lst (xs : List PV) : gLenAll [.lst xs] = some (.int xs.length) := rfl
end PT

set_option Elab.async false
set_option linter.all false
set_option autoImplicit false
set_option maxRecDepth 100000
set_option maxHeartbeats 4000000
/-! PQ7: rules of expressions that leave the slots as they are. -/
namespace PT
open PySem PT.Lau
section
variable {f g h : EF} {c d : TF} {a b : AF} {ρ ρ1 : Env} {i : Nat} {v w x p0 : PV} {G : G2} {L : GL} {us vs : List PV} {p q : Bool}
theorem p_var (e : ρ[i]? = some (some v)) : fVar i ρ = some (v, ρ) := r_var e
theorem p_c : fC v ρ = some (v, ρ) := rfl
theorem p_list (e : a ρ = some (vs, ρ)) (hL : L vs = some v) : fList L a ρ = some (v, ρ) := r_list e hL
theorem p_cons (e : f ρ = some (v, ρ)) (h2 : a ρ = some (vs, ρ)) : aCons f a ρ = some (v :: vs, ρ) := r_cons e h2
theorem p_nil : aNil ρ = some ([], ρ) := rfl
theorem p_a1 (e : f ρ = some (v, ρ)) : PT.a1 f ρ = some ([v], ρ) := r_a1 e
theorem p_op (e : f ρ = some (v, ρ)) (h2 : g ρ = some (w, ρ)) (hG : G v w = some x) : fOp G f g ρ = some (x, ρ) := r_op e h2 hG
theorem p_opO (e : ρ[i]? = some (some v)) (h2 : g ρ = some (w, ρ)) (hG : G v w = some x) : fOpO G i g ρ = some (x, ρ) := r_opO ⟨v, e⟩ h2 e hG
theorem p_un {U : PV → Option PV} (e : f ρ = some (v, ρ)) (hU : U v = some x) : fUn U f ρ = some (x, ρ) := r_un e hU
theorem p_test (e : f ρ = some (.bl p, ρ)) : fTest f ρ = some (p, ρ) := r_test e
theorem p_tru (e : f ρ = some (v, ρ)) (ht : gTru v = some p) : fTru f ρ = some (p, ρ) := r_tru e ht
theorem p_not (e : c ρ = some (p, ρ)) : fNotT c ρ = some (!p, ρ) := r_not e
theorem p_or (e : c ρ = some (p, ρ)) (h2 : p = false → d ρ = some (q, ρ)) : fOrT c d ρ = some (p || q, ρ) := by
  cases p with
  | true => rw [r_or_t e]; rfl
  | false => rw [r_or e (h2 rfl)]; rfl
theorem p_and (e : c ρ = some (p, ρ)) (h2 : p = true → d ρ = some (q, ρ)) : fAndT c d ρ = some (p && q, ρ) := by
  cases p with
  | true => rw [r_and e (h2 rfl)]; rfl
  | false => rw [r_and_f e]; rfl
theorem p_andV (e : f ρ = some (.bl p, ρ)) (h2 : p = true → g ρ = some (.bl q, ρ)) : fAndV f g ρ = some (.bl (p && q), ρ) := by
  cases p with
  | true => rw [r_andV e (h2 rfl)]; rfl
  | false => rw [r_andV_f e]; rfl
theorem p_orV (e : f ρ = some (.bl p, ρ)) (h2 : p = false → g ρ = some (.bl q, ρ)) : fOrV f g ρ = some (.bl (p || q), ρ) := by
  cases p with
  | true => rw [ap_orV, e]; rfl
  | false => rw [ap_orV, e]; simp only [Option.bind_some, h2 rfl]; rfl
theorem p_notV (e : f ρ = some (.bl p, ρ)) : fNotV f ρ = some (.bl (!p), ρ) := by rw [ap_notV, e]; rfl
theorem p_if (e : c ρ = some (p, ρ)) (h2 : p = true → f ρ = some (v, ρ)) (h3 : p = false → g ρ = some (w, ρ)) : fIf c f g ρ = some (if p = true then v else w, ρ) := by
  cases p with
  | true => rw [if_tt e, h2 rfl]; rfl
  | false => rw [if_ff e, h3 rfl]; rfl
theorem p_if_t (e : c ρ = some (true, ρ)) (h2 : f ρ = some (v, ρ)) : fIf c f g ρ = some (v, ρ) := by rw [if_tt e, h2]
theorem p_if_f (e : c ρ = some (false, ρ)) (h2 : g ρ = some (v, ρ)) : fIf c f g ρ = some (v, ρ) := by rw [if_ff e, h2]
theorem p_chain {G' : G2} (e : f ρ = some (v, ρ)) (h2 : g ρ = some (w, ρ)) (hG : G v w = some (.bl p)) (h3 : p = true → h ρ = some (x, ρ)) (h4 : p = true → G' w x = some (.bl q)) : fChain G G' f g h ρ = some (.bl (p && q), ρ) := by
  unfold fChain
  rw [e]; simp only [Option.bind_some, h2, hG]
  cases p with
  | true => simp only [h3 rfl, Option.bind_some, h4 rfl, Option.map_some]; rfl
  | false => rfl
theorem p_slD {S : GSl} {k : Int} (e : f ρ = some (v, ρ)) (hk : g ρ = some (.int k, ρ)) (hG : S v (some k) none = some x) : fSlice S f (pSome g) pNone ρ = some (x, ρ) := by
  unfold fSlice pSome pNone; rw [e]; simp only [Option.bind_some, hk, hG, Option.map_some]
theorem p_slT {S : GSl} {k : Int} (e : f ρ = some (v, ρ)) (hk : g ρ = some (.int k, ρ)) (hG : S v none (some k) = some x) : fSlice S f pNone (pSome g) ρ = some (x, ρ) := by
  unfold fSlice pSome pNone; rw [e]; simp only [Option.bind_some, hk, hG, Option.map_some]
theorem p_slDT {S : GSl} {k j : Int} (e : f ρ = some (v, ρ)) (hk : g ρ = some (.int k, ρ)) (hj : h ρ = some (.int j, ρ)) (hG : S v (some k) (some j) = some x) : fSlice S f (pSome g) (pSome h) ρ = some (x, ρ) := by
  unfold fSlice pSome; rw [e]; simp only [Option.bind_some, hk, hj, hG, Option.map_some]
theorem p_iS (e : f ρ = some (v, ρ)) (hr : rowOf v = some vs) : iS f ρ = some (vs, ρ) := by rw [ap_iS, e]; simp only [Option.bind_some, hr, Option.map_some]
theorem p_mut {C : PV → Bool} {M : GM} (e : ρ[i]? = some (some p0)) (hC : C p0 = true) (h2 : a ρ = some (vs, ρ)) (hM : M p0 vs = some (v, w)) : fMut C i M a ρ = some (v, ρ.set i (some w)) := by
  rw [ap_mut]; unfold look
  simp only [e, Option.bind_some, hC, if_true, h2, hM]
variable {s t : SF} {Q : Fl → Env → Prop}
theorem q_ret (e : f ρ = some (v, ρ)) (k : Q (.rt v) ρ) : Go (fRet f) ρ Q := go_ret e k
theorem q_set (e : f ρ = some (v, ρ)) (k : Q .nx (ρ.set i (some v))) : Go (fSet i f) ρ Q := go_set e k
theorem q_if (e : c ρ = some (p, ρ)) (k : p = true → Go s ρ Q) (k2 : p = false → Go t ρ Q) : Go (fIf c s t) ρ Q := go_if e k k2
theorem q_t (e : c ρ = some (true, ρ)) (k : Go s ρ Q) : Go (fIf c s t) ρ Q := go_if_t e k
theorem q_f (e : c ρ = some (false, ρ)) (k : Go t ρ Q) : Go (fIf c s t) ρ Q := go_if_f e k
end
end PT

set_option Elab.async false
set_option linter.all false
set_option autoImplicit false
set_option maxRecDepth 100000
set_option maxHeartbeats 4000000
/-! k83_m1: words, moves; what the program's moves compute. -/
namespace PT
namespace k83
open PySem PT PT.Lau
abbrev Wd := List Int
abbrev Sta := Wd × Nat
inductive Mv where
  | cyc | bck | up (s : Bool) | dwn | swp (k : Nat) | can (k : Nat) | tri (k : Nat) | ins (k : Nat) (l : Int)
deriving DecidableEq
def sgn (b : Bool) : Int := if b = true then 1 else -1
def ab (i : Int) : Int := if i < 0 then -i else i
def gw (w : Wd) (k : Nat) : Int := w.getD k 0
def encW (w : Wd) : PV := .tup (w.map PV.int)
def encSt (s : Sta) : PV := .tup [encW s.1, .int s.2]
def encM : Mv → PV
  | .cyc => .tup [.str "cycle"]
  | .bck => .tup [.str "back"]
  | .up s => .tup [.str "up", .int (sgn s)]
  | .dwn => .tup [.str "down"]
  | .swp k => .tup [.str "swap", .int k]
  | .can k => .tup [.str "cancel", .int k]
  | .tri k => .tup [.str "triple", .int k]
  | .ins k l => .tup [.str "insert", .int k, .int l]
def encO : Option Sta → PV
  | none => .non
  | some s => encSt s
/-- the word alone -/
def encOW : Option Wd → PV
  | none => .non
  | some w => encW w
def isTri (a b c : Int) : Bool := decide (ab a = ab c) && decide (ab (ab a - ab b) = 1) && (decide (decide (0 < a) = decide (0 < b)) || decide (decide (0 < b) = decide (0 < c)))
def trn (a b c : Int) : Wd := [if 0 < c then ab b else 0 - ab b, if 0 < b then ab a else 0 - ab a, if 0 < a then ab b else 0 - ab b]
def bS (w : Wd) (k : Nat) : Bool := decide (k + 1 < w.length) && decide (1 < ab (ab (gw w k) - ab (gw w (k + 1))))
def bC (w : Wd) (k : Nat) : Bool := decide (k + 1 < w.length) && decide (gw w k = 0 - gw w (k + 1))
def bT (w : Wd) (k : Nat) : Bool := decide (k + 2 < w.length) && isTri (gw w k) (gw w (k + 1)) (gw w (k + 2))
/-- a move of words -/
def mvd (w : Wd) (n : Nat) : Mv → Option Wd
  | .swp k => if bS w k = true then some (w.take k ++ [gw w (k + 1), gw w k] ++ w.drop (k + 2)) else none
  | .can k => if bC w k = true then some (w.take k ++ w.drop (k + 2)) else none
  | .tri k => if bT w k = true then some (w.take k ++ trn (gw w k) (gw w (k + 1)) (gw w (k + 2)) ++ w.drop (k + 3)) else none
  | .ins k l => if k ≤ w.length ∧ 0 < ab l ∧ ab l < n then some (w.take k ++ [l, 0 - l] ++ w.drop k) else none
  | _ => none
def mv (s : Sta) : Mv → Option Sta
  | .cyc => if s.1 = [] then none else some (s.1.drop 1 ++ s.1.take 1, s.2)
  | .bck => if s.1 = [] then none else some (s.1.drop (s.1.length - 1) ++ s.1.take (s.1.length - 1), s.2)
  | .up b => some (s.1 ++ [sgn b * s.2], s.2 + 1)
  | .dwn => if s.2 < 2 ∨ s.1 = [] ∨ ab (gw s.1 (s.1.length - 1)) ≠ s.2 - 1 then none
    else if ((s.1.take (s.1.length - 1)).any fun l => decide (ab l = s.2 - 1)) = true then none else some (s.1.take (s.1.length - 1), s.2 - 1)
  | m => (mvd s.1 s.2 m).map fun w => (w, s.2)
/-! ### small steps -/
theorem gAbs_ab (i : Int) : gAbs [.int i] = some (.int (ab i)) := rfl
theorem gSub_i (a b : Int) : gSubI (.int a) (.int b) = some (.int (a - b)) := rfl
theorem gLt_i (a b : Int) : gLt (.int a) (.int b) = some (.bl (decide (a < b))) := rfl
theorem gGt_i (a b : Int) : gGt (.int a) (.int b) = some (.bl (decide (b < a))) := rfl
theorem gEq_i (a b : Int) : gEqD (.int a) (.int b) = some (.bl (decide (a = b))) := by
  unfold gEqD
  rw [if_pos (by rfl)]
  show some (PV.bl (a == b)) = _
  congr 2
theorem gNe_i (a b : Int) : gNeD (.int a) (.int b) = some (.bl (decide (a ≠ b))) := by
  unfold gNeD
  rw [if_pos (by rfl)]
  show some (PV.bl (!(a == b))) = _
  congr 2
  by_cases h : a = b <;> simp [h]
theorem gEq_b (a b : Bool) : gEqD (.bl a) (.bl b) = some (.bl (decide (a = b))) := by cases a <;> cases b <;> kernel_rfl
theorem gLen_w (w : Wd) : gLenAll [encW w] = some (.int w.length) := by
  show some (PV.int ((w.map PV.int).length : Nat)) = _
  rw [List.length_map]
theorem gw_get {w : Wd} {k : Nat} (h : k < w.length) : w[k]? = some (gw w k) := by unfold gw; simp [h]
theorem gIx_w {w : Wd} {i : Int} {k : Nat} (e : i = (k : Int)) (h : k < w.length) : gIxAll (encW w) (.int i) = some (.int (gw w k)) := by
  subst e
  have e2 : gIxT (encW w) (.int (k : Int)) = some (.int (gw w k)) := by
    unfold gIxT encW
    simp only [L2.atI, L2.ixN, List.length_map]
    rw [if_pos (by omega), if_pos (by omega)]
    simp [gw_get h]
  unfold gIxAll orG
  rw [e2]
theorem gIx_last {w : Wd} (h : w ≠ []) : gIxAll (encW w) (.int (-1)) = some (.int (gw w (w.length - 1))) := by
  have hl : 0 < w.length := List.length_pos_iff.mpr h
  have e2 : gIxT (encW w) (.int (-1)) = some (.int (gw w (w.length - 1))) := by
    unfold gIxT encW
    simp only [L2.atI, L2.ixN, List.length_map]
    rw [if_neg (by omega), if_pos (by omega)]
    have : ((-1 : Int) + (w.length : Int)).toNat = w.length - 1 := by omega
    simp [this, gw_get (show w.length - 1 < w.length by omega)]
  unfold gIxAll orG
  rw [e2]
theorem sl_dropI {w : Wd} {i : Int} {k : Nat} (e : i = (k : Int)) : gSl (encW w) (some i) none = some (encW (w.drop k)) := by
  subst e
  show some (PV.tup (cutP (w.map PV.int) (some (k : Int)) none)) = _
  unfold cutP encW
  rw [HT.sIx_nat, HT.sIx_none, List.length_map]
  congr 2
  rw [← List.map_drop, ← List.map_take]
  congr 1
  by_cases h : k ≤ w.length
  · rw [Nat.min_eq_left h]; exact List.take_of_length_le (by rw [List.length_drop]; exact Nat.le_refl _)
  · rw [Nat.min_eq_right (by omega)]; simp; omega
theorem sl_takeI {w : Wd} {i : Int} {k : Nat} (e : i = (k : Int)) : gSl (encW w) none (some i) = some (encW (w.take k)) := by
  subst e
  show some (PV.tup (cutP (w.map PV.int) none (some (k : Int)))) = _
  unfold cutP encW
  rw [HT.sIx_nat, HT.sIx_none, List.length_map, List.drop_zero, Nat.sub_zero, ← List.map_take]
  congr 3
  by_cases h : k ≤ w.length
  · rw [Nat.min_eq_left h]
  · rw [Nat.min_eq_right (by omega), List.take_of_length_le (Nat.le_refl _), List.take_of_length_le (by omega)]
theorem sIx_m1 (n d : Nat) : HT.sIx n d (some (-1)) = n - 1 := by
  have : HT.sIx n d (some (-1)) = ((-1 : Int) + (n : Int)).toNat := rfl
  rw [this]; omega
theorem sl_dropL {w : Wd} : gSl (encW w) (some (-1)) none = some (encW (w.drop (w.length - 1))) := by
  show some (PV.tup (cutP (w.map PV.int) (some (-1)) none)) = _
  unfold cutP encW
  rw [sIx_m1, HT.sIx_none, List.length_map]
  congr 2
  rw [← List.map_drop, ← List.map_take]
  congr 1
  exact List.take_of_length_le (by rw [List.length_drop]; exact Nat.le_refl _)
theorem sl_takeL {w : Wd} : gSl (encW w) none (some (-1)) = some (encW (w.take (w.length - 1))) := by
  show some (PV.tup (cutP (w.map PV.int) none (some (-1)))) = _
  unfold cutP encW
  rw [sIx_m1, HT.sIx_none, List.length_map, List.drop_zero, Nat.sub_zero, ← List.map_take]
theorem gAdd_w {u v : Wd} (h : u.length + v.length ≤ 1000000) : gAdd (encW u) (encW v) = some (encW (u ++ v)) := by
  have e1 : gAddI (encW u) (encW v) = none := rfl
  have e2 : gAddT (encW u) (encW v) = some (encW (u ++ v)) := by
    unfold gAddT encW
    simp only [List.length_map]
    rw [if_pos h, List.map_append]
  unfold gAdd orG
  rw [e1, e2]
theorem F_is_triple_eq (a b c : Int) : F_is_triple [.int a, .int b, .int c] = some (.bl (isTri a b c)) := by
  refine go_run (b := b_is_triple) ?_
  show Go b_is_triple [some (.int a), some (.int b), some (.int c)] _
  refine go_seq (q_if (p_or (p_test (p_op (p_list (p_a1 (p_var rfl)) (gAbs_ab a)) (p_list (p_a1 (p_var rfl)) (gAbs_ab c)) (gNe_i _ _)))
    (fun _ => p_test (p_op (p_list (p_a1 (p_op (p_list (p_a1 (p_var rfl)) (gAbs_ab a)) (p_list (p_a1 (p_var rfl)) (gAbs_ab b)) (gSub_i _ _))) (gAbs_ab _)) p_c (gNe_i _ _)))) (fun e => ?_) (fun e => ?_))
  · refine go_seq (q_ret p_c ?_)
    show some (PV.bl false) = _
    congr 2
    unfold isTri
    simp only [Bool.or_eq_true, decide_eq_true_eq] at e
    rcases e with e | e <;> simp [e]
  · refine go_nx (go_seq (q_ret (p_orV (p_op (p_op (p_var rfl) p_c (gGt_i a 0)) (p_op (p_var rfl) p_c (gGt_i b 0)) (gEq_b _ _)) fun _ => p_op (p_op (p_var rfl) p_c (gGt_i b 0)) (p_op (p_var rfl) p_c (gGt_i c 0)) (gEq_b _ _)) ?_))
    show some (PV.bl _) = _
    congr 2
    unfold isTri
    simp only [Bool.or_eq_false_iff, decide_eq_false_iff_not, Decidable.not_not] at e
    rw [decide_eq_true e.1, decide_eq_true e.2]; rfl
theorem F_turned_eq (a b c : Int) : F_turned [.int a, .int b, .int c] = some (encW (trn a b c)) := by
  refine go_run (b := b_turned) ?_
  show Go b_turned [some (.int a), some (.int b), some (.int c), none, none] _
  refine go_seq (go_par (p_list (p_a1 (p_var rfl)) (gAbs_ab a)) (p_list (p_a1 (p_var rfl)) (gAbs_ab b)) ?_)
  refine go_seq (q_ret (p_list (p_cons (p_if (p_test (p_op (p_var rfl) p_c (gGt_i c 0))) (fun _ => p_var rfl) (fun _ => p_op p_c (p_var rfl) (gSub_i _ _)))
    (p_cons (p_if (p_test (p_op (p_var rfl) p_c (gGt_i b 0))) (fun _ => p_var rfl) (fun _ => p_op p_c (p_var rfl) (gSub_i _ _)))
    (p_cons (p_if (p_test (p_op (p_var rfl) p_c (gGt_i a 0))) (fun _ => p_var rfl) (fun _ => p_op p_c (p_var rfl) (gSub_i _ _))) p_nil))) (gTup3 _ _ _)) ?_)
  show some (PV.tup _) = some (PV.tup _)
  unfold trn
  simp only [decide_eq_true_eq, List.map_cons, List.map_nil]
  by_cases h1 : 0 < c <;> by_cases h2 : 0 < b <;> by_cases h3 : 0 < a <;> simp [h1, h2, h3]
end k83
end PT

set_option Elab.async false
set_option linter.all false
set_option autoImplicit false
set_option maxRecDepth 100000
set_option maxHeartbeats 4000000
/-! k83_m0: moves and the moves back. -/
namespace PT
namespace k83
open PySem PT PT.Lau
section
variable {u v w : Wd} {a b c l : Int} {n k : Nat}
theorem gw_at0 : gw (u ++ a :: v) u.length = a := by simp [gw]
theorem gw_at1 : gw (u ++ a :: b :: v) (u.length + 1) = b := by simp [gw, List.getElem?_append_right]
theorem gw_at2 : gw (u ++ a :: b :: c :: v) (u.length + 2) = c := by simp [gw, List.getElem?_append_right]
theorem tk_at : (u ++ v).take u.length = u := by simp
theorem dr_at0 : (u ++ v).drop u.length = v := by simp
theorem dr_at2 : (u ++ a :: b :: v).drop (u.length + 2) = v := by simp [List.drop_append]
theorem dr_at3 : (u ++ a :: b :: c :: v).drop (u.length + 3) = v := by simp [List.drop_append]
theorem drop_cons (h : k < w.length) : w.drop k = gw w k :: w.drop (k + 1) := by
  rw [List.drop_eq_getElem_cons h]; simp [gw, h]
theorem split2 (h : k + 1 < w.length) : ∃ u a b v, w = u ++ a :: b :: v ∧ u.length = k := ⟨w.take k, gw w k, gw w (k + 1), w.drop (k + 2), by
  rw [← drop_cons (k := k + 1) h, ← drop_cons (k := k) (by omega), List.take_append_drop], by simp; omega⟩
theorem split3 (h : k + 2 < w.length) : ∃ u a b c v, w = u ++ a :: b :: c :: v ∧ u.length = k := ⟨w.take k, gw w k, gw w (k + 1), gw w (k + 2), w.drop (k + 3), by
  rw [← drop_cons (k := k + 2) h, ← drop_cons (k := k + 1) (by omega), ← drop_cons (k := k) (by omega), List.take_append_drop], by simp; omega⟩
theorem mvd_swp_at : mvd (u ++ a :: b :: v) n (.swp u.length) = if 1 < ab (ab a - ab b) then some (u ++ b :: a :: v) else none := by
  show (if bS (u ++ a :: b :: v) u.length = true then some ((u ++ a :: b :: v).take u.length ++ [gw _ (u.length + 1), gw _ u.length] ++ (u ++ a :: b :: v).drop (u.length + 2)) else none) = _
  rw [tk_at, gw_at0, gw_at1, dr_at2]
  unfold bS
  rw [gw_at0, gw_at1]
  simp
theorem mvd_can_at : mvd (u ++ a :: b :: v) n (.can u.length) = if a = 0 - b then some (u ++ v) else none := by
  show (if bC (u ++ a :: b :: v) u.length = true then some ((u ++ a :: b :: v).take u.length ++ (u ++ a :: b :: v).drop (u.length + 2)) else none) = _
  rw [tk_at, dr_at2]
  unfold bC
  rw [gw_at0, gw_at1]
  simp
theorem mvd_tri_at : mvd (u ++ a :: b :: c :: v) n (.tri u.length) = if isTri a b c = true then some (u ++ trn a b c ++ v) else none := by
  show (if bT (u ++ a :: b :: c :: v) u.length = true then some ((u ++ a :: b :: c :: v).take u.length ++ trn (gw _ u.length) (gw _ (u.length + 1)) (gw _ (u.length + 2)) ++ (u ++ a :: b :: c :: v).drop (u.length + 3)) else none) = _
  rw [tk_at, dr_at3, gw_at0, gw_at1, gw_at2]
  unfold bT
  rw [gw_at0, gw_at1, gw_at2]
  simp
theorem mvd_ins_at : mvd (u ++ v) n (.ins u.length l) = if 0 < ab l ∧ ab l < n then some (u ++ l :: (0 - l) :: v) else none := by
  show (if u.length ≤ (u ++ v).length ∧ 0 < ab l ∧ ab l < n then some ((u ++ v).take u.length ++ [l, 0 - l] ++ (u ++ v).drop u.length) else none) = _
  rw [tk_at, dr_at0]
  simp
theorem mv_cyc_at : mv (a :: v, n) .cyc = some (v ++ [a], n) := rfl
theorem last_at : gw (v ++ [a]) ((v ++ [a]).length - 1) = a := by simp [gw]
theorem tkl_at : (v ++ [a]).take ((v ++ [a]).length - 1) = v := by simp
theorem drl_at : (v ++ [a]).drop ((v ++ [a]).length - 1) = [a] := by simp
theorem mv_bck_at : mv (v ++ [a], n) .bck = some (a :: v, n) := by
  show (if v ++ [a] = [] then none else some ((v ++ [a]).drop ((v ++ [a]).length - 1) ++ (v ++ [a]).take ((v ++ [a]).length - 1), n)) = _
  rw [if_neg (by simp), drl_at, tkl_at]; rfl
theorem mv_dwn_at : mv (v ++ [a], n) .dwn = if n < 2 ∨ ab a ≠ (n : Int) - 1 then none else if (v.any fun l => decide (ab l = (n : Int) - 1)) = true then none else some (v, n - 1) := by
  show (if n < 2 ∨ v ++ [a] = [] ∨ ab (gw (v ++ [a]) ((v ++ [a]).length - 1)) ≠ (n : Int) - 1 then none
    else if (((v ++ [a]).take ((v ++ [a]).length - 1)).any fun l => decide (ab l = (n : Int) - 1)) = true then none else some ((v ++ [a]).take ((v ++ [a]).length - 1), n - 1)) = _
  rw [last_at, tkl_at]
  simp
end
/-- the moves that are tried -/
def poss : Mv → Bool
  | .up _ => false
  | .ins _ _ => false
  | _ => true
def valid (s : Sta) : Prop := ∀ l ∈ s.1, 0 < ab l ∧ ab l < s.2
def bm (s : Sta) : Mv → Mv
  | .cyc => .bck
  | .bck => .cyc
  | .up _ => .dwn
  | .dwn => .up (decide (0 < gw s.1 (s.1.length - 1)))
  | .can k => .ins k (gw s.1 k)
  | .ins k _ => .can k
  | m => m
theorem ab_sym (a b : Int) : ab (ab a - ab b) = ab (ab b - ab a) := by unfold ab; split <;> split <;> omega
theorem sg_ab {B : Int} (hB : 0 < B) (q : Prop) [Decidable q] : ab (if q then B else 0 - B) = B ∧ (0 < (if q then B else 0 - B) ↔ q) := by
  by_cases h : q
  · simp only [h, if_true]; unfold ab; exact ⟨by split <;> omega, by simp; omega⟩
  · simp only [h, if_false]; unfold ab; exact ⟨by split <;> omega, by simp; omega⟩
theorem sg_back (a : Int) : (if 0 < a then ab a else 0 - ab a) = a := by unfold ab; split <;> split <;> omega
theorem ite_iff {p q : Prop} [Decidable p] [Decidable q] (h : p ↔ q) (x y : Int) : (if p then x else y) = if q then x else y := by
  by_cases e : p
  · rw [if_pos e, if_pos (h.mp e)]
  · rw [if_neg e, if_neg (fun z => e (h.mpr z))]
theorem trn_trn {a b c : Int} (ha : 0 < ab a) (hb : 0 < ab b) (hc : 0 < ab c) (h : isTri a b c = true) : ∃ x y z, trn a b c = [x, y, z] ∧ isTri x y z = true ∧ trn x y z = [a, b, c] ∧ ab x = ab b ∧ ab y = ab a ∧ ab z = ab b := by
  unfold isTri at h
  simp only [Bool.and_eq_true, Bool.or_eq_true, decide_eq_true_eq] at h
  obtain ⟨⟨h1, h2⟩, h3⟩ := h
  obtain ⟨x1, x2⟩ := sg_ab hb (0 < c)
  obtain ⟨y1, y2⟩ := sg_ab ha (0 < b)
  obtain ⟨z1, z2⟩ := sg_ab hb (0 < a)
  refine ⟨_, _, _, rfl, ?_, ?_, x1, y1, z1⟩
  · unfold isTri
    rw [x1, y1, z1, decide_eq_decide.mpr x2, decide_eq_decide.mpr y2, decide_eq_decide.mpr z2]
    simp only [Bool.and_eq_true, Bool.or_eq_true, decide_eq_true_eq]
    refine ⟨⟨True.intro, by rw [ab_sym]; exact h2⟩, ?_⟩
    rcases h3 with h3 | h3
    · exact .inr h3.symm
    · exact .inl h3.symm
  · unfold trn
    have e1 : (if 0 < (if 0 < a then ab b else 0 - ab b) then ab (if 0 < b then ab a else 0 - ab a) else 0 - ab (if 0 < b then ab a else 0 - ab a)) = a := by
      rw [y1, ite_iff z2, sg_back]
    have e2 : (if 0 < (if 0 < b then ab a else 0 - ab a) then ab (if 0 < c then ab b else 0 - ab b) else 0 - ab (if 0 < c then ab b else 0 - ab b)) = b := by
      rw [x1, ite_iff y2, sg_back]
    have e3 : (if 0 < (if 0 < c then ab b else 0 - ab b) then ab (if 0 < b then ab a else 0 - ab a) else 0 - ab (if 0 < b then ab a else 0 - ab a)) = c := by
      rw [y1, ite_iff x2, h1, sg_back]
    rw [e1, e2, e3]
theorem cons_or_nil (w : Wd) : w = [] ∨ ∃ v a, w = v ++ [a] := by
  rcases List.eq_nil_or_concat w with h | ⟨v, a, h⟩
  · exact .inl h
  · exact .inr ⟨v, a, by simpa using h⟩
theorem mv_back {s t : Sta} {m : Mv} (hv : valid s) (hp : poss m = true) (h : mv s m = some t) : mv t (bm s m) = some s ∧ valid t ∧ t.1.length ≤ s.1.length ∧ t.2 ≤ s.2 := by
  obtain ⟨w, n⟩ := s
  cases m with
  | up b => cases hp
  | ins k l => cases hp
  | cyc =>
    cases w with
    | nil => cases h
    | cons a v =>
      rw [mv_cyc_at] at h; cases h
      refine ⟨mv_bck_at, fun l hl => hv l ?_, by simp, Nat.le_refl _⟩
      simp at hl ⊢; exact hl.symm
  | bck =>
    rcases cons_or_nil w with rfl | ⟨v, a, rfl⟩
    · cases h
    · rw [mv_bck_at] at h; cases h
      refine ⟨mv_cyc_at, fun l hl => hv l ?_, by simp, Nat.le_refl _⟩
      simp at hl ⊢; exact hl.symm
  | dwn =>
    rcases cons_or_nil w with rfl | ⟨v, a, rfl⟩
    · have : mv (([] : Wd), n) .dwn = none := by
        show (if n < 2 ∨ ([] : Wd) = [] ∨ _ then none else _) = none
        rw [if_pos (.inr (.inl rfl))]
      rw [this] at h; cases h
    · rw [mv_dwn_at] at h
      by_cases h1 : n < 2 ∨ ab a ≠ (n : Int) - 1
      · rw [if_pos h1] at h; cases h
      · rw [if_neg h1] at h
        by_cases h2 : (v.any fun l => decide (ab l = (n : Int) - 1)) = true
        · rw [if_pos h2] at h; cases h
        · rw [if_neg h2] at h; cases h
          have ha := hv a (by simp)
          refine ⟨?_, fun l hl => ?_, by simp, by omega⟩
          · show some (v ++ [sgn (decide (0 < gw (v ++ [a]) ((v ++ [a]).length - 1))) * ((n - 1 : Nat) : Int)], n - 1 + 1) = _
            rw [last_at]
            have e1 : sgn (decide (0 < a)) * ((n - 1 : Nat) : Int) = a := by
              unfold sgn
              unfold ab at h1 ha
              by_cases pa : 0 < a
              · simp only [pa, decide_true, if_true]
                split at h1 <;> omega
              · simp only [pa, decide_false]
                split at h1
                · simp; omega
                · simp only at ha; split at ha <;> omega
            rw [e1]
            have : n - 1 + 1 = n := by omega
            rw [this]
          · have := hv l (by simp [hl])
            have h3 : ab l ≠ (n : Int) - 1 := fun e => h2 (List.any_eq_true.mpr ⟨l, hl, by simp [e]⟩)
            exact ⟨this.1, by show ab l < ((n - 1 : Nat) : Int); have := this.2; simp only at this; omega⟩
  | swp k =>
    obtain ⟨w', e, rfl⟩ := Option.map_eq_some_iff.mp (show (mvd w n (.swp k)).map (fun w => (w, n)) = some t from h)
    have hk : k + 1 < w.length := by
      by_cases q : bS w k = true
      · unfold bS at q; rw [Bool.and_eq_true] at q; exact of_decide_eq_true q.1
      · have : mvd w n (.swp k) = none := if_neg q
        rw [this] at e; cases e
    obtain ⟨u, a, b, v, rfl, rfl⟩ := split2 hk
    rw [mvd_swp_at] at e
    by_cases q : 1 < ab (ab a - ab b)
    · rw [if_pos q] at e; cases e
      refine ⟨?_, fun l hl => hv l ?_, by simp, Nat.le_refl _⟩
      · show (mvd (u ++ b :: a :: v) n (.swp u.length)).map (fun w => (w, n)) = _
        rw [mvd_swp_at, if_pos (by rw [ab_sym]; exact q)]; rfl
      · simp at hl ⊢; grind
    · rw [if_neg q] at e; cases e
  | can k =>
    obtain ⟨w', e, rfl⟩ := Option.map_eq_some_iff.mp (show (mvd w n (.can k)).map (fun w => (w, n)) = some t from h)
    have hk : k + 1 < w.length := by
      by_cases q : bC w k = true
      · unfold bC at q; rw [Bool.and_eq_true] at q; exact of_decide_eq_true q.1
      · have : mvd w n (.can k) = none := if_neg q
        rw [this] at e; cases e
    obtain ⟨u, a, b, v, rfl, rfl⟩ := split2 hk
    rw [mvd_can_at] at e
    by_cases q : a = 0 - b
    · rw [if_pos q] at e; cases e
      refine ⟨?_, fun l hl => hv l ?_, by simp; omega, Nat.le_refl _⟩
      · show (mvd (u ++ v) n (.ins u.length (gw (u ++ a :: b :: v) u.length))).map (fun w => (w, n)) = _
        have ha := hv a (by simp)
        rw [gw_at0, mvd_ins_at, if_pos ha]
        have : b = 0 - a := by omega
        rw [this]; rfl
      · simp at hl ⊢; grind
    · rw [if_neg q] at e; cases e
  | tri k =>
    obtain ⟨w', e, rfl⟩ := Option.map_eq_some_iff.mp (show (mvd w n (.tri k)).map (fun w => (w, n)) = some t from h)
    have hk : k + 2 < w.length := by
      by_cases q : bT w k = true
      · unfold bT at q; rw [Bool.and_eq_true] at q; exact of_decide_eq_true q.1
      · have : mvd w n (.tri k) = none := if_neg q
        rw [this] at e; cases e
    obtain ⟨u, a, b, c, v, rfl, rfl⟩ := split3 hk
    rw [mvd_tri_at] at e
    by_cases q : isTri a b c = true
    · rw [if_pos q] at e; cases e
      have ha := hv a (by simp)
      have hb := hv b (by simp)
      have hc := hv c (by simp)
      obtain ⟨x, y, z, e1, e2, e3, e4, e5, e6⟩ := trn_trn ha.1 hb.1 hc.1 q
      refine ⟨?_, fun l hl => ?_, by rw [e1]; simp, Nat.le_refl _⟩
      · show (mvd (u ++ trn a b c ++ v) n (.tri u.length)).map (fun w => (w, n)) = _
        have : u ++ trn a b c ++ v = u ++ x :: y :: z :: v := by rw [e1]; simp
        rw [this, mvd_tri_at, if_pos e2, e3]
        simp
      · rw [e1] at hl
        simp at hl
        rcases hl with hl | rfl | rfl | rfl | hl
        · exact hv l (by simp [hl])
        · rw [e4]; exact hb
        · rw [e5]; exact ha
        · rw [e6]; exact hb
        · exact hv l (by simp [hl])
    · rw [if_neg q] at e; cases e
theorem mv_len {s t : Sta} {m : Mv} (h : mv s m = some t) : t.1.length ≤ s.1.length + 2 ∧ t.2 ≤ s.2 + 1 := by
  obtain ⟨w, n⟩ := s
  cases m with
  | cyc => unfold mv at h; simp only at h; split at h <;> cases h; simp; omega
  | bck => unfold mv at h; simp only at h; split at h <;> cases h; simp
  | up b => unfold mv at h; cases h; simp
  | dwn =>
    unfold mv at h; simp only at h
    split at h
    · cases h
    · split at h
      · cases h
      · cases h; simp; omega
  | swp k =>
    obtain ⟨w', e, rfl⟩ := Option.map_eq_some_iff.mp (show (mvd w n (.swp k)).map (fun w => (w, n)) = some t from h)
    unfold mvd at e; simp only at e
    split at e
    · rename_i q
      unfold bS at q; rw [Bool.and_eq_true] at q; have := of_decide_eq_true q.1
      cases e; simp; omega
    · cases e
  | can k =>
    obtain ⟨w', e, rfl⟩ := Option.map_eq_some_iff.mp (show (mvd w n (.can k)).map (fun w => (w, n)) = some t from h)
    unfold mvd at e; simp only at e
    split at e
    · cases e; simp; omega
    · cases e
  | tri k =>
    obtain ⟨w', e, rfl⟩ := Option.map_eq_some_iff.mp (show (mvd w n (.tri k)).map (fun w => (w, n)) = some t from h)
    unfold mvd at e; simp only at e
    split at e
    · rename_i q
      unfold bT at q; rw [Bool.and_eq_true] at q; have := of_decide_eq_true q.1
      cases e; simp [trn]; omega
    · cases e
  | ins k l =>
    obtain ⟨w', e, rfl⟩ := Option.map_eq_some_iff.mp (show (mvd w n (.ins k l)).map (fun w => (w, n)) = some t from h)
    unfold mvd at e; simp only at e
    split at e
    · cases e; simp; omega
    · cases e
end k83
end PT

set_option Elab.async false
set_option linter.all false
set_option autoImplicit false
set_option maxRecDepth 100000
set_option maxHeartbeats 4000000
/-! k83_m2: side_of, is_word, moved, markov_moved. -/
namespace PT
namespace k83
open PySem PT PT.Lau
theorem app_str (l : List PV) (s : PySem.Str) (h : l.length < 1000000) : gAppend (.lst l) [.str s] = some (.non, .lst (l ++ [.str s])) := by
  show (if l.length < 1000000 then _ else _) = _
  rw [if_pos h]
def sd (p q r : Bool) : List PV := (if p = true then [PV.str "swap"] else []) ++ (if q = true then [PV.str "cancel"] else []) ++ (if r = true then [PV.str "triple"] else [])
theorem gAddi (a b : Int) : gAdd (.int a) (.int b) = some (.int (a + b)) := gAdd_ints a b
theorem F_side_of_eq (w : Wd) (k : Nat) : F_side_of [encW w, .int k] = some (.lst (sd (bS w k) (bC w k) (bT w k))) := by
  refine go_run (b := b_side_of) ?_
  show Go b_side_of [some (encW w), some (.int k), none] _
  refine go_seq (q_set (p_list p_nil gLst0) ?_)
  have step : ∀ (c : TF) (x : PySem.Str) (b : Bool) (l : List PV) (rest : SF) (Q : Fl → Env → Prop), l.length < 1000000 →
      c [some (encW w), some (.int k), some (.lst l)] = some (b, [some (encW w), some (.int k), some (.lst l)]) →
      Go rest [some (encW w), some (.int k), some (.lst (l ++ if b = true then [PV.str x] else []))] Q →
      Go (fSeq (fIf c (fSeq (fDrop (fMut isLst 2 gAppend (aCons (fC (.str x)) aNil))) fNx) fNx) rest) [some (encW w), some (.int k), some (.lst l)] Q := fun c x b l rest Q hl hc hk => by
    refine go_seq (q_if hc (fun e => ?_) fun e => ?_)
    · subst e
      exact go_seq (go_drop (p_mut rfl rfl (p_cons p_c p_nil) (app_str l x hl)) (go_nx (by simpa using hk)))
    · subst e
      exact go_nx (by simpa using hk)
  have ix0 : ∀ l : List PV, k < w.length → fOp gIxAll (fVar 0) (fVar 1) [some (encW w), some (.int k), some (.lst l)] = some (.int (gw w k), [some (encW w), some (.int k), some (.lst l)]) := fun l h => p_op (p_var rfl) (p_var rfl) (gIx_w rfl h)
  have ix1 : ∀ l : List PV, k + 1 < w.length → fOp gIxAll (fVar 0) (fOp gAdd (fVar 1) (fC (.int 1))) [some (encW w), some (.int k), some (.lst l)] = some (.int (gw w (k + 1)), [some (encW w), some (.int k), some (.lst l)]) := fun l h => p_op (p_var rfl) (p_op (p_var rfl) p_c (gAddi _ _)) (gIx_w (by omega) h)
  have ix2 : ∀ l : List PV, k + 2 < w.length → fOp gIxAll (fVar 0) (fOp gAdd (fVar 1) (fC (.int 2))) [some (encW w), some (.int k), some (.lst l)] = some (.int (gw w (k + 2)), [some (encW w), some (.int k), some (.lst l)]) := fun l h => p_op (p_var rfl) (p_op (p_var rfl) p_c (gAddi _ _)) (gIx_w (by omega) h)
  have lt1 : ∀ l : List PV, fTest (fOp gLt (fOp gAdd (fVar 1) (fC (.int 1))) (fList gLenAll (PT.a1 (fVar 0)))) [some (encW w), some (.int k), some (.lst l)] = some (decide (k + 1 < w.length), [some (encW w), some (.int k), some (.lst l)]) := fun l => by
    have := p_test (p_op (p_op (p_var (ρ := [some (encW w), some (.int k), some (.lst l)]) (i := 1) rfl) p_c (gAddi _ 1)) (p_list (p_a1 (p_var (i := 0) rfl)) (gLen_w w)) (gLt_i _ _))
    rw [this]
    congr 2
    exact decide_eq_decide.mpr (by omega)
  have lt2 : ∀ l : List PV, fTest (fOp gLt (fOp gAdd (fVar 1) (fC (.int 2))) (fList gLenAll (PT.a1 (fVar 0)))) [some (encW w), some (.int k), some (.lst l)] = some (decide (k + 2 < w.length), [some (encW w), some (.int k), some (.lst l)]) := fun l => by
    have := p_test (p_op (p_op (p_var (ρ := [some (encW w), some (.int k), some (.lst l)]) (i := 1) rfl) p_c (gAddi _ 2)) (p_list (p_a1 (p_var (i := 0) rfl)) (gLen_w w)) (gLt_i _ _))
    rw [this]
    congr 2
    exact decide_eq_decide.mpr (by omega)
  refine step _ _ (bS w k) [] _ _ (by decide) (p_and (lt1 _) fun h => ?_) ?_
  · have h := of_decide_eq_true h
    exact p_test (p_op (p_list (p_a1 (p_op (p_list (p_a1 (ix0 _ (by omega))) (gAbs_ab _)) (p_list (p_a1 (ix1 _ h)) (gAbs_ab _)) (gSub_i _ _))) (gAbs_ab _)) p_c (gGt_i _ _))
  refine step _ _ (bC w k) _ _ _ (by cases bS w k <;> decide) (p_and (lt1 _) fun h => ?_) ?_
  · have h := of_decide_eq_true h
    exact p_test (p_op (ix0 _ (by omega)) (p_op p_c (ix1 _ h) (gSub_i _ _)) (gEq_i _ _))
  refine step _ _ (bT w k) _ _ _ (by cases bS w k <;> cases bC w k <;> decide) (p_and (lt2 _) fun h => ?_) ?_
  · have h := of_decide_eq_true h
    exact p_tru (p_list (p_cons (ix0 _ (by omega)) (p_cons (ix1 _ (by omega)) (p_cons (ix2 _ h) p_nil))) (F_is_triple_eq _ _ _)) rfl
  refine go_seq (q_ret (p_var rfl) ?_)
  show some (PV.lst _) = _
  unfold sd
  simp
theorem F_is_word1 (l : Int) (n : Nat) : F_is_word [encW [l], .int n] = some (.bl (decide (0 < ab l) && decide (ab l < n))) := by
  refine go_run (b := b_is_word) ?_
  show Go b_is_word [some (encW [l]), some (.int n), none] _
  refine go_seq (q_f (p_not (p := true) (p_tru (p_un (p_var rfl) (x := .bl true) rfl) rfl)) (go_nx ?_))
  have body : ∀ o : Option PV, (fAndV (fUn (gIsi .int) (fVar 2)) (fAndV (fNotV (fUn (gIsi .bool) (fVar 2))) (fChain gLt gLt (fC (.int 0)) (fList gAbs (PT.a1 (fVar 2))) (fVar 1)))) [some (encW [l]), some (.int n), some (.int l)]
      = some (.bl (decide (0 < ab l) && decide (ab l < n)), [some (encW [l]), some (.int n), some (.int l)]) := fun _ => by
    have := p_andV (p_un (p_var (ρ := [some (encW [l]), some (.int n), some (.int l)]) (i := 2) (v := .int l) rfl) (U := gIsi .int) (x := .bl true) rfl) fun _ =>
      p_andV (p_notV (p_un (p_var (ρ := [some (encW [l]), some (.int n), some (.int l)]) (i := 2) (v := .int l) rfl) (U := gIsi .bool) (x := .bl false) rfl)) fun _ =>
        p_chain (h := fVar 1) p_c (p_list (p_a1 (p_var (i := 2) rfl)) (gAbs_ab l)) (gLt_i 0 _) (fun _ => p_var rfl) (fun _ => gLt_i _ n)
    rw [this]; rfl
  have lc : fLC [2] (iS (fVar 0)) (tName 2) (fYes) (fAndV (fUn (gIsi .int) (fVar 2)) (fAndV (fNotV (fUn (gIsi .bool) (fVar 2))) (fChain gLt gLt (fC (.int 0)) (fList gAbs (PT.a1 (fVar 2))) (fVar 1)))) [some (encW [l]), some (.int n), none]
      = some (.lst [.bl (decide (0 < ab l) && decide (ab l < n))], [some (encW [l]), some (.int n), none]) := by
    refine lc_of (p_iS (p_var rfl) (vs := [.int l]) rfl) ?_
    unfold lcLoop
    rw [show tName 2 (PV.int l) (wipeP [some (encW [l]), some (PV.int (n : Int)), none] [2]) = some [some (encW [l]), some (.int n), some (.int l)] from rfl]
    simp only [fYes, Option.bind_some, if_true]
    rw [body none]
    rfl
  refine go_seq (q_ret (p_list (p_a1 lc) (v := .bl (decide (0 < ab l) && decide (ab l < n))) ?_) rfl)
  generalize (decide (0 < ab l) && decide (ab l < n)) = b
  cases b <;> rfl
theorem notin1 (p q r : Bool) : gNotIn (.str "swap") (.lst (sd p q r)) = some (.bl (!p)) := by cases p <;> cases q <;> cases r <;> kernel_rfl
theorem notin2 (p q r : Bool) : gNotIn (.str "cancel") (.lst (sd p q r)) = some (.bl (!q)) := by cases p <;> cases q <;> cases r <;> kernel_rfl
theorem notin3 (p q r : Bool) : gNotIn (.str "triple") (.lst (sd p q r)) = some (.bl (!r)) := by cases p <;> cases q <;> cases r <;> kernel_rfl
theorem gEq_s (a b : PySem.Str) (h : (okD 16 (.str a) && okD 16 (.str b)) = true) : gEqD (.str a) (.str b) = some (.bl (PyData.eqv (toD (.str a)) (toD (.str b)))) := by
  unfold gEqD; rw [if_pos h]
theorem gTup_ok {l : List PV} (h : l.length ≤ 1000000) : gTuple l = some (.tup l) := by unfold gTuple; rw [if_pos h]
/-- which kind of a move of words -/
def wm : Mv → Bool
  | .swp _ => true | .can _ => true | .tri _ => true | .ins _ _ => true | _ => false
theorem len_w3 {w : Wd} {k j : Nat} (h : w.length ≤ 100000) (l : Wd) (hl : l.length ≤ 3) : (w.take k ++ l).length + (w.drop j).length ≤ 1000000 := by
  simp; omega
theorem mvd_swp (w : Wd) (n k : Nat) : mvd w n (.swp k) = if bS w k = true then some (w.take k ++ [gw w (k + 1), gw w k] ++ w.drop (k + 2)) else none := rfl
theorem mvd_can (w : Wd) (n k : Nat) : mvd w n (.can k) = if bC w k = true then some (w.take k ++ w.drop (k + 2)) else none := rfl
theorem mvd_tri (w : Wd) (n k : Nat) : mvd w n (.tri k) = if bT w k = true then some (w.take k ++ trn (gw w k) (gw w (k + 1)) (gw w (k + 2)) ++ w.drop (k + 3)) else none := rfl
theorem mvd_ins (w : Wd) (n k : Nat) (l : Int) : mvd w n (.ins k l) = if k ≤ w.length ∧ 0 < ab l ∧ ab l < n then some (w.take k ++ [l, 0 - l] ++ w.drop k) else none := rfl
theorem F_moved_eq (w : Wd) (n : Nat) (m : Mv) (hm : wm m = true) (hl : w.length ≤ 100000) : F_moved [encW w, .int n, encM m] = some (encOW (mvd w n m)) := by
  refine go_run (b := b_moved) ?_
  show Go b_moved [some (encW w), some (.int n), some (encM m), none] _
  cases m with
  | cyc => cases hm
  | bck => cases hm
  | up _ => cases hm
  | dwn => cases hm
  | ins k l =>
    refine go_seq (q_t (p_test (p_op (p_op (p_var rfl) p_c (x := .str "insert") rfl) p_c (x := .bl true) (by kernel_rfl))) ?_)
    have c1 := p_test (p_op (p_op (p_var (ρ := [some (encW w), some (.int n), some (encM (.ins k l)), none]) (i := 2) rfl) (p_c (v := .int 1)) (G := gIxAll) (x := .int k) rfl) (p_list (p_a1 (p_var (i := 0) rfl)) (gLen_w w)) (gGt_i _ _))
    have sl : gSl (encM (.ins k l)) (some 2) (some 3) = some (encW [l]) := rfl
    have c2 := p_not (p_tru (p_list (p_cons (p_slDT (p_var (ρ := [some (encW w), some (.int n), some (encM (.ins k l)), none]) (i := 2) rfl) (p_c (v := .int 2)) (p_c (v := .int 3)) sl) (p_cons (p_var (i := 1) rfl) p_nil)) (F_is_word1 l n)) (p := decide (0 < ab l) && decide (ab l < n)) rfl)
    refine go_seq (q_if (p_or c1 fun _ => c2) (fun e => go_seq (q_ret p_c ?_)) fun e => go_nx ?_)
    · show some PV.non = _
      have : mvd w n (.ins k l) = none := by
        rw [mvd_ins, if_neg]
        rintro ⟨h1, h2, h3⟩
        simp only [Bool.or_eq_true, decide_eq_true_eq, Bool.not_eq_true', Bool.and_eq_false_iff, decide_eq_false_iff_not] at e
        omega
      rw [this]; rfl
    · simp only [Bool.or_eq_false_iff, decide_eq_false_iff_not, Bool.not_eq_false', Bool.and_eq_true, decide_eq_true_eq] at e
      have hk : k ≤ w.length := by omega
      have e2 : mvd w n (.ins k l) = some (w.take k ++ [l, 0 - l] ++ w.drop k) := by
        rw [mvd_ins, if_pos ⟨hk, e.2⟩]
      refine go_seq (q_ret (p_op (p_op (p_slT (p_var rfl) (p_op (p_var rfl) p_c (x := .int k) rfl) (sl_takeI rfl)) (p_list (p_cons (p_op (p_var rfl) p_c (x := .int l) rfl) (p_cons (p_op p_c (p_op (p_var rfl) p_c (x := .int l) rfl) (gSub_i _ _)) p_nil)) (v := encW [l, 0 - l]) rfl) (gAdd_w (by simp; omega))) (p_slD (p_var rfl) (p_op (p_var rfl) p_c (x := .int k) rfl) (sl_dropI rfl)) (gAdd_w (len_w3 hl _ (by simp)))) ?_)
      rw [e2]; rfl
  | swp k =>
    refine go_seq (q_f (p_test (p_op (p_op (p_var rfl) p_c (x := .str "swap") rfl) p_c (x := .bl false) (by kernel_rfl))) (go_nx ?_))
    refine go_seq (q_set (p_op (p_var rfl) p_c (x := .int k) rfl) ?_)
    refine go_seq (q_if (p_test (p_op (p_op (p_var rfl) p_c (x := .str "swap") rfl) (p_list (p_cons (p_var rfl) (p_cons (p_var rfl) p_nil)) (F_side_of_eq w k)) (notin1 _ _ _))) (fun e => go_seq (q_ret p_c ?_)) fun e => go_nx ?_)
    · have e : bS w k = false := by simpa using e
      show some _ = some (encOW (mvd w n (.swp k))); rw [mvd_swp, e]; rfl
    · have e : bS w k = true := by simpa using e
      have h : k + 1 < w.length := by unfold bS at e; rw [Bool.and_eq_true] at e; exact of_decide_eq_true e.1
      refine go_seq (q_t (p_test (p_op (p_op (p_var rfl) p_c (x := .str "swap") rfl) p_c (x := .bl true) (by kernel_rfl))) ?_)
      refine go_seq (q_ret (p_op (p_op (p_slT (p_var rfl) (p_var rfl) (sl_takeI rfl)) (p_list (p_cons (p_op (p_var rfl) (p_op (p_var rfl) p_c (gAddi _ _)) (gIx_w (k := k + 1) (by omega) h)) (p_cons (p_op (p_var rfl) (p_var rfl) (gIx_w (k := k) rfl (by omega))) p_nil)) (v := encW [gw w (k + 1), gw w k]) rfl) (gAdd_w (by simp; omega))) (p_slD (p_var rfl) (p_op (p_var rfl) p_c (gAddi _ _)) (sl_dropI (k := k + 2) (by omega))) (gAdd_w (len_w3 hl _ (by simp)))) ?_)
      show some _ = some (encOW (mvd w n (.swp k))); rw [mvd_swp, e]; rfl
  | can k =>
    refine go_seq (q_f (p_test (p_op (p_op (p_var rfl) p_c (x := .str "cancel") rfl) p_c (x := .bl false) (by kernel_rfl))) (go_nx ?_))
    refine go_seq (q_set (p_op (p_var rfl) p_c (x := .int k) rfl) ?_)
    refine go_seq (q_if (p_test (p_op (p_op (p_var rfl) p_c (x := .str "cancel") rfl) (p_list (p_cons (p_var rfl) (p_cons (p_var rfl) p_nil)) (F_side_of_eq w k)) (notin2 _ _ _))) (fun e => go_seq (q_ret p_c ?_)) fun e => go_nx ?_)
    · have e : bC w k = false := by simpa using e
      show some _ = some (encOW (mvd w n (.can k))); rw [mvd_can, e]; rfl
    · have e : bC w k = true := by simpa using e
      refine go_seq (q_f (p_test (p_op (p_op (p_var rfl) p_c (x := .str "cancel") rfl) p_c (x := .bl false) (by kernel_rfl))) (go_nx ?_))
      refine go_seq (q_t (p_test (p_op (p_op (p_var rfl) p_c (x := .str "cancel") rfl) p_c (x := .bl true) (by kernel_rfl))) ?_)
      refine go_seq (q_ret (p_op (p_slT (p_var rfl) (p_var rfl) (sl_takeI rfl)) (p_slD (p_var rfl) (p_op (p_var rfl) p_c (gAddi _ _)) (sl_dropI (k := k + 2) (by omega))) (gAdd_w (by simp; omega))) ?_)
      show some _ = some (encOW (mvd w n (.can k))); rw [mvd_can, e]; rfl
  | tri k =>
    refine go_seq (q_f (p_test (p_op (p_op (p_var rfl) p_c (x := .str "triple") rfl) p_c (x := .bl false) (by kernel_rfl))) (go_nx ?_))
    refine go_seq (q_set (p_op (p_var rfl) p_c (x := .int k) rfl) ?_)
    refine go_seq (q_if (p_test (p_op (p_op (p_var rfl) p_c (x := .str "triple") rfl) (p_list (p_cons (p_var rfl) (p_cons (p_var rfl) p_nil)) (F_side_of_eq w k)) (notin3 _ _ _))) (fun e => go_seq (q_ret p_c ?_)) fun e => go_nx ?_)
    · have e : bT w k = false := by simpa using e
      show some _ = some (encOW (mvd w n (.tri k))); rw [mvd_tri, e]; rfl
    · have e : bT w k = true := by simpa using e
      have h : k + 2 < w.length := by unfold bT at e; rw [Bool.and_eq_true] at e; exact of_decide_eq_true e.1
      refine go_seq (q_f (p_test (p_op (p_op (p_var rfl) p_c (x := .str "triple") rfl) p_c (x := .bl false) (by kernel_rfl))) (go_nx ?_))
      refine go_seq (q_f (p_test (p_op (p_op (p_var rfl) p_c (x := .str "triple") rfl) p_c (x := .bl false) (by kernel_rfl))) (go_nx ?_))
      refine go_seq (q_ret (p_op (p_op (p_slT (p_var rfl) (p_var rfl) (sl_takeI rfl)) (p_list (p_cons (p_op (p_var rfl) (p_var rfl) (gIx_w (k := k) rfl (by omega))) (p_cons (p_op (p_var rfl) (p_op (p_var rfl) p_c (gAddi _ _)) (gIx_w (k := k + 1) (by omega) (by omega))) (p_cons (p_op (p_var rfl) (p_op (p_var rfl) p_c (gAddi _ _)) (gIx_w (k := k + 2) (by omega) h)) p_nil))) (F_turned_eq _ _ _)) (gAdd_w (by simp [trn]; omega))) (p_slD (p_var rfl) (p_op (p_var rfl) p_c (gAddi _ _)) (sl_dropI (k := k + 3) (by omega))) (gAdd_w (len_w3 hl _ (by simp [trn])))) ?_)
      show some _ = some (encOW (mvd w n (.tri k))); rw [mvd_tri, e]; rfl
end k83
end PT

set_option Elab.async false
set_option linter.all false
set_option autoImplicit false
set_option maxRecDepth 100000
set_option maxHeartbeats 4000000
/-! k83_m3: markov_moved, possible_moves. -/
namespace PT
namespace k83
open PySem PT PT.Lau
theorem okDs_w (w : Wd) : ∀ n, okDs n (w.map PV.int) = true := fun n => by
  induction w with
  | nil => cases n <;> rfl
  | cons a w ih => cases n <;> (show (true && okDs _ (w.map PV.int)) = true; rw [ih]; rfl)
theorem okD_w (w : Wd) (n : Nat) : okD (n + 1) (encW w) = true := okDs_w w n
theorem gNe_w0 (w : Wd) : gNeD (encW w) (.tup []) = some (.bl (decide (w ≠ []))) := by
  unfold gNeD
  rw [if_pos (by rw [okD_w]; rfl)]
  cases w <;> rfl
theorem gEq_w0 (w : Wd) : gEqD (encW w) (.tup []) = some (.bl (decide (w = []))) := by
  unfold gEqD
  rw [if_pos (by rw [okD_w]; rfl)]
  cases w <;> rfl
theorem bls_map {α : Type} (f : α → Bool) : ∀ l : List α, blsP (l.map fun x => PV.bl (f x)) = some (l.map f)
  | [] => rfl
  | x :: l => by rw [List.map_cons]; show (blsP _).map _ = _; rw [bls_map f l]; rfl
theorem any_map {α : Type} (f : α → Bool) (l : List α) : gAny [.lst (l.map fun x => PV.bl (f x))] = some (.bl (l.any f)) := by
  show (blsP _).map _ = _
  rw [bls_map]
  simp [List.any_map]
theorem all_map {α : Type} (f : α → Bool) (l : List α) : gAll [.lst (l.map fun x => PV.bl (f x))] = some (.bl (l.all f)) := by
  show (blsP _).map _ = _
  rw [bls_map]
  simp [List.all_map]
theorem mv_wm (s : Sta) (m : Mv) (h : wm m = true) : mv s m = (mvd s.1 s.2 m).map fun w => (w, s.2) := by
  cases m <;> first | rfl | cases h
theorem markov_wm (w : Wd) (n : Nat) (m : Mv) (hm : wm m = true) (hl : w.length ≤ 90000) (x : PySem.Str) (hx : gIxAll (encM m) (.int 0) = some (.str x))
    (h1 : gEqD (.str x) (.str "cycle") = some (.bl false)) (h2 : gEqD (.str x) (.str "back") = some (.bl false)) (h3 : gEqD (.str x) (.str "up") = some (.bl false)) (h4 : gEqD (.str x) (.str "down") = some (.bl false)) :
    Go b_markov_moved [some (encW w), some (.int n), some (encM m), none, none, none] fun fl _ => outF fl = some (encO (mv (w, n) m)) := by
  refine go_seq (q_set (p_op (p_var rfl) p_c hx) ?_)
  refine go_seq (q_f (p_test (p_op (p_var rfl) p_c h1)) (go_nx ?_))
  refine go_seq (q_f (p_test (p_op (p_var rfl) p_c h2)) (go_nx ?_))
  refine go_seq (q_f (p_test (p_op (p_var rfl) p_c h3)) (go_nx ?_))
  refine go_seq (q_f (p_test (p_op (p_var rfl) p_c h4)) (go_nx ?_))
  refine go_seq (q_set (p_list (p_cons (p_var rfl) (p_cons (p_var rfl) (p_cons (p_var rfl) p_nil))) (F_moved_eq w n m hm (by omega))) ?_)
  rw [mv_wm _ _ hm]
  show Go _ [some (encW w), some (.int n), some (encM m), some (.str x), none, some (encOW (mvd w n m))] _
  show Go _ _ fun fl _ => outF fl = some (encO ((mvd w n m).map fun w => (w, n)))
  cases mvd w n m with
  | none => exact go_seq (q_ret (p_if_t (p_test (p_op (p_var rfl) p_c (x := .bl true) rfl)) p_c) rfl)
  | some u => exact go_seq (q_ret (p_if_f (p_test (p_op (p_var rfl) p_c (x := .bl false) rfl)) (p_list (p_cons (p_var rfl) (p_cons (p_var rfl) p_nil)) (gTup2 _ _))) rfl)
theorem F_markov_moved_eq (w : Wd) (n : Nat) (m : Mv) (hl : w.length ≤ 90000) (hn : n ≤ 100000) : F_markov_moved [encW w, .int n, encM m] = some (encO (mv (w, n) m)) := by
  refine go_run (b := b_markov_moved) ?_
  show Go b_markov_moved [some (encW w), some (.int n), some (encM m), none, none, none] _
  cases m with
  | cyc =>
    refine go_seq (q_set (p_op (p_var rfl) p_c (x := .str "cycle") rfl) ?_)
    refine go_seq (q_t (p_test (p_op (p_var rfl) p_c (x := .bl true) (by kernel_rfl))) ?_)
    refine go_seq (q_ret (p_if (p_test (p_op (p_var rfl) (p_list p_nil gTup0) (gNe_w0 w))) (fun _ => p_list (p_cons (p_op (p_slD (p_var rfl) p_c (sl_dropI (k := 1) rfl)) (p_slT (p_var rfl) p_c (sl_takeI (k := 1) rfl)) (gAdd_w (by simp; omega))) (p_cons (p_var rfl) p_nil)) (gTup2 _ _)) (fun _ => p_c)) ?_)
    show some _ = some (encO (if w = [] then none else some (w.drop 1 ++ w.take 1, n)))
    by_cases h : w = [] <;> simp [h, encO, encSt]
  | bck =>
    refine go_seq (q_set (p_op (p_var rfl) p_c (x := .str "back") rfl) ?_)
    refine go_seq (q_f (p_test (p_op (p_var rfl) p_c (x := .bl false) (by kernel_rfl))) (go_nx ?_))
    refine go_seq (q_t (p_test (p_op (p_var rfl) p_c (x := .bl true) (by kernel_rfl))) ?_)
    refine go_seq (q_ret (p_if (p_test (p_op (p_var rfl) (p_list p_nil gTup0) (gNe_w0 w))) (fun _ => p_list (p_cons (p_op (p_slD (p_var rfl) (p_un p_c (x := .int (-1)) rfl) sl_dropL) (p_slT (p_var rfl) (p_un p_c (x := .int (-1)) rfl) sl_takeL) (gAdd_w (by simp; omega))) (p_cons (p_var rfl) p_nil)) (gTup2 _ _)) (fun _ => p_c)) ?_)
    show some _ = some (encO (if w = [] then none else some (w.drop (w.length - 1) ++ w.take (w.length - 1), n)))
    by_cases h : w = [] <;> simp [h, encO, encSt]
  | up b =>
    refine go_seq (q_set (p_op (p_var rfl) p_c (x := .str "up") rfl) ?_)
    refine go_seq (q_f (p_test (p_op (p_var rfl) p_c (x := .bl false) (by kernel_rfl))) (go_nx ?_))
    refine go_seq (q_f (p_test (p_op (p_var rfl) p_c (x := .bl false) (by kernel_rfl))) (go_nx ?_))
    refine go_seq (q_t (p_test (p_op (p_var rfl) p_c (x := .bl true) (by kernel_rfl))) ?_)
    have hmul : gMulI (.int (sgn b)) (.int (n : Int)) = some (.int (sgn b * n)) := by
      have h1 : wideI (sgn b) = true := by cases b <;> decide +kernel
      have h2 : wideI (n : Int) = true := wide_lt (by omega) (by omega)
      show (if (wideI (sgn b) && wideI (n : Int)) = true then _ else _) = _
      rw [h1, h2]; rfl
    refine go_seq (q_ret (p_list (p_cons (p_op (p_var rfl) (p_list (p_cons (p_op (p_op (p_var rfl) p_c (x := .int (sgn b)) rfl) (p_var rfl) hmul) p_nil) (v := encW [sgn b * n]) rfl) (gAdd_w (by simp; omega))) (p_cons (p_op (p_var rfl) p_c (gAddi _ _)) p_nil)) (gTup2 _ _)) ?_)
    show some _ = some (encSt (w ++ [sgn b * n], n + 1))
    unfold encSt
    simp
  | dwn =>
    refine go_seq (q_set (p_op (p_var rfl) p_c (x := .str "down") rfl) ?_)
    refine go_seq (q_f (p_test (p_op (p_var rfl) p_c (x := .bl false) (by kernel_rfl))) (go_nx ?_))
    refine go_seq (q_f (p_test (p_op (p_var rfl) p_c (x := .bl false) (by kernel_rfl))) (go_nx ?_))
    refine go_seq (q_f (p_test (p_op (p_var rfl) p_c (x := .bl false) (by kernel_rfl))) (go_nx ?_))
    refine go_seq (q_t (p_test (p_op (p_var rfl) p_c (x := .bl true) (by kernel_rfl))) ?_)
    have hd : mv (w, n) .dwn = if n < 2 ∨ w = [] ∨ ab (gw w (w.length - 1)) ≠ (n : Int) - 1 then none
        else if ((w.take (w.length - 1)).any fun l => decide (ab l = (n : Int) - 1)) = true then none else some (w.take (w.length - 1), n - 1) := rfl
    refine go_seq (q_if (p_or (p_test (p_op (p_var rfl) p_c (gLt_i _ _))) fun _ => p_or (p_test (p_op (p_var rfl) (p_list p_nil gTup0) (gEq_w0 w))) fun e => p_test (p_op (p_list (p_a1 (p_op (p_var rfl) (p_un p_c (x := .int (-1)) rfl) (gIx_last (of_decide_eq_false e)))) (gAbs_ab _)) (p_op (p_var rfl) p_c (gSub_i _ _)) (gNe_i _ _))) (fun e => go_seq (q_ret p_c ?_)) fun e => go_nx ?_)
    · rw [hd, if_pos]
      · rfl
      · simp only [Bool.or_eq_true, decide_eq_true_eq] at e
        rcases e with e | e | e
        · exact .inl (by omega)
        · exact .inr (.inl e)
        · exact .inr (.inr e)
    · simp only [Bool.or_eq_false_iff, decide_eq_false_iff_not, Decidable.not_not] at e
      have lc : ∀ o : Option PV, fLC [4] (iS (fSlice gSl (fVar 0) pNone (pSome (fUn gNeg (fC (.int 1)))))) (tName 4) (fYes) (fOp gEqD (fList gAbs (PT.a1 (fVar 4))) (fOp gSubI (fVar 1) (fC (.int 1)))) [some (encW w), some (.int n), some (encM .dwn), some (.str "down"), none, none]
          = some (.lst ((w.take (w.length - 1)).map fun l => PV.bl (decide (ab l = (n : Int) - 1))), [some (encW w), some (.int n), some (encM .dwn), some (.str "down"), none, none]) := fun _ => by
        have main := lc_map PV.int (fun _ => true) (fun l => PV.bl (decide (ab l = (n : Int) - 1))) (vs := [4]) (t := tName 4) (ft := fYes) (fe := fOp gEqD (fList gAbs (PT.a1 (fVar 4))) (fOp gSubI (fVar 1) (fC (.int 1)))) (ρ := [some (encW w), some (.int n), some (encM .dwn), some (.str "down"), none, none]) (w.take (w.length - 1)) []
          (fun l _ => ⟨[some (encW w), some (.int n), some (encM .dwn), some (.str "down"), some (.int l), none], rfl, rfl, fun _ => p_op (p_list (p_a1 (p_var rfl)) (gAbs_ab l)) (p_op (p_var rfl) p_c (gSub_i _ _)) (gEq_i _ _), rfl⟩) (by simp; omega)
        have := lc_of (p_iS (p_slT (p_var (ρ := [some (encW w), some (.int n), some (encM .dwn), some (.str "down"), none, none]) (i := 0) rfl) (p_un (p_c (v := .int 1)) (U := gNeg) (x := .int (-1)) rfl) sl_takeL) (vs := (w.take (w.length - 1)).map PV.int) rfl) main
        rw [this, List.nil_append, List.filter_eq_self.mpr (fun _ _ => rfl)]
      refine go_seq (q_if (p_tru (p_list (p_a1 (lc none)) (any_map _ _)) rfl) (fun e2 => go_seq (q_ret p_c ?_)) fun e2 => go_nx ?_)
      · rw [hd, if_neg (by rintro (h | h | h); · omega
                           · exact e.2.1 h
                           · exact h e.2.2), if_pos e2]
        rfl
      · refine go_seq (q_ret (p_list (p_cons (p_slT (p_var rfl) (p_un p_c (x := .int (-1)) rfl) sl_takeL) (p_cons (p_op (p_var rfl) p_c (gSub_i _ _)) p_nil)) (gTup2 _ _)) ?_)
        rw [hd, if_neg (by rintro (h | h | h); · omega
                           · exact e.2.1 h
                           · exact h e.2.2), if_neg (by rw [e2]; decide)]
        show some _ = some (encSt _)
        unfold encSt
        have : ((n - 1 : Nat) : Int) = (n : Int) - 1 := by omega
        simp [this]
  | swp k => exact markov_wm w n (.swp k) rfl hl "swap" rfl (by kernel_rfl) (by kernel_rfl) (by kernel_rfl) (by kernel_rfl)
  | can k => exact markov_wm w n (.can k) rfl hl "cancel" rfl (by kernel_rfl) (by kernel_rfl) (by kernel_rfl) (by kernel_rfl)
  | tri k => exact markov_wm w n (.tri k) rfl hl "triple" rfl (by kernel_rfl) (by kernel_rfl) (by kernel_rfl) (by kernel_rfl)
  | ins k l => exact markov_wm w n (.ins k l) rfl hl "insert" rfl (by kernel_rfl) (by kernel_rfl) (by kernel_rfl) (by kernel_rfl)
end k83
end PT

set_option Elab.async false
set_option linter.all false
set_option autoImplicit false
set_option maxRecDepth 100000
set_option maxHeartbeats 4000000
/-! k83_m4: possible_moves, back_move, is_markov_move, markov_behind, is_markov_way, back_way. -/
namespace PT
namespace k83
open PySem PT PT.Lau
def okM (s : Sta) (m : Mv) : Bool := (mv s m).isSome
def blk (s : Sta) (k : Nat) : List Mv := [Mv.swp k, .can k, .tri k].filter (okM s)
def pm (s : Sta) : List Mv := (List.range (s.1.length - 1)).flatMap (blk s) ++ [Mv.cyc, .bck, .dwn].filter (okM s)
def encMs (l : List Mv) : PV := .lst (l.map encM)
theorem gNotN_o (o : Option Sta) : gIsNotN (encO o) .non = some (.bl o.isSome) := by cases o <;> rfl
theorem gIsN_o (o : Option Sta) : gIsN (encO o) .non = some (.bl o.isNone) := by cases o <;> rfl
theorem app_m (l : List Mv) (m : Mv) (h : l.length < 1000000) : gAppend (encMs l) [encM m] = some (.non, encMs (l ++ [m])) := by
  show (if (l.map encM).length < 1000000 then _ else _) = _
  rw [List.length_map, if_pos h]
  unfold encMs
  rw [List.map_append]; rfl
theorem fold_filter {α : Type} (p : α → Bool) : ∀ (xs l : List α), xs.foldl (fun l m => if p m = true then l ++ [m] else l) l = l ++ xs.filter p
  | [], l => by simp
  | x :: xs, l => by
    rw [List.foldl_cons, fold_filter p xs]
    by_cases h : p x = true <;> simp [h]
theorem rngP_get {lo : Int} {n i : Nat} {p : PV} (h : (rngP lo n)[i]? = some p) : p = .int (lo + i) ∧ i < n := by
  unfold rngP at h
  rw [List.getElem?_map] at h
  by_cases hi : i < n
  · rw [List.getElem?_range hi] at h
    exact ⟨(Option.some.inj h).symm, hi⟩
  · rw [List.getElem?_eq_none (by simpa using hi)] at h; cases h
theorem rngP_len (lo : Int) (n : Nat) : (rngP lo n).length = n := by unfold rngP; simp
def kindS : Mv → PV
  | .swp _ => .str "swap"
  | .can _ => .str "cancel"
  | _ => .str "triple"
/-- the moves that can be done are kept -/
theorem go_filt {ok : Mv → Bool} {kind : Mv → PV} {its : AF} {t : PV → Env → Option Env} {body : SF} {ρ : Env} {Q : Fl → Env → Prop} (xs pre : List Mv) (E : List Mv → Option PV → Env) (o0 : Option PV)
    (hi : its ρ = some (xs.map kind, E pre o0))
    (hb : ∀ m l o, l.length ≤ pre.length + xs.length → ∃ ρ1, m ∈ xs → t (kind m) (E l o) = some ρ1 ∧ Go body ρ1 fun fl ρ' => fl = .nx ∧ ∃ o', ρ' = E (if ok m = true then l ++ [m] else l) o')
    (k : ∀ o, Q .nx (E (pre ++ xs.filter ok) o)) : Go (fFor its t body) ρ Q := by
  refine go_forN (fun j ρ => ∃ o, ρ = E (pre ++ (xs.take j).filter ok) o) hi ⟨o0, by simp⟩ ?_ ?_
  · rintro j p ρ hp ⟨o, rfl⟩
    rw [List.getElem?_map] at hp
    obtain ⟨m, hm, rfl⟩ := Option.map_eq_some_iff.mp hp
    obtain ⟨ρ1, h⟩ := hb m (pre ++ (xs.take j).filter ok) o (by
      have := List.length_filter_le ok (xs.take j)
      simp at this ⊢; omega)
    obtain ⟨h1, h2⟩ := h (List.mem_of_getElem? hm)
    refine ⟨ρ1, h1, h2.mono fun fl ρ' ⟨e, o', e2⟩ => ⟨.inl e, o', ?_⟩⟩
    rw [e2]
    congr 1
    rw [List.take_add_one, hm]
    by_cases h : ok m = true <;> simp [h]
  · rintro ρ ⟨o, rfl⟩
    rw [List.length_map, List.take_of_length_le (Nat.le_refl _)]
    exact k o
theorem F_possible_moves_eq (w : Wd) (n : Nat) (hl : w.length ≤ 90000) (hn : n ≤ 100000) : F_possible_moves [encW w, .int n] = some (encMs (pm (w, n))) := by
  refine go_run (b := b_possible_moves) ?_
  show Go b_possible_moves [some (encW w), some (.int n), none, none, none, none] _
  refine go_seq (q_set (p_list p_nil gLst0) ?_)
  have hr := iR1_of (f := fOp gSubI (fList gLenAll (PT.a1 (fVar 0))) (fC (.int 1))) (ρ := [some (encW w), some (.int n), some (.lst []), none, none, none]) (p_op (p_list (p_a1 (p_var rfl)) (gLen_w w)) p_c (gSub_i _ _)) (by
    by_cases h : w.length = 0
    · rw [h]; decide +kernel
    · have := i62_len (n := w.length - 1) (by omega)
      rw [show (w.length : Int) - 1 = ((w.length - 1 : Nat) : Int) by omega]; exact this)
  have htn : ((w.length : Int) - 1).toNat = w.length - 1 := by omega
  rw [htn] at hr
  refine go_seq (go_forN (fun i ρ => ∃ l a b, ρ = [some (encW w), some (.int n), some (encMs l), a, b, none] ∧ l = (List.range i).flatMap (blk (w, n)) ∧ l.length ≤ 3 * i) hr ⟨[], none, none, rfl, rfl, by simp⟩ ?_ ?_)
  · rintro i p ρ hp ⟨l, a, b, rfl, hlst, hlen⟩
    obtain ⟨rfl, hi⟩ := rngP_get hp
    rw [Int.zero_add]
    refine ⟨_, rfl, ?_⟩
    show Go _ [some (encW w), some (.int n), some (encMs l), some (.int i), b, none] _
    refine go_seq (go_filt (ok := okM (w, n)) (kind := kindS) [Mv.swp i, .can i, .tri i] l (fun l b => [some (encW w), some (.int n), some (encMs l), some (.int i), b, none]) b
      (p_iS (p_list (p_cons p_c (p_cons p_c (p_cons p_c p_nil))) (gTup3 _ _ _)) rfl) ?_ ?_)
    · intro m l' o hl'
      refine ⟨[some (encW w), some (.int n), some (encMs l'), some (.int i), some (kindS m), none], fun hm => ⟨rfl, ?_⟩⟩
      have tup : gTuple [kindS m, .int i] = some (encM m) := by
        simp only [List.mem_cons, List.not_mem_nil, or_false] at hm
        rcases hm with rfl | rfl | rfl <;> rfl
      have hk : ∀ l', (fList gTuple (aCons (fVar 4) (aCons (fVar 3) aNil))) [some (encW w), some (.int n), some (encMs l'), some (.int i), some (kindS m), none] = some (encM m, [some (encW w), some (.int n), some (encMs l'), some (.int i), some (kindS m), none]) := fun l' => p_list (p_cons (p_var rfl) (p_cons (p_var rfl) p_nil)) tup
      refine go_seq (q_if (p_test (p_op (p_list (p_cons (p_var rfl) (p_cons (p_var rfl) (p_cons (hk _) p_nil))) (F_markov_moved_eq w n m hl hn)) p_c (gNotN_o _))) (fun e => ?_) fun e => ?_)
      · have e : okM (w, n) m = true := e
        refine go_seq (go_drop (p_mut (w := encMs (l' ++ [m])) rfl rfl (p_cons (hk l') p_nil) (app_m l' m (by simp at hl'; omega))) (go_nx (go_nx ⟨rfl, some (kindS m), ?_⟩)))
        rw [if_pos e]; rfl
      · have e : okM (w, n) m = false := e
        refine go_nx (go_nx ⟨rfl, some (kindS m), ?_⟩)
        rw [if_neg (by rw [e]; decide)]
    · intro o
      refine go_nx ⟨.inl rfl, _, _, _, rfl, ?_, ?_⟩
      · rw [hlst, List.range_succ, List.flatMap_append]
        simp [blk]
      · have := List.length_filter_le (okM (w, n)) [Mv.swp i, .can i, .tri i]
        simp at this ⊢; omega
  · rintro ρ ⟨l, a, b, rfl, hlst, hlen⟩
    rw [rngP_len] at hlst hlen
    refine go_seq (go_filt (ok := okM (w, n)) (kind := encM) [Mv.cyc, .bck, .dwn] l (fun l c => [some (encW w), some (.int n), some (encMs l), a, b, c]) none
      (p_iS (p_list (p_cons (p_list (p_cons p_c p_nil) rfl) (p_cons (p_list (p_cons p_c p_nil) rfl) (p_cons (p_list (p_cons p_c p_nil) rfl) p_nil))) (gTup3 _ _ _)) rfl) ?_ ?_)
    · intro m l' o hl'
      refine ⟨[some (encW w), some (.int n), some (encMs l'), a, b, some (encM m)], fun hm => ⟨rfl, ?_⟩⟩
      refine go_seq (q_if (p_test (p_op (p_list (p_cons (p_var rfl) (p_cons (p_var rfl) (p_cons (p_var rfl) p_nil))) (F_markov_moved_eq w n m hl hn)) p_c (gNotN_o _))) (fun e => ?_) fun e => ?_)
      · have e : okM (w, n) m = true := e
        refine go_seq (go_drop (p_mut rfl rfl (p_cons (p_var rfl) p_nil) (app_m l' m (by simp at hl'; omega))) (go_nx (go_nx ⟨rfl, some (encM m), ?_⟩)))
        rw [if_pos e]; rfl
      · have e : okM (w, n) m = false := e
        refine go_nx (go_nx ⟨rfl, some (encM m), ?_⟩)
        rw [if_neg (by rw [e]; decide)]
    · intro o
      refine go_seq (q_ret (p_var rfl) ?_)
      rw [hlst]; rfl
end k83
end PT

set_option Elab.async false
set_option linter.all false
set_option autoImplicit false
set_option maxRecDepth 100000
set_option maxHeartbeats 4000000
/-! k83_m5: states as keys; is_markov_move, markov_behind, is_markov_way, back_way. -/
namespace PT
namespace k83
open PySem PT PT.Lau
/-! ### states as data and as keys -/
theorem eqTs_w : ∀ a b : Wd, eqTs (a.map PV.int) (b.map PV.int) = decide (a = b)
  | [], [] => rfl
  | [], _ :: _ => rfl
  | _ :: _, [] => rfl
  | x :: a, y :: b => by
    show (decide (x = y) && eqTs (a.map PV.int) (b.map PV.int)) = _
    rw [eqTs_w a b]
    by_cases h : x = y <;> by_cases h2 : a = b <;> simp [h, h2]
theorem eqT_st (a b : Sta) : eqT (encSt a) (encSt b) = decide (a = b) := by
  obtain ⟨u, m⟩ := a; obtain ⟨v, n⟩ := b
  show (eqTs (u.map PV.int) (v.map PV.int) && (decide ((m : Int) = (n : Int)) && true)) = _
  rw [eqTs_w]
  by_cases h : u = v
  · by_cases h2 : m = n
    · simp [h, h2]
    · have : ¬ ((m : Int) = (n : Int)) := by omega
      simp [h, h2, this]
  · simp [h]
theorem nkeys_w : ∀ w : Wd, nkeys (w.map PV.int) = some (w.map NestedKey.num)
  | [] => rfl
  | a :: w => by
    show (match some (NestedKey.num a), nkeys (w.map PV.int) with | some k, some ks => some (k :: ks) | _, _ => none) = _
    rw [nkeys_w w]; rfl
theorem deep_nums (w : Wd) : NestedKey.depthAll (w.map NestedKey.num) = 0 := by
  induction w with
  | nil => rfl
  | cons a w ih => rw [List.map_cons]; simp [NestedKey.depthAll, NestedKey.depth, ih]
theorem tkey_st (s : Sta) : (tkey (encSt s)).isSome = true := by
  have e : nkeys [encW s.1, .int s.2] = some [.tup (s.1.map NestedKey.num), .num s.2] := by
    simp only [nkeys, nkey, encW, nkeys_w, Option.map_some]
  unfold tkey encSt
  simp only [e, NestedKey.depth, NestedKey.depthAll, deep_nums]
  rfl
theorem kencSt : KEnc encSt := ⟨eqT_st, fun s => tkey_st s⟩
theorem okD_st (s : Sta) (n : Nat) : okD (n + 2) (encSt s) = true := by
  show (okD (n + 1) (encW s.1) && (true && true)) = true
  rw [okD_w]; rfl
theorem eqvAll_w : ∀ a b : Wd, PyData.eqvAll (toDs (a.map PV.int)) (toDs (b.map PV.int)) = decide (a = b)
  | [], [] => rfl
  | [], _ :: _ => rfl
  | _ :: _, [] => rfl
  | x :: a, y :: b => by
    show ((x == y) && PyData.eqvAll (toDs (a.map PV.int)) (toDs (b.map PV.int))) = _
    rw [eqvAll_w a b]
    by_cases h : x = y <;> by_cases h2 : a = b <;> simp [h, h2]
theorem eqv_st (a b : Sta) : PyData.eqv (toD (encSt a)) (toD (encSt b)) = decide (a = b) := by
  obtain ⟨u, m⟩ := a; obtain ⟨v, n⟩ := b
  show (PyData.eqvAll (toDs (u.map PV.int)) (toDs (v.map PV.int)) && (((m : Int) == (n : Int)) && true)) = _
  rw [eqvAll_w]
  by_cases h : u = v
  · by_cases h2 : m = n
    · simp [h, h2]
    · have : ¬ ((m : Int) = (n : Int)) := by omega
      simp [h, h2, this]
  · simp [h]
theorem gEq_st (a b : Sta) : gEqD (encSt a) (encSt b) = some (.bl (decide (a = b))) := by
  unfold gEqD
  rw [if_pos (by rw [okD_st, okD_st]; rfl), eqv_st]
theorem gNe_st (a b : Sta) : gNeD (encSt a) (encSt b) = some (.bl (!decide (a = b))) := by
  unfold gNeD
  rw [if_pos (by rw [okD_st, okD_st]; rfl), eqv_st]
/-! ### moves are moves -/
theorem is_mv (m : Mv) : F_is_markov_move [encM m] = some (.bl true) := by
  cases m with
  | cyc => kernel_rfl
  | bck => kernel_rfl
  | up b => cases b <;> kernel_rfl
  | dwn => kernel_rfl
  | swp k =>
    have : F_is_markov_move [encM (.swp k)] = some (.bl (decide ((0 : Int) ≤ (k : Int)))) := by kernel_rfl
    rw [this]; simp
  | can k =>
    have : F_is_markov_move [encM (.can k)] = some (.bl (decide ((0 : Int) ≤ (k : Int)))) := by kernel_rfl
    rw [this]; simp
  | tri k =>
    have : F_is_markov_move [encM (.tri k)] = some (.bl (decide ((0 : Int) ≤ (k : Int)))) := by kernel_rfl
    rw [this]; simp
  | ins k l =>
    have : F_is_markov_move [encM (.ins k l)] = some (.bl (decide ((0 : Int) ≤ (k : Int)))) := by kernel_rfl
    rw [this]; simp
/-! ### rows of moves -/
def run (s : Sta) : List Mv → Option Sta
  | [] => some s
  | m :: ms => (mv s m).bind fun t => run t ms
theorem run_app (s : Sta) : ∀ (a b : List Mv), run s (a ++ b) = (run s a).bind fun t => run t b
  | [], b => rfl
  | m :: a, b => by
    show (mv s m).bind (fun t => run t (a ++ b)) = _
    cases h : mv s m with
    | none => simp [run, h]
    | some t => simp [run, h, run_app t a b]
theorem run_len {s t : Sta} : ∀ {ms : List Mv} {s : Sta}, run s ms = some t → t.1.length ≤ s.1.length + 2 * ms.length ∧ t.2 ≤ s.2 + ms.length
  | [], s, h => by cases h; simp
  | m :: ms, s, h => by
    obtain ⟨u, h1, h2⟩ := Option.bind_eq_some_iff.mp h
    have a := mv_len h1
    have b := run_len (s := u) h2
    simp only [List.length_cons]; omega
theorem ix_ms {ms : List Mv} {i : Nat} {m : Mv} (h : ms[i]? = some m) : gIxAll (encMs ms) (.int i) = some (encM m) := gIx_at (by rw [List.getElem?_map, h]; rfl)
theorem F_markov_behind_eq (s t : Sta) (ms : List Mv) (h : run s ms = some t) (hl : s.1.length + 2 * ms.length ≤ 90000) (hn : s.2 + ms.length ≤ 100000) : F_markov_behind [encW s.1, .int s.2, encMs ms] = some (encSt t) := by
  refine go_run (b := b_markov_behind) ?_
  show Go b_markov_behind [some (encW s.1), some (.int s.2), some (encMs ms), none, none] _
  have hr := iR1_of (f := fList gLenAll (PT.a1 (fVar 2))) (ρ := [some (encW s.1), some (.int s.2), some (encMs ms), none, none]) (p_list (p_a1 (p_var rfl)) (v := .int (ms.length : Int)) (by show some (PV.int ((ms.map encM).length : Nat)) = _; rw [List.length_map])) (i62_len (by omega))
  rw [Int.toNat_natCast] at hr
  refine go_seq (go_forN (fun i ρ => ∃ u a b, ρ = [some (encW u.1), some (.int (u : Sta).2), some (encMs ms), a, b] ∧ run s (ms.take i) = some u) hr ⟨s, none, none, rfl, by rw [List.take_zero]; rfl⟩ ?_ ?_)
  · rintro i p ρ hp ⟨u, a, b, rfl, hu⟩
    obtain ⟨rfl, hi⟩ := rngP_get hp
    rw [Int.zero_add]
    refine ⟨_, rfl, ?_⟩
    show Go _ [some (encW u.1), some (.int u.2), some (encMs ms), some (.int i), b] _
    obtain ⟨m, hm⟩ : ∃ m, ms[i]? = some m := ⟨ms[i], List.getElem?_eq_getElem hi⟩
    obtain ⟨v, hv⟩ : ∃ v, mv u m = some v := by
      have e : ms = ms.take i ++ m :: ms.drop (i + 1) := by
        rw [List.getElem?_eq_getElem hi] at hm
        cases hm
        rw [← List.drop_eq_getElem_cons hi, List.take_append_drop]
      rw [e, run_app, hu] at h
      obtain ⟨v, h1, _⟩ := Option.bind_eq_some_iff.mp (show (mv u m).bind _ = some t from h)
      exact ⟨v, h1⟩
    have ul := run_len (s := s) hu
    have tl : (ms.take i).length ≤ ms.length := by rw [List.length_take]; omega
    have hmk := F_markov_moved_eq u.1 u.2 m (by omega) (by omega)
    rw [show mv (u.1, u.2) m = some v from hv] at hmk
    refine go_seq (q_set (p_if_t (p_tru (p_list (p_cons (p_op (p_var rfl) (p_var rfl) (ix_ms hm)) p_nil) (is_mv m)) rfl) (p_list (p_cons (p_var rfl) (p_cons (p_var rfl) (p_cons (p_op (p_var rfl) (p_var rfl) (ix_ms hm)) p_nil))) hmk)) ?_)
    refine go_seq (q_f (p_test (p_op (p_var rfl) p_c (x := .bl false) rfl)) (go_nx ?_))
    refine go_seq (go_asg (p_var rfl) (ρ2 := [some (encW v.1), some (.int v.2), some (encMs ms), some (.int i), some (encSt v)]) rfl (go_nx ⟨.inl rfl, v, _, _, rfl, ?_⟩))
    rw [List.take_add_one, hm]
    show run s (ms.take i ++ [m]) = _
    rw [run_app, hu]
    show (mv u m).bind _ = _
    rw [hv]; rfl
  · rintro ρ ⟨u, a, b, rfl, hu⟩
    rw [rngP_len, List.take_of_length_le (Nat.le_refl _), h] at hu
    cases hu
    exact go_seq (q_ret (p_list (p_cons (p_var rfl) (p_cons (p_var rfl) p_nil)) (gTup2 _ _)) rfl)
theorem F_is_markov_way_eq (s t : Sta) (ms : List Mv) (h : run s ms = some t) (hl : s.1.length + 2 * ms.length ≤ 90000) (hn : s.2 + ms.length ≤ 100000) : F_is_markov_way [encSt s, encSt t, encMs ms] = some (.bl true) := by
  refine go_run (b := b_is_markov_way) ?_
  show Go b_is_markov_way [some (encSt s), some (encSt t), some (encMs ms)] _
  refine go_seq (q_f (p_not (p := true) (p_tru (p_un (p_var rfl) (x := .bl true) rfl) rfl)) (go_nx ?_))
  refine go_seq (go_seq (q_ret (p_op (p_list (p_cons (p_op (p_var rfl) p_c (x := encW s.1) rfl) (p_cons (p_op (p_var rfl) p_c (x := .int s.2) rfl) (p_cons (p_var rfl) p_nil))) (F_markov_behind_eq s t ms h hl hn)) (p_var rfl) (gEq_st t t)) ?_))
  show some (PV.bl _) = _
  simp
/-! ### the way back -/
theorem F_back_move_eq (w : Wd) (n : Nat) (m : Mv) (h1 : m = .dwn → w ≠ []) (h2 : ∀ k, m = .can k → k < w.length) : F_back_move [encW w, .int n, encM m] = some (encMs [bm (w, n) m]) := by
  cases m with
  | cyc => kernel_rfl
  | bck => kernel_rfl
  | up b => cases b <;> kernel_rfl
  | swp k => kernel_rfl
  | tri k => kernel_rfl
  | ins k l => kernel_rfl
  | dwn =>
    refine go_run (b := b_back_move) ?_
    show Go b_back_move [some (encW w), some (.int n), some (encM .dwn), none] _
    refine go_seq (q_set (p_op (p_var rfl) p_c (x := .str "down") rfl) ?_)
    refine go_seq (q_f (p_test (p_op (p_var rfl) p_c (x := .bl false) (by kernel_rfl))) (go_nx ?_))
    refine go_seq (q_f (p_test (p_op (p_var rfl) p_c (x := .bl false) (by kernel_rfl))) (go_nx ?_))
    refine go_seq (q_f (p_test (p_op (p_var rfl) p_c (x := .bl false) (by kernel_rfl))) (go_nx ?_))
    refine go_seq (q_t (p_test (p_op (p_var rfl) p_c (x := .bl true) (by kernel_rfl))) ?_)
    refine go_seq (q_ret (p_list (p_cons (p_list (p_cons p_c (p_cons (p_if (p_test (p_op (p_op (p_var rfl) (p_un p_c (x := .int (-1)) rfl) (gIx_last (h1 rfl))) p_c (gGt_i _ _))) (fun _ => p_c) (fun _ => p_un p_c (x := .int (-1)) rfl)) p_nil)) (gTup2 _ _)) p_nil) (gLst1 _)) ?_)
    show some _ = some (encMs [.up (decide (0 < gw w (w.length - 1)))])
    by_cases h : 0 < gw w (w.length - 1) <;> simp [h, encMs, encM, sgn]
  | can k =>
    refine go_run (b := b_back_move) ?_
    show Go b_back_move [some (encW w), some (.int n), some (encM (.can k)), none] _
    refine go_seq (q_set (p_op (p_var rfl) p_c (x := .str "cancel") rfl) ?_)
    refine go_seq (q_f (p_test (p_op (p_var rfl) p_c (x := .bl false) (by kernel_rfl))) (go_nx ?_))
    refine go_seq (q_f (p_test (p_op (p_var rfl) p_c (x := .bl false) (by kernel_rfl))) (go_nx ?_))
    refine go_seq (q_f (p_test (p_op (p_var rfl) p_c (x := .bl false) (by kernel_rfl))) (go_nx ?_))
    refine go_seq (q_f (p_test (p_op (p_var rfl) p_c (x := .bl false) (by kernel_rfl))) (go_nx ?_))
    refine go_seq (q_t (p_test (p_op (p_var rfl) p_c (x := .bl true) (by kernel_rfl))) ?_)
    exact go_seq (q_ret (p_list (p_cons (p_list (p_cons p_c (p_cons (p_op (p_var rfl) p_c (x := .int k) rfl) (p_cons (p_op (p_var rfl) (p_op (p_var rfl) p_c (x := .int k) rfl) (gIx_w rfl (h2 k rfl))) p_nil))) (gTup3 _ _ _)) p_nil) (gLst1 _)) rfl)
def bw : Sta → List Mv → List Mv
  | _, [] => []
  | s, m :: ms => match mv s m with
    | some t => bw t ms ++ [bm s m]
    | none => []
theorem bw_snoc : ∀ {a : List Mv} {s u v : Sta} {m : Mv}, run s a = some u → mv u m = some v → bw s (a ++ [m]) = bm u m :: bw s a
  | [], s, u, v, m, h, h2 => by
    cases h
    show (match mv s m with | some t => bw t [] ++ [bm s m] | none => []) = _
    rw [h2]; rfl
  | x :: a, s, u, v, m, h, h2 => by
    obtain ⟨t, e1, e2⟩ := Option.bind_eq_some_iff.mp (show (mv s x).bind _ = some u from h)
    show (match mv s x with | some t => bw t (a ++ [m]) ++ [bm s x] | none => []) = bm u m :: (match mv s x with | some t => bw t a ++ [bm s x] | none => [])
    rw [e1]
    show bw t (a ++ [m]) ++ [bm s x] = _
    rw [bw_snoc e2 h2]; rfl
theorem bw_len : ∀ (ms : List Mv) (s : Sta), (bw s ms).length ≤ ms.length
  | [], s => by simp [bw]
  | m :: ms, s => by
    unfold bw
    split
    · rename_i t _
      have := bw_len ms t
      simp; exact this
    · simp
theorem run_back : ∀ {ms : List Mv} {s t : Sta}, valid s → (∀ m ∈ ms, poss m = true) → run s ms = some t → run t (bw s ms) = some s ∧ valid t ∧ t.1.length ≤ s.1.length ∧ t.2 ≤ s.2
  | [], s, t, hv, _, h => by cases h; exact ⟨rfl, hv, Nat.le_refl _, Nat.le_refl _⟩
  | m :: ms, s, t, hv, hp, h => by
    obtain ⟨u, e1, e2⟩ := Option.bind_eq_some_iff.mp (show (mv s m).bind _ = some t from h)
    obtain ⟨a1, a2, a3, a4⟩ := mv_back hv (hp m (by simp)) e1
    obtain ⟨b1, b2, b3, b4⟩ := run_back a2 (fun x hx => hp x (by simp [hx])) e2
    refine ⟨?_, b2, by omega, by omega⟩
    show run t (match mv s m with | some t => bw t ms ++ [bm s m] | none => []) = _
    rw [e1]
    show run t (bw u ms ++ [bm s m]) = _
    rw [run_app, b1]
    show (mv u (bm s m)).bind _ = _
    rw [a1]; rfl
theorem gAdd_ms (a b : List Mv) (h : a.length + b.length ≤ 1000000) : gAdd (encMs a) (encMs b) = some (encMs (a ++ b)) := by
  have e1 : gAddI (encMs a) (encMs b) = none := rfl
  have e2 : gAddT (encMs a) (encMs b) = none := rfl
  have e3 : gAddS (encMs a) (encMs b) = none := rfl
  have e4 : gAddL (encMs a) (encMs b) = some (encMs (a ++ b)) := by
    unfold gAddL encMs
    simp only [List.length_map]
    rw [if_pos h, List.map_append]
  unfold gAdd orG
  rw [e1, e2, e3, e4]
theorem mv_dwn_ne {s t : Sta} (h : mv s .dwn = some t) : s.1 ≠ [] := fun e => by
  obtain ⟨w, n⟩ := s
  cases e
  have : mv (([] : Wd), n) .dwn = none := by
    show (if n < 2 ∨ ([] : Wd) = [] ∨ _ then none else _) = none
    rw [if_pos (.inr (.inl rfl))]
  rw [this] at h; cases h
theorem mv_can_lt {s t : Sta} {k : Nat} (h : mv s (.can k) = some t) : k < s.1.length := by
  obtain ⟨w, n⟩ := s
  obtain ⟨w', e, _⟩ := Option.map_eq_some_iff.mp (show (mvd w n (.can k)).map (fun w => (w, n)) = some t from h)
  unfold mvd at e; simp only at e
  split at e
  · rename_i q
    unfold bC at q; rw [Bool.and_eq_true] at q; have := of_decide_eq_true q.1
    show k < w.length; omega
  · cases e
theorem F_back_way_eq (s t : Sta) (ms : List Mv) (h : run s ms = some t) (hl : s.1.length + 2 * ms.length ≤ 90000) (hn : s.2 + ms.length ≤ 100000) : F_back_way [encW s.1, .int s.2, encMs ms] = some (encMs (bw s ms)) := by
  refine go_run (b := b_back_way) ?_
  show Go b_back_way [some (encW s.1), some (.int s.2), some (encMs ms), none, none] _
  refine go_seq (q_set (p_list p_nil gLst0) ?_)
  refine go_seq (go_forN (fun i ρ => ∃ u a, ρ = [some (encW u.1), some (.int (u : Sta).2), some (encMs ms), some (encMs (bw s (ms.take i))), a] ∧ run s (ms.take i) = some u) (l := ms.map encM) (p_iS (p_var rfl) rfl) ⟨s, none, rfl, by rw [List.take_zero]; rfl⟩ ?_ ?_)
  · rintro i p ρ hp ⟨u, a, rfl, hu⟩
    rw [List.getElem?_map] at hp
    obtain ⟨m, hm, rfl⟩ := Option.map_eq_some_iff.mp hp
    have hi : i < ms.length := (List.getElem?_eq_some_iff.mp hm).1
    refine ⟨_, rfl, ?_⟩
    show Go _ [some (encW u.1), some (.int u.2), some (encMs ms), some (encMs (bw s (ms.take i))), some (encM m)] _
    obtain ⟨v, hv⟩ : ∃ v, mv u m = some v := by
      have e : ms = ms.take i ++ m :: ms.drop (i + 1) := by
        have hm' := hm
        rw [List.getElem?_eq_getElem hi] at hm'
        cases hm'
        rw [← List.drop_eq_getElem_cons hi, List.take_append_drop]
      rw [e, run_app, hu] at h
      obtain ⟨v, h1, _⟩ := Option.bind_eq_some_iff.mp (show (mv u m).bind _ = some t from h)
      exact ⟨v, h1⟩
    have ul := run_len (s := s) hu
    have tl : (ms.take i).length ≤ ms.length := by rw [List.length_take]; omega
    have hmk := F_markov_moved_eq u.1 u.2 m (by omega) (by omega)
    rw [show mv (u.1, u.2) m = some v from hv] at hmk
    have hbm := F_back_move_eq u.1 u.2 m (fun e => by subst e; exact mv_dwn_ne hv) (fun k e => by subst e; exact mv_can_lt hv)
    have bl := bw_len (ms.take i) s
    refine go_seq (q_set (p_op (p_list (p_cons (p_var rfl) (p_cons (p_var rfl) (p_cons (p_var rfl) p_nil))) hbm) (p_var rfl) (gAdd_ms _ _ (by simp; omega))) ?_)
    refine go_seq (go_asg (p_list (p_cons (p_var rfl) (p_cons (p_var rfl) (p_cons (p_var rfl) p_nil))) hmk) (ρ2 := [some (encW v.1), some (.int v.2), some (encMs ms), some (encMs ([bm (u.1, u.2) m] ++ bw s (ms.take i))), some (encM m)]) rfl (go_nx ⟨.inl rfl, v, some (encM m), ?_, ?_⟩))
    · rw [List.take_add_one, hm]
      show _ = [some (encW v.1), some (PV.int v.2), some (encMs ms), some (encMs (bw s (ms.take i ++ [m]))), some (encM m)]
      rw [bw_snoc hu hv]; rfl
    · rw [List.take_add_one, hm]
      show run s (ms.take i ++ [m]) = _
      rw [run_app, hu]
      show (mv u m).bind _ = _
      rw [hv]; rfl
  · rintro ρ ⟨u, a, rfl, hu⟩
    rw [List.length_map, List.take_of_length_le (Nat.le_refl _)]
    exact go_seq (q_ret (p_var rfl) rfl)
end k83
end PT

set_option Elab.async false
set_option linter.all false
set_option autoImplicit false
set_option maxRecDepth 100000
set_option maxHeartbeats 4000000
/-! k83_m6: the search, level by level. -/
namespace PT
namespace k83
open PySem PT PT.Lau
abbrev Ent := Sta × List Mv
def klt (a b : Sta) : Bool := HT.lexLt [(a.2 : Int), (a.1.length : Int)] [(b.2 : Int), (b.1.length : Int)]
theorem klt_iff {a b : Sta} : klt a b = true ↔ a.2 < b.2 ∨ (a.2 = b.2 ∧ a.1.length < b.1.length) := by
  unfold klt
  rw [HT.lexLt_cons, HT.lexLt_cons, HT.lexLt_nil_nil]
  by_cases h : (a.2 : Int) = b.2
  · rw [if_pos h]
    by_cases h2 : (a.1.length : Int) = b.1.length
    · rw [if_pos h2]; simp; omega
    · rw [if_neg h2]; simp; omega
  · rw [if_neg h]; simp; omega
theorem klt_false {a b : Sta} : klt a b = false ↔ ¬ (a.2 < b.2 ∨ (a.2 = b.2 ∧ a.1.length < b.1.length)) := by
  rw [← klt_iff]; simp
def scan (most : Nat) (cur : Ent) : List Mv → List Ent → Ent → Bool × List Ent × Ent
  | [], E, b => (false, E, b)
  | m :: ms, E, b => match mv cur.1 m with
    | none => scan most cur ms E b
    | some o => if o ∈ keysS E then scan most cur ms E b else if E.length = most then (true, E, b)
      else scan most cur ms (E ++ [(o, cur.2 ++ [m])]) (if klt o b.1 = true then (o, cur.2 ++ [m]) else b)
def bfs (most : Nat) : Nat → Nat → List Ent → Ent → Ent
  | 0, _, _, b => b
  | f + 1, q, E, b => match E[q]? with
    | none => b
    | some cur => match scan most cur (pm cur.1) E b with
      | (true, _, b') => b'
      | (false, E', b') => bfs most f (q + 1) E' b'
def best (s0 : Sta) (most : Nat) : Ent := bfs most (most + 1) 0 [(s0, [])] (s0, [])
structure Ok (s0 : Sta) (most : Nat) (E : List Ent) (b : Ent) : Prop where
  nd : (keysS E).Nodup
  bm : b ∈ E
  run : ∀ e ∈ E, run s0 e.2 = some e.1
  ps : ∀ e ∈ E, ∀ m ∈ e.2, poss m = true
  ln : ∀ e ∈ E, e.2.length < E.length
  le : E.length ≤ most
  kl : klt s0 b.1 = false
theorem Ok.start {s0 : Sta} {most : Nat} (h : 1 ≤ most) : Ok s0 most [(s0, [])] (s0, []) where
  nd := by simp [keysS]
  bm := by simp
  run := by simp [k83.run]
  ps := by simp
  ln := by simp
  le := h
  kl := klt_false.mpr (by show ¬ (s0.2 < s0.2 ∨ (s0.2 = s0.2 ∧ s0.1.length < s0.1.length)); omega)
theorem pm_mem {s : Sta} {m : Mv} (h : m ∈ pm s) : poss m = true ∧ ∃ o, mv s m = some o := by
  unfold pm at h
  have key : ∀ l : List Mv, (∀ x ∈ l, poss x = true) → m ∈ l.filter (okM s) → poss m = true ∧ ∃ o, mv s m = some o := fun l hl hm => by
    rw [List.mem_filter] at hm
    exact ⟨hl m hm.1, Option.isSome_iff_exists.mp hm.2⟩
  rw [List.mem_append] at h
  rcases h with h | h
  · obtain ⟨k, _, h⟩ := List.mem_flatMap.mp h
    exact key _ (by simp [poss]) h
  · exact key _ (by simp [poss]) h
section
variable {s0 : Sta} {most : Nat} {E : List Ent} {b cur : Ent} {m : Mv} {o : Sta}
theorem Ok.step (K : Ok s0 most E b) (hc : cur ∈ E) (hp : poss m = true) (hm : mv cur.1 m = some o) (hn : o ∉ keysS E) (hl : E.length ≠ most) : Ok s0 most (E ++ [(o, cur.2 ++ [m])]) (if klt o b.1 = true then (o, cur.2 ++ [m]) else b) where
  nd := by
    unfold keysS at hn ⊢
    rw [List.map_append]
    exact List.nodup_append.mpr ⟨K.nd, by simp, fun x hx y hy => by simp at hy; subst hy; intro e; subst e; exact hn hx⟩
  bm := by
    split
    · simp
    · simp [K.bm]
  run := fun e he => by
    rcases List.mem_append.mp he with he | he
    · exact K.run e he
    · simp at he; subst he
      show k83.run s0 (cur.2 ++ [m]) = some o
      rw [run_app, K.run cur hc]
      show (mv cur.1 m).bind _ = _
      rw [hm]; rfl
  ps := fun e he x hx => by
    rcases List.mem_append.mp he with he | he
    · exact K.ps e he x hx
    · simp at he; subst he
      rcases List.mem_append.mp hx with hx | hx
      · exact K.ps cur hc x hx
      · simp at hx; subst hx; exact hp
  ln := fun e he => by
    rcases List.mem_append.mp he with he | he
    · have := K.ln e he; simp; omega
    · simp at he; subst he
      have := K.ln cur hc; simp; omega
  le := by have := K.le; simp; omega
  kl := by
    split
    · rename_i h
      have h1 := klt_iff.mp h
      have h2 := klt_false.mp K.kl
      exact klt_false.mpr (by show ¬ (s0.2 < o.2 ∨ (s0.2 = o.2 ∧ s0.1.length < o.1.length)); omega)
    · exact K.kl
theorem scan_ok (hc : cur ∈ E) : ∀ {ms : List Mv} {E : List Ent} {b : Ent}, cur ∈ E → (∀ m ∈ ms, poss m = true) → Ok s0 most E b → Ok s0 most (scan most cur ms E b).2.1 (scan most cur ms E b).2.2
  | [], E, b, _, _, K => K
  | m :: ms, E, b, hc', hp, K => by
    unfold scan
    split
    · exact scan_ok hc hc' (fun x hx => hp x (by simp [hx])) K
    · rename_i o ho
      split
      · exact scan_ok hc hc' (fun x hx => hp x (by simp [hx])) K
      · split
        · exact K
        · rename_i h1 h2
          exact scan_ok hc (by simp [hc']) (fun x hx => hp x (by simp [hx])) (K.step hc' (hp m (by simp)) ho h1 h2)
theorem bfs_ok : ∀ (f q : Nat) {E : List Ent} {b : Ent}, Ok s0 most E b → ∃ E', Ok s0 most E' (bfs most f q E b)
  | 0, q, E, b, K => ⟨E, K⟩
  | f + 1, q, E, b, K => by
    unfold bfs
    split
    · exact ⟨E, K⟩
    · rename_i cur hcur
      have hc := List.mem_of_getElem? hcur
      have := scan_ok hc (ms := pm cur.1) hc (fun m hm => (pm_mem hm).1) K
      split
      · rename_i E' b' e
        rw [e] at this; exact ⟨_, this⟩
      · rename_i E' b' e
        rw [e] at this; exact bfs_ok f (q + 1) this
end
/-! ### as the program tells it -/
def encE (e : Ent) : PV := .tup [encSt e.1, encMs e.2]
def metS (E : List Ent) : List (Sta × Unit) := E.map fun e => (e.1, ())
def unitP : Unit → PV := fun _ => .bl true
def metP (E : List Ent) : PV := .dit (encS encSt unitP (metS E))
def bestP (b : Ent) : PV := .tup [.tup [.int b.1.2, .int b.1.1.length], encMs b.2, encSt b.1]
theorem keys_met (E : List Ent) : keysS (metS E) = keysS E := by unfold keysS metS; rw [List.map_map]; rfl
theorem put_new {R : Type} {s : List (Sta × R)} {o : Sta} {r : R} (h : o ∉ keysS s) : putS s o r = s ++ [(o, r)] := by
  unfold putS
  rw [if_neg (fun e => h (any_iff.mp e))]
theorem look_mem {R : Type} {s : List (Sta × R)} {o : Sta} : (lookS s o).isSome = decide (o ∈ keysS s) := by
  by_cases h : o ∈ keysS s
  · cases q : lookS s o with
    | none => exact absurd h (lookS_none.mp q)
    | some r => simp [h]
  · rw [lookS_none.mpr h]; simp [h]
theorem notin_enc {R : Type} (er : R → PV) (s : List (Sta × R)) (o : Sta) : gNotInX (encSt o) (.dit (encS encSt er s)) = some (.bl (!decide (o ∈ keysS s))) := by
  rw [gNotInX_enc kencSt, look_mem]
theorem lenX_enc {R : Type} (er : R → PV) (s : List (Sta × R)) : gLenX [.dit (encS encSt er s)] = some (.int s.length) := by
  show some (PV.int ((encS encSt er s).length : Nat)) = _
  unfold encS; rw [List.length_map]
theorem okDs_of {n : Nat} : ∀ {l : List PV}, (∀ x ∈ l, okD n x = true) → okDs n l = true
  | [], _ => by cases n <;> rfl
  | x :: l, h => by
    have h1 := h x (by simp)
    have h2 := okDs_of (l := l) fun y hy => h y (by simp [hy])
    unfold okDs; rw [h1, h2]; rfl
theorem okD_m (m : Mv) (n : Nat) : okD (n + 1) (encM m) = true := by
  cases m with
  | up b => cases b <;> (cases n <;> kernel_rfl)
  | _ => cases n <;> kernel_rfl
theorem okD_ms (l : List Mv) (n : Nat) : okD (n + 2) (encMs l) = true := by
  show okDs (n + 1) (l.map encM) = true
  exact okDs_of fun x hx => by
    obtain ⟨m, _, rfl⟩ := List.mem_map.mp hx
    exact okD_m m n
theorem okD_e (e : Ent) (n : Nat) : okD (n + 3) (encE e) = true := by
  show (okD (n + 2) (encSt e.1) && (okD (n + 2) (encMs e.2) && true)) = true
  rw [okD_st, okD_ms]; rfl
theorem gNe_nil {l : List PV} (h : ∀ x ∈ l, okD 15 x = true) : gNeD (.lst l) (.lst []) = some (.bl (!l.isEmpty)) := by
  unfold gNeD
  have : okD 16 (.lst l) = true := okDs_of h
  rw [if_pos (by rw [this]; rfl)]
  cases l <;> rfl
theorem disp_one {f g : EF} {ρ : Env} {s : Sta} {v : PV} (hf : f ρ = some (encSt s, ρ)) (hg : g ρ = some (v, ρ)) : fDispX [(f, g)] ρ = some (.dit [(encSt s, v)], ρ) := by
  unfold fDispX dpF dpF
  rw [hf]
  simp only [Option.bind_some, hg]
  have : isTKey (encSt s) = true := kencSt.key s
  simp only [List.length_cons, List.length_nil, List.all_cons, List.all_nil, this]
  rfl
end k83
end PT

set_option Elab.async false
set_option linter.all false
set_option autoImplicit false
set_option maxRecDepth 100000
set_option maxHeartbeats 4000000
/-! k83_m7: lessened_way and the law's best. -/
namespace PT
namespace k83
open PySem PT PT.Lau
theorem gLt_key (a b : Sta) : gLtA (.tup [.int a.2, .int a.1.length]) (.tup [.int b.2, .int b.1.length]) = some (.bl (klt a b)) := rfl
theorem small {s0 : Sta} {most : Nat} {E : List Ent} {b : Ent} (K : Ok s0 most E b) (hv : valid s0) {e : Ent} (he : e ∈ E) : e.1.1.length ≤ s0.1.length ∧ e.1.2 ≤ s0.2 ∧ valid e.1 := by
  obtain ⟨_, a2, a3, a4⟩ := run_back hv (K.ps e he) (K.run e he)
  exact ⟨a3, a4, a2⟩
def envL (s0 : Sta) (most : Nat) (E : List Ent) (b : Ent) (q : Nat) (r : List (Option PV)) : Env := [some (encW s0.1), some (.int s0.2), some (.int most), some (.lst ((E.drop q).map encE)), some (metP E), some (bestP b)] ++ r
theorem bfs_none {most f q : Nat} {E : List Ent} {b : Ent} (h : E[q]? = none) : bfs most (f + 1) q E b = b := by rw [bfs, h]
theorem bfs_some {most f q : Nat} {E : List Ent} {b cur : Ent} (h : E[q]? = some cur) : bfs most (f + 1) q E b = match scan most cur (pm cur.1) E b with | (true, _, b') => b' | (false, E', b') => bfs most f (q + 1) E' b' := by rw [bfs, h] <;> rfl
theorem scan_cons {most : Nat} {cur : Ent} {m : Mv} {ms : List Mv} {E : List Ent} {b : Ent} {o : Sta} (h : mv cur.1 m = some o) : scan most cur (m :: ms) E b = if o ∈ keysS E then scan most cur ms E b else if E.length = most then (true, E, b)
      else scan most cur ms (E ++ [(o, cur.2 ++ [m])]) (if klt o b.1 = true then (o, cur.2 ++ [m]) else b) := by rw [scan, h]
section
variable {s0 : Sta} {most : Nat}
theorem F_lessened_eq (hv : valid s0) (hl : s0.1.length ≤ 1000) (hn : s0.2 ≤ 1000) (h1 : 1 ≤ most) (h2 : most ≤ 9000) :
    F_lessened_way [encW s0.1, .int s0.2, .int most] = some (.tup [encMs (best s0 most).2, encSt (best s0 most).1]) := by
  refine go_run (b := b_lessened_way) ?_
  show Go b_lessened_way [some (encW s0.1), some (.int s0.2), some (.int most), none, none, none, none, none, none, none, none] _
  have st0 : ∀ r : List (Option PV), (fList gTuple (aCons (fVar 0) (aCons (fVar 1) aNil))) (some (encW s0.1) :: some (.int s0.2) :: r) = some (encSt s0, some (encW s0.1) :: some (.int s0.2) :: r) := fun r => p_list (p_cons (p_var rfl) (p_cons (p_var rfl) p_nil)) (gTup2 _ _)
  refine go_seq (q_set (p_list (p_cons (p_list (p_cons (st0 _) (p_cons (p_list p_nil gLst0) p_nil)) (gTup2 _ _)) p_nil) (gLst1 _)) ?_)
  refine go_seq (q_set (disp_one (st0 _) p_c) ?_)
  refine go_seq (q_set (p_list (p_cons (p_list (p_cons (p_var rfl) (p_cons (p_list (p_a1 (p_var rfl)) (gLen_w s0.1)) p_nil)) (gTup2 _ _)) (p_cons (p_list p_nil gLst0) (p_cons (st0 _) p_nil))) (gTup3 _ _ _)) ?_)
  refine go_seq (go_while (fun m ρ => ∃ E b q x6 x7 x8 x9 x10, ρ = envL s0 most E b q [x6, x7, x8, x9, x10] ∧ Ok s0 most E b ∧ q ≤ E.length ∧ m = most + 1 - q ∧ bfs most m q E b = best s0 most) (most + 1) (by omega)
    ⟨[(s0, [])], (s0, []), 0, none, none, none, none, none, rfl, Ok.start h1, by simp, by omega, rfl⟩ ?_)
  rintro m ρ ⟨E, b, q, x6, x7, x8, x9, x10, rfl, K, hq, hm, hR⟩
  have hle := K.le
  obtain ⟨m1, rfl⟩ : ∃ m1, m = m1 + 1 := ⟨m - 1, by omega⟩
  refine ⟨_, _, p_test (p_opO (i := 3) rfl (p_list p_nil gLst0) (gNe_nil fun x hx => ?_)), fun e => ?_, fun e => ?_⟩
  · obtain ⟨e, _, rfl⟩ := List.mem_map.mp hx
    exact okD_e e 12
  · have hqe : E.length ≤ q := by
      simp at e
      exact e
    have : E[q]? = none := List.getElem?_eq_none hqe
    rw [bfs_none this] at hR
    refine go_seq (q_ret (p_list (p_cons (p_op (p_var rfl) p_c (x := encMs b.2) rfl) (p_cons (p_op (p_var rfl) p_c (x := encSt b.1) rfl) p_nil)) (gTup2 _ _)) ?_)
    show some _ = some _
    rw [← hR]
  · have hqe : q < E.length := by
      simp at e
      exact e
    have hget : E[q]? = some E[q] := List.getElem?_eq_getElem hqe
    obtain ⟨cur, hcur⟩ : ∃ cur, cur = E[q] := ⟨_, rfl⟩
    rw [← hcur] at hget
    have hcm : cur ∈ E := List.mem_of_getElem? hget
    obtain ⟨c1, c2, c3⟩ := small K hv hcm
    have hdrop : (E.drop q).map encE = encE cur :: (E.drop (q + 1)).map encE := by
      rw [List.drop_eq_getElem_cons hqe, ← hcur]; rfl
    have hpop : gPopAt (.lst ((E.drop q).map encE)) [.int 0] = some (encE cur, .lst ((E.drop (q + 1)).map encE)) := by
      rw [hdrop]
      unfold gPopAt
      have : L2.ixN (encE cur :: (E.drop (q + 1)).map encE).length 0 = some 0 := by
        simp only [L2.ixN, List.length_cons]
        rw [if_pos (by omega), if_pos (by omega)]; rfl
      simp only [this]
      have : i62 (0 : Int) = true := by decide +kernel
      simp [this]
    have hasg : (tTupG 2 (tsCons (tTupG 2 (tsCons (tName 6) (tsCons (tName 7) tsNil))) (tsCons (tName 8) tsNil))) (encE cur) ((envL s0 most E b q [x6, x7, x8, x9, x10]).set 3 (some (.lst ((E.drop (q + 1)).map encE))))
        = some (envL s0 most E b (q + 1) [some (encW cur.1.1), some (.int cur.1.2), some (encMs cur.2), x9, x10]) := rfl
    refine go_seq (go_asg (p_mut rfl rfl (p_cons p_c p_nil) hpop) hasg ?_)
    rw [bfs_some hget] at hR
    obtain ⟨T, hT⟩ : ∃ T, T = scan most cur (pm cur.1) E b := ⟨_, rfl⟩
    rw [← hT] at hR
    refine go_seq (go_forR (fun j ρ => ∃ E' b' x9 x10, ρ = envL s0 most E' b' (q + 1) [some (encW cur.1.1), some (.int cur.1.2), some (encMs cur.2), x9, x10] ∧ Ok s0 most E' b' ∧ cur ∈ E' ∧ q + 1 ≤ E'.length ∧ scan most cur ((pm cur.1).drop j) E' b' = T)
      (l := (pm cur.1).map encM) (p_iS (p_list (p_cons (p_var rfl) (p_cons (p_var rfl) p_nil)) (F_possible_moves_eq cur.1.1 cur.1.2 (by omega) (by omega))) rfl) ⟨E, b, x9, x10, rfl, K, hcm, by omega, hT.symm⟩ ?_ ?_)
    · rintro j p ρ hp ⟨E', b', y9, y10, rfl, K', hc', hq', hS⟩
      rw [List.getElem?_map] at hp
      obtain ⟨m, hm', rfl⟩ := Option.map_eq_some_iff.mp hp
      have hj : j < (pm cur.1).length := (List.getElem?_eq_some_iff.mp hm').1
      obtain ⟨hpos, o, ho⟩ := pm_mem (List.mem_of_getElem? hm')
      have hdr : (pm cur.1).drop j = m :: (pm cur.1).drop (j + 1) := by
        rw [List.drop_eq_getElem_cons hj]
        rw [List.getElem?_eq_getElem hj] at hm'
        cases hm'; rfl
      rw [hdr] at hS
      rw [scan_cons ho] at hS
      refine ⟨_, rfl, ?_⟩
      show Go _ (envL s0 most E' b' (q + 1) [some (encW cur.1.1), some (.int cur.1.2), some (encMs cur.2), some (encM m), y10]) _
      have hmk := F_markov_moved_eq cur.1.1 cur.1.2 m (by omega) (by omega)
      rw [show mv (cur.1.1, cur.1.2) m = some o from ho] at hmk
      refine go_seq (q_set (p_list (p_cons (p_var rfl) (p_cons (p_var rfl) (p_cons (p_var rfl) p_nil))) hmk) ?_)
      show Go _ (envL s0 most E' b' (q + 1) [some (encW cur.1.1), some (.int cur.1.2), some (encMs cur.2), some (encM m), some (encSt o)]) _
      refine go_seq (q_if (p_test (p_op (p_var rfl) (p_var rfl) (notin_enc unitP (metS E') o))) (fun e => ?_) fun e => ?_)
      · rw [keys_met] at e
        have hno : o ∉ keysS E' := by simpa using e
        rw [if_neg hno] at hS
        have hlm : (metS E').length = E'.length := by unfold metS; rw [List.length_map]
        have hle' := K'.le
        have hcl := K'.ln cur hc'
        refine go_seq (q_if (p_test (p_op (p_list (p_a1 (p_var rfl)) (lenX_enc unitP (metS E'))) (p_var rfl) (gEq_i _ _))) (fun e2 => ?_) fun e2 => go_nx ?_)
        · rw [hlm] at e2
          have e2 : E'.length = most := by have := of_decide_eq_true e2; omega
          rw [if_pos e2] at hS
          refine go_seq (q_ret (p_list (p_cons (p_op (p_var rfl) p_c (x := encMs b'.2) rfl) (p_cons (p_op (p_var rfl) p_c (x := encSt b'.1) rfl) p_nil)) (gTup2 _ _)) ?_)
          show some _ = some _
          rw [← hR, ← hS]
        · rw [hlm] at e2
          have e2 : E'.length ≠ most := by have := of_decide_eq_false e2; omega
          rw [if_neg e2] at hS
          have hst := K'.step hc' hpos ho hno e2
          have hset : gSetX (metP E') (encSt o) (.bl true) = some (metP (E' ++ [(o, cur.2 ++ [m])])) := by
            have := gSetX_enc (er := unitP) (r := ()) (g := o) (s := metS E') kencSt (by omega)
            rw [put_new (by rw [keys_met]; exact hno)] at this
            rw [show metP (E' ++ [(o, cur.2 ++ [m])]) = .dit (encS encSt unitP (metS E' ++ [(o, ())])) by unfold metP metS; rw [List.map_append]; rfl]
            exact this
          refine go_seq (go_asg p_c (ρ2 := [some (encW s0.1), some (.int s0.2), some (.int most), some (.lst ((E'.drop (q + 1)).map encE)), some (metP (E' ++ [(o, cur.2 ++ [m])])), some (bestP b'), some (encW cur.1.1), some (.int cur.1.2), some (encMs cur.2), some (encM m), some (encSt o)]) (by
            unfold tSub
            show (gSetX (metP E') (encSt o) (.bl true)).map _ = _
            rw [hset]; rfl) ?_)
          have way8 : ∀ w3 w4 w5 : Option PV, (fOp gAdd (fVar 8) (fList gListD (aCons (fVar 9) aNil))) [some (encW s0.1), some (.int s0.2), some (.int most), w3, w4, w5, some (encW cur.1.1), some (.int cur.1.2), some (encMs cur.2), some (encM m), some (encSt o)]
              = some (encMs (cur.2 ++ [m]), [some (encW s0.1), some (.int s0.2), some (.int most), w3, w4, w5, some (encW cur.1.1), some (.int cur.1.2), some (encMs cur.2), some (encM m), some (encSt o)]) := fun w3 w4 w5 => p_op (p_var rfl) (p_list (p_cons (p_var rfl) p_nil) (gLst1 _)) (gAdd_ms cur.2 [m] (by simp; omega))
          have happ : gAppend (.lst ((E'.drop (q + 1)).map encE)) [encE (o, cur.2 ++ [m])] = some (.non, .lst (((E' ++ [(o, cur.2 ++ [m])]).drop (q + 1)).map encE)) := by
            show (if ((E'.drop (q + 1)).map encE).length < 1000000 then _ else _) = _
            rw [if_pos (by simp; omega), List.drop_append_of_le_length hq', List.map_append]; rfl
          refine go_seq (go_drop (p_mut rfl rfl (p_cons (p_list (p_cons (p_var rfl) (p_cons (way8 _ _ _) p_nil)) (gTup2 _ _)) p_nil) happ) ?_)
          refine go_seq (q_if (p_test (p_op (p_list (p_cons (p_op (p_var rfl) p_c (x := .int o.2) rfl) (p_cons (p_list (p_a1 (p_op (p_var rfl) p_c (x := encW o.1) rfl)) (gLen_w o.1)) p_nil)) (gTup2 _ _)) (p_op (p_var rfl) p_c (x := .tup [.int b'.1.2, .int b'.1.1.length]) rfl) (gLt_key o b'.1))) (fun e3 => ?_) fun e3 => ?_)
          · rw [if_pos e3] at hS hst
            refine go_seq (q_set (p_list (p_cons (p_list (p_cons (p_op (p_var rfl) p_c (x := .int o.2) rfl) (p_cons (p_list (p_a1 (p_op (p_var rfl) p_c (x := encW o.1) rfl)) (gLen_w o.1)) p_nil)) (gTup2 _ _)) (p_cons (way8 _ _ _) (p_cons (p_var rfl) p_nil))) (gTup3 _ _ _)) ?_)
            exact go_nx (go_nx (go_nx ⟨_, _, some (encM m), some (encSt o), rfl, hst, by simp [hc'], by simp; omega, hS⟩))
          · rw [if_neg (by rw [e3]; decide)] at hS hst
            exact go_nx (go_nx (go_nx ⟨_, _, some (encM m), some (encSt o), rfl, hst, by simp [hc'], by simp; omega, hS⟩))
      · rw [keys_met] at e
        have hin : o ∈ keysS E' := by simpa using e
        rw [if_pos hin] at hS
        exact go_nx (go_nx ⟨E', b', some (encM m), some (encSt o), rfl, K', hc', hq', hS⟩)
    · rintro ρ ⟨E', b', y9, y10, rfl, K', hc', hq', hS⟩
      rw [List.length_map, List.drop_of_length_le (Nat.le_refl _)] at hS
      rw [← hS] at hR
      exact go_nx ⟨m1, by omega, E', b', q + 1, _, _, _, _, _, rfl, K', hq', by omega, hR⟩
def envB (s0 : Sta) (most : Nat) (E : List Ent) (b : Ent) (q : Nat) (r : List (Option PV)) : Env := [some (encW s0.1), some (.int s0.2), some (.int most), some (.dit (encS encSt encMs E)), some (.lst ((E.drop q).map fun e => encSt e.1)), some (encSt b.1)] ++ r
theorem F_best_eq (hv : valid s0) (hl : s0.1.length ≤ 1000) (hn : s0.2 ≤ 1000) (h1 : 1 ≤ most) (h2 : most ≤ 9000) :
    F__law_best [encW s0.1, .int s0.2, .int most] = some (.tup [encMs (best s0 most).2, encSt (best s0 most).1]) := by
  refine go_run (b := b__law_best) ?_
  show Go b__law_best [some (encW s0.1), some (.int s0.2), some (.int most), none, none, none, none, none, none] _
  have st0 : ∀ r : List (Option PV), (fList gTuple (aCons (fVar 0) (aCons (fVar 1) aNil))) (some (encW s0.1) :: some (.int s0.2) :: r) = some (encSt s0, some (encW s0.1) :: some (.int s0.2) :: r) := fun r => p_list (p_cons (p_var rfl) (p_cons (p_var rfl) p_nil)) (gTup2 _ _)
  refine go_seq (q_set (disp_one (st0 _) (p_list p_nil gLst0)) ?_)
  refine go_seq (go_par (p_list (p_cons (st0 _) p_nil) (gLst1 _)) (st0 _) ?_)
  have fin : ∀ {E : List Ent} {b : Ent} {q : Nat} {r : List (Option PV)}, Ok s0 most E b → b = best s0 most → ∀ {Q : Fl → Env → Prop}, (∀ ρ, Q (.rt (.tup [encMs (best s0 most).2, encSt (best s0 most).1])) ρ) → Go (fRet (fList gTuple (aCons (fOpO gIxX 3 (fVar 5)) (aCons (fVar 5) aNil)))) (envB s0 most E b q r) Q := fun {E b q r} K e {Q} hQ => by
    subst e
    have hlk : lookS E (best s0 most).1 = some (best s0 most).2 := lookS_of_mem K.nd K.bm
    exact q_ret (p_list (p_cons (p_opO rfl (p_var rfl) (gIxX_enc kencSt hlk)) (p_cons (p_var rfl) p_nil)) (gTup2 _ _)) (hQ _)
  refine go_seq (go_while (fun m ρ => ∃ E b q x6 x7 x8, ρ = envB s0 most E b q [x6, x7, x8] ∧ Ok s0 most E b ∧ q ≤ E.length ∧ m = most + 1 - q ∧ bfs most m q E b = best s0 most) (most + 1) (by omega)
    ⟨[(s0, [])], (s0, []), 0, none, none, none, rfl, Ok.start h1, by simp, by omega, rfl⟩ ?_)
  rintro m ρ ⟨E, b, q, x6, x7, x8, rfl, K, hq, hm, hR⟩
  have hle := K.le
  obtain ⟨m1, rfl⟩ : ∃ m1, m = m1 + 1 := ⟨m - 1, by omega⟩
  refine ⟨_, _, p_and (p_test (p_op (p_var (i := 4) rfl) (p_list p_nil gLst0) (gNe_nil fun x hx => ?_))) (fun _ => p_test (p_op (p_list (p_a1 (p_var rfl)) (lenX_enc encMs E)) (p_var rfl) (x := .bl (decide ((E.length : Int) ≤ most))) rfl)), fun e => ?_, fun e => ?_⟩
  · obtain ⟨e, _, rfl⟩ := List.mem_map.mp hx
    exact okD_st e.1 13
  · have hqe : E.length ≤ q := by
      have : decide ((E.length : Int) ≤ most) = true := decide_eq_true (by omega)
      rw [this] at e
      simp at e
      exact e
    rw [bfs_none (List.getElem?_eq_none hqe)] at hR
    exact go_seq (fin K hR fun ρ => rfl)
  · have hqe : q < E.length := by
      rw [Bool.and_eq_true] at e
      have := e.1
      simp at this
      exact this
    have hget : E[q]? = some E[q] := List.getElem?_eq_getElem hqe
    obtain ⟨cur, hcur⟩ : ∃ cur, cur = E[q] := ⟨_, rfl⟩
    rw [← hcur] at hget
    have hcm : cur ∈ E := List.mem_of_getElem? hget
    obtain ⟨c1, c2, c3⟩ := small K hv hcm
    have hdrop : (E.drop q).map (fun e => encSt e.1) = encSt cur.1 :: (E.drop (q + 1)).map fun e => encSt e.1 := by
      rw [List.drop_eq_getElem_cons hqe, ← hcur]; rfl
    have hix : gIxAll (.lst ((E.drop q).map fun e => encSt e.1)) (.int 0) = some (encSt cur.1) := by rw [hdrop]; exact gIx_at (i := 0) rfl
    have hsl : gSlL (.lst ((E.drop q).map fun e => encSt e.1)) (some 1) none = some (.lst ((E.drop (q + 1)).map fun e => encSt e.1)) := by
      rw [hdrop]
      show some (PV.lst (cutP _ (some ((1 : Nat) : Int)) none)) = _
      unfold cutP
      rw [HT.sIx_nat, HT.sIx_none, List.length_cons, Nat.min_eq_left (by omega), List.drop_one, List.tail_cons, List.take_of_length_le (by omega)]
    refine go_seq (go_par (p_op (p_var rfl) p_c hix) (p_slD (p_var rfl) p_c hsl) ?_)
    show Go _ (envB s0 most E b (q + 1) [some (encSt cur.1), x7, x8]) _
    rw [bfs_some hget] at hR
    obtain ⟨T, hT⟩ : ∃ T, T = scan most cur (pm cur.1) E b := ⟨_, rfl⟩
    rw [← hT] at hR
    have now0 : ∀ {r : Env}, r[6]? = some (some (encSt cur.1)) → fOp gIxAll (fVar 6) (fC (.int 0)) r = some (encW cur.1.1, r) := fun h => p_op (p_var h) p_c rfl
    have now1 : ∀ {r : Env}, r[6]? = some (some (encSt cur.1)) → fOp gIxAll (fVar 6) (fC (.int 1)) r = some (.int cur.1.2, r) := fun h => p_op (p_var h) p_c rfl
    refine go_seq (go_forR (fun j ρ => ∃ E' b' x7 x8, ρ = envB s0 most E' b' (q + 1) [some (encSt cur.1), x7, x8] ∧ Ok s0 most E' b' ∧ cur ∈ E' ∧ q + 1 ≤ E'.length ∧ scan most cur ((pm cur.1).drop j) E' b' = T)
      (l := (pm cur.1).map encM) (p_iS (p_list (p_cons (now0 rfl) (p_cons (now1 rfl) p_nil)) (F_possible_moves_eq cur.1.1 cur.1.2 (by omega) (by omega))) rfl) ⟨E, b, x7, x8, rfl, K, hcm, by omega, hT.symm⟩ ?_ ?_)
    · rintro j p ρ hp ⟨E', b', y9, y10, rfl, K', hc', hq', hS⟩
      rw [List.getElem?_map] at hp
      obtain ⟨m, hm', rfl⟩ := Option.map_eq_some_iff.mp hp
      have hj : j < (pm cur.1).length := (List.getElem?_eq_some_iff.mp hm').1
      obtain ⟨hpos, o, ho⟩ := pm_mem (List.mem_of_getElem? hm')
      have hdr : (pm cur.1).drop j = m :: (pm cur.1).drop (j + 1) := by
        rw [List.drop_eq_getElem_cons hj]
        rw [List.getElem?_eq_getElem hj] at hm'
        cases hm'; rfl
      rw [hdr] at hS
      rw [scan_cons ho] at hS
      refine ⟨_, rfl, ?_⟩
      show Go _ (envB s0 most E' b' (q + 1) [some (encSt cur.1), some (encM m), y10]) _
      have hmk := F_markov_moved_eq cur.1.1 cur.1.2 m (by omega) (by omega)
      rw [show mv (cur.1.1, cur.1.2) m = some o from ho] at hmk
      refine go_seq (q_set (p_list (p_cons (now0 rfl) (p_cons (now1 rfl) (p_cons (p_var rfl) p_nil))) hmk) ?_)
      show Go _ (envB s0 most E' b' (q + 1) [some (encSt cur.1), some (encM m), some (encSt o)]) _
      refine go_seq (q_if (p_test (p_op (p_var rfl) (p_var rfl) (notin_enc encMs E' o))) (fun e => ?_) fun e => ?_)
      · have hno : o ∉ keysS E' := by simpa using e
        rw [if_neg hno] at hS
        have hle' := K'.le
        have hcl := K'.ln cur hc'
        refine go_seq (q_if (p_test (p_op (p_list (p_a1 (p_var rfl)) (lenX_enc encMs E')) (p_var rfl) (gEq_i _ _))) (fun e2 => ?_) fun e2 => go_nx ?_)
        · have e2 : E'.length = most := by have := of_decide_eq_true e2; omega
          rw [if_pos e2] at hS
          rw [← hS] at hR
          exact go_seq (fin K' hR fun ρ => rfl)
        · have e2 : E'.length ≠ most := by have := of_decide_eq_false e2; omega
          rw [if_neg e2] at hS
          have hst := K'.step hc' hpos ho hno e2
          have hset : gSetX (.dit (encS encSt encMs E')) (encSt o) (encMs (cur.2 ++ [m])) = some (.dit (encS encSt encMs (E' ++ [(o, cur.2 ++ [m])]))) := by
            have := gSetX_enc (er := encMs) (r := cur.2 ++ [m]) (g := o) (s := E') kencSt (by omega)
            rw [put_new hno] at this
            exact this
          have hlk : lookS E' cur.1 = some cur.2 := lookS_of_mem K'.nd hc'
          refine go_seq (go_asg (p_op (p_opO rfl (p_var rfl) (gIxX_enc kencSt hlk)) (p_list (p_cons (p_var rfl) p_nil) (gLst1 _)) (gAdd_ms cur.2 [m] (by simp; omega))) (ρ2 := [some (encW s0.1), some (.int s0.2), some (.int most), some (.dit (encS encSt encMs (E' ++ [(o, cur.2 ++ [m])]))), some (.lst ((E'.drop (q + 1)).map fun e => encSt e.1)), some (encSt b'.1), some (encSt cur.1), some (encM m), some (encSt o)]) (by
            unfold tSub
            show (gSetX (.dit (encS encSt encMs E')) (encSt o) (encMs (cur.2 ++ [m]))).map _ = _
            rw [hset]; rfl) ?_)
          have happ : gAppend (.lst ((E'.drop (q + 1)).map fun e => encSt e.1)) [encSt o] = some (.non, .lst (((E' ++ [(o, cur.2 ++ [m])]).drop (q + 1)).map fun e => encSt e.1)) := by
            show (if ((E'.drop (q + 1)).map fun e => encSt e.1).length < 1000000 then _ else _) = _
            rw [if_pos (by simp; omega), List.drop_append_of_le_length hq', List.map_append]; rfl
          refine go_seq (go_drop (p_mut rfl rfl (p_cons (p_var rfl) p_nil) happ) ?_)
          refine go_seq (q_if (p_test (p_op (p_list (p_cons (p_op (p_var rfl) p_c (x := .int o.2) rfl) (p_cons (p_list (p_a1 (p_op (p_var rfl) p_c (x := encW o.1) rfl)) (gLen_w o.1)) p_nil)) (gTup2 _ _)) (p_list (p_cons (p_op (p_var rfl) p_c (x := .int b'.1.2) rfl) (p_cons (p_list (p_a1 (p_op (p_var rfl) p_c (x := encW b'.1.1) rfl)) (gLen_w b'.1.1)) p_nil)) (gTup2 _ _)) (gLt_key o b'.1))) (fun e3 => ?_) fun e3 => ?_)
          · rw [if_pos e3] at hS hst
            refine go_seq (q_set (p_var rfl) ?_)
            exact go_nx (go_nx (go_nx ⟨_, _, some (encM m), some (encSt o), rfl, hst, by simp [hc'], by simp; omega, hS⟩))
          · rw [if_neg (by rw [e3]; decide)] at hS hst
            exact go_nx (go_nx (go_nx ⟨_, _, some (encM m), some (encSt o), rfl, hst, by simp [hc'], by simp; omega, hS⟩))
      · have hin : o ∈ keysS E' := by simpa using e
        rw [if_pos hin] at hS
        exact go_nx (go_nx ⟨E', b', some (encM m), some (encSt o), rfl, K', hc', hq', hS⟩)
    · rintro ρ ⟨E', b', y9, y10, rfl, K', hc', hq', hS⟩
      rw [List.length_map, List.drop_of_length_le (Nat.le_refl _)] at hS
      rw [← hS] at hR
      exact go_nx ⟨m1, by omega, E', b', q + 1, _, _, _, rfl, K', hq', by omega, hR⟩
end
end k83
end PT

set_option Elab.async false
set_option linter.all false
set_option autoImplicit false
set_option maxRecDepth 100000
set_option maxHeartbeats 4000000
/-! k83_m8: joining_way. -/
namespace PT
namespace k83
open PySem PT PT.Lau
theorem go_runE {n : Nat} {b : SF} {args : List PV} {R : PV → Prop} (h : Go b (startP n args) fun fl _ => ∃ v, outF fl = some v ∧ R v) : ∃ v, runB n b args = some v ∧ R v := by
  obtain ⟨fl, ρ', a, v, k, r⟩ := h
  exact ⟨v, by unfold runB; rw [a]; exact k, r⟩
structure Best (s0 : Sta) (most : Nat) : Prop where
  run : run s0 (best s0 most).2 = some (best s0 most).1
  ps : ∀ m ∈ (best s0 most).2, poss m = true
  ln : (best s0 most).2.length < most
  kl : klt s0 (best s0 most).1 = false
  back : k83.run (best s0 most).1 (bw s0 (best s0 most).2) = some s0
  valid : valid (best s0 most).1
  len : (best s0 most).1.1.length ≤ s0.1.length
  many : (best s0 most).1.2 ≤ s0.2
theorem best_ok {s0 : Sta} {most : Nat} (hv : valid s0) (h1 : 1 ≤ most) : Best s0 most := by
  obtain ⟨E, K⟩ := bfs_ok (most + 1) 0 (Ok.start (s0 := s0) h1)
  have K : Ok s0 most E (best s0 most) := K
  obtain ⟨a1, a2, a3, a4⟩ := run_back hv (K.ps _ K.bm) (K.run _ K.bm)
  exact ⟨K.run _ K.bm, K.ps _ K.bm, Nat.lt_of_lt_of_le (K.ln _ K.bm) K.le, K.kl, a1, a2, a3, a4⟩
/-- what the second search keeps -/
structure Jk (low : Sta) (most : Nat) (W : List Ent) (M : List (Sta × Unit)) : Prop where
  le : M.length ≤ most
  run : ∀ e ∈ W, run low e.2 = some e.1
  ps : ∀ e ∈ W, ∀ m ∈ e.2, poss m = true
  ln : ∀ e ∈ W, e.2.length < M.length
def Res (a b : Sta) (v : PV) : Prop := (v = .non ∧ a ≠ b) ∨ ∃ w, v = encMs w ∧ run a w = some b ∧ w.length ≤ 40000
def envJ (a b : Sta) (most : Nat) (one other : List Mv) (low least : Sta) (W : List Ent) (M : List (Sta × Unit)) (r : List (Option PV)) : Env :=
  [some (encSt a), some (encSt b), some (.int most), some (encMs one), some (encSt low), some (encMs other), some (encSt least), some (.lst (W.map encE)), some (.dit (encS encSt unitP M))] ++ r
theorem st0 {i : Nat} {s : Sta} {r : Env} (h : r[i]? = some (some (encSt s))) : fOp gIxAll (fVar i) (fC (.int 0)) r = some (encW s.1, r) := p_op (p_var h) p_c rfl
theorem st1 {i : Nat} {s : Sta} {r : Env} (h : r[i]? = some (some (encSt s))) : fOp gIxAll (fVar i) (fC (.int 1)) r = some (.int s.2, r) := p_op (p_var h) p_c rfl
theorem F_joining_eq {a b : Sta} {most : Nat} (va : valid a) (vb : valid b) (la : a.1.length ≤ 1000) (na : a.2 ≤ 1000) (lb : b.1.length ≤ 1000) (nb : b.2 ≤ 1000) (h1 : 1 ≤ most) (h2 : most ≤ 9000) :
    ∃ v, F_joining_way [encSt a, encSt b, .int most] = some v ∧ Res a b v := by
  refine go_runE (b := b_joining_way) ?_
  show Go b_joining_way [some (encSt a), some (encSt b), some (.int most), none, none, none, none, none, none, none, none, none, none] _
  have A := best_ok (most := most) va h1
  have B := best_ok (most := most) vb h1
  refine go_seq (go_asg (p_list (p_cons (st0 rfl) (p_cons (st1 rfl) (p_cons (p_var rfl) p_nil))) (F_lessened_eq va la na h1 h2)) (ρ2 := [some (encSt a), some (encSt b), some (.int most), some (encMs (best a most).2), some (encSt (best a most).1), none, none, none, none, none, none, none, none]) rfl ?_)
  refine go_seq (go_asg (p_list (p_cons (st0 rfl) (p_cons (st1 rfl) (p_cons (p_var rfl) p_nil))) (F_lessened_eq vb lb nb h1 h2)) (ρ2 := [some (encSt a), some (encSt b), some (.int most), some (encMs (best a most).2), some (encSt (best a most).1), some (encMs (best b most).2), some (encSt (best b most).1), none, none, none, none, none, none]) rfl ?_)
  generalize hone : (best a most).2 = one at *
  have A1 := A.run; have A2 := A.ps; have A3 := A.ln; have A6 := A.valid; have A7 := A.len; have A8 := A.many
  have B1 := B.run; have B3 := B.ln; have B5 := B.back; have B7 := B.len; have B8 := B.many
  have hab : a = b → (best a most).1 = (best b most).1 := fun e => by rw [e]
  rw [hone] at A1 A2 A3
  generalize (best a most).1 = low at *
  generalize hoth : (best b most).2 = other at *
  generalize (best b most).1 = least at *
  have bl := bw_len other b
  have hbw := F_back_way_eq b least other B1 (by omega) (by omega)
  refine go_seq (q_if (p_test (p_op (p_var rfl) (p_var rfl) (gEq_st low least))) (fun e => ?_) fun e => go_nx ?_)
  · have e : low = least := of_decide_eq_true e
    refine go_seq (q_ret (p_op (p_var rfl) (p_list (p_cons (st0 rfl) (p_cons (st1 rfl) (p_cons (p_var rfl) p_nil))) hbw) (gAdd_ms _ _ (by omega))) ⟨_, rfl, .inr ⟨_, rfl, ?_, by simp; omega⟩⟩)
    rw [run_app, A1, e]
    exact B5
  have hne : low ≠ least := of_decide_eq_false e
  refine go_seq (q_set (p_list (p_cons (p_list (p_cons (p_var rfl) (p_cons (p_list p_nil gLst0) p_nil)) (gTup2 _ _)) p_nil) (gLst1 _)) ?_)
  refine go_seq (q_set (disp_one (p_var rfl) p_c) ?_)
  refine go_seq (go_while (fun m ρ => ∃ W M x9 x10 x11 x12, ρ = envJ a b most one other low least W M [x9, x10, x11, x12] ∧ Jk low most W M ∧ m = most - M.length + W.length ∧ m ≤ most) most (by omega)
    ⟨[(low, [])], [(low, ())], none, none, none, none, rfl, ⟨by simpa using h1, by simp [k83.run], by simp, by simp⟩, by simp; omega, Nat.le_refl _⟩ ?_)
  rintro m ρ ⟨W, M, x9, x10, x11, x12, rfl, K, hm, hmm⟩
  refine ⟨_, _, p_test (p_opO (i := 7) rfl (p_list p_nil gLst0) (gNe_nil fun x hx => ?_)), fun e => ?_, fun e2 => ?_⟩
  · obtain ⟨e, _, rfl⟩ := List.mem_map.mp hx
    exact okD_e e 12
  · exact go_seq (q_ret p_c ⟨_, rfl, .inl ⟨rfl, fun z => hne (hab z)⟩⟩)
  · obtain ⟨cur, W', rfl⟩ : ∃ cur W', W = cur :: W' := by
      cases W with
      | nil => simp at e2
      | cons x l => exact ⟨x, l, rfl⟩
    have hpop : gPopAt (.lst ((cur :: W').map encE)) [.int 0] = some (encE cur, .lst (W'.map encE)) := by
      unfold gPopAt
      have : L2.ixN ((cur :: W').map encE).length 0 = some 0 := by
        simp only [L2.ixN, List.map_cons, List.length_cons]
        rw [if_pos (by omega), if_pos (by omega)]; rfl
      simp only [this]
      have : i62 (0 : Int) = true := by decide +kernel
      simp [this]
    have hle := K.le
    have kr := K.run cur (by simp)
    have kp := K.ps cur (by simp)
    have kl := K.ln cur (by simp)
    obtain ⟨_, c1, c2, c3⟩ := run_back A6 kp kr
    refine go_seq (go_asg (p_mut rfl rfl (p_cons p_c p_nil) hpop) (ρ2 := envJ a b most one other low least W' M [some (encSt cur.1), some (encMs cur.2), x11, x12]) rfl ?_)
    have K1 : Jk low most W' M := ⟨K.le, fun e he => K.run e (by simp [he]), fun e he => K.ps e (by simp [he]), fun e he => K.ln e (by simp [he])⟩
    refine go_seq (go_forR (fun j ρ => ∃ W M x11 x12, ρ = envJ a b most one other low least W M [some (encSt cur.1), some (encMs cur.2), x11, x12] ∧ Jk low most W M ∧ cur.2.length < M.length ∧ most - M.length + W.length + 1 = m)
      (l := (pm cur.1).map encM) (p_iS (p_list (p_cons (st0 rfl) (p_cons (st1 rfl) p_nil)) (F_possible_moves_eq cur.1.1 cur.1.2 (by omega) (by omega))) rfl) ⟨W', M, x11, x12, rfl, K1, kl, by simp at hm; omega⟩ ?_ ?_)
    · rintro j p ρ hp ⟨W, M, y11, y12, rfl, K, kl, hm2⟩
      rw [List.getElem?_map] at hp
      obtain ⟨m', hm', rfl⟩ := Option.map_eq_some_iff.mp hp
      obtain ⟨hpos, o, ho⟩ := pm_mem (List.mem_of_getElem? hm')
      refine ⟨_, rfl, ?_⟩
      show Go _ (envJ a b most one other low least W M [some (encSt cur.1), some (encMs cur.2), some (encM m'), y12]) _
      have hmk := F_markov_moved_eq cur.1.1 cur.1.2 m' (by omega) (by omega)
      rw [show mv (cur.1.1, cur.1.2) m' = some o from ho] at hmk
      have hle := K.le
      refine go_seq (q_set (p_list (p_cons (st0 rfl) (p_cons (st1 rfl) (p_cons (p_var rfl) p_nil))) hmk) ?_)
      show Go _ (envJ a b most one other low least W M [some (encSt cur.1), some (encMs cur.2), some (encM m'), some (encSt o)]) _
      have hrun : k83.run low (cur.2 ++ [m']) = some o := by
        rw [run_app, kr]
        show (mv cur.1 m').bind _ = _
        rw [ho]; rfl
      refine go_seq (q_if (p_test (p_op (p_var rfl) (p_var rfl) (gEq_st o least))) (fun e => ?_) fun e => go_nx ?_)
      · have e : o = least := of_decide_eq_true e
        refine go_seq (q_ret (p_op (p_op (p_op (p_var rfl) (p_var rfl) (gAdd_ms one cur.2 (by omega))) (p_list (p_cons (p_var rfl) p_nil) (gLst1 _)) (gAdd_ms (one ++ cur.2) [m'] (by simp; omega))) (p_list (p_cons (st0 rfl) (p_cons (st1 rfl) (p_cons (p_var rfl) p_nil))) hbw) (gAdd_ms _ _ (by simp; omega))) ⟨_, rfl, .inr ⟨_, rfl, ?_, by simp; omega⟩⟩)
        rw [List.append_assoc one, run_app, run_app, A1]
        show (k83.run low (cur.2 ++ [m'])).bind _ = _
        rw [hrun, e]
        exact B5
      · refine go_seq (q_if (p_and (p_test (p_op (p_var rfl) (p_var rfl) (notin_enc unitP M o))) (fun _ => p_test (p_op (p_list (p_a1 (p_var rfl)) (lenX_enc unitP M)) (p_var rfl) (gLt_i _ _)))) (fun e2 => ?_) fun e2 => ?_)
        · rw [Bool.and_eq_true] at e2
          have hno : o ∉ keysS M := by simpa using e2.1
          have hlt : M.length < most := by have := of_decide_eq_true e2.2; omega
          have hset : gSetX (.dit (encS encSt unitP M)) (encSt o) (.bl true) = some (.dit (encS encSt unitP (M ++ [(o, ())]))) := by
            have := gSetX_enc (er := unitP) (r := ()) (g := o) (s := M) kencSt (by omega)
            rw [put_new hno] at this
            exact this
          refine go_seq (go_asg p_c (ρ2 := envJ a b most one other low least W (M ++ [(o, ())]) [some (encSt cur.1), some (encMs cur.2), some (encM m'), some (encSt o)]) (by
            unfold tSub
            show (gSetX (.dit (encS encSt unitP M)) (encSt o) (.bl true)).map _ = _
            rw [hset]; rfl) ?_)
          have happ : W.length < 1000000 → gAppend (.lst (W.map encE)) [encE (o, cur.2 ++ [m'])] = some (.non, .lst ((W ++ [(o, cur.2 ++ [m'])]).map encE)) := fun h => by
            show (if (W.map encE).length < 1000000 then _ else _) = _
            rw [if_pos (by simpa using h), List.map_append]; rfl
          refine go_seq (go_drop (p_mut rfl rfl (p_cons (p_list (p_cons (p_var rfl) (p_cons (p_op (p_var rfl) (p_list (p_cons (p_var rfl) p_nil) (gLst1 _)) (gAdd_ms cur.2 [m'] (by simp; omega))) p_nil)) (gTup2 _ _)) p_nil) (happ (by omega))) ?_)
          refine go_nx (go_nx ⟨W ++ [(o, cur.2 ++ [m'])], M ++ [(o, ())], some (encM m'), some (encSt o), rfl, ⟨by simp; omega, fun e he => ?_, fun e he x hx => ?_, fun e he => ?_⟩, by simp; omega, by simp; omega⟩)
          · rcases List.mem_append.mp he with he | he
            · exact K.run e he
            · simp at he; subst he; exact hrun
          · rcases List.mem_append.mp he with he | he
            · exact K.ps e he x hx
            · simp at he; subst he
              rcases List.mem_append.mp hx with hx | hx
              · exact kp x hx
              · simp at hx; subst hx; exact hpos
          · rcases List.mem_append.mp he with he | he
            · have := K.ln e he; simp; omega
            · simp at he; subst he; simp; omega
        · exact go_nx (go_nx ⟨W, M, some (encM m'), some (encSt o), rfl, K, kl, hm2⟩)
    · rintro ρ ⟨W, M, y11, y12, rfl, K, _, hm2⟩
      exact go_nx ⟨most - M.length + W.length, by omega, W, M, _, _, _, _, rfl, K, rfl, by omega⟩
end k83
end PT

set_option Elab.async false
set_option linter.all false
set_option autoImplicit false
set_option maxRecDepth 100000
set_option maxHeartbeats 4000000
/-! k83_m9: the law is true of every tape. -/
namespace PT
namespace k83
open PySem PT PT.Lau
theorem okS_m (m : Mv) (n : Nat) : okS (n + 2) (encM m) = true := by
  cases m with
  | up b => cases b <;> kernel_rfl
  | _ => kernel_rfl
theorem okSs_of {n : Nat} : ∀ {l : List PV}, (∀ x ∈ l, okS n x = true) → okSs n l = true
  | [], _ => by unfold okSs; rfl
  | x :: l, h => by
    have h1 := h x (by simp)
    have h2 := okSs_of (l := l) fun y hy => h y (by simp [hy])
    unfold okSs; rw [h1, h2]; rfl
theorem okS_w (w : Wd) (n : Nat) (h : w.length ≤ 1000000) : okS (n + 2) (encW w) = true := by
  show (decide ((w.map PV.int).length ≤ 1000000) && okSs (n + 1) (w.map PV.int)) = true
  rw [List.length_map, decide_eq_true h, okSs_of]
  · rfl
  · intro x hx
    obtain ⟨i, _, rfl⟩ := List.mem_map.mp hx
    rfl
theorem okS_ms (l : List Mv) (n : Nat) (h : l.length ≤ 1000000) : okS (n + 3) (encMs l) = true := by
  show (decide ((l.map encM).length ≤ 1000000) && okSs (n + 2) (l.map encM)) = true
  rw [List.length_map, decide_eq_true h, okSs_of]
  · rfl
  · intro x hx
    obtain ⟨m, _, rfl⟩ := List.mem_map.mp hx
    exact okS_m m n
theorem same_res (l : List Mv) (s : Sta) (h : l.length ≤ 1000000) (h2 : s.1.length ≤ 1000000) : F__law_same 30 [.tup [encMs l, encSt s], .tup [encMs l, encSt s]] = some (.bl true) := F__law_same_refl 30 _ (by
  show (decide (2 ≤ 1000000) && (okS 29 (encMs l) && (okS 29 (encSt s) && true))) = true
  have e : okS 29 (encSt s) = true := by
    show (decide (2 ≤ 1000000) && (okS 28 (encW s.1) && (true && true))) = true
    rw [okS_w s.1 26 h2]; rfl
  rw [okS_ms l 26 h, e]; rfl)
theorem lexGt_lt (x y z t : Int) : lexGt [x, y] [z, t] = HT.lexLt [z, t] [x, y] := by
  rw [HT.lexLt_cons, HT.lexLt_cons, HT.lexLt_nil_nil]
  show (if decide (x = z) = true then (if decide (y = t) = true then decide (2 > 2) else decide (t < y)) else decide (z < x)) = _
  by_cases h : x = z <;> by_cases h2 : y = t
  · simp [h, h2]
  · have : ¬ t = y := fun e => h2 e.symm
    simp [h, h2, this]
  · have : ¬ z = x := fun e => h e.symm
    simp [h, this]
  · have : ¬ z = x := fun e => h e.symm
    simp [h, this]
theorem gGt_key (a b : Sta) : gGtA (.tup [.int a.2, .int a.1.length]) (.tup [.int b.2, .int b.1.length]) = some (.bl (klt b a)) := by
  show some (PV.bl (lexGt [(a.2 : Int), (a.1.length : Int)] [(b.2 : Int), (b.1.length : Int)])) = _
  rw [lexGt_lt]; rfl
/-! ### the law's word -/
theorem valid_snoc {w : Wd} {n : Nat} {l : Int} (h : valid (w, n)) (h1 : 0 < ab l) (h2 : ab l < n) : valid (w ++ [l], n) := fun x hx => by
  rcases List.mem_append.mp hx with hx | hx
  · exact h x hx
  · simp at hx; subst hx; exact ⟨h1, h2⟩
theorem ab_pm {r : Int} (h : 0 < r) (k : Int) : ab r = r ∧ ab (0 - r) = r := by unfold ab; constructor <;> split <;> omega
theorem F_word_eq {t : PV} {s : Nat} (ht : TapeOk t) (hs : s ≤ 3) : ∃ w t', F__law_word [t, .int s, .int 4] = some (encW w, t') ∧ TapeOk t' ∧ valid (w, s) ∧ w.length ≤ 4 := by
  suffices h : Go b__law_word [some t, some (.int s), some (.int 4), none, none, none] fun fl ρ => ∃ w t', outF fl = some (encW w) ∧ ρ[0]? = some (some t') ∧ TapeOk t' ∧ valid (w, s) ∧ w.length ≤ 4 by
    obtain ⟨fl, ρ', e, w, t', h1, h2, h3, h4, h5⟩ := h
    refine ⟨w, t', ?_, h3, h4, h5⟩
    show (b__law_word [some t, some (.int s), some (.int 4), none, none, none]).bind _ = _
    rw [e]
    simp only [Option.bind_some, h1]
    unfold look
    rw [h2]; rfl
  refine go_seq (q_if (p_test (p_op (p_var rfl) p_c (gLt_i _ _))) (fun e => ?_) fun e => go_nx ?_)
  · exact go_seq (q_ret (p_list p_nil gTup0) ⟨[], t, rfl, rfl, ht, fun l hl => by simp at hl, by simp⟩)
  have e : ¬ ((s : Int) < 2) := of_decide_eq_false e
  refine go_seq (q_set (p_list p_nil gTup0) ?_)
  obtain ⟨r, t1, hd, r0, r1, T1⟩ := r_draw (i := 0) (m := 5) (f := fOp gAdd (fVar 2) (fC (.int 1))) (ρ := [some t, some (.int s), some (.int 4), some (.tup []), none, none]) ht rfl (by decide) (by decide) (p_op (p_var rfl) p_c (gAddi 4 1))
  obtain ⟨n, rfl⟩ := Int.eq_ofNat_of_zero_le r0
  have hr := iR1_of hd (i62_len (n := n) (by omega))
  rw [Int.toNat_natCast] at hr
  refine go_seq (go_forN (fun i ρ => ∃ w t' x4 x5, ρ = [some t', some (.int s), some (.int 4), some (encW w), x4, x5] ∧ TapeOk t' ∧ valid (w, s) ∧ w.length = i) hr ⟨[], t1, none, none, rfl, T1, fun l hl => by simp at hl, rfl⟩ ?_ ?_)
  · rintro i p ρ hp ⟨w, t', x4, x5, rfl, T, hv, hw⟩
    obtain ⟨rfl, hi⟩ := rngP_get hp
    refine ⟨_, rfl, ?_⟩
    rw [Int.zero_add]
    show Go _ [some t', some (.int s), some (.int 4), some (encW w), some (.int i), x5] _
    obtain ⟨c, t2, hd2, c0, c1, T2⟩ := r_draw (i := 0) (m := (s : Int) - 1) (f := fOp gSubI (fVar 1) (fC (.int 1))) (ρ := [some t', some (.int s), some (.int 4), some (encW w), some (.int i), x5]) T rfl (by omega) (by omega) (p_op (p_var rfl) p_c (gSub_i _ _))
    refine go_seq (go_set (r_op p_c hd2 (gAddi 1 c)) ?_)
    show Go _ [some t2, some (.int s), some (.int 4), some (encW w), some (.int i), some (.int (1 + c))] _
    obtain ⟨d, t3, hd3, d0, d1, T3⟩ := r_draw (i := 0) (m := 2) (f := fC (.int 2)) (ρ := [some t2, some (.int s), some (.int 4), some (encW w), some (.int i), some (.int (1 + c))]) T2 rfl (by omega) (by omega) rfl
    obtain ⟨l, hl, hl2⟩ : ∃ l, gIxAll (.tup [.int (1 + c), .int (0 - (1 + c))]) (.int d) = some (.int l) ∧ ab l = 1 + c := by
      have : d = 0 ∨ d = 1 := by omega
      have q := ab_pm (show 0 < 1 + c by omega) 0
      rcases this with rfl | rfl
      · exact ⟨1 + c, rfl, q.1⟩
      · exact ⟨0 - (1 + c), rfl, q.2⟩
    refine go_seq (go_set (r_op (p_var rfl) (r_list (r_cons (r_op (p_list (p_cons (p_var rfl) (p_cons (p_op p_c (p_var rfl) (gSub_i _ _)) p_nil)) (gTup2 _ _)) hd3 hl) r_nil) (v := encW [l]) rfl) (gAdd_w (by simp; omega))) (go_nx ⟨.inl rfl, w ++ [l], t3, _, _, rfl, T3, valid_snoc hv (by omega) (by omega), by simp; omega⟩))
  · rintro ρ ⟨w, t', x4, x5, rfl, T, hv, hw⟩
    rw [rngP_len] at hw
    exact go_seq (q_ret (p_var rfl) ⟨w, t', rfl, rfl, T, hv, by omega⟩)
end k83
end PT

set_option Elab.async false
set_option linter.all false
set_option autoImplicit false
set_option maxRecDepth 100000
set_option maxHeartbeats 4000000
/-! k83_m10: the law. -/
namespace PT
namespace k83
open PySem PT PT.Lau
theorem sign_ix {d : Int} (h0 : 0 ≤ d) (h1 : d < 2) : ∃ b : Bool, gIxAll (.tup [.int 1, .int (-1)]) (.int d) = some (.int (sgn b)) := by
  have : d = 0 ∨ d = 1 := by omega
  rcases this with rfl | rfl
  · exact ⟨true, rfl⟩
  · exact ⟨false, rfl⟩
theorem mul_sgn {a : Int} (h0 : 0 ≤ a) (h1 : a ≤ 1000) (b : Bool) : gMulI (.int a) (.int (sgn b)) = some (.int (a * sgn b)) := by
  have w1 : wideI (sgn b) = true := by cases b <;> decide +kernel
  have w2 : wideI a = true := wide_lt (by omega) (by omega)
  show (if (wideI a && wideI (sgn b)) = true then _ else _) = _
  rw [w1, w2]; rfl
theorem ab_sgn {a : Int} (h : 0 < a) (b : Bool) : ab (a * sgn b) = a ∧ ab (0 - a * sgn b) = a := by
  cases b
  · have : a * sgn false = -a := by unfold sgn; simp
    rw [this]; unfold ab; constructor <;> split <;> omega
  · have : a * sgn true = a := by unfold sgn; simp
    rw [this]; unfold ab; constructor <;> split <;> omega
theorem valid_mono {w : Wd} {n m : Nat} (h : valid (w, n)) (hn : n ≤ m) : valid (w, m) := fun x hx => ⟨(h x hx).1, by have := (h x hx).2; show ab x < (m : Int); simp only at this; omega⟩
def bodyL : SF := (fSeq (fPar 7 8 (fCallI 1 F__law_next (oHole 1 (oCons (fC (.int 3)) oNil))) (fCallI 1 F__law_next (oHole 1 (oCons (fOp gAdd (fList gLenAll (PT.a1 (fVar 4))) (fC (.int 1))) oNil))))
    (fSeq (fIf (fAndT (fTest (fOp gEqD (fVar 7) (fC (.int 0)))) (fTest (fOp gGt (fVar 5) (fC (.int 1))))) (fSeq (fSet 9 (fOp gMulI (fOp gAdd (fC (.int 1)) (fCallI 1 F__law_next (oHole 1 (oCons (fOp gSubI (fVar 5) (fC (.int 1))) oNil)))) (fOp gIxAll (fList gTuple (aCons (fC (.int 1)) (aCons (fUn gNeg (fC (.int 1))) aNil))) (fCallI 1 F__law_next (oHole 1 (oCons (fC (.int 2)) oNil))))))
    (fSeq (fSet 4 (fOp gAdd (fOp gAdd (fSlice gSl (fVar 4) pNone (pSome (fVar 8))) (fList gTuple (aCons (fVar 9) (aCons (fOp gSubI (fC (.int 0)) (fVar 9)) aNil)))) (fSlice gSl (fVar 4) (pSome (fVar 8)) pNone)))
    (fNx))) (fSeq (fIf (fAndT (fTest (fOp gEqD (fVar 7) (fC (.int 1)))) (fTest (fOp gLt (fVar 5) (fC (.int 5))))) (fSeq (fPar 4 5 (fOp gAdd (fVar 4) (fList gTuple (aCons (fOp gMulI (fVar 5) (fOp gIxAll (fList gTuple (aCons (fC (.int 1)) (aCons (fUn gNeg (fC (.int 1))) aNil))) (fCallI 1 F__law_next (oHole 1 (oCons (fC (.int 2)) oNil))))) aNil))) (fOp gAdd (fVar 5) (fC (.int 1))))
    (fNx)) (fSeq (fSet 4 (fOp gAdd (fSlice gSl (fVar 4) (pSome (fVar 8)) pNone) (fSlice gSl (fVar 4) pNone (pSome (fVar 8)))))
    (fNx)))
    (fNx)))
    (fNx)))
def envT (s : PV) (t : PV) (strings : Nat) (word : Wd) (L : Wd) (M : Nat) (x6 x7 x8 x9 : Option PV) : Env := [some s, some t, some (.int strings), some (encW word), some (encW L), some (.int M), x6, x7, x8, x9, none, none, none, none, none]
theorem turn_ok {s t : PV} {strings : Nat} {word L : Wd} {M i : Nat} {x6 x7 x8 x9 : Option PV} (T : TapeOk t) (hv : valid (L, M)) (hL : L.length ≤ 4 + 2 * i) (h1 : 1 ≤ M) (hM : M ≤ 3 + i) (hi : i ≤ 3) :
    Go bodyL (envT s t strings word L M x6 x7 x8 x9) fun fl ρ' => (fl = .nx ∨ fl = .ct) ∧ ∃ t' L' M' x6 x7 x8 x9, ρ' = envT s t' strings word L' M' x6 x7 x8 x9 ∧ TapeOk t' ∧ valid (L', M') ∧ L'.length ≤ 4 + 2 * (i + 1) ∧ 1 ≤ M' ∧ M' ≤ 3 + (i + 1) := by
  unfold bodyL
  obtain ⟨kd, t1, hd1, k0, k1, T1⟩ := r_draw (i := 1) (m := 3) (f := fC (.int 3)) (ρ := envT s t strings word L M x6 x7 x8 x9) T rfl (by omega) (by omega) rfl
  obtain ⟨at', t2, hd2, a0, a1, T2⟩ := r_draw (i := 1) (m := (L.length : Int) + 1) (f := fOp gAdd (fList gLenAll (PT.a1 (fVar 4))) (fC (.int 1))) (ρ := envT s t1 strings word L M x6 x7 x8 x9) T1 rfl (by omega) (by omega) (p_op (p_list (p_a1 (p_var rfl)) (gLen_w L)) p_c (gAddi _ 1))
  obtain ⟨k, rfl⟩ := Int.eq_ofNat_of_zero_le a0
  refine go_seq (go_par hd1 hd2 ?_)
  show Go _ (envT s t2 strings word L M x6 (some (.int kd)) (some (.int k)) x9) _
  refine go_seq (q_if (p_and (p_test (p_op (p_var rfl) p_c (gEq_i _ _))) (fun _ => p_test (p_op (p_var rfl) p_c (gGt_i _ _)))) (fun e => ?_) fun e => ?_)
  · rw [Bool.and_eq_true, decide_eq_true_eq, decide_eq_true_eq] at e
    obtain ⟨c, t3, hd3, c0, c1, T3⟩ := r_draw (i := 1) (m := (M : Int) - 1) (f := fOp gSubI (fVar 5) (fC (.int 1))) (ρ := envT s t2 strings word L M x6 (some (.int kd)) (some (.int k)) x9) T2 rfl (by omega) (by omega) (p_op (p_var rfl) p_c (gSub_i _ _))
    obtain ⟨d, t4, hd4, d0, d1, T4⟩ := r_draw (i := 1) (m := 2) (f := fC (.int 2)) (ρ := envT s t3 strings word L M x6 (some (.int kd)) (some (.int k)) x9) T3 rfl (by omega) (by omega) rfl
    obtain ⟨b, hb⟩ := sign_ix d0 d1
    refine go_seq (go_set (r_op (r_op p_c hd3 (gAddi 1 c)) (r_op (p_list (p_cons p_c (p_cons (p_un p_c (x := .int (-1)) rfl) p_nil)) (gTup2 _ _)) hd4 hb) (mul_sgn (by omega) (by omega) b)) ?_)
    show Go _ (envT s t4 strings word L M x6 (some (.int kd)) (some (.int k)) (some (.int ((1 + c) * sgn b)))) _
    have q := ab_sgn (show 0 < 1 + c by omega) b
    refine go_seq (q_set (p_op (p_op (p_slT (p_var rfl) (p_var rfl) (sl_takeI rfl)) (p_list (p_cons (p_var rfl) (p_cons (p_op p_c (p_var rfl) (gSub_i _ _)) p_nil)) (v := encW [(1 + c) * sgn b, 0 - (1 + c) * sgn b]) rfl) (gAdd_w (by simp; omega))) (p_slD (p_var rfl) (p_var rfl) (sl_dropI rfl)) (gAdd_w (by simp; omega))) ?_)
    refine go_nx (go_nx ⟨.inl rfl, t4, L.take k ++ [(1 + c) * sgn b, 0 - (1 + c) * sgn b] ++ L.drop k, M, _, _, _, _, rfl, T4, fun l hl => ?_, by simp; omega, h1, by omega⟩)
    simp only [List.mem_append, List.mem_cons, List.not_mem_nil, or_false] at hl
    rcases hl with (hl | rfl | rfl) | hl
    · exact hv l (List.mem_of_mem_take hl)
    · rw [q.1]; show 0 < 1 + c ∧ 1 + c < (M : Int); omega
    · rw [q.2]; show 0 < 1 + c ∧ 1 + c < (M : Int); omega
    · exact hv l (List.mem_of_mem_drop hl)
  · refine go_seq (q_if (p_and (p_test (p_op (p_var rfl) p_c (gEq_i _ _))) (fun _ => p_test (p_op (p_var rfl) p_c (gLt_i _ _)))) (fun e => ?_) fun e => ?_)
    · rw [Bool.and_eq_true, decide_eq_true_eq, decide_eq_true_eq] at e
      obtain ⟨d, t4, hd4, d0, d1, T4⟩ := r_draw (i := 1) (m := 2) (f := fC (.int 2)) (ρ := envT s t2 strings word L M x6 (some (.int kd)) (some (.int k)) x9) T2 rfl (by omega) (by omega) rfl
      obtain ⟨b, hb⟩ := sign_ix d0 d1
      have q := ab_sgn (show 0 < (M : Int) by omega) b
      refine go_seq (go_par (r_op (p_var rfl) (r_list (r_cons (r_op (p_var rfl) (r_op (p_list (p_cons p_c (p_cons (p_un p_c (x := .int (-1)) rfl) p_nil)) (gTup2 _ _)) hd4 hb) (mul_sgn (by omega) (by omega) b)) r_nil) (v := encW [(M : Int) * sgn b]) rfl) (gAdd_w (by simp; omega))) (p_op (p_var rfl) p_c (gAddi _ _)) ?_)
      refine go_nx (go_nx (go_nx ⟨.inl rfl, t4, L ++ [(M : Int) * sgn b], M + 1, _, _, _, _, rfl, T4, valid_snoc (valid_mono hv (by omega)) (by omega) (by rw [q.1]; simp; omega), by simp; omega, by omega, by omega⟩))
    · refine go_seq (q_set (p_op (p_slD (p_var rfl) (p_var rfl) (sl_dropI rfl)) (p_slT (p_var rfl) (p_var rfl) (sl_takeI rfl)) (gAdd_w (by simp; omega))) ?_)
      refine go_nx (go_nx (go_nx ⟨.inl rfl, t2, L.drop k ++ L.take k, M, _, _, _, _, rfl, T2, fun l hl => ?_, by simp; omega, h1, by omega⟩))
      rcases List.mem_append.mp hl with hl | hl
      · exact hv l (List.mem_of_mem_drop hl)
      · exact hv l (List.mem_of_mem_take hl)
theorem isB_tt : gIsB (.bl true) (.bl true) = some (.bl true) := rfl
theorem way_ok {a b : Sta} {w : List Mv} (h : run a w = some b) (ha : a.1.length ≤ 1000) (hn : a.2 ≤ 1000) (hw : w.length ≤ 40000) : F_is_markov_way [encSt a, encSt b, encMs w] = some (.bl true) := F_is_markov_way_eq a b w h (by omega) (by omega)
theorem law_true (ns : List Int) (h : ns.length ≤ 63) : F_law [.obj 0 (ns.map PV.int)] = some (.bl true) := by
  refine go_run (b := b_law) ?_
  show Go b_law [some (.obj 0 (ns.map PV.int)), none, none, none, none, none, none, none, none, none, none, none, none, none, none] _
  refine go_seq (go_set (x := tapeP ns 0 0 83) (ρ1 := [some (.obj 0 (ns.map PV.int)), none, none, none, none, none, none, none, none, none, none, none, none, none, none]) (r_list (r_cons (r_list (r_a1 (r_var rfl)) rfl) (r_cons r_c (r_cons r_c (r_cons r_c r_nil)))) rfl) ?_)
  obtain ⟨c, t1, hd1, c0, c1, T1⟩ := r_draw (i := 1) (m := 3) (f := fC (.int 3)) (ρ := [some (.obj 0 (ns.map PV.int)), some (tapeP ns 0 0 83), none, none, none, none, none, none, none, none, none, none, none, none, none]) (tape0 ns 83 (by decide) (by decide)) rfl (by decide) (by decide) rfl
  obtain ⟨n0, rfl⟩ := Int.eq_ofNat_of_zero_le c0
  refine go_seq (go_set (r_op r_c hd1 (gAddi 1 _)) ?_)
  have hst : (1 : Int) + (n0 : Int) = ((1 + n0 : Nat) : Int) := by omega
  rw [hst]
  obtain ⟨word, t2, hw, T2, vw, lw⟩ := F_word_eq (s := 1 + n0) T1 (by omega)
  have hcall : (fCallI 1 F__law_word (oHole 1 (oCons (fVar 2) (oCons (fC (.int 4)) oNil)))) [some (.obj 0 (ns.map PV.int)), some t1, some (.int ((1 + n0 : Nat) : Int)), none, none, none, none, none, none, none, none, none, none, none, none]
      = some (encW word, [some (.obj 0 (ns.map PV.int)), some t2, some (.int ((1 + n0 : Nat) : Int)), none, none, none, none, none, none, none, none, none, none, none, none]) := by
    unfold fCallI oHole oCons oNil look
    show (F__law_word [t1, .int ((1 + n0 : Nat) : Int), .int 4]).bind _ = _
    rw [hw]; rfl
  refine go_seq (go_set hcall ?_)
  refine go_seq (go_par (p_var rfl) (p_var rfl) ?_)
  show Go _ (envT (.obj 0 (ns.map PV.int)) t2 (1 + n0) word word (1 + n0) none none none none) _
  obtain ⟨d, t3, hd3, d0, d1, T3⟩ := r_draw (i := 1) (m := 4) (f := fC (.int 4)) (ρ := envT (.obj 0 (ns.map PV.int)) t2 (1 + n0) word word (1 + n0) none none none none) T2 rfl (by decide) (by decide) rfl
  obtain ⟨n, rfl⟩ := Int.eq_ofNat_of_zero_le d0
  have hr := iR1_of hd3 (i62_len (n := n) (by omega))
  rw [Int.toNat_natCast] at hr
  refine go_seq (go_forN (fun i ρ => ∃ t' L' M' x6 x7 x8 x9, ρ = envT (.obj 0 (ns.map PV.int)) t' (1 + n0) word L' M' x6 x7 x8 x9 ∧ TapeOk t' ∧ valid (L', M') ∧ L'.length ≤ 4 + 2 * i ∧ 1 ≤ M' ∧ M' ≤ 3 + i) hr ⟨t3, word, 1 + n0, none, none, none, none, rfl, T3, vw, by omega, by omega, by omega⟩ ?_ ?_)
  · rintro i p ρ hp ⟨t', L, M, x6, x7, x8, x9, rfl, T, hv, hL, h1, hM⟩
    obtain ⟨rfl, hi⟩ := rngP_get hp
    refine ⟨envT (.obj 0 (ns.map PV.int)) t' (1 + n0) word L M (some (.int (0 + i))) x7 x8 x9, rfl, ?_⟩
    exact turn_ok T hv hL h1 hM (by omega)
  · rintro ρ ⟨t4, L, M, x6, x7, x8, x9, rfl, T4, hv, hL, h1, hM⟩
    rw [rngP_len] at hL hM
    obtain ⟨e, t5, hd5, e0, e1, T5⟩ := r_draw (i := 1) (m := 3) (f := fC (.int 3)) (ρ := envT (.obj 0 (ns.map PV.int)) t4 (1 + n0) word L M x6 x7 x8 x9) T4 rfl (by decide) (by decide) rfl
    obtain ⟨most, hmost, m1, m2⟩ : ∃ most : Nat, gIxAll (.tup [.int 1, .int 20, .int 300]) (.int e) = some (.int most) ∧ 1 ≤ most ∧ most ≤ 300 := by
      have : e = 0 ∨ e = 1 ∨ e = 2 := by omega
      rcases this with rfl | rfl | rfl
      · exact ⟨1, rfl, by omega, by omega⟩
      · exact ⟨20, rfl, by omega, by omega⟩
      · exact ⟨300, rfl, by omega, by omega⟩
    refine go_seq (go_set (r_op (p_list (p_cons p_c (p_cons p_c (p_cons p_c p_nil))) (gTup3 _ _ _)) hd5 hmost) ?_)
    have B := best_ok (s0 := (L, M)) (most := most) hv m1
    have hles := F_lessened_eq (s0 := (L, M)) (most := most) hv (by show L.length ≤ 1000; omega) (by show M ≤ 1000; omega) m1 (by omega)
    have hbst := F_best_eq (s0 := (L, M)) (most := most) hv (by show L.length ≤ 1000; omega) (by show M ≤ 1000; omega) m1 (by omega)
    have B1 := B.run; have B3 := B.ln; have B4 := B.kl; have B7 := B.len
    obtain ⟨v1, j1, R1⟩ := F_joining_eq (a := (word, 1 + n0)) (b := (L, M)) (most := 300) vw hv (by show word.length ≤ 1000; omega) (by show 1 + n0 ≤ 1000; omega) (by show L.length ≤ 1000; omega) (by show M ≤ 1000; omega) (by omega) (by omega)
    obtain ⟨v2, j2, R2⟩ := F_joining_eq (a := (L, M)) (b := (L, M)) (most := most) hv hv (by show L.length ≤ 1000; omega) (by show M ≤ 1000; omega) (by show L.length ≤ 1000; omega) (by show M ≤ 1000; omega) m1 (by omega)
    generalize (best (L, M) most).2 = way at *
    generalize (best (L, M) most).1 = least at *
    have B7 : least.1.length ≤ L.length := B7
    refine go_seq (go_asg (p_list (p_cons (p_var rfl) (p_cons (p_var rfl) (p_cons (p_var rfl) p_nil))) hles) (ρ2 := [some (.obj 0 (ns.map PV.int)), some t5, some (.int ((1 + n0 : Nat) : Int)), some (encW word), some (encW L), some (.int M), x6, x7, x8, x9, some (.int most), some (encMs way), some (encSt least), none, none]) rfl ?_)
    have stL : ∀ {r : Env}, r[4]? = some (some (encW L)) → r[5]? = some (some (.int M)) → fList gTuple (aCons (fVar 4) (aCons (fVar 5) aNil)) r = some (encSt (L, M), r) := fun a b => p_list (p_cons (p_var a) (p_cons (p_var b) p_nil)) (gTup2 _ _)
    have stW : ∀ {r : Env}, r[3]? = some (some (encW word)) → r[2]? = some (some (.int ((1 + n0 : Nat) : Int))) → fList gTuple (aCons (fVar 3) (aCons (fVar 2) aNil)) r = some (encSt (word, 1 + n0), r) := fun a b => p_list (p_cons (p_var a) (p_cons (p_var b) p_nil)) (gTup2 _ _)
    refine go_seq (q_f (p_or (p := false) (q := false) (p_not (p := true) (p_tru (p_list (p_cons (p_list (p_cons (p_var rfl) (p_cons (p_var rfl) p_nil)) (gTup2 _ _)) (p_cons (p_list (p_cons (p_var rfl) (p_cons (p_var rfl) (p_cons (p_var rfl) p_nil))) hbst) p_nil)) (same_res way least (by omega) (by omega))) rfl)) (fun _ => p_test (p_op (p_list (p_cons (stL rfl rfl) (p_cons (p_var rfl) (p_cons (p_var rfl) p_nil))) (way_ok B1 (by show L.length ≤ 1000; omega) (by show M ≤ 1000; omega) (by omega))) p_c rfl))) (go_nx ?_))
    refine go_seq (q_f (p_or (p := false) (q := false) (p_test (p_op (p_list (p_cons (p_op (p_var rfl) p_c (x := .int least.2) rfl) (p_cons (p_list (p_a1 (p_op (p_var rfl) p_c (x := encW least.1) rfl)) (gLen_w least.1)) p_nil)) (gTup2 _ _)) (p_list (p_cons (p_var rfl) (p_cons (p_list (p_a1 (p_var rfl)) (gLen_w L)) p_nil)) (gTup2 _ _)) ((gGt_key least (L, M)).trans (by rw [B4])))) (fun _ => p_test (p_op (p_list (p_cons (p_var rfl) (p_cons (p_var rfl) (p_cons (p_var rfl) p_nil))) (F_markov_behind_eq (L, M) least way B1 (by show L.length + 2 * way.length ≤ 90000; omega) (by show M + way.length ≤ 100000; omega))) (p_var rfl) ((gNe_st least least).trans (by simp))))) (go_nx ?_))
    refine go_seq (q_set (p_list (p_cons (stW rfl rfl) (p_cons (stL rfl rfl) (p_cons p_c p_nil))) j1) ?_)
    have hj : (fAndT (fTest (fOp gIsNotN (fVar 13) (fC .non))) (fTest (fOp gIsNotB (fList F_is_markov_way (aCons (fList gTuple (aCons (fVar 3) (aCons (fVar 2) aNil))) (aCons (fList gTuple (aCons (fVar 4) (aCons (fVar 5) aNil))) (aCons (fVar 13) aNil)))) (fC (.bl true)))))
        [some (.obj 0 (ns.map PV.int)), some t5, some (.int ((1 + n0 : Nat) : Int)), some (encW word), some (encW L), some (.int M), x6, x7, x8, x9, some (.int most), some (encMs way), some (encSt least), some v1, none] =
        some (false, [some (.obj 0 (ns.map PV.int)), some t5, some (.int ((1 + n0 : Nat) : Int)), some (encW word), some (encW L), some (.int M), x6, x7, x8, x9, some (.int most), some (encMs way), some (encSt least), some v1, none]) := by
      rcases R1 with ⟨rfl, _⟩ | ⟨w, rfl, r1, r2⟩
      · exact p_and (p := false) (q := false) (p_test (p_op (p_var rfl) p_c rfl)) (fun z => by cases z)
      · exact p_and (p := true) (q := false) (p_test (p_op (p_var rfl) p_c rfl)) (fun _ => p_test (p_op (p_list (p_cons (stW rfl rfl) (p_cons (stL rfl rfl) (p_cons (p_var rfl) p_nil))) (way_ok r1 (by show word.length ≤ 1000; omega) (by show 1 + n0 ≤ 1000; omega) r2)) p_c rfl))
    refine go_seq (q_f hj (go_nx ?_))
    refine go_seq (q_set (p_list (p_cons (stL rfl rfl) (p_cons (stL rfl rfl) (p_cons (p_var rfl) p_nil))) j2) ?_)
    rcases R2 with ⟨_, ne⟩ | ⟨w, rfl, r1, r2⟩
    · exact absurd rfl ne
    · exact go_seq (q_ret (p_andV (p := true) (q := true) (p_op (p_var rfl) p_c rfl) (fun _ => p_op (p_list (p_cons (stL rfl rfl) (p_cons (stL rfl rfl) (p_cons (p_var rfl) p_nil))) (way_ok r1 (by show L.length ≤ 1000; omega) (by show M ≤ 1000; omega) r2)) p_c isB_tt)) rfl)
end k83
end PT

set_option Elab.async false
set_option linter.all false
set_option autoImplicit false
set_option maxRecDepth 100000
set_option maxHeartbeats 4000000
namespace PT.k83
open PySem PySem.Spec PyProof.Rows L2 PT PT.Lau PT.Tl
theorem all {l : PySem.W.OpenLaw} {w : World} {K : PySem.W.Frag} {h : Heap} {mg : Str → Option Value} {fa : Addr}  (X : K.In h) (G : h.Ns mainGlobals mg) (hfa : mg "law" = some (.ref fa))
    (z_abs : PySem.W.nsIn K mainGlobals "abs" = some none)
    (z_all : PySem.W.nsIn K mainGlobals "all" = some none)
    (z_any : PySem.W.nsIn K mainGlobals "any" = some none)
    (z_bool : PySem.W.nsIn K mainGlobals "bool" = some none)
    (z_int : PySem.W.nsIn K mainGlobals "int" = some none)
    (z_isinstance : PySem.W.nsIn K mainGlobals "isinstance" = some none)
    (z_len : PySem.W.nsIn K mainGlobals "len" = some none)
    (z_list : PySem.W.nsIn K mainGlobals "list" = some none)
    (z_range : PySem.W.nsIn K mainGlobals "range" = some none)
    (z_str : PySem.W.nsIn K mainGlobals "str" = some none)
    (z_tuple : PySem.W.nsIn K mainGlobals "tuple" = some none)
    (r__law_next : RawAt K "_law_next" s__law_next)
    (r__law_word : RawAt K "_law_word" s__law_word)
    (r_is_triple : RawAt K "is_triple" s_is_triple)
    (r_side_of : RawAt K "side_of" s_side_of)
    (r_turned : RawAt K "turned" s_turned)
    (r_is_word : RawAt K "is_word" s_is_word)
    (r_moved : RawAt K "moved" s_moved)
    (r_markov_moved : RawAt K "markov_moved" s_markov_moved)
    (r_possible_moves : RawAt K "possible_moves" s_possible_moves)
    (r_lessened_way : RawAt K "lessened_way" s_lessened_way)
    (r_back_move : RawAt K "back_move" s_back_move)
    (r_back_way : RawAt K "back_way" s_back_way)
    (r_joining_way : RawAt K "joining_way" s_joining_way)
    (r__law_same : RawAt K "_law_same" s__law_same)
    (r_is_move : RawAt K "is_move" s_is_move)
    (r_is_markov_move : RawAt K "is_markov_move" s_is_markov_move)
    (r_markov_behind : RawAt K "markov_behind" s_markov_behind)
    (r_is_markov_way : RawAt K "is_markov_way" s_is_markov_way)
    (r__law_best : RawAt K "_law_best" s__law_best)
    (r_law : RawAt K "law" s_law)
    : ∃ fd : FuncData, (∀ (s : Shared) (v : Value), BindsTo s fd ⟨[v], []⟩ [("script", v)]) ∧ ∀ base : Heap, K.In base → base.Ns mainGlobals mg → FnOk l.prog w K mg base CX0 32 fa fd ["script"] (spF K 1 F_law) := by
  have T : Txt K mg := { n_abs := PySem.W.mg_none_of X G z_abs, n_all := PySem.W.mg_none_of X G z_all, n_any := PySem.W.mg_none_of X G z_any, n_bool := PySem.W.mg_none_of X G z_bool, n_int := PySem.W.mg_none_of X G z_int, n_isinstance := PySem.W.mg_none_of X G z_isinstance, n_len := PySem.W.mg_none_of X G z_len, n_list := PySem.W.mg_none_of X G z_list, n_range := PySem.W.mg_none_of X G z_range, n_str := PySem.W.mg_none_of X G z_str, n_tuple := PySem.W.mg_none_of X G z_tuple }
  obtain ⟨f__law_next, fd__law_next, d__law_next⟩ := r__law_next.at (ps := ["tape", "many"]) X G (fun _ _ _ _ _ _ us hl => match us, hl with | [_, _], _ => rfl)
  obtain ⟨f__law_word, fd__law_word, d__law_word⟩ := r__law_word.at (ps := ["tape", "strings", "most"]) X G (fun _ _ _ _ _ _ us hl => match us, hl with | [_, _, _], _ => rfl)
  obtain ⟨f_is_triple, fd_is_triple, d_is_triple⟩ := r_is_triple.at (ps := ["first", "second", "third"]) X G (fun _ _ _ _ _ _ us hl => match us, hl with | [_, _, _], _ => rfl)
  obtain ⟨f_side_of, fd_side_of, d_side_of⟩ := r_side_of.at (ps := ["word", "k"]) X G (fun _ _ _ _ _ _ us hl => match us, hl with | [_, _], _ => rfl)
  obtain ⟨f_turned, fd_turned, d_turned⟩ := r_turned.at (ps := ["first", "second", "third"]) X G (fun _ _ _ _ _ _ us hl => match us, hl with | [_, _, _], _ => rfl)
  obtain ⟨f_is_word, fd_is_word, d_is_word⟩ := r_is_word.at (ps := ["value", "many"]) X G (fun _ _ _ _ _ _ us hl => match us, hl with | [_, _], _ => rfl)
  obtain ⟨f_moved, fd_moved, d_moved⟩ := r_moved.at (ps := ["word", "many", "move"]) X G (fun _ _ _ _ _ _ us hl => match us, hl with | [_, _, _], _ => rfl)
  obtain ⟨f_markov_moved, fd_markov_moved, d_markov_moved⟩ := r_markov_moved.at (ps := ["word", "many", "move"]) X G (fun _ _ _ _ _ _ us hl => match us, hl with | [_, _, _], _ => rfl)
  obtain ⟨f_possible_moves, fd_possible_moves, d_possible_moves⟩ := r_possible_moves.at (ps := ["word", "many"]) X G (fun _ _ _ _ _ _ us hl => match us, hl with | [_, _], _ => rfl)
  obtain ⟨f_lessened_way, fd_lessened_way, d_lessened_way⟩ := r_lessened_way.at (ps := ["word", "many", "most"]) X G (fun _ _ _ _ _ _ us hl => match us, hl with | [_, _, _], _ => rfl)
  obtain ⟨f_back_move, fd_back_move, d_back_move⟩ := r_back_move.at (ps := ["word", "many", "move"]) X G (fun _ _ _ _ _ _ us hl => match us, hl with | [_, _, _], _ => rfl)
  obtain ⟨f_back_way, fd_back_way, d_back_way⟩ := r_back_way.at (ps := ["word", "many", "row"]) X G (fun _ _ _ _ _ _ us hl => match us, hl with | [_, _, _], _ => rfl)
  obtain ⟨f_joining_way, fd_joining_way, d_joining_way⟩ := r_joining_way.at (ps := ["first", "second", "most"]) X G (fun _ _ _ _ _ _ us hl => match us, hl with | [_, _, _], _ => rfl)
  obtain ⟨f__law_same, fd__law_same, d__law_same⟩ := r__law_same.at (ps := ["told", "due"]) X G (fun _ _ _ _ _ _ us hl => match us, hl with | [_, _], _ => rfl)
  obtain ⟨f_is_move, fd_is_move, d_is_move⟩ := r_is_move.at (ps := ["value"]) X G (fun _ _ _ _ _ _ us hl => match us, hl with | [_], _ => rfl)
  obtain ⟨f_is_markov_move, fd_is_markov_move, d_is_markov_move⟩ := r_is_markov_move.at (ps := ["value"]) X G (fun _ _ _ _ _ _ us hl => match us, hl with | [_], _ => rfl)
  obtain ⟨f_markov_behind, fd_markov_behind, d_markov_behind⟩ := r_markov_behind.at (ps := ["word", "many", "row"]) X G (fun _ _ _ _ _ _ us hl => match us, hl with | [_, _, _], _ => rfl)
  obtain ⟨f_is_markov_way, fd_is_markov_way, d_is_markov_way⟩ := r_is_markov_way.at (ps := ["first", "second", "value"]) X G (fun _ _ _ _ _ _ us hl => match us, hl with | [_, _, _], _ => rfl)
  obtain ⟨f__law_best, fd__law_best, d__law_best⟩ := r__law_best.at (ps := ["word", "strings", "most"]) X G (fun _ _ _ _ _ _ us hl => match us, hl with | [_, _, _], _ => rfl)
  obtain ⟨f_law, fd_law, d_law, hb⟩ := r_law.law X G (fun _ _ _ _ _ _ us hl => match us, hl with | [_], _ => rfl)
  have e := hfa.symm.trans d_law.mg
  cases e
  refine ⟨fd_law, hb, fun base _ _ => ?_⟩
  have c__law_next : CallIo l.prog w K mg base 1 "_law_next" 2 0 F__law_next := d__law_next.callI (ok__law_next d__law_next.fn T ) rfl
  have c__law_word : CallIo l.prog w K mg base 2 "_law_word" 3 0 F__law_word := d__law_word.callI (ok__law_word d__law_word.fn T c__law_next) rfl
  have c_is_triple : CallOk l.prog w K mg base 1 "is_triple" 3 F_is_triple := d_is_triple.call (ok_is_triple d_is_triple.fn T ) rfl
  have c_side_of : CallOk l.prog w K mg base 2 "side_of" 2 F_side_of := d_side_of.call (ok_side_of d_side_of.fn T c_is_triple) rfl
  have c_turned : CallOk l.prog w K mg base 1 "turned" 3 F_turned := d_turned.call (ok_turned d_turned.fn T ) rfl
  have c_is_word : CallOk l.prog w K mg base 1 "is_word" 2 F_is_word := d_is_word.call (ok_is_word d_is_word.fn T ) rfl
  have c_moved : CallOk l.prog w K mg base 3 "moved" 3 F_moved := d_moved.call (ok_moved d_moved.fn T c_side_of c_turned c_is_word) rfl
  have c_markov_moved : CallOk l.prog w K mg base 4 "markov_moved" 3 F_markov_moved := d_markov_moved.call (ok_markov_moved d_markov_moved.fn T c_moved) rfl
  have c_possible_moves : CallOk l.prog w K mg base 5 "possible_moves" 2 F_possible_moves := d_possible_moves.call (ok_possible_moves d_possible_moves.fn T c_markov_moved) rfl
  have c_lessened_way : CallOk l.prog w K mg base 6 "lessened_way" 3 F_lessened_way := d_lessened_way.call (ok_lessened_way d_lessened_way.fn T c_possible_moves c_markov_moved) rfl
  have c_back_move : CallOk l.prog w K mg base 1 "back_move" 3 F_back_move := d_back_move.call (ok_back_move d_back_move.fn T ) rfl
  have c_back_way : CallOk l.prog w K mg base 5 "back_way" 3 F_back_way := d_back_way.call (ok_back_way d_back_way.fn T c_markov_moved c_back_move) rfl
  have c_joining_way : CallOk l.prog w K mg base 7 "joining_way" 3 F_joining_way := d_joining_way.call (ok_joining_way d_joining_way.fn T c_lessened_way c_possible_moves c_back_way c_markov_moved) rfl
  have c__law_same : CallOk l.prog w K mg base 31 "_law_same" 2 (F__law_same 30) := d__law_same.call (ok__law_same d__law_same.fn T d__law_same.mg d__law_same.bi  30) rfl
  have c_is_move : CallOk l.prog w K mg base 1 "is_move" 1 F_is_move := d_is_move.call (ok_is_move d_is_move.fn T ) rfl
  have c_is_markov_move : CallOk l.prog w K mg base 2 "is_markov_move" 1 F_is_markov_move := d_is_markov_move.call (ok_is_markov_move d_is_markov_move.fn T c_is_move) rfl
  have c_markov_behind : CallOk l.prog w K mg base 5 "markov_behind" 3 F_markov_behind := d_markov_behind.call (ok_markov_behind d_markov_behind.fn T c_is_markov_move c_markov_moved) rfl
  have c_is_markov_way : CallOk l.prog w K mg base 6 "is_markov_way" 3 F_is_markov_way := d_is_markov_way.call (ok_is_markov_way d_is_markov_way.fn T c_markov_behind) rfl
  have c__law_best : CallOk l.prog w K mg base 6 "_law_best" 3 F__law_best := d__law_best.call (ok__law_best d__law_best.fn T c_possible_moves c_markov_moved) rfl
  exact ok_law d_law.fn T c__law_word c_lessened_way c_joining_way c__law_next c__law_same c_is_markov_way c_markov_behind c__law_best
end PT.k83
open PySem PySem.W PyProof.Rows in
set_option maxRecDepth 100000 in
set_option maxHeartbeats 0 in
theorem PySem.Challenge.cw_knotpapers_k83_whole_ways_to_lesser_word_holds : PySem.Challenge.rw_knotpapers_k83_whole_ways_to_lesser_word.Holds := by
  w_on; o_law; k_head; (case hw => w_witness2)
  k_fill
  refine PT.walkP (l := PySem.Challenge.rw_knotpapers_k83_whole_ways_to_lesser_word) (k := 32) (F := PT.k83.F_law) rfl rfl (by decide) (fun w h Y => PySem.W.kIn_of Y) ?G PT.k83.law_true
  case G =>
    intro w mg fa h KX G hmg
    refine' PT.k83.all KX G hmg ?z_abs ?z_all ?z_any ?z_bool ?z_int ?z_isinstance ?z_len ?z_list ?z_range ?z_str ?z_tuple (.mk ?a__law_next ?l__law_next ?c__law_next ?k__law_next) (.mk ?a__law_word ?l__law_word ?c__law_word ?k__law_word) (.mk ?a_is_triple ?l_is_triple ?c_is_triple ?k_is_triple) (.mk ?a_side_of ?l_side_of ?c_side_of ?k_side_of) (.mk ?a_turned ?l_turned ?c_turned ?k_turned) (.mk ?a_is_word ?l_is_word ?c_is_word ?k_is_word) (.mk ?a_moved ?l_moved ?c_moved ?k_moved) (.mk ?a_markov_moved ?l_markov_moved ?c_markov_moved ?k_markov_moved) (.mk ?a_possible_moves ?l_possible_moves ?c_possible_moves ?k_possible_moves) (.mk ?a_lessened_way ?l_lessened_way ?c_lessened_way ?k_lessened_way) (.mk ?a_back_move ?l_back_move ?c_back_move ?k_back_move) (.mk ?a_back_way ?l_back_way ?c_back_way ?k_back_way) (.mk ?a_joining_way ?l_joining_way ?c_joining_way ?k_joining_way) (.mk ?a__law_same ?l__law_same ?c__law_same ?k__law_same) (.mk ?a_is_move ?l_is_move ?c_is_move ?k_is_move) (.mk ?a_is_markov_move ?l_is_markov_move ?c_is_markov_move ?k_is_markov_move) (.mk ?a_markov_behind ?l_markov_behind ?c_markov_behind ?k_markov_behind) (.mk ?a_is_markov_way ?l_is_markov_way ?c_is_markov_way ?k_is_markov_way) (.mk ?a__law_best ?l__law_best ?c__law_best ?k__law_best) (.mk ?a_law ?l_law ?c_law ?k_law)
    (case z_abs => k_is)
    (case z_all => k_is)
    (case z_any => k_is)
    (case z_bool => k_is)
    (case z_int => k_is)
    (case z_isinstance => k_is)
    (case z_len => k_is)
    (case z_list => k_is)
    (case z_range => k_is)
    (case z_str => k_is)
    (case z_tuple => k_is)
    (case a__law_next => k_is)
    (case l__law_next => k_is)
    (case c__law_next => k_is)
    (case k__law_next => k_is)
    (case a__law_word => k_is)
    (case l__law_word => k_is)
    (case c__law_word => k_is)
    (case k__law_word => k_is)
    (case a_is_triple => k_is)
    (case l_is_triple => k_is)
    (case c_is_triple => k_is)
    (case k_is_triple => k_is)
    (case a_side_of => k_is)
    (case l_side_of => k_is)
    (case c_side_of => k_is)
    (case k_side_of => k_is)
    (case a_turned => k_is)
    (case l_turned => k_is)
    (case c_turned => k_is)
    (case k_turned => k_is)
    (case a_is_word => k_is)
    (case l_is_word => k_is)
    (case c_is_word => k_is)
    (case k_is_word => k_is)
    (case a_moved => k_is)
    (case l_moved => k_is)
    (case c_moved => k_is)
    (case k_moved => k_is)
    (case a_markov_moved => k_is)
    (case l_markov_moved => k_is)
    (case c_markov_moved => k_is)
    (case k_markov_moved => k_is)
    (case a_possible_moves => k_is)
    (case l_possible_moves => k_is)
    (case c_possible_moves => k_is)
    (case k_possible_moves => k_is)
    (case a_lessened_way => k_is)
    (case l_lessened_way => k_is)
    (case c_lessened_way => k_is)
    (case k_lessened_way => k_is)
    (case a_back_move => k_is)
    (case l_back_move => k_is)
    (case c_back_move => k_is)
    (case k_back_move => k_is)
    (case a_back_way => k_is)
    (case l_back_way => k_is)
    (case c_back_way => k_is)
    (case k_back_way => k_is)
    (case a_joining_way => k_is)
    (case l_joining_way => k_is)
    (case c_joining_way => k_is)
    (case k_joining_way => k_is)
    (case a__law_same => k_is)
    (case l__law_same => k_is)
    (case c__law_same => k_is)
    (case k__law_same => k_is)
    (case a_is_move => k_is)
    (case l_is_move => k_is)
    (case c_is_move => k_is)
    (case k_is_move => k_is)
    (case a_is_markov_move => k_is)
    (case l_is_markov_move => k_is)
    (case c_is_markov_move => k_is)
    (case k_is_markov_move => k_is)
    (case a_markov_behind => k_is)
    (case l_markov_behind => k_is)
    (case c_markov_behind => k_is)
    (case k_markov_behind => k_is)
    (case a_is_markov_way => k_is)
    (case l_is_markov_way => k_is)
    (case c_is_markov_way => k_is)
    (case k_is_markov_way => k_is)
    (case a__law_best => k_is)
    (case l__law_best => k_is)
    (case c__law_best => k_is)
    (case k__law_best => k_is)
    (case a_law => k_is)
    (case l_law => k_is)
    (case c_law => k_is)
    (case k_law => k_is)

