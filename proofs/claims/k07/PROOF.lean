import PyProof.Rows.All
import Wide.All
import OpenK.AllK
import Wide.FinOn
import HandS.ForMost
import HandS.Wide
import HandS.Defaults
import HandS.TupAny
import HandS.Flow
import HandS.Style
import HandS.Sort
import HandS.SortRule
import HandS.IsInst
import HandS.Zip
import HandS.Conv
import HandS.NoneIn
import HandS.More
import HandS.MakeKwOnly
import KE.KUnpackStar
import HandS.Lambda
import HandS.Evl
import KE.DatumOrd
import KE.KExcInit
import HandS.ForExc
import HandS.ExcInit
import HandS.ExcField
import HandS.TryMany
import HandS.EndTab
import HandS.HotCalls
import HandS.ExcIs
import HandS.ExcCtx
import HandS.WordsExc
import HandS.Hot
import PyProof.Rows.TupIter
import HandS.EndOwn
import HandS.SortKw
import PyProof.Rows.NestShow
import PyProof.Rows.RegStrFacts
import HandS.WideMore
import KE.GoesEnum
import KE.KIndexWalk
import PySem.Challenge.RW_touchtrees_k07_single_rotations
set_option Elab.async false
set_option linter.all false
set_option maxRecDepth 100000
set_option maxHeartbeats 4000000
/-! the value layer: HandS readings over plain data and a memory of mutable objects -/
namespace VL
open PySem PySem.Spec PyProof.Rows L2
abbrev St := L2.St

inductive D where
  | non | bl (b : Bool) | int (i : Int) | str (x : Str) | ref (a : Addr) | ty (n : String)
  | tup (ds : List D) | lst (ds : List D) | fz (ds : List D) | tn (ns : List Int)
inductive MO where
  | lst (ds : List D) | dK (kvs : List (Key × D)) | dT (kvs : List (List Key × D)) | set (S : Int → Bool) (n : Nat) | ins (C : Addr) (fs : List (Str × D))
  | lk (od : Obj) (vs : List (Key × V)) (kvs : List (Key × D)) | tab (q : Str)
  | fn (q : Str) (G : Addr → Addr → List Value → Obj → Prop)
abbrev Mem := Addr → Option MO
abbrev Sg := List (Option D)
def put (M : Mem) (a : Addr) (o : MO) : Mem := fun b => if b = a then some o else M b
def del (M : Mem) (a : Addr) : Mem := fun b => if b = a then none else M b
theorem put_same {M : Mem} {a : Addr} {o : MO} : put M a o a = some o := by unfold put; rw [if_pos rfl]
theorem put_ne {M : Mem} {a b : Addr} {o : MO} (h : b ≠ a) : put M a o b = M b := by unfold put; rw [if_neg h]
theorem put_put {M : Mem} {a : Addr} {o u : MO} : put (put M a o) a u = put M a u := by funext b; unfold put; split <;> rfl
theorem del_put {M : Mem} {a : Addr} {o : MO} (h : M a = none) : del (put M a o) a = M := by
  funext b; unfold del put; split
  · rename_i e; rw [e, h]
  · rfl
theorem del_same {M : Mem} {a : Addr} : del M a a = none := by unfold del; rw [if_pos rfl]
theorem del_ne {M : Mem} {a b : Addr} (h : b ≠ a) : del M a b = M b := by unfold del; rw [if_neg h]
theorem ne_mem {M : Mem} {a b : Addr} {o : MO} (h : M a = some o) (h' : M b = none) : a ≠ b := by
  intro e; subst e; rw [h] at h'; cases h'
theorem ne_mem' {M : Mem} {a b : Addr} {o : MO} (h : M a = some o) (h' : M b = none) : b ≠ a := fun e => ne_mem h h' e.symm

/-- the library's word for: all that is known stays -/
abbrev Ex (H H' : Hp) : Prop := Evl.Ex H H'
theorem Ex.refl (H : Hp) : Ex H H := Evl.Ex.refl H
theorem Ex.trans {H H1 H2 : Hp} (a : Ex H H1) (b : Ex H1 H2) : Ex H H2 := Evl.Ex.trans a b
theorem Ex.new {H : Hp} {p : Addr} {o : HO} (h : H p = none) : Ex H (upd H p o) := Evl.Ex.new h
theorem ex_rd {H H' : Hp} {a : Addr} {u : HO} (e : Ex H H') (h : Rd H a u) : Rd H' a u := Evl.ex_rd e h
theorem ex_l {K : PySem.W.Frag} {H H' : Hp} {a : Addr} {xs : List V} (e : Ex H H') (h : SqL K H a xs) : SqL K H' a xs := Evl.ex_l e h
theorem ex_t {K : PySem.W.Frag} {H H' : Hp} {a : Addr} {xs : List V} (e : Ex H H') (h : SqT K H a xs) : SqT K H' a xs := Evl.ex_t e h
/-- a tuple that is tracked or written -/
def TupAt (K : PySem.W.Frag) (H : Hp) (a : Addr) (xs : List V) : Prop :=
  H a = some (.tup xs) ∨ (∃ (o : Obj) (ns : List Int), H a = some (.frz o (.tup xs)) ∧ xs = ns.map V.int) ∨ ∃ (o : Obj) (its : Array Value) (n : Nat), K.lookup a = some o ∧ o.cls = .type "tuple" ∧ o.data = .seq its n ∧ its.size ≤ sizeLine ∧ Vals xs its.toList
theorem TupAt.sq {K : PySem.W.Frag} {H : Hp} {a : Addr} {xs : List V} (h : TupAt K H a xs) : SqT K H a xs := by
  rcases h with h | ⟨o, _, h, _⟩ | h
  · exact Or.inl (Or.inl h)
  · exact Or.inl (Or.inr ⟨o, h⟩)
  · exact Or.inr h
theorem TupAt.up {K : PySem.W.Frag} {H H' : Hp} {a : Addr} {xs : List V} (h : TupAt K H a xs) (e : Ex H H') : TupAt K H' a xs := by
  rcases h with h | ⟨o, ns, h, h2⟩ | h
  · exact Or.inl (e a _ h)
  · exact Or.inr (Or.inl ⟨o, ns, e a _ h, h2⟩)
  · exact Or.inr (Or.inr h)
mutual
/-- the value v stands for the datum d; the heap of what never changes any more -/
def IsD (K : PySem.W.Frag) (Hf : Hp) : D → V → Prop
  | .non, v => v = .non
  | .bl b, v => v = .bl b
  | .int i, v => v = .int i
  | .str x, v => v = .str x
  | .ref a, v => v = .ref a
  | .ty n, v => v = .ty n
  | .tup ds, v => ∃ a xs, v = .ref a ∧ TupAt K Hf a xs ∧ IsDs K Hf ds xs
  | .lst ds, v => ∃ a xs, v = .ref a ∧ Hf a = some (.lst xs) ∧ IsDs K Hf ds xs
  | .fz ds, v => ∃ a xs, v = .ref a ∧ SqL K Hf a xs ∧ IsDs K Hf ds xs
  | .tn ns, v => ∃ (a : Addr) (o : Obj), v = .ref a ∧ Hf a = some (.frz o (.tup (ns.map V.int))) ∧ o.cls = .type "tuple" ∧ o.dict = none
def IsDs (K : PySem.W.Frag) (Hf : Hp) : List D → List V → Prop
  | [], vs => vs = []
  | d :: ds, vs => ∃ v r, vs = v :: r ∧ IsD K Hf d v ∧ IsDs K Hf ds r
end
section
variable {K : PySem.W.Frag} {Hf Hf' : Hp}
mutual
theorem IsD.mono (e : Ex Hf Hf') : ∀ (d : D) (v : V), IsD K Hf d v → IsD K Hf' d v
  | .non, _, h => h
  | .bl _, _, h => h
  | .int _, _, h => h
  | .str _, _, h => h
  | .ref _, _, h => h
  | .ty _, _, h => h
  | .tup ds, v, h => by
    unfold IsD at h ⊢
    obtain ⟨a, xs, h1, h2, h3⟩ := h
    exact ⟨a, xs, h1, h2.up e, IsDs.mono e ds xs h3⟩
  | .lst ds, v, h => by
    unfold IsD at h ⊢
    obtain ⟨a, xs, h1, h2, h3⟩ := h
    exact ⟨a, xs, h1, e _ _ h2, IsDs.mono e ds xs h3⟩
  | .fz ds, v, h => by
    unfold IsD at h ⊢
    obtain ⟨a, xs, h1, h2, h3⟩ := h
    exact ⟨a, xs, h1, ex_l e h2, IsDs.mono e ds xs h3⟩
  | .tn ns, v, h => by
    unfold IsD at h ⊢
    obtain ⟨a, o, h1, h2, h3⟩ := h
    exact ⟨a, o, h1, e _ _ h2, h3⟩
theorem IsDs.mono (e : Ex Hf Hf') : ∀ (ds : List D) (vs : List V), IsDs K Hf ds vs → IsDs K Hf' ds vs
  | [], _, h => h
  | d :: ds, vs, h => by
    unfold IsDs at h ⊢
    obtain ⟨v, r, h1, h2, h3⟩ := h
    exact ⟨v, r, h1, IsD.mono e d v h2, IsDs.mono e ds r h3⟩
end
theorem isDs_nil : IsDs K Hf [] [] := by unfold IsDs; rfl
theorem isDs_cons {d : D} {v : V} {ds : List D} {vs : List V} (h : IsD K Hf d v) (t : IsDs K Hf ds vs) : IsDs K Hf (d :: ds) (v :: vs) := by
  unfold IsDs; exact ⟨v, vs, rfl, h, t⟩
theorem isDs_nil_inv {vs : List V} (h : IsDs K Hf [] vs) : vs = [] := by unfold IsDs at h; exact h
theorem isDs_cons_inv {d : D} {ds : List D} {vs : List V} (h : IsDs K Hf (d :: ds) vs) : ∃ v r, vs = v :: r ∧ IsD K Hf d v ∧ IsDs K Hf ds r := by unfold IsDs at h; exact h
theorem IsDs.len : ∀ {ds : List D} {vs : List V}, IsDs K Hf ds vs → ds.length = vs.length
  | [], vs, h => by rw [isDs_nil_inv h]; rfl
  | d :: ds, vs, h => by
    obtain ⟨v, r, rfl, _, h3⟩ := isDs_cons_inv h
    rw [List.length_cons, List.length_cons, IsDs.len h3]
theorem IsDs.get : ∀ {ds : List D} {vs : List V} {i : Nat} {d : D}, IsDs K Hf ds vs → ds[i]? = some d → ∃ v, vs[i]? = some v ∧ IsD K Hf d v
  | [], vs, i, d, _, e => by simp at e
  | d0 :: ds, vs, 0, d, h, e => by
    obtain ⟨v, r, rfl, h2, _⟩ := isDs_cons_inv h
    have e2 : d0 = d := by simpa using e
    subst e2
    exact ⟨v, rfl, h2⟩
  | d0 :: ds, vs, i + 1, d, h, e => by
    obtain ⟨v, r, rfl, _, h3⟩ := isDs_cons_inv h
    obtain ⟨u, h4, h5⟩ := IsDs.get (i := i) (d := d) h3 (by simpa using e)
    exact ⟨u, by simpa using h4, h5⟩
theorem IsDs.app : ∀ {ds es : List D} {vs us : List V}, IsDs K Hf ds vs → IsDs K Hf es us → IsDs K Hf (ds ++ es) (vs ++ us)
  | [], _, vs, _, h, k => by rw [isDs_nil_inv h]; exact k
  | d :: ds, es, vs, us, h, k => by
    obtain ⟨v, r, rfl, h2, h3⟩ := isDs_cons_inv h
    exact isDs_cons h2 (IsDs.app h3 k)
theorem IsDs.setAt : ∀ {ds : List D} {vs : List V} (i : Nat) {d : D} {v : V}, IsDs K Hf ds vs → IsD K Hf d v → IsDs K Hf (ds.set i d) (vs.set i v)
  | [], vs, i, d, v, h, _ => by rw [isDs_nil_inv h]; exact isDs_nil
  | d0 :: ds, vs, 0, d, v, h, k => by
    obtain ⟨v0, r, rfl, _, h3⟩ := isDs_cons_inv h
    exact isDs_cons k h3
  | d0 :: ds, vs, i + 1, d, v, h, k => by
    obtain ⟨v0, r, rfl, h2, h3⟩ := isDs_cons_inv h
    exact isDs_cons h2 (IsDs.setAt i h3 k)
theorem IsDs.takeN : ∀ {ds : List D} {vs : List V} (i : Nat), IsDs K Hf ds vs → IsDs K Hf (ds.take i) (vs.take i)
  | [], vs, i, h => by rw [isDs_nil_inv h]; simp; exact isDs_nil
  | d0 :: ds, vs, 0, h => by simp; exact isDs_nil
  | d0 :: ds, vs, i + 1, h => by
    obtain ⟨v0, r, rfl, h2, h3⟩ := isDs_cons_inv h
    exact isDs_cons h2 (IsDs.takeN i h3)
theorem IsDs.dropN : ∀ {ds : List D} {vs : List V} (i : Nat), IsDs K Hf ds vs → IsDs K Hf (ds.drop i) (vs.drop i)
  | [], vs, i, h => by rw [isDs_nil_inv h]; simp; exact isDs_nil
  | d0 :: ds, vs, 0, h => by simpa using h
  | d0 :: ds, vs, i + 1, h => by
    obtain ⟨v0, r, rfl, h2, h3⟩ := isDs_cons_inv h
    exact IsDs.dropN i h3
theorem IsDs.ints : ∀ {ns : List Int} {vs : List V}, IsDs K Hf (ns.map D.int) vs → vs = ns.map V.int
  | [], vs, h => isDs_nil_inv h
  | n :: ns, vs, h => by
    obtain ⟨v, r, rfl, h2, h3⟩ := isDs_cons_inv (d := .int n) (ds := ns.map D.int) h
    unfold IsD at h2
    rw [h2, IsDs.ints h3]; rfl
theorem IsDs.of_ints : ∀ (ns : List Int), IsDs K Hf (ns.map D.int) (ns.map V.int)
  | [] => isDs_nil
  | n :: ns => isDs_cons (by unfold IsD; rfl) (IsDs.of_ints ns)
theorem IsDs.bls : ∀ {ns : List Bool} {vs : List V}, IsDs K Hf (ns.map D.bl) vs → vs = ns.map V.bl
  | [], vs, h => isDs_nil_inv h
  | n :: ns, vs, h => by
    obtain ⟨v, r, rfl, h2, h3⟩ := isDs_cons_inv (d := .bl n) (ds := ns.map D.bl) h
    unfold IsD at h2
    rw [h2, IsDs.bls h3]; rfl
end

/-! ### dicts by keys -/
section
variable {κ : Type} [DecidableEq κ]
def look (kvs : List (κ × D)) (k : κ) : Option D := (kvs.find? fun kv => decide (kv.1 = k)).map (·.2)
def putKD (kvs : List (κ × D)) (k : κ) (v : D) : List (κ × D) :=
  if (kvs.any fun kv => decide (kv.1 = k)) = true then kvs.map (fun kv => if kv.1 = k then (kv.1, v) else kv) else kvs ++ [(k, v)]
def dropKD (kvs : List (κ × D)) (k : κ) : List (κ × D) := kvs.filter fun kv => decide (kv.1 ≠ k)
end
def IsKs (K : PySem.W.Frag) (Hf : Hp) {κ : Type} : List (κ × D) → List (κ × V) → Prop
  | [], vs => vs = []
  | (k, d) :: r, vs => ∃ v t, vs = (k, v) :: t ∧ IsD K Hf d v ∧ IsKs K Hf r t
section
variable {K : PySem.W.Frag} {Hf Hf' : Hp} {κ : Type}
theorem IsKs.mono (e : Ex Hf Hf') : ∀ {kvs : List (κ × D)} {vs : List (κ × V)}, IsKs K Hf kvs vs → IsKs K Hf' kvs vs
  | [], _, h => h
  | (k, d) :: r, vs, h => by
    obtain ⟨v, t, h1, h2, h3⟩ := h
    exact ⟨v, t, h1, IsD.mono e d v h2, IsKs.mono e h3⟩
theorem IsKs.len : ∀ {kvs : List (κ × D)} {vs : List (κ × V)}, IsKs K Hf kvs vs → kvs.length = vs.length
  | [], vs, h => by have h : vs = [] := h; rw [h]; rfl
  | (k, d) :: r, vs, h => by
    obtain ⟨v, t, rfl, h2, h3⟩ := h
    rw [List.length_cons, List.length_cons, IsKs.len h3]
theorem IsKs.app : ∀ {kvs ks : List (κ × D)} {vs us : List (κ × V)}, IsKs K Hf kvs vs → IsKs K Hf ks us → IsKs K Hf (kvs ++ ks) (vs ++ us)
  | [], _, vs, _, h, k => by have h : vs = [] := h; rw [h]; exact k
  | (k, d) :: r, ks, vs, us, h, q => by
    obtain ⟨v, t, rfl, h2, h3⟩ := h
    exact ⟨v, t ++ us, rfl, h2, IsKs.app h3 q⟩
variable [DecidableEq κ]
theorem IsKs.val (k : κ) : ∀ {kvs : List (κ × D)} {vs : List (κ × V)}, IsKs K Hf kvs vs →
    (look kvs k = none → valV vs k = none) ∧ (∀ d, look kvs k = some d → ∃ v, valV vs k = some v ∧ IsD K Hf d v)
  | [], vs, h => by
    have h : vs = [] := h
    subst h
    exact ⟨fun _ => rfl, fun d e => by simp [look] at e⟩
  | (k0, d) :: r, vs, h => by
    obtain ⟨v, t, rfl, h2, h3⟩ := h
    by_cases e : k0 = k
    · have e1 : look ((k0, d) :: r) k = some d := by simp [look, e]
      have e2 : valV ((k0, v) :: t) k = some v := valV_pos e
      rw [e1, e2]
      refine ⟨(fun z => nomatch z), fun d' z => ⟨v, rfl, ?_⟩⟩
      cases z; exact h2
    · have e1 : look ((k0, d) :: r) k = look r k := by simp [look, e]
      have e2 : valV ((k0, v) :: t) k = valV t k := valV_neg e
      rw [e1, e2]
      exact IsKs.val k h3
theorem IsKs.any (k : κ) : ∀ {kvs : List (κ × D)} {vs : List (κ × V)}, IsKs K Hf kvs vs → (kvs.any fun kv => decide (kv.1 = k)) = (vs.any fun kv => decide (kv.1 = k))
  | [], vs, h => by have h : vs = [] := h; rw [h]; rfl
  | (k0, d) :: r, vs, h => by
    obtain ⟨v, t, rfl, h2, h3⟩ := h
    rw [List.any_cons, List.any_cons, IsKs.any k h3]
theorem IsKs.repl (k : κ) {d : D} {u : V} (hd : IsD K Hf d u) : ∀ {kvs : List (κ × D)} {vs : List (κ × V)}, IsKs K Hf kvs vs →
    IsKs K Hf (kvs.map fun kv => if kv.1 = k then (kv.1, d) else kv) (vs.map fun kv => if kv.1 = k then (kv.1, u) else kv)
  | [], vs, h => by have h : vs = [] := h; rw [h]; exact rfl
  | (k0, d0) :: r, vs, h => by
    obtain ⟨v, t, rfl, h2, h3⟩ := h
    rw [List.map_cons, List.map_cons]
    by_cases e : k0 = k
    · simp only [e, if_true]
      exact ⟨u, _, rfl, hd, by subst e; exact IsKs.repl k0 hd h3⟩
    · simp only [e, if_false]
      exact ⟨v, _, rfl, h2, IsKs.repl k hd h3⟩
theorem IsKs.put {kvs : List (κ × D)} {vs : List (κ × V)} (h : IsKs K Hf kvs vs) (k : κ) {d : D} {u : V} (hd : IsD K Hf d u) : IsKs K Hf (putKD kvs k d) (putK vs k u) := by
  unfold putKD putK
  rw [IsKs.any k h]
  split
  · exact IsKs.repl k hd h
  · exact IsKs.app h ⟨u, [], rfl, hd, rfl⟩
theorem IsKs.drop (k : κ) : ∀ {kvs : List (κ × D)} {vs : List (κ × V)}, IsKs K Hf kvs vs → IsKs K Hf (dropKD kvs k) (dropK vs k)
  | [], vs, h => by have h : vs = [] := h; rw [h]; exact rfl
  | (k0, d0) :: r, vs, h => by
    obtain ⟨v, t, rfl, h2, h3⟩ := h
    unfold dropKD dropK
    rw [List.filter_cons, List.filter_cons]
    by_cases e : k0 = k
    · simp only [e, ne_eq, not_true, decide_false, Bool.false_eq_true, if_false]
      subst e
      exact IsKs.drop k0 h3
    · simp only [e, ne_eq, not_false_eq_true, decide_true, if_true]
      exact ⟨v, _, rfl, h2, IsKs.drop k h3⟩
end

/-! ### the memory in the heap -/
def RelM (K : PySem.W.Frag) (Hf : Hp) (a : Addr) : MO → HO → Prop
  | .lst ds, o => ∃ xs, o = .lst xs ∧ IsDs K Hf ds xs
  | .dK kvs, o => ∃ vs, o = .dK vs ∧ IsKs K Hf kvs vs
  | .dT kvs, o => ∃ vs, o = .dT vs ∧ IsKs K Hf kvs vs
  | .set S n, o => o = .set S n
  | .ins C fs, o => ∃ dx vs, o = .ins C dx vs ∧ Hf dx = some (.own a) ∧ IsKs K Hf fs vs
  | .lk od vs kvs, o => o = .frz od (.dK vs) ∧ IsKs K Hf kvs vs
  | .tab q, o => ∃ ps : Array Value, o = .tbl ps ∧ TriplesOk ps.toList ∧ ∀ (pos : Pos) (cv : Value), codeAmong pos ps.toList = some cv → ∃ c, cv = .ref c ∧ Hf c = some (LamX.CodeO c q)
  | .fn q G, o => ∃ (c T : Addr) (dv : List Value) (ob : Obj), G c T dv ob ∧ o = .frz ob (.own 0) ∧ Hf c = some (LamX.CodeO c q) ∧ (dv = [] ∨ Hf T = some (.frz { cls := .type "tuple", data := .seq dv.toArray } (.own 0)))
theorem RelM.mono {K : PySem.W.Frag} {Hf Hf' : Hp} {a : Addr} (e : Ex Hf Hf') : ∀ {m : MO} {o : HO}, RelM K Hf a m o → RelM K Hf' a m o
  | .lst ds, o, h => by obtain ⟨xs, h1, h2⟩ := h; exact ⟨xs, h1, IsDs.mono e _ _ h2⟩
  | .dK kvs, o, h => by obtain ⟨xs, h1, h2⟩ := h; exact ⟨xs, h1, IsKs.mono e h2⟩
  | .dT kvs, o, h => by obtain ⟨xs, h1, h2⟩ := h; exact ⟨xs, h1, IsKs.mono e h2⟩
  | .set S n, o, h => h
  | .ins C fs, o, h => by obtain ⟨dx, vs, h1, h2, h3⟩ := h; exact ⟨dx, vs, h1, e _ _ h2, IsKs.mono e h3⟩
  | .lk od vs kvs, o, h => ⟨h.1, IsKs.mono e h.2⟩
  | .fn q G, o, h => by obtain ⟨c, T, dv, ob, h1, h2, h3, h4⟩ := h; exact ⟨c, T, dv, ob, h1, h2, e c _ h3, h4.imp id fun z => e T _ z⟩
  | .tab q, o, h => by obtain ⟨ps, h1, h2, h3⟩ := h; exact ⟨ps, h1, h2, fun pos cv hc => by obtain ⟨c, e1, e2⟩ := h3 pos cv hc; exact ⟨c, e1, e c _ e2⟩⟩
structure Wr (K : PySem.W.Frag) (Hf : Hp) (M : Mem) (H : Hp) : Prop where
  fro : Ex Hf H
  mem : ∀ a m, M a = some m → Hf a = none ∧ ∃ o, H a = some o ∧ RelM K Hf a m o
/-- from one world to a later one: what is known stays, what is not known is not touched -/
structure Stp (Hf : Hp) (M : Mem) (H : Hp) (Hf' : Hp) (M' : Mem) (H' : Hp) : Prop where
  ex : Ex Hf Hf'
  out : ∀ a o, H a = some o → Hf a = none → M a = none → H' a = some o ∧ Hf' a = none ∧ M' a = none
/-- where a def began -/
structure W0 where
  Hf : Hp
  M : Mem
  H : Hp
structure Wd (K : PySem.W.Frag) (S₀ : W0) (Hf : Hp) (M : Mem) (H : Hp) : Prop extends Wr K Hf M H where
  st : Stp S₀.Hf S₀.M S₀.H Hf M H
def EnvOk (K : PySem.W.Frag) (Hf : Hp) (σ : St) (ρ : Sg) : Prop := σ.length = ρ.length ∧ ∀ (i : Nat) (d : D), ρ[i]? = some (some d) → ∃ v, σ[i]? = some (some v) ∧ IsD K Hf d v
section
variable {K : PySem.W.Frag} {S₀ : W0} {Hf Hf' Hf2 : Hp} {M M' M2 : Mem} {H H' H2 : Hp} {σ σ' : St} {ρ ρ' : Sg}
theorem Stp.refl : Stp Hf M H Hf M H := ⟨Ex.refl _, fun _ _ h1 h2 h3 => ⟨h1, h2, h3⟩⟩
theorem Stp.trans (a : Stp Hf M H Hf' M' H') (b : Stp Hf' M' H' Hf2 M2 H2) : Stp Hf M H Hf2 M2 H2 :=
  ⟨a.ex.trans b.ex, fun p o h1 h2 h3 => by
    obtain ⟨k1, k2, k3⟩ := a.out p o h1 h2 h3
    exact b.out p o k1 k2 k3⟩
theorem EnvOk.mono (e : Ex Hf Hf') (h : EnvOk K Hf σ ρ) : EnvOk K Hf' σ ρ := ⟨h.1, fun i d q => by
  obtain ⟨v, h1, h2⟩ := h.2 i d q
  exact ⟨v, h1, IsD.mono e d v h2⟩⟩
theorem EnvOk.set (h : EnvOk K Hf σ ρ) (i : Nat) {d : D} {v : V} (hd : IsD K Hf d v) : EnvOk K Hf (σ.set i (some v)) (ρ.set i (some d)) := by
  refine ⟨by rw [List.length_set, List.length_set]; exact h.1, fun j e q => ?_⟩
  rw [List.getElem?_set] at q ⊢
  by_cases hij : i = j
  · rw [if_pos hij] at q ⊢
    by_cases hl : i < ρ.length
    · rw [if_pos hl] at q
      rw [if_pos (by rw [h.1]; exact hl)]
      cases q
      exact ⟨v, rfl, hd⟩
    · rw [if_neg hl] at q
      cases q
  · rw [if_neg hij] at q ⊢
    exact h.2 j e q
theorem EnvOk.unset (h : EnvOk K Hf σ ρ) (i : Nat) : EnvOk K Hf (σ.set i none) (ρ.set i none) := by
  refine ⟨by rw [List.length_set, List.length_set]; exact h.1, fun j e q => ?_⟩
  rw [List.getElem?_set] at q ⊢
  by_cases hij : i = j
  · rw [if_pos hij] at q
    split at q <;> cases q
  · rw [if_neg hij] at q ⊢
    exact h.2 j e q
theorem Wd.fresh_f (W : Wd K S₀ Hf M H) {p : Addr} (h : H p = none) : Hf p = none := by
  cases e : Hf p with
  | none => rfl
  | some o => rw [W.fro p o e] at h; cases h
theorem Wd.fresh_m (W : Wd K S₀ Hf M H) {p : Addr} (h : H p = none) : M p = none := by
  cases e : M p with
  | none => rfl
  | some o => obtain ⟨_, o', e1, _⟩ := W.mem p o e; rw [e1] at h; cases h
/-- a new object that never changes -/
theorem Wd.newF (W : Wd K S₀ Hf M H) {p : Addr} {o : HO} (h : H p = none) : Wd K S₀ (upd Hf p o) M (upd H p o) ∧ Stp Hf M H (upd Hf p o) M (upd H p o) := by
  have hf := W.fresh_f h
  have hm := W.fresh_m h
  suffices h : Wr K (upd Hf p o) M (upd H p o) ∧ Stp Hf M H (upd Hf p o) M (upd H p o) from ⟨⟨h.1, W.st.trans h.2⟩, h.2⟩
  refine ⟨⟨fun a u e => ?_, fun a m e => ?_⟩, ⟨Ex.new hf, fun a u e1 e2 e3 => ?_⟩⟩
  · by_cases q : a = p
    · subst q; rw [upd_same] at e ⊢; exact e
    · rw [upd_ne q] at e ⊢; exact W.fro a u e
  · have q : a ≠ p := fun z => by subst z; rw [hm] at e; cases e
    obtain ⟨h1, u, h2, h3⟩ := W.mem a m e
    exact ⟨by rw [upd_ne q]; exact h1, u, by rw [upd_ne q]; exact h2, h3.mono (Ex.new hf)⟩
  · have q : a ≠ p := fun z => by subst z; rw [h] at e1; cases e1
    exact ⟨by rw [upd_ne q]; exact e1, by rw [upd_ne q]; exact e2, e3⟩
/-- a new object that may change -/
theorem Wd.newM (W : Wd K S₀ Hf M H) {p : Addr} {o : HO} {m : MO} (h : H p = none) (r : RelM K Hf p m o) : Wd K S₀ Hf (put M p m) (upd H p o) ∧ Stp Hf M H Hf (put M p m) (upd H p o) := by
  have hf := W.fresh_f h
  suffices h : Wr K Hf (put M p m) (upd H p o) ∧ Stp Hf M H Hf (put M p m) (upd H p o) from ⟨⟨h.1, W.st.trans h.2⟩, h.2⟩
  refine ⟨⟨fun a u e => ?_, fun a m' e => ?_⟩, ⟨Ex.refl _, fun a u e1 e2 e3 => ?_⟩⟩
  · have q : a ≠ p := fun z => by subst z; rw [hf] at e; cases e
    rw [upd_ne q]; exact W.fro a u e
  · by_cases q : a = p
    · subst q; rw [put_same] at e; cases e; exact ⟨hf, o, upd_same, r⟩
    · rw [put_ne q] at e
      obtain ⟨h1, u, h2, h3⟩ := W.mem a m' e
      exact ⟨h1, u, by rw [upd_ne q]; exact h2, h3⟩
  · have q : a ≠ p := fun z => by subst z; rw [h] at e1; cases e1
    exact ⟨by rw [upd_ne q]; exact e1, e2, by rw [put_ne q]; exact e3⟩
/-- an object of the memory is changed -/
theorem Wd.chg (W : Wd K S₀ Hf M H) {p : Addr} {o : HO} {m m0 : MO} (h : M p = some m0) (r : RelM K Hf p m o) : Wd K S₀ Hf (put M p m) (upd H p o) ∧ Stp Hf M H Hf (put M p m) (upd H p o) := by
  obtain ⟨hf, _⟩ := W.mem p m0 h
  suffices h : Wr K Hf (put M p m) (upd H p o) ∧ Stp Hf M H Hf (put M p m) (upd H p o) from ⟨⟨h.1, W.st.trans h.2⟩, h.2⟩
  refine ⟨⟨fun a u e => ?_, fun a m' e => ?_⟩, ⟨Ex.refl _, fun a u e1 e2 e3 => ?_⟩⟩
  · have q : a ≠ p := fun z => by subst z; rw [hf] at e; cases e
    rw [upd_ne q]; exact W.fro a u e
  · by_cases q : a = p
    · subst q; rw [put_same] at e; cases e; exact ⟨hf, o, upd_same, r⟩
    · rw [put_ne q] at e
      obtain ⟨h1, u, h2, h3⟩ := W.mem a m' e
      exact ⟨h1, u, by rw [upd_ne q]; exact h2, h3⟩
  · have q : a ≠ p := fun z => by subst z; rw [h] at e3; cases e3
    exact ⟨by rw [upd_ne q]; exact e1, e2, by rw [put_ne q]; exact e3⟩
/-- a list of the memory is frozen -/
theorem Wd.freeze (W : Wd K S₀ Hf M H) {p : Addr} {ds : List D} (h : M p = some (.lst ds)) : ∃ Hf', Wd K S₀ Hf' (del M p) H ∧ Stp Hf M H Hf' (del M p) H ∧ IsD K Hf' (.lst ds) (.ref p) := by
  obtain ⟨hf, o, ho, xs, rfl, hx⟩ := W.mem p _ h
  have e := Ex.new (o := .lst xs) hf
  suffices h : Wr K (upd Hf p (.lst xs)) (del M p) H ∧ Stp Hf M H (upd Hf p (.lst xs)) (del M p) H ∧ IsD K (upd Hf p (.lst xs)) (.lst ds) (.ref p) from ⟨_, ⟨h.1, W.st.trans h.2.1⟩, h.2⟩
  refine ⟨⟨fun a u z => ?_, fun a m z => ?_⟩, ⟨e, fun a u e1 e2 e3 => ?_⟩, ?_⟩
  · by_cases q : a = p
    · subst q; rw [upd_same] at z; rw [ho]; exact z
    · rw [upd_ne q] at z; exact W.fro a u z
  · have q : a ≠ p := fun y => by subst y; rw [del_same] at z; cases z
    rw [del_ne q] at z
    obtain ⟨h1, u, h2, h3⟩ := W.mem a m z
    exact ⟨by rw [upd_ne q]; exact h1, u, h2, h3.mono e⟩
  · have q : a ≠ p := fun z => by subst z; rw [h] at e3; cases e3
    exact ⟨e1, by rw [upd_ne q]; exact e2, by rw [del_ne q]; exact e3⟩
  · unfold IsD
    exact ⟨p, xs, rfl, upd_same, IsDs.mono e _ _ hx⟩
/-- an object of the memory is forgotten -/
theorem Wd.forget (W : Wd K S₀ Hf M H) (p : Addr) : Wd K S₀ Hf (del M p) H ∧ Stp Hf M H Hf (del M p) H := by
  suffices h : Wr K Hf (del M p) H ∧ Stp Hf M H Hf (del M p) H from ⟨⟨h.1, W.st.trans h.2⟩, h.2⟩
  refine ⟨⟨W.fro, fun a m z => ?_⟩, ⟨Ex.refl _, fun a u e1 e2 e3 => ⟨e1, e2, ?_⟩⟩⟩
  · have q : a ≠ p := fun y => by subst y; rw [del_same] at z; cases z
    rw [del_ne q] at z
    exact W.mem a m z
  · by_cases q : a = p
    · rw [q, del_same]
    · rw [del_ne q]; exact e3
end

/-! ### readings over data -/
abbrev KD := D → Mem → Prop
abbrev WE := Sg → Mem → KD → Prop
abbrev WT := Sg → Mem → (Bool → Mem → Prop) → Prop
abbrev WA := Sg → Mem → (List D → Mem → Prop) → Prop
abbrev WI := Sg → Mem → (List D → Mem → Prop) → Prop
abbrev WG := D → Sg → Mem → (Sg → Mem → Prop) → Prop
abbrev WO := Sg → Mem → (Option Int → Mem → Prop) → Prop
structure WN where
  nx : Sg → Mem → Prop
  rt : KD
  bk : Sg → Mem → Prop
  ct : Sg → Mem → Prop
abbrev WS := WN → Sg → Mem → Prop
section
variable (K : PySem.W.Frag) (S₀ : W0)
def Knt (Hf : Hp) (M : Mem) (H : Hp) (Φ : KD) (Q : VK) : Prop := ∀ d M' v Hf' H', Φ d M' → Wd K S₀ Hf' M' H' → Stp Hf M H Hf' M' H' → IsD K Hf' d v → Q v H'
def KntT (Hf : Hp) (M : Mem) (H : Hp) (Φ : Bool → Mem → Prop) (Q : Bool → Hp → Prop) : Prop := ∀ b M' Hf' H', Φ b M' → Wd K S₀ Hf' M' H' → Stp Hf M H Hf' M' H' → Q b H'
def KntA (Hf : Hp) (M : Mem) (H : Hp) (Φ : List D → Mem → Prop) (Q : List V → Hp → Prop) : Prop := ∀ d M' v Hf' H', Φ d M' → Wd K S₀ Hf' M' H' → Stp Hf M H Hf' M' H' → IsDs K Hf' d v → Q v H'
def KntO (Hf : Hp) (M : Mem) (H : Hp) (Φ : Option Int → Mem → Prop) (Q : Option Int → Hp → Prop) : Prop := ∀ b M' Hf' H', Φ b M' → Wd K S₀ Hf' M' H' → Stp Hf M H Hf' M' H' → Q b H'
def KntN (Hf : Hp) (M : Mem) (H : Hp) (Φ : Sg → Mem → Prop) (Q : St → Hp → Prop) : Prop := ∀ ρ' M' σ' Hf' H', Φ ρ' M' → Wd K S₀ Hf' M' H' → Stp Hf M H Hf' M' H' → EnvOk K Hf' σ' ρ' → Q σ' H'
structure KntS (Hf : Hp) (M : Mem) (H : Hp) (De : WN) (Dn : Ends) : Prop where
  nx : KntN K S₀ Hf M H De.nx Dn.nx
  rt : Knt K S₀ Hf M H De.rt Dn.rt
  bk : KntN K S₀ Hf M H De.bk Dn.bk
  ct : KntN K S₀ Hf M H De.ct Dn.ct
def liftE (w : WE) : TE := fun σ H Q => ∃ Hf ρ M Φ, Wd K S₀ Hf M H ∧ EnvOk K Hf σ ρ ∧ w ρ M Φ ∧ Knt K S₀ Hf M H Φ Q
def liftT (w : WT) : TT := fun σ H Q => ∃ Hf ρ M Φ, Wd K S₀ Hf M H ∧ EnvOk K Hf σ ρ ∧ w ρ M Φ ∧ KntT K S₀ Hf M H Φ Q
def liftA (w : WA) : TA := fun σ H Q => ∃ Hf ρ M Φ, Wd K S₀ Hf M H ∧ EnvOk K Hf σ ρ ∧ w ρ M Φ ∧ KntA K S₀ Hf M H Φ Q
def liftO (w : WO) : TO := fun σ H Q => ∃ Hf ρ M Φ, Wd K S₀ Hf M H ∧ EnvOk K Hf σ ρ ∧ w ρ M Φ ∧ KntO K S₀ Hf M H Φ Q
def liftS (w : WS) : TS := fun Dn σ H => ∃ Hf ρ M De, Wd K S₀ Hf M H ∧ EnvOk K Hf σ ρ ∧ w De ρ M ∧ KntS K S₀ Hf M H De Dn
/-- a target: the slots at vs alone change -/
def liftG (w : WG) (vs : List Nat) : TG := fun v σ H Q => ∃ Hf ρ M Φ d, Wd K S₀ Hf M H ∧ EnvOk K Hf σ ρ ∧ IsD K Hf d v ∧ w d ρ M Φ ∧
  ∀ ρ' M' σ' Hf' H', Φ ρ' M' → Wd K S₀ Hf' M' H' → Stp Hf M H Hf' M' H' → EnvOk K Hf' σ' ρ' → wipe σ' vs = wipe σ vs → Q σ' H'
end
section
variable {K : PySem.W.Frag} {S₀ : W0} {Hf Hf1 : Hp} {M M1 : Mem} {H H1 : Hp}
theorem Knt.at {Φ : KD} {Q : VK} (k : Knt K S₀ Hf M H Φ Q) (s : Stp Hf M H Hf1 M1 H1) : Knt K S₀ Hf1 M1 H1 Φ Q := fun d M' v Hf' H' p W s' i => k d M' v Hf' H' p W (s.trans s') i
theorem KntT.at {Φ : Bool → Mem → Prop} {Q : Bool → Hp → Prop} (k : KntT K S₀ Hf M H Φ Q) (s : Stp Hf M H Hf1 M1 H1) : KntT K S₀ Hf1 M1 H1 Φ Q := fun d M' Hf' H' p W s' => k d M' Hf' H' p W (s.trans s')
theorem KntA.at {Φ : List D → Mem → Prop} {Q : List V → Hp → Prop} (k : KntA K S₀ Hf M H Φ Q) (s : Stp Hf M H Hf1 M1 H1) : KntA K S₀ Hf1 M1 H1 Φ Q := fun d M' v Hf' H' p W s' i => k d M' v Hf' H' p W (s.trans s') i
theorem KntN.at {Φ : Sg → Mem → Prop} {Q : St → Hp → Prop} (k : KntN K S₀ Hf M H Φ Q) (s : Stp Hf M H Hf1 M1 H1) : KntN K S₀ Hf1 M1 H1 Φ Q := fun d M' v Hf' H' p W s' i => k d M' v Hf' H' p W (s.trans s') i
theorem KntS.at {De : WN} {Dn : Ends} (k : KntS K S₀ Hf M H De Dn) (s : Stp Hf M H Hf1 M1 H1) : KntS K S₀ Hf1 M1 H1 De Dn := ⟨k.nx.at s, k.rt.at s, k.bk.at s, k.ct.at s⟩
end
def VE (X : Cx) (S₀ : W0) (e : Expr) (w : WE) : Prop := PE X e (liftE X.K S₀ w)
def VT (X : Cx) (S₀ : W0) (e : Expr) (w : WT) : Prop := PT X e (liftT X.K S₀ w)
def VW (X : Cx) (S₀ : W0) (e : Expr) (w : WT) : Prop := PW X e (liftT X.K S₀ w)
def VA (X : Cx) (S₀ : W0) (es : List Expr) (w : WA) : Prop := PA X es (liftA X.K S₀ w)
def VO (X : Cx) (S₀ : W0) (e : Option Expr) (w : WO) : Prop := PO X e (liftO X.K S₀ w)
def VS (X : Cx) (S₀ : W0) (s : Stmt) (w : WS) : Prop := PS X s (liftS X.K S₀ w)
def VSs (X : Cx) (S₀ : W0) (ss : List Stmt) (w : WS) : Prop := PSs X ss (liftS X.K S₀ w)
def VG (X : Cx) (S₀ : W0) (e : Expr) (w : WG) (vs : List Nat) : Prop := PG X e (liftG X.K S₀ w vs)
section
variable {X : Cx} {e : Expr}
theorem PE.imp {t t' : TE} (h : PE X e t) (i : ∀ σ H Q, t' σ H Q → t σ H Q) : PE X e t' := ⟨fun pins s σ H Q I q => h.run pins s σ H Q I (i σ H Q q)⟩
theorem PT.imp {t t' : TT} (h : PT X e t) (i : ∀ σ H Q, t' σ H Q → t σ H Q) : PT X e t' := ⟨fun pins s σ H Q I q => h.run pins s σ H Q I (i σ H Q q)⟩
theorem PW.imp {t t' : TT} (h : PW X e t) (i : ∀ σ H Q, t' σ H Q → t σ H Q) : PW X e t' := ⟨fun w pins s σ H Q I q => h.run w pins s σ H Q I (i σ H Q q)⟩
theorem PA.imp {es : List Expr} {t t' : TA} (h : PA X es t) (i : ∀ σ H Q, t' σ H Q → t σ H Q) : PA X es t' := ⟨fun p pins s σ H Q I q => h.run p pins s σ H Q I (i σ H Q q)⟩
theorem PO.imp {eo : Option Expr} {t t' : TO} (h : PO X eo t) (i : ∀ σ H Q, t' σ H Q → t σ H Q) : PO X eo t' := ⟨fun pins s σ H Q I q => h.run pins s σ H Q I (i σ H Q q)⟩
theorem PS.imp {st : Stmt} {t t' : TS} (h : PS X st t) (i : ∀ D σ H, t' D σ H → t D σ H) : PS X st t' := ⟨fun pins s σ H D I q => h.run pins s σ H D I (i D σ H q)⟩
theorem PSs.imp {st : List Stmt} {t t' : TS} (h : PSs X st t) (i : ∀ D σ H, t' D σ H → t D σ H) : PSs X st t' := ⟨fun pins s σ H D I q => h.run pins s σ H D I (i D σ H q)⟩
theorem PG.imp {t t' : TG} (h : PG X e t) (i : ∀ v σ H Q, t' v σ H Q → t v σ H Q) : PG X e t' := ⟨fun pins s σ H v u Q I r q => h.run pins s σ H v u Q I r (i v σ H Q q)⟩
theorem PI.imp {tg : Expr} {t t' : TI} (h : PI X tg e t) (i : ∀ σ H Q, t' σ H Q → t σ H Q) : PI X tg e t' := ⟨fun pins s σ H Q I q => h.run pins s σ H Q I (i σ H Q q)⟩
theorem PTs.imp {es : List Expr} {t t' : TT} (h : PTs X es t) (i : ∀ σ H Q, t' σ H Q → t σ H Q) : PTs X es t' := ⟨fun pins s σ H Q I q => h.run pins s σ H Q I (i σ H Q q)⟩
end
end VL

namespace VL
variable {S₀ : W0}
open PySem PySem.Spec PyProof.Rows L2
/-! ### small facts -/
def at_ : Sg → Nat → Option D
  | [], _ => none
  | d :: _, 0 => d
  | _ :: r, n + 1 => at_ r n
theorem at_get : ∀ {ρ : Sg} {i : Nat} {d : D}, at_ ρ i = some d → ρ[i]? = some (some d)
  | [], i, d, h => by cases i <;> cases h
  | x :: r, 0, d, h => by have h : x = some d := h; simp [h]
  | x :: r, n + 1, d, h => by simpa using at_get (ρ := r) (i := n) h
section
variable {K : PySem.W.Frag} {Hf Hf' : Hp} {M M' : Mem} {H H' : Hp} {σ : St} {ρ : Sg} {v : V}
theorem EnvOk.at (e : EnvOk K Hf σ ρ) {i : Nat} {d : D} (h : at_ ρ i = some d) : ∃ v, σ[i]? = some (some v) ∧ IsD K Hf d v := e.2 i d (at_get h)
theorem isD_non : IsD K Hf .non v ↔ v = .non := by unfold IsD; exact Iff.rfl
theorem isD_bl {b : Bool} : IsD K Hf (.bl b) v ↔ v = .bl b := by unfold IsD; exact Iff.rfl
theorem isD_int {b : Int} : IsD K Hf (.int b) v ↔ v = .int b := by unfold IsD; exact Iff.rfl
theorem isD_str {b : Str} : IsD K Hf (.str b) v ↔ v = .str b := by unfold IsD; exact Iff.rfl
theorem isD_ref {b : Addr} : IsD K Hf (.ref b) v ↔ v = .ref b := by unfold IsD; exact Iff.rfl
theorem isD_ty {b : String} : IsD K Hf (.ty b) v ↔ v = .ty b := by unfold IsD; exact Iff.rfl
theorem isD_tup {ds : List D} : IsD K Hf (.tup ds) v ↔ ∃ a xs, v = .ref a ∧ TupAt K Hf a xs ∧ IsDs K Hf ds xs := by
  constructor
  · intro h; unfold IsD at h; exact h
  · intro h; unfold IsD; exact h
theorem isD_lst {ds : List D} : IsD K Hf (.lst ds) v ↔ ∃ a xs, v = .ref a ∧ Hf a = some (.lst xs) ∧ IsDs K Hf ds xs := by
  constructor
  · intro h; unfold IsD at h; exact h
  · intro h; unfold IsD; exact h
theorem isD_fz {ds : List D} : IsD K Hf (.fz ds) v ↔ ∃ a xs, v = .ref a ∧ SqL K Hf a xs ∧ IsDs K Hf ds xs := by
  constructor
  · intro h; unfold IsD at h; exact h
  · intro h; unfold IsD; exact h
theorem isD_tn {ns : List Int} : IsD K Hf (.tn ns) v ↔ ∃ (a : Addr) (o : Obj), v = .ref a ∧ Hf a = some (.frz o (.tup (ns.map V.int))) ∧ o.cls = .type "tuple" ∧ o.dict = none := by
  constructor
  · intro h; unfold IsD at h; exact h
  · intro h; unfold IsD; exact h
/-- such a tuple, as any other -/
theorem isD_tn_tup {ns : List Int} (h : IsD K Hf (.tn ns) v) : IsD K Hf (.tup (ns.map D.int)) v := by
  obtain ⟨a, o, h1, h2, _⟩ := isD_tn.mp h
  exact isD_tup.mpr ⟨a, _, h1, .inr (.inl ⟨o, ns, h2, rfl⟩), IsDs.of_ints ns⟩
/-- the items of a list or a tuple, frozen or of the memory -/
def seqM (M : Mem) : D → Option (List D)
  | .tup ds => some ds
  | .lst ds => some ds
  | .fz ds => some ds
  | .ref a => match M a with | some (.lst ds) => some ds | _ => none
  | _ => none
def lstM (M : Mem) : D → Option (List D)
  | .lst ds => some ds
  | .ref a => match M a with | some (.lst ds) => some ds | _ => none
  | _ => none
def lstF (M : Mem) : D → Option (List D)
  | .lst ds => some ds
  | .fz ds => some ds
  | .ref a => match M a with | some (.lst ds) => some ds | _ => none
  | _ => none
theorem seqM_some (W : Wd K S₀ Hf M H) {x : D} {v : V} {ds : List D} (i : IsD K Hf x v) (h : seqM M x = some ds) : ∃ a xs, v = .ref a ∧ (SqL K H a xs ∨ SqT K H a xs) ∧ IsDs K Hf ds xs := by
  cases x <;> simp only [seqM] at h
  case tup es => cases h; obtain ⟨a, xs, h1, h2, h3⟩ := isD_tup.mp i; exact ⟨a, xs, h1, .inr (h2.up W.fro).sq, h3⟩
  case lst es => cases h; obtain ⟨a, xs, h1, h2, h3⟩ := isD_lst.mp i; exact ⟨a, xs, h1, .inl (SqL.of (W.fro _ _ h2)), h3⟩
  case fz es => cases h; obtain ⟨a, xs, h1, h2, h3⟩ := isD_fz.mp i; exact ⟨a, xs, h1, .inl (ex_l W.fro h2), h3⟩
  case ref a =>
    split at h <;> cases h
    rename_i e
    obtain ⟨_, o, h1, xs, rfl, h2⟩ := W.mem a _ e
    exact ⟨a, xs, isD_ref.mp i, .inl (SqL.of h1), h2⟩
  all_goals cases h
theorem lstM_some (W : Wd K S₀ Hf M H) {x : D} {v : V} {ds : List D} (i : IsD K Hf x v) (h : lstM M x = some ds) : ∃ a xs, v = .ref a ∧ H a = some (.lst xs) ∧ IsDs K Hf ds xs := by
  cases x <;> simp only [lstM] at h
  case lst es => cases h; obtain ⟨a, xs, h1, h2, h3⟩ := isD_lst.mp i; exact ⟨a, xs, h1, W.fro _ _ h2, h3⟩
  case ref a =>
    split at h <;> cases h
    rename_i e
    obtain ⟨_, o, h1, xs, rfl, h2⟩ := W.mem a _ e
    exact ⟨a, xs, isD_ref.mp i, h1, h2⟩
  all_goals cases h
theorem lstF_some (W : Wd K S₀ Hf M H) {x : D} {v : V} {ds : List D} (i : IsD K Hf x v) (h : lstF M x = some ds) : ∃ a xs, v = .ref a ∧ SqL K H a xs ∧ IsDs K Hf ds xs := by
  cases x <;> simp only [lstF] at h
  case lst es => cases h; obtain ⟨a, xs, h1, h2, h3⟩ := isD_lst.mp i; exact ⟨a, xs, h1, SqL.of (W.fro _ _ h2), h3⟩
  case fz es => cases h; obtain ⟨a, xs, h1, h2, h3⟩ := isD_fz.mp i; exact ⟨a, xs, h1, ex_l W.fro h2, h3⟩
  case ref a =>
    split at h <;> cases h
    rename_i e
    obtain ⟨_, o, h1, xs, rfl, h2⟩ := W.mem a _ e
    exact ⟨a, xs, isD_ref.mp i, SqL.of h1, h2⟩
  all_goals cases h
/-- a new frozen list, a new tuple -/
theorem Wd.newLst (W : Wd K S₀ Hf M H) {p : Addr} {ds : List D} {xs : List V} (h : H p = none) (i : IsDs K Hf ds xs) :
    Wd K S₀ (upd Hf p (.lst xs)) M (upd H p (.lst xs)) ∧ Stp Hf M H (upd Hf p (.lst xs)) M (upd H p (.lst xs)) ∧ IsD K (upd Hf p (.lst xs)) (.lst ds) (.ref p) := by
  obtain ⟨w, s⟩ := W.newF (o := .lst xs) h
  exact ⟨w, s, isD_lst.mpr ⟨p, xs, rfl, upd_same, IsDs.mono s.ex _ _ i⟩⟩
theorem Wd.newTup (W : Wd K S₀ Hf M H) {p : Addr} {ds : List D} {xs : List V} (h : H p = none) (i : IsDs K Hf ds xs) :
    Wd K S₀ (upd Hf p (.tup xs)) M (upd H p (.tup xs)) ∧ Stp Hf M H (upd Hf p (.tup xs)) M (upd H p (.tup xs)) ∧ IsD K (upd Hf p (.tup xs)) (.tup ds) (.ref p) := by
  obtain ⟨w, s⟩ := W.newF (o := .tup xs) h
  exact ⟨w, s, isD_tup.mpr ⟨p, xs, rfl, .inl upd_same, IsDs.mono s.ex _ _ i⟩⟩
theorem Knt.go {Φ : KD} {Q : VK} (k : Knt K S₀ Hf M H Φ Q) (W : Wd K S₀ Hf M H) {d : D} {v : V} (p : Φ d M) (i : IsD K Hf d v) : Q v H := k d M v Hf H p W Stp.refl i
end
def lim : Nat := 1000000
theorem lim_ok {n : Nat} (h : n ≤ lim) : n ≤ sizeLine := Nat.le_trans h (by decide)
theorem lim_lt {n : Nat} (h : n < lim) : n < sizeLine := Nat.lt_of_lt_of_le h (by decide)

/-! ### expressions -/
def wVar (i : Nat) : WE := fun ρ M Φ => match at_ ρ i with | some d => Φ d M | none => False
def wC (d : D) : WE := fun _ M Φ => Φ d M
section
variable {X : Cx} {pos : Pos}
theorem ve_var (i : Nat) {x : Str} (hN : X.N[i]? = some x := by rfl) (hv : Vis X.env.scope x := by first | exact Or.inl rfl | exact Or.inr (Or.inl rfl) | exact Or.inr (Or.inr rfl)) (hd : (x == ("__debug__" : Str)) = false := by decide)
    (hcd : (x == ("__classdict__" : Str)) = false := by decide) : VE X S₀ (.Name x pos) (wVar i) :=
  PE.imp (pv i hN hv hd hcd) fun σ H Q ⟨Hf, ρ, M, Φ, W, e, h, k⟩ => by
    unfold wVar at h
    split at h
    · rename_i d hd
      obtain ⟨v, h1, h2⟩ := e.at hd
      exact ⟨v, h1, k.go W h h2⟩
    · exact h.elim
theorem ve_of_c {e : Expr} {v : V} {d : D} (h : PE X e (tC v)) (hd : ∀ Hf, IsD X.K Hf d v) : VE X S₀ e (wC d) :=
  PE.imp h fun σ H Q ⟨Hf, ρ, M, Φ, W, e, h, k⟩ => k.go W h (hd Hf)
theorem ve_int {i : Int} {j} : VE X S₀ (.Constant (.int i) j pos) (wC (.int i)) := ve_of_c pe_int fun _ => isD_int.mpr rfl
theorem ve_bl {b : Bool} {j} : VE X S₀ (.Constant (.bool b) j pos) (wC (.bl b)) := ve_of_c pe_bl fun _ => isD_bl.mpr rfl
theorem ve_non {j} : VE X S₀ (.Constant .none j pos) (wC .non) := ve_of_c pe_non fun _ => isD_non.mpr rfl
theorem ve_str {x : Str} {j} : VE X S₀ (.Constant (.str x) j pos) (wC (.str x)) := ve_of_c pe_str fun _ => isD_str.mpr rfl
theorem ve_gint {x : Str} {i : Int} {t : Tok} (hg : Gl X x) (hm : X.mg x = some (.int i t)) (hd : (x == ("__debug__" : Str)) = false := by decide) : VE X S₀ (.Name x pos) (wC (.int i)) :=
  ve_of_c (pe_glob (v := .int i) hg hm ⟨t, rfl⟩ hd) fun _ => isD_int.mpr rfl
theorem ve_bty {x : Str} {n : String} (hg : Gl X x) (hm : X.mg x = none) (hv : bootBuiltins x = some (.type n)) (hn : x ≠ "__name__" := by decide) (hd : (x == ("__debug__" : Str)) = false := by decide) : VE X S₀ (.Name x pos) (wC (.ty n)) :=
  ve_of_c (pe_bltn (v := .ty n) hg hm hv rfl hn hd) fun _ => isD_ty.mpr rfl
end

/-! ### operators -/
abbrev WR := D → D → Mem → KD → Prop
def LkR (K : PySem.W.Frag) (r : R2) (wr : WR) : Prop := ∀ (S₀ : W0) Hf M H x y v u Φ Q, Wd K S₀ Hf M H → IsD K Hf x v → IsD K Hf y u → wr x y M Φ → Knt K S₀ Hf M H Φ Q → r v u H Q
def kOp2 (wr : WR) (x : D) (Φ : KD) : KD := fun y M => wr x y M Φ
def kOp1 (wr : WR) (wb : WE) (ρ : Sg) (Φ : KD) : KD := fun x M => wb ρ M (kOp2 wr x Φ)
def wOp (wr : WR) (wa wb : WE) : WE := fun ρ M Φ => wa ρ M (kOp1 wr wb ρ Φ)
theorem lift_op {K : PySem.W.Frag} {r : R2} {wr : WR} {wa wb : WE} (lk : LkR K r wr) {σ : St} {H : Hp} {Q : VK} (h : liftE K S₀ (wOp wr wa wb) σ H Q) : tOp r (liftE K S₀ wa) (liftE K S₀ wb) σ H Q := by
  obtain ⟨Hf, ρ, M, Φ, W, e, h, k⟩ := h
  refine ⟨Hf, ρ, M, _, W, e, h, fun x M1 v Hf1 H1 h1 W1 s1 i1 => ?_⟩
  refine ⟨Hf1, ρ, M1, _, W1, e.mono s1.ex, h1, fun y M2 u Hf2 H2 h2 W2 s2 i2 => ?_⟩
  exact lk _ Hf2 M2 H2 x y v u Φ Q W2 (IsD.mono s2.ex _ _ i1) i2 h2 (k.at (s1.trans s2))
section
variable {X : Cx} {a b : Expr} {wa wb : WE} {pos : Pos} {r : R2} {wr : WR}
theorem ve_op {op : Operator} (ho : OpR X (binaryOp op) r) (lk : LkR X.K r wr) (ha : VE X S₀ a wa) (hb : VE X S₀ b wb) : VE X S₀ (.BinOp a op b pos) (wOp wr wa wb) := PE.imp (pe_op ho ha hb) fun _ _ _ h => lift_op lk h
theorem ve_cmp {op : CmpOp} (ho : OpR X (compareOp op) r) (lk : LkR X.K r wr) (ha : VE X S₀ a wa) (hb : VE X S₀ b wb) (hm : behindInMarks op b = false) : VE X S₀ (.Compare a [op] [b] pos) (wOp wr wa wb) := PE.imp (pe_cmpR ho ha hb hm) fun _ _ _ h => lift_op lk h
theorem ve_ixR (hr : IxR X r) (lk : LkR X.K r wr) (ha : VE X S₀ a wa) (hb : VE X S₀ b wb) (hs : PlainIx b) : VE X S₀ (.Subscript a b pos) (wOp wr wa wb) := PE.imp (pe_ix hr ha hb hs) fun _ _ _ h => lift_op lk h
end
def wrI (g : Int → Int → D) : WR := fun x y M Φ => match x, y with | .int i, .int j => Φ (g i j) M | _, _ => False
def wrIC (C : Int → Int → Prop) (g : Int → Int → D) : WR := fun x y M Φ => match x, y with | .int i, .int j => C i j ∧ Φ (g i j) M | _, _ => False
theorem lk_I0 {K : PySem.W.Frag} {gV : Int → Int → V} {gD : Int → Int → D} (hg : ∀ Hf i j, IsD K Hf (gD i j) (gV i j)) : LkR K (rI0 gV) (wrI gD) := by
  intro S₀ Hf M H x y v u Φ Q W ix iy h k
  cases x <;> cases y <;> try exact h.elim
  rename_i i j
  exact ⟨i, j, isD_int.mp ix, isD_int.mp iy, k.go W h (hg _ _ _)⟩
theorem lk_I {K : PySem.W.Frag} {C : Int → Int → Prop} {gV : Int → Int → V} {gD : Int → Int → D} (hg : ∀ Hf i j, IsD K Hf (gD i j) (gV i j)) : LkR K (rI C gV) (wrIC C gD) := by
  intro S₀ Hf M H x y v u Φ Q W ix iy h k
  cases x <;> cases y <;> try exact h.elim
  rename_i i j
  exact ⟨i, j, isD_int.mp ix, isD_int.mp iy, h.1, k.go W h.2 (hg _ _ _)⟩
/-- x + y: ints, tuples, lists, texts -/
def wrAdd : WR := fun x y M Φ => match x, y with
  | .int i, .int j => Φ (.int (i + j)) M
  | .tup a, .tup b => a.length + b.length ≤ lim ∧ Φ (.tup (a ++ b)) M
  | .str a, .str b => a.length + b.length ≤ lim ∧ Φ (.str (a ++ b)) M
  | x, y => match lstM M x, lstM M y with
    | some a, some b => a.length + b.length ≤ lim ∧ Φ (.lst (a ++ b)) M
    | _, _ => False
def rPlus (K : PySem.W.Frag) : R2 := fun x y H Q => rI0 (fun i j => .int (i + j)) x y H Q ∨ rCatA K x y H Q ∨ rCat x y H Q ∨ (∃ i j, x = .str i ∧ y = .str j ∧ i.length + j.length ≤ sizeLine ∧ Q (.str (i ++ j)) H)
theorem op_plus {X : Cx} : OpR X (binaryOp .Add) (rPlus X.K) := OpR.or op_add (OpR.or op_catA (OpR.or op_cat op_add_str))
theorem lk_lcat {K : PySem.W.Frag} {Hf : Hp} {M : Mem} {H : Hp} {x y : D} {v u : V} {Φ : KD} {Q : VK} (W : Wd K S₀ Hf M H) (ix : IsD K Hf x v) (iy : IsD K Hf y u) (k : Knt K S₀ Hf M H Φ Q)
    (h : match lstM M x, lstM M y with | some a, some b => a.length + b.length ≤ lim ∧ Φ (.lst (a ++ b)) M | _, _ => False) : rCat v u H Q := by
  split at h
  · rename_i a b e1 e2
    obtain ⟨p, xs, rfl, h1, i1⟩ := lstM_some W ix e1
    obtain ⟨q, ys, rfl, h2, i2⟩ := lstM_some W iy e2
    refine ⟨p, q, xs, ys, rfl, rfl, h1, h2, by rw [← i1.len, ← i2.len]; exact lim_ok h.1, fun l hl => ?_⟩
    obtain ⟨w, s, i⟩ := W.newLst hl (i1.app i2)
    exact k _ _ _ _ _ h.2 w s i
  · exact h.elim
theorem lk_add {K : PySem.W.Frag} : LkR K (rPlus K) wrAdd := by
  intro S₀ Hf M H x y v u Φ Q W ix iy h k
  unfold wrAdd at h
  split at h
  · exact .inl ⟨_, _, isD_int.mp ix, isD_int.mp iy, k.go W h (isD_int.mpr rfl)⟩
  · rename_i a b
    obtain ⟨p, xs, rfl, h1, i1⟩ := isD_tup.mp ix
    obtain ⟨q, ys, rfl, h2, i2⟩ := isD_tup.mp iy
    refine .inr (.inl ⟨p, q, xs, ys, rfl, rfl, (h1.up W.fro).sq, (h2.up W.fro).sq, by rw [← i1.len, ← i2.len]; exact lim_ok h.1, fun e => ?_, fun _ e => ?_, fun _ _ l hl => ?_⟩)
    · subst e
      have e1 : a = [] := List.eq_nil_of_length_eq_zero i1.len
      subst e1
      exact k.go W h.2 iy
    · subst e
      have e1 : b = [] := List.eq_nil_of_length_eq_zero i2.len
      subst e1
      have h2 := h.2
      rw [List.append_nil] at h2
      exact k.go W h2 ix
    · obtain ⟨w, s, i⟩ := W.newTup hl (i1.app i2)
      exact k _ _ _ _ _ h.2 w s i
  · exact .inr (.inr (.inr ⟨_, _, isD_str.mp ix, isD_str.mp iy, lim_ok h.1, k.go W h.2 (isD_str.mpr rfl)⟩))
  · exact .inr (.inr (.inl (lk_lcat W ix iy k h)))
/-- x * y: ints, a list so many times -/
def wrMul : WR := fun x y M Φ => match x, y with
  | .int i, .int j => CMulW i j ∧ Φ (.int (i * j)) M
  | x, .int j => match lstM M x with
    | some a => (-(2 ^ 63) ≤ j ∧ j < 2 ^ 63 ∧ a.length * j.toNat ≤ lim) ∧ Φ (.lst (List.replicate j.toNat a).flatten) M
    | _ => False
  | _, _ => False
theorem IsDs.rep {K : PySem.W.Frag} {Hf : Hp} {ds : List D} {vs : List V} (h : IsDs K Hf ds vs) : ∀ k : Nat, IsDs K Hf (List.replicate k ds).flatten (List.replicate k vs).flatten
  | 0 => isDs_nil
  | k + 1 => by rw [List.replicate_succ, List.replicate_succ, List.flatten_cons, List.flatten_cons]; exact h.app (IsDs.rep h k)
theorem lk_mul {K : PySem.W.Frag} : LkR K (fun x y H Q => rI CMulW (fun i j => .int (i * j)) x y H Q ∨ rRep x y H Q) wrMul := by
  intro S₀ Hf M H x y v u Φ Q W ix iy h k
  unfold wrMul at h
  split at h
  · exact .inl ⟨_, _, isD_int.mp ix, isD_int.mp iy, h.1, k.go W h.2 (isD_int.mpr rfl)⟩
  · split at h
    · rename_i a e1
      obtain ⟨p, xs, rfl, h1, i1⟩ := lstM_some W ix e1
      refine .inr ⟨p, _, xs, rfl, isD_int.mp iy, h1, h.1.1, h.1.2.1, by rw [← i1.len]; exact lim_ok h.1.2.2, fun l hl => ?_⟩
      obtain ⟨w, s, i⟩ := W.newLst hl (i1.rep _)
      exact k _ _ _ _ _ h.2 w s i
    · exact h.elim
  · exact h.elim
theorem op_mult {X : Cx} : OpR X (binaryOp .Mult) (fun x y H Q => rI CMulW (fun i j => .int (i * j)) x y H Q ∨ rRep x y H Q) := OpR.or op_mulW op_rep
/-! == and != of data -/
mutual
def py : D → Option PyData
  | .non => some .none
  | .bl b => some (.bool b)
  | .int i => some (.int i)
  | .str x => some (.str x)
  | .tup ds => (pys ds).map .tuple
  | .lst ds => (pys ds).map .list
  | _ => none
def pys : List D → Option (List PyData)
  | [] => some []
  | d :: ds => match py d, pys ds with | some p, some ps => some (p :: ps) | _, _ => none
end
def pyM (M : Mem) (d : D) : Option PyData := match d with
  | .ref a => match M a with | some (.lst ds) => (pys ds).map .list | _ => none
  | d => py d
section
variable {K : PySem.W.Frag} {Hf : Hp} {M : Mem} {H : Hp}
mutual
theorem dp_of (fro : Ex Hf H) : ∀ (d : D) (v : V) (p : PyData), IsD K Hf d v → py d = some p → Dp K H v p
  | .non, v, p, i, h => by cases h; rw [isD_non.mp i]; exact .non
  | .bl b, v, p, i, h => by cases h; rw [isD_bl.mp i]; exact .bl b
  | .int b, v, p, i, h => by cases h; rw [isD_int.mp i]; exact .int b
  | .str b, v, p, i, h => by cases h; rw [isD_str.mp i]; exact .str b
  | .ref _, _, _, _, h => by cases h
  | .ty _, _, _, _, h => by cases h
  | .fz _, _, _, _, h => by cases h
  | .tn _, _, _, _, h => by cases h
  | .tup ds, v, p, i, h => by
    obtain ⟨a, xs, rfl, h1, h2⟩ := isD_tup.mp i
    rw [py] at h
    cases e : pys ds with
    | none => rw [e] at h; cases h
    | some ps => rw [e] at h; cases h; exact .tup (h1.up fro).sq (dps_of fro ds xs ps h2 e)
  | .lst ds, v, p, i, h => by
    obtain ⟨a, xs, rfl, h1, h2⟩ := isD_lst.mp i
    rw [py] at h
    cases e : pys ds with
    | none => rw [e] at h; cases h
    | some ps => rw [e] at h; cases h; exact .lst (SqL.of (fro _ _ h1)) (dps_of fro ds xs ps h2 e)
theorem dps_of (fro : Ex Hf H) : ∀ (ds : List D) (vs : List V) (ps : List PyData), IsDs K Hf ds vs → pys ds = some ps → DpAll K H vs ps
  | [], vs, ps, i, h => by cases h; rw [isDs_nil_inv i]; exact .nil
  | d :: ds, vs, ps, i, h => by
    obtain ⟨v, r, rfl, h1, h2⟩ := isDs_cons_inv i
    rw [pys] at h
    cases e : py d with
    | none => rw [e] at h; cases h
    | some p =>
      cases e2 : pys ds with
      | none => rw [e, e2] at h; cases h
      | some ps' => rw [e, e2] at h; cases h; exact .cons (dp_of fro d v p h1 e) (dps_of fro ds r ps' h2 e2)
end
theorem dpM_of (W : Wd K S₀ Hf M H) {d : D} {v : V} {p : PyData} (i : IsD K Hf d v) (h : pyM M d = some p) : Dp K H v p := by
  unfold pyM at h
  split at h
  · split at h
    · rename_i a e ds e2
      obtain ⟨_, o, h1, xs, rfl, h2⟩ := W.mem a _ e2
      rw [isD_ref.mp i]
      cases e3 : pys ds with
      | none => rw [e3] at h; cases h
      | some ps => rw [e3] at h; cases h; exact .lst (SqL.of h1) (dps_of W.fro ds xs ps h2 e3)
    · cases h
  · exact dp_of W.fro _ _ _ i h
end
def wrEq : WR := fun x y M Φ => match pyM M x, pyM M y with | some p, some q => (SeqAt.shaped p = true ∧ SeqAt.shaped q = true) ∧ Φ (.bl (PyData.eqv p q)) M | _, _ => False
def wrNe : WR := fun x y M Φ => match pyM M x, pyM M y with | some p, some q => (SeqAt.shaped p = true ∧ SeqAt.shaped q = true) ∧ Φ (.bl (!PyData.eqv p q)) M | _, _ => False
theorem lk_eq {K : PySem.W.Frag} : LkR K (rEqD K) wrEq := by
  intro S₀ Hf M H x y v u Φ Q W ix iy h k
  unfold wrEq at h
  split at h
  · rename_i p q e1 e2
    exact ⟨p, q, dpM_of W ix e1, dpM_of W iy e2, h.1.1, h.1.2, k.go W h.2 (isD_bl.mpr rfl)⟩
  · exact h.elim
theorem lk_ne {K : PySem.W.Frag} : LkR K (rNeD K) wrNe := by
  intro S₀ Hf M H x y v u Φ Q W ix iy h k
  unfold wrNe at h
  split at h
  · rename_i p q e1 e2
    exact ⟨p, q, dpM_of W ix e1, dpM_of W iy e2, h.1.1, h.1.2, k.go W h.2 (isD_bl.mpr rfl)⟩
  · exact h.elim
/-! is None -/
def isN : D → Bool
  | .non => true
  | _ => false
def wrIsN : WR := fun x y M Φ => match y with | .non => Φ (.bl (isN x)) M | _ => False
def wrNotN : WR := fun x y M Φ => match y with | .non => Φ (.bl (!isN x)) M | _ => False
theorem dec_non {K : PySem.W.Frag} {Hf : Hp} {x : D} {v : V} (i : IsD K Hf x v) : decide (v = .non) = isN x := by
  cases x
  case non => rw [isD_non.mp i]; rfl
  case bl => rw [isD_bl.mp i]; rfl
  case int => rw [isD_int.mp i]; rfl
  case str => rw [isD_str.mp i]; rfl
  case ref => rw [isD_ref.mp i]; rfl
  case ty => rw [isD_ty.mp i]; rfl
  case tup => obtain ⟨a, xs, rfl, _⟩ := isD_tup.mp i; rfl
  case lst => obtain ⟨a, xs, rfl, _⟩ := isD_lst.mp i; rfl
  case fz => obtain ⟨a, xs, rfl, _⟩ := isD_fz.mp i; rfl
  case tn => obtain ⟨a, o, rfl, _⟩ := isD_tn.mp i; rfl
theorem lk_isN {K : PySem.W.Frag} : LkR K (fun x y H Q => y = .non ∧ Q (.bl (decide (x = .non))) H) wrIsN := by
  intro S₀ Hf M H x y v u Φ Q W ix iy h k
  unfold wrIsN at h
  split at h
  · refine ⟨isD_non.mp iy, k.go W h (isD_bl.mpr ?_)⟩
    rw [dec_non ix]
  · exact h.elim
theorem lk_notN {K : PySem.W.Frag} : LkR K (fun x y H Q => y = .non ∧ Q (.bl (!decide (x = .non))) H) wrNotN := by
  intro S₀ Hf M H x y v u Φ Q W ix iy h k
  unfold wrNotN at h
  split at h
  · refine ⟨isD_non.mp iy, k.go W h (isD_bl.mpr ?_)⟩
    rw [dec_non ix]
  · exact h.elim
/-! in -/
def flatD : D → Bool
  | .non => true | .bl _ => true | .int _ => true | .str _ => true | _ => false
def eqF : D → D → Bool
  | .non, .non => true
  | .bl a, .bl b => a == b
  | .bl a, .int b => (if a then 1 else 0) == b
  | .int a, .bl b => a == (if b then 1 else 0)
  | .int a, .int b => a == b
  | .str a, .str b => a == b
  | _, _ => false
def inF (x : D) (ds : List D) : Bool := ds.any fun y => eqF y x
def toV : D → V
  | .non => .non | .bl b => .bl b | .int i => .int i | .str x => .str x | _ => .non
section
variable {K : PySem.W.Frag} {Hf : Hp}
theorem flat_val {x : D} {v : V} (f : flatD x = true) (i : IsD K Hf x v) : v = toV x ∧ flatV v = true := by
  cases x <;> try cases f
  case non => rw [isD_non.mp i]; exact ⟨rfl, rfl⟩
  case bl => rw [isD_bl.mp i]; exact ⟨rfl, rfl⟩
  case int => rw [isD_int.mp i]; exact ⟨rfl, rfl⟩
  case str => rw [isD_str.mp i]; exact ⟨rfl, rfl⟩
theorem eqF_V {x y : D} (f : flatD x = true) (g : flatD y = true) : eqV (toV x) (toV y) = eqF x y := by
  cases x <;> cases y <;> first | (exact absurd g Bool.false_ne_true) | (exact absurd f Bool.false_ne_true) | rfl
theorem flat_vals : ∀ {ds : List D} {vs : List V}, ds.all flatD = true → IsDs K Hf ds vs → vs = ds.map toV ∧ vs.all flatV = true
  | [], vs, _, i => by rw [isDs_nil_inv i]; exact ⟨rfl, rfl⟩
  | d :: ds, vs, f, i => by
    obtain ⟨v, r, rfl, h1, h2⟩ := isDs_cons_inv i
    rw [List.all_cons, Bool.and_eq_true] at f
    obtain ⟨e1, e2⟩ := flat_val f.1 h1
    obtain ⟨e3, e4⟩ := flat_vals f.2 h2
    rw [e3] at e4 ⊢
    refine ⟨by rw [e1]; rfl, ?_⟩
    rw [List.all_cons, e2, e4]; rfl
theorem inF_V {x : D} (f : flatD x = true) : ∀ {ds : List D}, ds.all flatD = true → inV (toV x) (ds.map toV) = inF x ds
  | [], _ => rfl
  | d :: ds, g => by
    rw [List.all_cons, Bool.and_eq_true] at g
    have ih := inF_V f g.2
    unfold inV inF at *
    rw [List.map_cons, List.any_cons, List.any_cons, eqF_V g.1 f, ih]
end
/-- a key of a dict -/
def keyD : D → Option Key
  | .int i => some (.inl i)
  | .str x => some (.inr x)
  | _ => none
theorem keyD_V {K : PySem.W.Frag} {Hf : Hp} {x : D} {v : V} {k : Key} (h : keyD x = some k) (i : IsD K Hf x v) : v = kV k := by
  cases x <;> cases h
  · exact isD_int.mp i
  · exact isD_str.mp i
/-- the dict at a: what it holds -/
def dkM (M : Mem) : D → Option (List (Key × D))
  | .ref a => match M a with | some (.dK kvs) => some kvs | some (.lk _ _ kvs) => some kvs | _ => none
  | _ => none
theorem dkM_some {K : PySem.W.Frag} {Hf : Hp} {M : Mem} {H : Hp} (W : Wd K S₀ Hf M H) {x : D} {v : V} {kvs : List (Key × D)} (i : IsD K Hf x v) (h : dkM M x = some kvs) : ∃ a vs, x = .ref a ∧ v = .ref a ∧ Rd H a (.dK vs) ∧ IsKs K Hf kvs vs := by
  cases x <;> simp only [dkM] at h
  case ref a =>
    split at h <;> cases h
    · rename_i e
      obtain ⟨_, o, h1, xs, rfl, h2⟩ := W.mem a _ e
      exact ⟨a, xs, rfl, isD_ref.mp i, .inl h1, h2⟩
    · rename_i od xs e
      obtain ⟨_, o, h1, rfl, h2⟩ := W.mem a _ e
      exact ⟨a, xs, rfl, isD_ref.mp i, .inr ⟨od, h1⟩, h2⟩
  all_goals cases h
def wrIn (neg : Bool) : WR := fun x y M Φ => match seqM M y with
  | some ds => (flatD x = true ∧ ds.all flatD = true) ∧ Φ (.bl (if neg then !inF x ds else inF x ds)) M
  | none => match dkM M y, keyD x with
    | some kvs, some k => Φ (.bl (if neg then !(look kvs k).isSome else (look kvs k).isSome)) M
    | _, _ => False
def rInD (neg : Bool) : R2 := fun y x H Q => ∃ a o, x = .ref a ∧ DGet H a y o ∧ Q (.bl (if neg then !o.isSome else o.isSome)) H
theorem op_inD {X : Cx} (hu : X.A.units + 1 < cLine) : OpR X (compareOp .In) (rInD false) := by
  intro pins s σ H x y v u Q I rx ry h
  obtain ⟨a, o, rfl, g, q⟩ := h
  obtain rfl : u = Value.ref a := ry
  exact d_in hu I g rx fun s3 I3 => ⟨.bl o.isSome, H, I3, rfl, q⟩
theorem op_ninD {X : Cx} (hu : X.A.units + 1 < cLine) : OpR X (compareOp .NotIn) (rInD true) := by
  intro pins s σ H x y v u Q I rx ry h
  obtain ⟨a, o, rfl, g, q⟩ := h
  obtain rfl : u = Value.ref a := ry
  exact d_notIn hu I g rx fun s3 I3 => ⟨.bl !o.isSome, H, I3, rfl, q⟩
theorem look_rel {K : PySem.W.Frag} {Hf : Hp} {kvs : List (Key × D)} {vs : List (Key × V)} (i : IsKs K Hf kvs vs) (k : Key) : (valV vs k).isSome = (look kvs k).isSome := by
  obtain ⟨h1, h2⟩ := i.val k
  cases e : look kvs k with
  | none => rw [h1 e]; rfl
  | some d => obtain ⟨v, e2, _⟩ := h2 d e; rw [e2]; rfl
theorem lk_in {K : PySem.W.Frag} {neg : Bool} : LkR K (fun x y H Q => rIn K neg x y H Q ∨ rInD neg x y H Q) (wrIn neg) := by
  intro S₀ Hf M H x y v u Φ Q W ix iy h k
  unfold wrIn at h
  split at h
  · rename_i ds e
    obtain ⟨a, xs, rfl, h1, h2⟩ := seqM_some W iy e
    obtain ⟨e1, e2⟩ := flat_val h.1.1 ix
    obtain ⟨e3, e4⟩ := flat_vals h.1.2 h2
    subst e1 e3
    refine .inl ⟨a, _, rfl, h1, e2, e4, ?_⟩
    rw [inF_V h.1.1 h.1.2]
    exact k.go W h.2 (isD_bl.mpr rfl)
  · split at h
    · rename_i kvs key e1 e2
      obtain ⟨a, vs, rfl, rfl, h1, h2⟩ := dkM_some W iy e1
      rw [keyD_V e2 ix]
      refine .inr ⟨a, _, rfl, .inl ⟨vs, key, h1, rfl, rfl⟩, ?_⟩
      rw [look_rel h2]
      exact k.go W h (isD_bl.mpr rfl)
    · exact h.elim
theorem op_in {X : Cx} (hu : X.A.units + 1 < cLine) : OpR X (compareOp .In) (fun x y H Q => rIn X.K false x y H Q ∨ rInD false x y H Q) := OpR.or op_in_seq (op_inD hu)
theorem op_nin {X : Cx} (hu : X.A.units + 1 < cLine) : OpR X (compareOp .NotIn) (fun x y H Q => rIn X.K true x y H Q ∨ rInD true x y H Q) := OpR.or op_notIn_seq (op_ninD hu)
/-! subscripts: list, tuple, dict -/
def atD (ds : List D) (i : Int) : Option D := (ixN ds.length i).bind fun j => ds[j]?
def wrIx : WR := fun x y M Φ => match seqM M x, y with
  | some ds, .int i => match atD ds i with | some d => Φ d M | none => False
  | _, _ => match dkM M x, keyD y with
    | some kvs, some k => match look kvs k with | some d => Φ d M | none => False
    | _, _ => False
def rIxD : R2 := fun x y H Q => ∃ a v, x = .ref a ∧ DGet H a y (some v) ∧ Q v H
theorem ix_dict {X : Cx} (hu : X.A.units + 1 < cLine) : IxR X rIxD := by
  intro value slice pins s σ H x y v u Q I rx ry h hs
  obtain ⟨a, z, rfl, g, q⟩ := h
  obtain rfl : v = Value.ref a := rx
  have hT := dict_typeIs I g
  unfold subscriptTail
  refine wpAny_bind ?_
  rw [getitemInPython_of_ne hT.not_modules]
  refine wpAny_bind (wpAny_specialOf hT PySem.F.slot_dict_getitem.lookup ?_)
  have fin : wpAny (model X.prog X.w) X.A (subscripted slice false (.ref a) u) (fun r s₃ => wpAny (model X.prog X.w) X.A (letTemporaryGo value (.ref a) r >>= fun _ => pure r) (EP X pins σ Q) X.xe s₃) X.xe s := by
    rw [hs]
    exact wpAny_operating (wpAny_mono (d_getItem hu I g ry fun w' s3 I3 rw' => (⟨z, H, I3, rw', q⟩ : EP X pins σ Q w' s3)) (fun r s₃ h₃ => wpAny_bind (wpAny_letTemporaryGo (wpAny_pure h₃))) fun _ _ x => x)
  exact wpAny_pure (wpAny_bind fin)
theorem atD_V {K : PySem.W.Frag} {Hf : Hp} {ds : List D} {vs : List V} {i : Int} {d : D} (h : IsDs K Hf ds vs) (e : atD ds i = some d) : ∃ v, atI vs i = some v ∧ IsD K Hf d v := by
  unfold atD at e
  unfold atI
  rw [← h.len]
  cases e2 : ixN ds.length i with
  | none => rw [e2] at e; cases e
  | some j => rw [e2] at e; exact h.get e
theorem lk_ix {K : PySem.W.Frag} : LkR K (fun x y H Q => rIx K x y H Q ∨ rIxD x y H Q) wrIx := by
  intro S₀ Hf M H x y v u Φ Q W ix iy h k
  unfold wrIx at h
  split at h
  · rename_i ds i e
    split at h
    · rename_i d e2
      obtain ⟨a, xs, rfl, h1, h2⟩ := seqM_some W ix e
      obtain ⟨z, e3, i3⟩ := atD_V h2 e2
      rcases h1 with h1 | h1
      · exact .inl (.inl ⟨a, xs, i, z, rfl, isD_int.mp iy, h1, e3, k.go W h i3⟩)
      · exact .inl (.inr (.inl ⟨a, xs, i, z, rfl, isD_int.mp iy, h1, e3, k.go W h i3⟩))
    · exact h.elim
  · split at h
    · rename_i kvs key e1 e2
      split at h
      · rename_i d e3
        obtain ⟨a, vs, rfl, rfl, h1, h2⟩ := dkM_some W ix e1
        obtain ⟨z, e4, i4⟩ := (h2.val key).2 d e3
        rw [keyD_V e2 iy]
        refine .inr ⟨a, z, rfl, ?_, k.go W h i4⟩
        rw [← e4]
        exact .inl ⟨vs, key, h1, rfl, rfl⟩
      · exact h.elim
    · exact h.elim
theorem ix_all {X : Cx} (hu : X.A.units + 1 < cLine) : IxR X (fun x y H Q => rIx X.K x y H Q ∨ rIxD x y H Q) := IxR.or ix_seq (ix_dict hu)

section
variable {X : Cx} {a b : Expr} {wa wb : WE} {pos : Pos}
theorem ve_add (ha : VE X S₀ a wa) (hb : VE X S₀ b wb) : VE X S₀ (.BinOp a .Add b pos) (wOp wrAdd wa wb) := ve_op op_plus lk_add ha hb
theorem ve_sub (ha : VE X S₀ a wa) (hb : VE X S₀ b wb) : VE X S₀ (.BinOp a .Sub b pos) (wOp (wrI fun i j => .int (i - j)) wa wb) := ve_op op_sub (lk_I0 fun _ _ _ => isD_int.mpr rfl) ha hb
theorem ve_mul (ha : VE X S₀ a wa) (hb : VE X S₀ b wb) : VE X S₀ (.BinOp a .Mult b pos) (wOp wrMul wa wb) := ve_op op_mult lk_mul ha hb
theorem ve_fdiv (ha : VE X S₀ a wa) (hb : VE X S₀ b wb) : VE X S₀ (.BinOp a .FloorDiv b pos) (wOp (wrIC CDivW fun i j => .int (i / j)) wa wb) := ve_op op_fdivW (lk_I fun _ _ _ => isD_int.mpr rfl) ha hb
theorem ve_mod (ha : VE X S₀ a wa) (hb : VE X S₀ b wb) : VE X S₀ (.BinOp a .Mod b pos) (wOp (wrIC (fun _ j => 0 < j) fun i j => .int (i % j)) wa wb) := ve_op op_mod (lk_I fun _ _ _ => isD_int.mpr rfl) ha hb
theorem ve_pow (ha : VE X S₀ a wa) (hb : VE X S₀ b wb) : VE X S₀ (.BinOp a .Pow b pos) (wOp (wrIC CPow fun i j => .int (i ^ j.toNat)) wa wb) := ve_op op_pow (lk_I fun _ _ _ => isD_int.mpr rfl) ha hb
theorem ve_lt (ha : VE X S₀ a wa) (hb : VE X S₀ b wb) : VE X S₀ (.Compare a [.Lt] [b] pos) (wOp (wrI fun i j => .bl (decide (i < j))) wa wb) := ve_cmp op_lt (lk_I0 fun _ _ _ => isD_bl.mpr rfl) ha hb (nomark _)
theorem ve_le (ha : VE X S₀ a wa) (hb : VE X S₀ b wb) : VE X S₀ (.Compare a [.LtE] [b] pos) (wOp (wrI fun i j => .bl (decide (i ≤ j))) wa wb) := ve_cmp op_le (lk_I0 fun _ _ _ => isD_bl.mpr rfl) ha hb (nomark _)
theorem ve_gt (ha : VE X S₀ a wa) (hb : VE X S₀ b wb) : VE X S₀ (.Compare a [.Gt] [b] pos) (wOp (wrI fun i j => .bl (decide (j < i))) wa wb) := ve_cmp op_gt (lk_I0 fun _ _ _ => isD_bl.mpr rfl) ha hb (nomark _)
theorem ve_ge (ha : VE X S₀ a wa) (hb : VE X S₀ b wb) : VE X S₀ (.Compare a [.GtE] [b] pos) (wOp (wrI fun i j => .bl (decide (j ≤ i))) wa wb) := ve_cmp op_ge (lk_I0 fun _ _ _ => isD_bl.mpr rfl) ha hb (nomark _)
theorem ve_eq (hu : X.A.units + 64 < cLine) (ha : VE X S₀ a wa) (hb : VE X S₀ b wb) : VE X S₀ (.Compare a [.Eq] [b] pos) (wOp wrEq wa wb) := ve_cmp (op_eqD hu) lk_eq ha hb (nomark _)
theorem ve_ne (hu : X.A.units + 64 < cLine) (ha : VE X S₀ a wa) (hb : VE X S₀ b wb) : VE X S₀ (.Compare a [.NotEq] [b] pos) (wOp wrNe wa wb) := ve_cmp (op_neD hu) lk_ne ha hb (nomark _)
theorem ve_isN (ha : VE X S₀ a wa) (hb : VE X S₀ b wb) : VE X S₀ (.Compare a [.Is] [b] pos) (wOp wrIsN wa wb) := ve_cmp op_isN lk_isN ha hb (nomark _)
theorem ve_notN (ha : VE X S₀ a wa) (hb : VE X S₀ b wb) : VE X S₀ (.Compare a [.IsNot] [b] pos) (wOp wrNotN wa wb) := ve_cmp op_notN lk_notN ha hb (nomark _)
theorem ve_in (hu : X.A.units + 1 < cLine) (ha : VE X S₀ a wa) (hb : VE X S₀ b wb) (hm : behindInMarks .In b = false := by rfl) : VE X S₀ (.Compare a [.In] [b] pos) (wOp (wrIn false) wa wb) := ve_cmp (op_in hu) lk_in ha hb hm
theorem ve_nin (hu : X.A.units + 1 < cLine) (ha : VE X S₀ a wa) (hb : VE X S₀ b wb) (hm : behindInMarks .NotIn b = false := by rfl) : VE X S₀ (.Compare a [.NotIn] [b] pos) (wOp (wrIn true) wa wb) := ve_cmp (op_nin hu) lk_in ha hb hm
theorem ve_ix (hu : X.A.units + 1 < cLine) (ha : VE X S₀ a wa) (hb : VE X S₀ b wb) (hs : PlainIx b := by exact fun _ _ => rfl) : VE X S₀ (.Subscript a b pos) (wOp wrIx wa wb) := ve_ixR (ix_all hu) lk_ix ha hb hs
end
/-- -x -/
def kNeg (Φ : KD) : KD := fun x M => match x with | .int i => Φ (.int (-i)) M | _ => False
def wNeg (wa : WE) : WE := fun ρ M Φ => wa ρ M (kNeg Φ)
theorem ve_neg {X : Cx} {a : Expr} {wa : WE} {pos : Pos} (ha : VE X S₀ a wa) : VE X S₀ (.UnaryOp .USub a pos) (wNeg wa) := PE.imp (pe_un un_neg ha) fun σ H Q ⟨Hf, ρ, M, Φ, W, e, h, k⟩ => by
  refine ⟨Hf, ρ, M, _, W, e, h, fun x M1 v Hf1 H1 h1 W1 s1 i1 => ?_⟩
  unfold kNeg at h1
  split at h1
  · exact ⟨_, isD_int.mp i1, (k.at s1).go W1 h1 (isD_int.mpr rfl)⟩
  · exact h1.elim

/-! ### tests -/
def kTest (Φ : Bool → Mem → Prop) : KD := fun x M => match x with | .bl b => Φ b M | _ => False
def wTest (w : WE) : WT := fun ρ M Φ => w ρ M (kTest Φ)
def kAnd (u : WT) (ρ : Sg) (Φ : Bool → Mem → Prop) : Bool → Mem → Prop := fun b M => match b with | true => u ρ M Φ | false => Φ false M
def wAnd (t u : WT) : WT := fun ρ M Φ => t ρ M (kAnd u ρ Φ)
def kOr (u : WT) (ρ : Sg) (Φ : Bool → Mem → Prop) : Bool → Mem → Prop := fun b M => match b with | true => Φ true M | false => u ρ M Φ
def wOr (t u : WT) : WT := fun ρ M Φ => t ρ M (kOr u ρ Φ)
def kNot (Φ : Bool → Mem → Prop) : Bool → Mem → Prop := fun b M => Φ (!b) M
def wNot (t : WT) : WT := fun ρ M Φ => t ρ M (kNot Φ)
def kIfE (wa wb : WE) (ρ : Sg) (Φ : KD) : Bool → Mem → Prop := fun c M => match c with | true => wa ρ M Φ | false => wb ρ M Φ
def wIfE (t : WT) (wa wb : WE) : WE := fun ρ M Φ => t ρ M (kIfE wa wb ρ Φ)
/-- and, or, not of bools, as values -/
def kAndV (wb : WE) (ρ : Sg) (Φ : KD) : KD := fun x M => match x with | .bl true => wb ρ M Φ | .bl false => Φ (.bl false) M | _ => False
def wAndV (wa wb : WE) : WE := fun ρ M Φ => wa ρ M (kAndV wb ρ Φ)
def kOrV (wb : WE) (ρ : Sg) (Φ : KD) : KD := fun x M => match x with | .bl true => Φ (.bl true) M | .bl false => wb ρ M Φ | _ => False
def wOrV (wa wb : WE) : WE := fun ρ M Φ => wa ρ M (kOrV wb ρ Φ)
def kNotV (Φ : KD) : KD := fun x M => match x with | .bl b => Φ (.bl (!b)) M | _ => False
def wNotV (wa : WE) : WE := fun ρ M Φ => wa ρ M (kNotV Φ)
section
variable {X : Cx} {a b c e : Expr} {wa wb we : WE} {pos : Pos} {t u : WT} {rest : List Expr}
theorem lift_test {σ : St} {H : Hp} {Q : Bool → Hp → Prop} (h : liftT X.K S₀ (wTest we) σ H Q) : tB (liftE X.K S₀ we) σ H Q := by
  obtain ⟨Hf, ρ, M, Φ, W, e, h, k⟩ := h
  refine ⟨Hf, ρ, M, _, W, e, h, fun x M1 v Hf1 H1 h1 W1 s1 i1 => ?_⟩
  unfold kTest at h1
  split at h1
  · exact ⟨_, isD_bl.mp i1, k _ _ _ _ h1 W1 s1⟩
  · exact h1.elim
theorem vt_val (h : VE X S₀ e we) (he : ∀ whole, isTrue e X.env whole = (do let v ← whole; standAt e.pos; holding [v] (truthy v)) := by intro _; rfl) : VT X S₀ e (wTest we) :=
  PT.imp (pt_val h he) fun _ _ _ h => lift_test h
theorem vt_cmp {op : CmpOp} {r : R2} {wr : WR} (ho : OpR X (compareOp op) r) (lk : LkR X.K r wr) (ha : VE X S₀ a wa) (hb : VE X S₀ b wb) (hm : behindInMarks op b = false) : VT X S₀ (.Compare a [op] [b] pos) (wTest (wOp wr wa wb)) :=
  PT.imp (pt_cmpR ho ha hb hm) fun σ H Q h => by
    obtain ⟨Hf, ρ, M, Φ, W, e, h, k⟩ := h
    refine lift_op lk ⟨Hf, ρ, M, _, W, e, h, fun x M1 v Hf1 H1 h1 W1 s1 i1 => ?_⟩
    unfold kTest at h1
    split at h1
    · exact ⟨_, isD_bl.mp i1, k _ _ _ _ h1 W1 s1⟩
    · exact h1.elim
theorem vt_lt (ha : VE X S₀ a wa) (hb : VE X S₀ b wb) : VT X S₀ (.Compare a [.Lt] [b] pos) (wTest (wOp (wrI fun i j => .bl (decide (i < j))) wa wb)) := vt_cmp op_lt (lk_I0 fun _ _ _ => isD_bl.mpr rfl) ha hb (nomark _)
theorem vt_le (ha : VE X S₀ a wa) (hb : VE X S₀ b wb) : VT X S₀ (.Compare a [.LtE] [b] pos) (wTest (wOp (wrI fun i j => .bl (decide (i ≤ j))) wa wb)) := vt_cmp op_le (lk_I0 fun _ _ _ => isD_bl.mpr rfl) ha hb (nomark _)
theorem vt_gt (ha : VE X S₀ a wa) (hb : VE X S₀ b wb) : VT X S₀ (.Compare a [.Gt] [b] pos) (wTest (wOp (wrI fun i j => .bl (decide (j < i))) wa wb)) := vt_cmp op_gt (lk_I0 fun _ _ _ => isD_bl.mpr rfl) ha hb (nomark _)
theorem vt_ge (ha : VE X S₀ a wa) (hb : VE X S₀ b wb) : VT X S₀ (.Compare a [.GtE] [b] pos) (wTest (wOp (wrI fun i j => .bl (decide (j ≤ i))) wa wb)) := vt_cmp op_ge (lk_I0 fun _ _ _ => isD_bl.mpr rfl) ha hb (nomark _)
theorem vt_eq (hu : X.A.units + 64 < cLine) (ha : VE X S₀ a wa) (hb : VE X S₀ b wb) : VT X S₀ (.Compare a [.Eq] [b] pos) (wTest (wOp wrEq wa wb)) := vt_cmp (op_eqD hu) lk_eq ha hb (nomark _)
theorem vt_ne (hu : X.A.units + 64 < cLine) (ha : VE X S₀ a wa) (hb : VE X S₀ b wb) : VT X S₀ (.Compare a [.NotEq] [b] pos) (wTest (wOp wrNe wa wb)) := vt_cmp (op_neD hu) lk_ne ha hb (nomark _)
theorem vt_isN (ha : VE X S₀ a wa) (hb : VE X S₀ b wb) : VT X S₀ (.Compare a [.Is] [b] pos) (wTest (wOp wrIsN wa wb)) := vt_cmp op_isN lk_isN ha hb (nomark _)
theorem vt_notN (ha : VE X S₀ a wa) (hb : VE X S₀ b wb) : VT X S₀ (.Compare a [.IsNot] [b] pos) (wTest (wOp wrNotN wa wb)) := vt_cmp op_notN lk_notN ha hb (nomark _)
theorem vt_in (hu : X.A.units + 1 < cLine) (ha : VE X S₀ a wa) (hb : VE X S₀ b wb) (hm : behindInMarks .In b = false := by rfl) : VT X S₀ (.Compare a [.In] [b] pos) (wTest (wOp (wrIn false) wa wb)) := vt_cmp (op_in hu) lk_in ha hb hm
theorem vt_nin (hu : X.A.units + 1 < cLine) (ha : VE X S₀ a wa) (hb : VE X S₀ b wb) (hm : behindInMarks .NotIn b = false := by rfl) : VT X S₀ (.Compare a [.NotIn] [b] pos) (wTest (wOp (wrIn true) wa wb)) := vt_cmp (op_nin hu) lk_in ha hb hm
theorem vw_pt (h : VW X S₀ e t) : VT X S₀ e t := PW.pt h
theorem vw_and1 (h : VT X S₀ a t) : VW X S₀ (.BoolOp .And [a] pos) t := pw_and1 h
theorem vw_or1 (h : VT X S₀ a t) : VW X S₀ (.BoolOp .Or [a] pos) t := pw_or1 h
theorem vw_and (h : VT X S₀ a t) (g : VW X S₀ (.BoolOp .And (b :: rest) pos) u) : VW X S₀ (.BoolOp .And (a :: b :: rest) pos) (wAnd t u) := PW.imp (pw_and h g) fun σ H Q ⟨Hf, ρ, M, Φ, W, e, h, k⟩ => by
  refine ⟨Hf, ρ, M, _, W, e, h, fun b M1 Hf1 H1 h1 W1 s1 => ?_⟩
  cases b with
  | true => rw [if_pos rfl]; exact ⟨Hf1, ρ, M1, Φ, W1, e.mono s1.ex, h1, k.at s1⟩
  | false => rw [if_neg (by decide)]; exact k _ _ _ _ h1 W1 s1
theorem vw_or (h : VT X S₀ a t) (g : VW X S₀ (.BoolOp .Or (b :: rest) pos) u) : VW X S₀ (.BoolOp .Or (a :: b :: rest) pos) (wOr t u) := PW.imp (pw_or h g) fun σ H Q ⟨Hf, ρ, M, Φ, W, e, h, k⟩ => by
  refine ⟨Hf, ρ, M, _, W, e, h, fun b M1 Hf1 H1 h1 W1 s1 => ?_⟩
  cases b with
  | true => rw [if_pos rfl]; exact k _ _ _ _ h1 W1 s1
  | false => rw [if_neg (by decide)]; exact ⟨Hf1, ρ, M1, Φ, W1, e.mono s1.ex, h1, k.at s1⟩
theorem vt_not (h : VT X S₀ a t) : VT X S₀ (.UnaryOp .Not a pos) (wNot t) := PT.imp (pt_not h) fun σ H Q ⟨Hf, ρ, M, Φ, W, e, h, k⟩ =>
  ⟨Hf, ρ, M, _, W, e, h, fun b M1 Hf1 H1 h1 W1 s1 => k _ _ _ _ h1 W1 s1⟩
theorem ve_ifE (h : VT X S₀ c t) (ha : VE X S₀ a wa) (hb : VE X S₀ b wb) : VE X S₀ (.IfExp c a b pos) (wIfE t wa wb) := PE.imp (pe_ifExp h ha hb) fun σ H Q ⟨Hf, ρ, M, Φ, W, e, h, k⟩ => by
  refine ⟨Hf, ρ, M, _, W, e, h, fun b M1 Hf1 H1 h1 W1 s1 => ?_⟩
  cases b with
  | true => rw [if_pos rfl]; exact ⟨Hf1, ρ, M1, Φ, W1, e.mono s1.ex, h1, k.at s1⟩
  | false => rw [if_neg (by decide)]; exact ⟨Hf1, ρ, M1, Φ, W1, e.mono s1.ex, h1, k.at s1⟩
theorem ve_one {op} (h : VE X S₀ a wa) : VE X S₀ (.BoolOp op [a] pos) wa := pe_one h
theorem ve_and (h : VE X S₀ a wa) (g : VE X S₀ (.BoolOp .And (b :: rest) pos) wb) : VE X S₀ (.BoolOp .And (a :: b :: rest) pos) (wAndV wa wb) := PE.imp (pe_and h g) fun σ H Q ⟨Hf, ρ, M, Φ, W, e, h, k⟩ => by
  refine ⟨Hf, ρ, M, _, W, e, h, fun x M1 v Hf1 H1 h1 W1 s1 i1 => ?_⟩
  unfold kAndV at h1
  split at h1
  · exact ⟨true, isD_bl.mp i1, by rw [if_pos rfl]; exact ⟨Hf1, ρ, M1, Φ, W1, e.mono s1.ex, h1, k.at s1⟩⟩
  · exact ⟨false, isD_bl.mp i1, by rw [if_neg (by decide)]; exact (k.at s1).go W1 h1 (isD_bl.mpr rfl)⟩
  · exact h1.elim
theorem ve_or (h : VE X S₀ a wa) (g : VE X S₀ (.BoolOp .Or (b :: rest) pos) wb) : VE X S₀ (.BoolOp .Or (a :: b :: rest) pos) (wOrV wa wb) := PE.imp (pe_or h g) fun σ H Q ⟨Hf, ρ, M, Φ, W, e, h, k⟩ => by
  refine ⟨Hf, ρ, M, _, W, e, h, fun x M1 v Hf1 H1 h1 W1 s1 i1 => ?_⟩
  unfold kOrV at h1
  split at h1
  · exact ⟨true, isD_bl.mp i1, by rw [if_pos rfl]; exact (k.at s1).go W1 h1 (isD_bl.mpr rfl)⟩
  · exact ⟨false, isD_bl.mp i1, by rw [if_neg (by decide)]; exact ⟨Hf1, ρ, M1, Φ, W1, e.mono s1.ex, h1, k.at s1⟩⟩
  · exact h1.elim
theorem ve_not (h : VE X S₀ a wa) : VE X S₀ (.UnaryOp .Not a pos) (wNotV wa) := PE.imp (pe_not h) fun σ H Q ⟨Hf, ρ, M, Φ, W, e, h, k⟩ => by
  refine ⟨Hf, ρ, M, _, W, e, h, fun x M1 v Hf1 H1 h1 W1 s1 i1 => ?_⟩
  unfold kNotV at h1
  split at h1
  · exact ⟨_, isD_bl.mp i1, (k.at s1).go W1 h1 (isD_bl.mpr rfl)⟩
  · exact h1.elim
end
end VL

namespace VL
variable {S₀ : W0}
open PySem PySem.Spec PyProof.Rows L2
/-! ### argument lists, displays -/
def wNil : WA := fun _ M Φ => Φ [] M
def kCons2 (x : D) (Φ : List D → Mem → Prop) : List D → Mem → Prop := fun xs M => Φ (x :: xs) M
def kCons1 (wr : WA) (ρ : Sg) (Φ : List D → Mem → Prop) : KD := fun x M => wr ρ M (kCons2 x Φ)
def wCons (wa : WE) (wr : WA) : WA := fun ρ M Φ => wa ρ M (kCons1 wr ρ Φ)
def kTup (Φ : KD) : List D → Mem → Prop := fun ds M => ds.length ≤ lim ∧ Φ (.tup ds) M
def wTup (wa : WA) : WE := fun ρ M Φ => wa ρ M (kTup Φ)
/-- a list that never changes any more | one that may change -/
def kLst (Φ : KD) : List D → Mem → Prop := fun ds M => ds.length ≤ lim ∧ Φ (.lst ds) M
def wLst (wa : WA) : WE := fun ρ M Φ => wa ρ M (kLst Φ)
def kLstM (Φ : KD) : List D → Mem → Prop := fun ds M => ds.length ≤ lim ∧ ∀ p, M p = none → Φ (.ref p) (put M p (.lst ds))
def wLstM (wa : WA) : WE := fun ρ M Φ => wa ρ M (kLstM Φ)
section
variable {X : Cx} {e : Expr} {es : List Expr} {we : WE} {wa : WA} {pos : Pos}
theorem va_nil : VA X S₀ [] wNil := PA.imp pa_nil fun σ H Q ⟨Hf, ρ, M, Φ, W, e, h, k⟩ => k _ _ _ _ _ h W Stp.refl isDs_nil
theorem va_cons (h : VE X S₀ e we) (t : VA X S₀ es wa) (hs : starEach (e :: es) X.env = (false, eval e X.env) :: starEach es X.env := by rfl) : VA X S₀ (e :: es) (wCons we wa) := PA.imp (pa_cons h t hs) fun σ H Q ⟨Hf, ρ, M, Φ, W, e, h, k⟩ => by
  refine ⟨Hf, ρ, M, _, W, e, h, fun x M1 v Hf1 H1 h1 W1 s1 i1 => ?_⟩
  refine ⟨Hf1, ρ, M1, _, W1, e.mono s1.ex, h1, fun xs M2 vs Hf2 H2 h2 W2 s2 i2 => ?_⟩
  exact k _ _ _ _ _ h2 W2 (s1.trans s2) (isDs_cons (IsD.mono s2.ex _ _ i1) i2)
theorem ve_tup {x1} (h : VA X S₀ es wa) : VE X S₀ (.Tuple es x1 pos) (wTup wa) := PE.imp (pe_tup h) fun σ H Q ⟨Hf, ρ, M, Φ, W, e, h, k⟩ => by
  refine ⟨Hf, ρ, M, _, W, e, h, fun xs M1 vs Hf1 H1 h1 W1 s1 i1 => ?_⟩
  refine ⟨by rw [← i1.len]; exact lim_ok h1.1, fun p hp => ?_⟩
  obtain ⟨w, s, i⟩ := W1.newTup hp i1
  exact k _ _ _ _ _ h1.2 w (s1.trans s) i
theorem ve_lst (h : VA X S₀ es wa) : VE X S₀ (.List es pos) (wLst wa) := PE.imp (pe_lst h) fun σ H Q ⟨Hf, ρ, M, Φ, W, e, h, k⟩ => by
  refine ⟨Hf, ρ, M, _, W, e, h, fun xs M1 vs Hf1 H1 h1 W1 s1 i1 => ?_⟩
  refine ⟨by rw [← i1.len]; exact lim_ok h1.1, fun p hp => ?_⟩
  obtain ⟨w, s, i⟩ := W1.newLst hp i1
  exact k _ _ _ _ _ h1.2 w (s1.trans s) i
theorem ve_lstM (h : VA X S₀ es wa) : VE X S₀ (.List es pos) (wLstM wa) := PE.imp (pe_lst h) fun σ H Q ⟨Hf, ρ, M, Φ, W, e, h, k⟩ => by
  refine ⟨Hf, ρ, M, _, W, e, h, fun xs M1 vs Hf1 H1 h1 W1 s1 i1 => ?_⟩
  refine ⟨by rw [← i1.len]; exact lim_ok h1.1, fun p hp => ?_⟩
  obtain ⟨w, s⟩ := W1.newM (o := .lst vs) (m := .lst xs) hp ⟨vs, rfl, i1⟩
  exact k _ _ _ _ _ (h1.2 p (W1.fresh_m hp)) w (s1.trans s) (isD_ref.mpr rfl)
end
/-! ### slices -/
def cutD (xs : List D) (lo hi : Option Int) : List D := (xs.drop (HT.sIx xs.length 0 lo)).take (HT.sIx xs.length xs.length hi - HT.sIx xs.length 0 lo)
theorem isDs_cut {K : PySem.W.Frag} {Hf : Hp} {ds : List D} {vs : List V} (h : IsDs K Hf ds vs) (lo hi : Option Int) : IsDs K Hf (cutD ds lo hi) (cutV vs lo hi) := by
  unfold cutD cutV
  rw [h.len]
  exact (h.dropN _).takeN _
def wNoPart : WO := fun _ M Φ => Φ none M
def kPart (Φ : Option Int → Mem → Prop) : KD := fun x M => match x with | .int i => Φ (some i) M | _ => False
def wPart (w : WE) : WO := fun ρ M Φ => w ρ M (kPart Φ)
def kSl3 (x : D) (lo : Option Int) (Φ : KD) : Option Int → Mem → Prop := fun hi M => match x with
  | .tup ds => Φ (.tup (cutD ds lo hi)) M
  | x => match lstF M x with | some ds => Φ (.lst (cutD ds lo hi)) M | none => False
def kSl2 (wh : WO) (ρ : Sg) (x : D) (Φ : KD) : Option Int → Mem → Prop := fun lo M => wh ρ M (kSl3 x lo Φ)
def kSl1 (wl wh : WO) (ρ : Sg) (Φ : KD) : KD := fun x M => wl ρ M (kSl2 wh ρ x Φ)
def wSl (we : WE) (wl wh : WO) : WE := fun ρ M Φ => we ρ M (kSl1 wl wh ρ Φ)
section
variable {X : Cx} {e : Expr} {we : WE} {pos p2 : Pos} {lo hi : Option Expr} {wl wh : WO}
theorem vo_none : VO X S₀ none wNoPart := PO.imp po_none fun σ H Q ⟨Hf, ρ, M, Φ, W, e, h, k⟩ => k _ _ _ _ h W Stp.refl
theorem vo_some (h : VE X S₀ e we) : VO X S₀ (some e) (wPart we) := PO.imp (po_some h) fun σ H Q ⟨Hf, ρ, M, Φ, W, e, h, k⟩ => by
  refine ⟨Hf, ρ, M, _, W, e, h, fun x M1 v Hf1 H1 h1 W1 s1 i1 => ?_⟩
  unfold kPart at h1
  split at h1
  · exact ⟨_, isD_int.mp i1, k _ _ _ _ h1 W1 s1⟩
  · exact h1.elim
theorem ve_slice (he : VE X S₀ e we) (hl : VO X S₀ lo wl) (hh : VO X S₀ hi wh) : VE X S₀ (.Subscript e (.Slice lo hi none p2) pos) (wSl we wl wh) := PE.imp (pe_slice (SlR.or sl_tupA sl_list) he hl hh) fun σ H Q ⟨Hf, ρ, M, Φ, W, e, h, k⟩ => by
  refine ⟨Hf, ρ, M, _, W, e, h, fun x M1 v Hf1 H1 h1 W1 s1 i1 => ?_⟩
  refine ⟨Hf1, ρ, M1, _, W1, e.mono s1.ex, h1, fun a M2 Hf2 H2 h2 W2 s2 => ?_⟩
  refine ⟨Hf2, ρ, M2, _, W2, e.mono (s1.ex.trans s2.ex), h2, fun b M3 Hf3 H3 h3 W3 s3 => ?_⟩
  have i3 := IsD.mono (s2.ex.trans s3.ex) _ _ i1
  have k3 := k.at ((s1.trans s2).trans s3)
  unfold kSl3 at h3
  split at h3
  · rename_i ds
    obtain ⟨p, xs, rfl, q1, q2⟩ := isD_tup.mp i3
    refine .inl ⟨p, xs, rfl, (q1.up W3.fro).sq, fun z => ?_, fun _ l hl => ?_⟩
    · have ec : cutD ds a b = ds := by
        unfold cutD
        rw [q2.len, z.1, z.2, List.drop_zero, ← q2.len]
        exact List.take_length
      rw [ec] at h3
      exact k3.go W3 h3 i3
    · obtain ⟨w, s, i⟩ := W3.newTup hl (isDs_cut q2 a b)
      exact k3 _ _ _ _ _ h3 w s i
  · split at h3
    · rename_i ds e2
      obtain ⟨p, xs, rfl, q1, q2⟩ := lstF_some W3 i3 e2
      refine .inr ⟨p, xs, rfl, q1, fun l hl => ?_⟩
      obtain ⟨w, s, i⟩ := W3.newLst hl (isDs_cut q2 a b)
      exact k3 _ _ _ _ _ h3 w s i
    · exact h3.elim
end
/-- xs[::-1] of a list -/
theorem IsDs.rev {K : PySem.W.Frag} {Hf : Hp} : ∀ {ds : List D} {vs : List V}, IsDs K Hf ds vs → IsDs K Hf ds.reverse vs.reverse
  | [], vs, h => by rw [isDs_nil_inv h]; exact isDs_nil
  | d :: ds, vs, h => by
    obtain ⟨v, r, rfl, h2, h3⟩ := isDs_cons_inv h
    rw [List.reverse_cons, List.reverse_cons]
    exact (IsDs.rev h3).app (isDs_cons h2 isDs_nil)
def kRevL (Φ : KD) : KD := fun x M => match lstF M x with | some ds => Φ (.lst ds.reverse) M | none => False
def wRevL (we : WE) : WE := fun ρ M Φ => we ρ M (kRevL Φ)
theorem ve_revL {X : Cx} {e : Expr} {we : WE} {k : Nat} {p1 p2 p3 pos : Pos} (he : VE X S₀ e we) : VE X S₀ (.Subscript e (.Slice none none (some (.UnaryOp .USub (.Constant (.int 1) k p1) p2)) p3) pos) (wRevL we) := PE.imp (pe_revL he) fun σ H Q ⟨Hf, ρ, M, Φ, W, e, h, k⟩ => by
  refine ⟨Hf, ρ, M, _, W, e, h, fun x M1 v Hf1 H1 h1 W1 s1 i1 => ?_⟩
  unfold kRevL at h1
  split at h1
  · rename_i ds e2
    obtain ⟨p, xs, rfl, q1, q2⟩ := lstF_some W1 i1 e2
    refine ⟨p, xs, rfl, q1, fun l hl => ?_⟩
    obtain ⟨w, s, i⟩ := W1.newLst hl q2.rev
    exact k _ _ _ _ _ h1 w (s1.trans s) i
  · exact h1.elim
/-! ### calls of built-ins -/
abbrev WC := List D → Mem → KD → Prop
def LkC (K : PySem.W.Frag) (r : List V → Hp → VK → Prop) (wr : WC) : Prop := ∀ (S₀ : W0) Hf M H ds vs Φ Q, Wd K S₀ Hf M H → IsDs K Hf ds vs → wr ds M Φ → Knt K S₀ Hf M H Φ Q → r vs H Q
def kCB (wr : WC) (Φ : KD) : List D → Mem → Prop := fun ds M => wr ds M Φ
def wCB (wr : WC) (wa : WA) : WE := fun ρ M Φ => wa ρ M (kCB wr Φ)
section
variable {X : Cx} {x : Str} {p pos : Pos} {e : Expr} {es : List Expr} {wa : WA} {id T : String} {r : List V → Hp → VK → Prop} {wr : WC}
theorem lift_cb {K : PySem.W.Frag} (lk : LkC K r wr) {σ : St} {H : Hp} {Q : VK} (h : liftE K S₀ (wCB wr wa) σ H Q) : tCB r (liftA K S₀ wa) σ H Q := by
  obtain ⟨Hf, ρ, M, Φ, W, e, h, k⟩ := h
  exact ⟨Hf, ρ, M, _, W, e, h, fun ds M1 vs Hf1 H1 h1 W1 s1 i1 => lk _ _ _ _ _ _ _ _ W1 i1 h1 (k.at s1)⟩
theorem ve_callB (hc : CallR X (.builtin id) r) (lk : LkC X.K r wr) (hg : Gl X x) (hm : X.mg x = none) (hv : bootBuiltins x = some (.builtin id)) (ha : VA X S₀ (e :: es) wa) (hn : x ≠ "__name__" := by decide) (hdb : (x == ("__debug__" : Str)) = false := by decide)
    (he : starEach (e :: es) X.env = (false, eval e X.env) :: starEach es X.env := by rfl) (hpl : (backTo pos (starEach es X.env)).any (·.1) = false := by rfl) : VE X S₀ (.Call (.Name x p) (e :: es) [] pos) (wCB wr wa) :=
  PE.imp (pe_callB hc hg hm hv ha hn hdb he hpl) fun _ _ _ h => lift_cb lk h
theorem ve_callTy (hc : CallR X (.type T) r) (lk : LkC X.K r wr) (hg : Gl X x) (hm : X.mg x = none) (hv : bootBuiltins x = some (.type T)) (ha : VA X S₀ (e :: es) wa) (hn : x ≠ "__name__" := by decide) (hdb : (x == ("__debug__" : Str)) = false := by decide)
    (he : starEach (e :: es) X.env = (false, eval e X.env) :: starEach es X.env := by rfl) (hpl : (backTo pos (starEach es X.env)).any (·.1) = false := by rfl) : VE X S₀ (.Call (.Name x p) (e :: es) [] pos) (wCB wr wa) :=
  PE.imp (pe_callTy hc hg hm hv ha hn hdb he hpl) fun _ _ _ h => lift_cb lk h
end
def one (ds : List D) : Option D := match ds with | [x] => some x | _ => none
theorem one_some {K : PySem.W.Frag} {Hf : Hp} {ds : List D} {vs : List V} {x : D} (i : IsDs K Hf ds vs) (h : one ds = some x) : ∃ v, vs = [v] ∧ IsD K Hf x v := by
  unfold one at h
  split at h
  · cases h
    obtain ⟨v, r, rfl, h1, h2⟩ := isDs_cons_inv i
    rw [isDs_nil_inv h2]
    exact ⟨v, rfl, h1⟩
  · cases h
/-! len -/
def wrLen : WC := fun ds M Φ => match one ds with
  | some (.str z) => z.length ≤ lim ∧ Φ (.int z.length) M
  | some x => match seqM M x with
    | some es => Φ (.int es.length) M
    | none => match x with
      | .ref a => match M a with | some (.dK kvs) => Φ (.int kvs.length) M | _ => False
      | _ => False
  | none => False
def rLenA (K : PySem.W.Frag) : List V → Hp → VK → Prop := fun xs H Q => (∃ p ys, xs = [.ref p] ∧ (SqL K H p ys ∨ SqT K H p ys) ∧ Q (.int ys.length) H) ∨ (∃ a kvs, xs = [V.ref a] ∧ H a = some (.dK kvs) ∧ Q (.int kvs.length) H) ∨ (∃ z, xs = [.str z] ∧ z.length ≤ sizeLine ∧ Q (.int z.length) H)
theorem call_lenA {X : Cx} : CallR X (.builtin "len") (rLenA X.K) := CallR.or call_len_seq (CallR.or call_lenD call_len_str)
theorem lk_len {K : PySem.W.Frag} : LkC K (rLenA K) wrLen := by
  intro S₀ Hf M H ds vs Φ Q W i h k
  unfold wrLen at h
  split at h
  · rename_i z e
    obtain ⟨v, rfl, i1⟩ := one_some i e
    exact .inr (.inr ⟨z, by rw [isD_str.mp i1], lim_ok h.1, k.go W h.2 (isD_int.mpr rfl)⟩)
  · rename_i x _ e
    obtain ⟨v, rfl, i1⟩ := one_some i e
    split at h
    · rename_i es e2
      obtain ⟨a, xs, rfl, h1, h2⟩ := seqM_some W i1 e2
      refine .inl ⟨a, xs, rfl, h1, ?_⟩
      rw [← h2.len]
      exact k.go W h (isD_int.mpr rfl)
    · split at h
      · split at h
        · rename_i kvs e3
          obtain ⟨_, o, h1, ks, rfl, h2⟩ := W.mem _ _ e3
          rw [isD_ref.mp i1]
          refine .inr (.inl ⟨_, ks, rfl, h1, ?_⟩)
          rw [← h2.len]
          exact k.go W h (isD_int.mpr rfl)
        · exact h.elim
      · exact h.elim
  · exact h.elim
/-! tuple(x), list(x) -/
def wrTupC : WC := fun ds M Φ => match one ds with
  | some x => match seqM M x with | some es => Φ (.tup es) M | none => False
  | none => False
theorem lk_tupC {K : PySem.W.Frag} : LkC K (fun xs H Q => ∃ p ys, xs = [.ref p] ∧ ((SqL K H p ys ∧ ∀ l, H l = none → Q (.ref l) (upd H l (.tup ys))) ∨ (SqT K H p ys ∧ Q (.ref p) H))) wrTupC := by
  intro S₀ Hf M H ds vs Φ Q W i h k
  unfold wrTupC at h
  split at h
  · rename_i x e
    obtain ⟨v, rfl, i1⟩ := one_some i e
    split at h
    · rename_i es e2
      by_cases ht : x = .tup es
      · subst ht
        obtain ⟨a, xs, rfl, h1, h2⟩ := isD_tup.mp i1
        exact ⟨a, xs, rfl, .inr ⟨(h1.up W.fro).sq, k.go W h i1⟩⟩
      · have hl : lstF M x = some es := by
          cases x <;> simp only [seqM] at e2 <;> simp only [lstF] <;> try exact e2
          · cases e2; exact absurd rfl ht
        obtain ⟨a, xs, rfl, h1, h2⟩ := lstF_some W i1 hl
        refine ⟨a, xs, rfl, .inl ⟨h1, fun l hl => ?_⟩⟩
        obtain ⟨w, s, i⟩ := W.newTup hl h2
        exact k _ _ _ _ _ h w s i
    · exact h.elim
  · exact h.elim
def wrLstC : WC := fun ds M Φ => match one ds with
  | some x => match seqM M x with | some es => Φ (.lst es) M | none => False
  | none => False
def wrLstCM : WC := fun ds M Φ => match one ds with
  | some x => match seqM M x with | some es => ∀ p, M p = none → Φ (.ref p) (put M p (.lst es)) | none => False
  | none => False
def rLstC (K : PySem.W.Frag) : List V → Hp → VK → Prop := fun xs H Q => ∃ p ys, xs = [.ref p] ∧ (SqL K H p ys ∨ SqT K H p ys) ∧ ∀ l, H l = none → Q (.ref l) (upd H l (.lst ys))
theorem lk_lstC {K : PySem.W.Frag} : LkC K (rLstC K) wrLstC := by
  intro S₀ Hf M H ds vs Φ Q W i h k
  unfold wrLstC at h
  split at h
  · rename_i x e
    obtain ⟨v, rfl, i1⟩ := one_some i e
    split at h
    · rename_i es e2
      obtain ⟨a, xs, rfl, h1, h2⟩ := seqM_some W i1 e2
      refine ⟨a, xs, rfl, h1, fun l hl => ?_⟩
      obtain ⟨w, s, i⟩ := W.newLst hl h2
      exact k _ _ _ _ _ h w s i
    · exact h.elim
  · exact h.elim
theorem lk_lstCM {K : PySem.W.Frag} : LkC K (rLstC K) wrLstCM := by
  intro S₀ Hf M H ds vs Φ Q W i h k
  unfold wrLstCM at h
  split at h
  · rename_i x e
    obtain ⟨v, rfl, i1⟩ := one_some i e
    split at h
    · rename_i es e2
      obtain ⟨a, xs, rfl, h1, h2⟩ := seqM_some W i1 e2
      refine ⟨a, xs, rfl, h1, fun l hl => ?_⟩
      obtain ⟨w, s⟩ := W.newM (o := .lst xs) (m := .lst es) hl ⟨xs, rfl, h2⟩
      exact k _ _ _ _ _ (h l (W.fresh_m hl)) w s (isD_ref.mpr rfl)
    · exact h.elim
  · exact h.elim
/-! sum, max, min, all, any of a list -/
def intsD : List D → Option (List Int)
  | [] => some []
  | .int i :: r => (intsD r).map (i :: ·)
  | _ :: _ => none
def blsD : List D → Option (List Bool)
  | [] => some []
  | .bl i :: r => (blsD r).map (i :: ·)
  | _ :: _ => none
theorem intsD_map : ∀ ns : List Int, intsD (ns.map D.int) = some ns
  | [] => rfl
  | n :: r => by rw [List.map_cons, intsD, intsD_map r]; rfl
theorem blsD_map : ∀ ns : List Bool, blsD (ns.map D.bl) = some ns
  | [] => rfl
  | n :: r => by rw [List.map_cons, blsD, blsD_map r]; rfl
theorem intsD_eq : ∀ {ds : List D} {ns : List Int}, intsD ds = some ns → ds = ns.map D.int
  | [], ns, h => by cases h; rfl
  | d :: r, ns, h => by
    cases d <;> try cases h
    rename_i i
    simp only [intsD] at h
    cases e : intsD r with
    | none => rw [e] at h; cases h
    | some ms => rw [e] at h; cases h; rw [intsD_eq e]; rfl
theorem blsD_eq : ∀ {ds : List D} {ns : List Bool}, blsD ds = some ns → ds = ns.map D.bl
  | [], ns, h => by cases h; rfl
  | d :: r, ns, h => by
    cases d <;> try cases h
    rename_i i
    simp only [blsD] at h
    cases e : blsD r with
    | none => rw [e] at h; cases h
    | some ms => rw [e] at h; cases h; rw [blsD_eq e]; rfl
def lst1 (M : Mem) (ds : List D) : Option (List D) := (one ds).bind (lstF M)
theorem lst1_some {K : PySem.W.Frag} {Hf : Hp} {M : Mem} {H : Hp} (W : Wd K S₀ Hf M H) {ds es : List D} {vs : List V} (i : IsDs K Hf ds vs) (h : lst1 M ds = some es) : ∃ a xs, vs = [.ref a] ∧ SqL K H a xs ∧ IsDs K Hf es xs := by
  unfold lst1 at h
  cases e : one ds with
  | none => rw [e] at h; cases h
  | some x =>
    rw [e] at h
    obtain ⟨v, rfl, i1⟩ := one_some i e
    obtain ⟨a, xs, rfl, h1, h2⟩ := lstF_some W i1 h
    exact ⟨a, xs, rfl, h1, h2⟩
def ints1 (M : Mem) (ds : List D) : Option (List Int) := (lst1 M ds).bind intsD
theorem ints1_some {K : PySem.W.Frag} {Hf : Hp} {M : Mem} {H : Hp} (W : Wd K S₀ Hf M H) {ds : List D} {ns : List Int} {vs : List V} (i : IsDs K Hf ds vs) (h : ints1 M ds = some ns) : ∃ a, vs = [.ref a] ∧ SqL K H a (ns.map V.int) := by
  unfold ints1 at h
  cases e : lst1 M ds with
  | none => rw [e] at h; cases h
  | some es =>
    rw [e] at h
    obtain ⟨a, xs, rfl, h1, h2⟩ := lst1_some W i e
    rw [intsD_eq h] at h2
    rw [h2.ints] at h1
    exact ⟨a, rfl, h1⟩
def bls1 (M : Mem) (ds : List D) : Option (List Bool) := (lst1 M ds).bind blsD
theorem bls1_some {K : PySem.W.Frag} {Hf : Hp} {M : Mem} {H : Hp} (W : Wd K S₀ Hf M H) {ds : List D} {ns : List Bool} {vs : List V} (i : IsDs K Hf ds vs) (h : bls1 M ds = some ns) : ∃ a, vs = [.ref a] ∧ SqL K H a (ns.map V.bl) := by
  unfold bls1 at h
  cases e : lst1 M ds with
  | none => rw [e] at h; cases h
  | some es =>
    rw [e] at h
    obtain ⟨a, xs, rfl, h1, h2⟩ := lst1_some W i e
    rw [blsD_eq h] at h2
    rw [h2.bls] at h1
    exact ⟨a, rfl, h1⟩
def wrSum : WC := fun ds M Φ => match ints1 M ds with | some ns => Φ (.int ns.sum) M | none => False
theorem lk_sum {K : PySem.W.Frag} : LkC K (rSum K) wrSum := by
  intro S₀ Hf M H ds vs Φ Q W i h k
  unfold wrSum at h
  split at h
  · rename_i ns e
    obtain ⟨a, rfl, h1⟩ := ints1_some W i e
    exact ⟨a, ns, rfl, h1, k.go W h (isD_int.mpr rfl)⟩
  · exact h.elim
def wrMax : WC := fun ds M Φ => match ints1 M ds with | some ns => 0 < ns.length ∧ ∀ m, m ∈ ns → (∀ y, y ∈ ns → y ≤ m) → Φ (.int m) M | none => False
theorem lk_max {K : PySem.W.Frag} : LkC K (rMax K) wrMax := by
  intro S₀ Hf M H ds vs Φ Q W i h k
  unfold wrMax at h
  split at h
  · rename_i ns e
    obtain ⟨a, rfl, h1⟩ := ints1_some W i e
    exact ⟨a, ns, rfl, h1, h.1, fun m q1 q2 => k.go W (h.2 m q1 q2) (isD_int.mpr rfl)⟩
  · exact h.elim
def wrMin : WC := fun ds M Φ => match ints1 M ds with | some ns => 0 < ns.length ∧ ∀ m, m ∈ ns → (∀ y, y ∈ ns → m ≤ y) → Φ (.int m) M | none => False
theorem lk_min {K : PySem.W.Frag} : LkC K (rMin K) wrMin := by
  intro S₀ Hf M H ds vs Φ Q W i h k
  unfold wrMin at h
  split at h
  · rename_i ns e
    obtain ⟨a, rfl, h1⟩ := ints1_some W i e
    exact ⟨a, ns, rfl, h1, h.1, fun m q1 q2 => k.go W (h.2 m q1 q2) (isD_int.mpr rfl)⟩
  · exact h.elim
def wrAll : WC := fun ds M Φ => match bls1 M ds with | some bs => Φ (.bl (bs.all id)) M | none => False
def wrAny : WC := fun ds M Φ => match bls1 M ds with | some bs => Φ (.bl (bs.any id)) M | none => False
theorem lk_all {K : PySem.W.Frag} : LkC K (rAll K) wrAll := by
  intro S₀ Hf M H ds vs Φ Q W i h k
  unfold wrAll at h
  split at h
  · rename_i ns e
    obtain ⟨a, rfl, h1⟩ := bls1_some W i e
    exact ⟨a, ns, rfl, h1, k.go W h (isD_bl.mpr rfl)⟩
  · exact h.elim
theorem lk_any {K : PySem.W.Frag} : LkC K (rAny K) wrAny := by
  intro S₀ Hf M H ds vs Φ Q W i h k
  unfold wrAny at h
  split at h
  · rename_i ns e
    obtain ⟨a, rfl, h1⟩ := bls1_some W i e
    exact ⟨a, ns, rfl, h1, k.go W h (isD_bl.mpr rfl)⟩
  · exact h.elim
def wrSorted : WC := fun ds M Φ => match ints1 M ds with | some ns => ns.length < 64 ∧ ∀ ns' : List Int, ns'.Perm ns → ns'.Pairwise (· ≤ ·) → Φ (.lst (ns'.map D.int)) M | none => False
theorem lk_sorted {K : PySem.W.Frag} : LkC K (rSorted K) wrSorted := by
  intro S₀ Hf M H ds vs Φ Q W i h k
  unfold wrSorted at h
  split at h
  · rename_i ns e
    obtain ⟨a, rfl, h1⟩ := ints1_some W i e
    refine ⟨a, ns, rfl, h1, h.1, fun ns' p q1 q2 hp => ?_⟩
    obtain ⟨w, s, i⟩ := W.newLst hp (IsDs.of_ints ns')
    exact k _ _ _ _ _ (h.2 ns' q1 q2) w s i
  · exact h.elim
/-! min, max of two; int -/
def two (ds : List D) : Option (Int × Int) := match ds with | [.int i, .int j] => some (i, j) | _ => none
theorem two_some {K : PySem.W.Frag} {Hf : Hp} {ds : List D} {vs : List V} {i j : Int} (h : two ds = some (i, j)) (q : IsDs K Hf ds vs) : vs = [.int i, .int j] := by
  unfold two at h
  split at h
  · cases h
    obtain ⟨v, r, rfl, h1, h2⟩ := isDs_cons_inv q
    obtain ⟨u, r, rfl, h3, h4⟩ := isDs_cons_inv h2
    rw [isDs_nil_inv h4, isD_int.mp h1, isD_int.mp h3]
  · cases h
def wrMax2 : WC := fun ds M Φ => match two ds with | some (i, j) => Φ (.int (if j > i then j else i)) M | none => False
def wrMin2 : WC := fun ds M Φ => match two ds with | some (i, j) => Φ (.int (if j < i then j else i)) M | none => False
theorem lk_max2 {K : PySem.W.Frag} : LkC K (fun xs H Q => ∃ i j, xs = [.int i, .int j] ∧ Q (.int (if j > i then j else i)) H) wrMax2 := by
  intro S₀ Hf M H ds vs Φ Q W i h k
  unfold wrMax2 at h
  split at h
  · rename_i a b e
    exact ⟨a, b, two_some e i, k.go W h (isD_int.mpr rfl)⟩
  · exact h.elim
theorem lk_min2 {K : PySem.W.Frag} : LkC K (fun xs H Q => ∃ i j, xs = [.int i, .int j] ∧ Q (.int (if j < i then j else i)) H) wrMin2 := by
  intro S₀ Hf M H ds vs Φ Q W i h k
  unfold wrMin2 at h
  split at h
  · rename_i a b e
    exact ⟨a, b, two_some e i, k.go W h (isD_int.mpr rfl)⟩
  · exact h.elim
def wrInt : WC := fun ds M Φ => match one ds with | some (.int i) => Φ (.int i) M | some (.bl b) => Φ (.int (if b then 1 else 0)) M | _ => False
theorem lk_int {K : PySem.W.Frag} : LkC K (fun xs H Q => (∃ i, xs = [.int i] ∧ Q (.int i) H) ∨ ∃ k, xs = [.bl k] ∧ Q (.int (if k then 1 else 0)) H) wrInt := by
  intro S₀ Hf M H ds vs Φ Q W i h k
  unfold wrInt at h
  split at h
  · rename_i a e
    obtain ⟨v, rfl, i1⟩ := one_some i e
    exact .inl ⟨a, by rw [isD_int.mp i1], k.go W h (isD_int.mpr rfl)⟩
  · rename_i a e
    obtain ⟨v, rfl, i1⟩ := one_some i e
    exact .inr ⟨a, by rw [isD_bl.mp i1], k.go W h (isD_int.mpr rfl)⟩
  · exact h.elim
def wrAbs : WC := fun ds M Φ => match one ds with | some (.int i) => Φ (.int (if i < 0 then -i else i)) M | _ => False
theorem lk_abs {K : PySem.W.Frag} : LkC K (fun xs H Q => ∃ i, xs = [.int i] ∧ Q (.int (if i < 0 then -i else i)) H) wrAbs := by
  intro S₀ Hf M H ds vs Φ Q W i h k
  unfold wrAbs at h
  split at h
  · rename_i a e
    obtain ⟨v, rfl, i1⟩ := one_some i e
    exact ⟨a, by rw [isD_int.mp i1], k.go W h (isD_int.mpr rfl)⟩
  · exact h.elim
section
variable {X : Cx} {p pos : Pos} {e e2 : Expr} {wa : WA}
theorem ve_len (hg : Gl X "len") (hm : X.mg "len" = none) (ha : VA X S₀ [e] wa) (he : starEach [e] X.env = (false, eval e X.env) :: starEach [] X.env := by rfl) : VE X S₀ (.Call (.Name "len" p) [e] [] pos) (wCB wrLen wa) :=
  ve_callB call_lenA lk_len hg hm PySem.boot_len ha (he := he)
theorem ve_tupC (hg : Gl X "tuple") (hm : X.mg "tuple" = none) (ha : VA X S₀ [e] wa) (he : starEach [e] X.env = (false, eval e X.env) :: starEach [] X.env := by rfl) : VE X S₀ (.Call (.Name "tuple" p) [e] [] pos) (wCB wrTupC wa) :=
  ve_callTy call_tuple_of lk_tupC hg hm (by decide +kernel) ha (he := he)
theorem ve_lstC (hg : Gl X "list") (hm : X.mg "list" = none) (ha : VA X S₀ [e] wa) (he : starEach [e] X.env = (false, eval e X.env) :: starEach [] X.env := by rfl) : VE X S₀ (.Call (.Name "list" p) [e] [] pos) (wCB wrLstC wa) :=
  ve_callTy call_list_of lk_lstC hg hm (by decide +kernel) ha (he := he)
theorem ve_lstCM (hg : Gl X "list") (hm : X.mg "list" = none) (ha : VA X S₀ [e] wa) (he : starEach [e] X.env = (false, eval e X.env) :: starEach [] X.env := by rfl) : VE X S₀ (.Call (.Name "list" p) [e] [] pos) (wCB wrLstCM wa) :=
  ve_callTy call_list_of lk_lstCM hg hm (by decide +kernel) ha (he := he)
theorem ve_intC (hg : Gl X "int") (hm : X.mg "int" = none) (ha : VA X S₀ [e] wa) (he : starEach [e] X.env = (false, eval e X.env) :: starEach [] X.env := by rfl) : VE X S₀ (.Call (.Name "int" p) [e] [] pos) (wCB wrInt wa) :=
  ve_callTy call_int1 lk_int hg hm (by decide +kernel) ha (he := he)
theorem ve_abs (hg : Gl X "abs") (hm : X.mg "abs" = none) (ha : VA X S₀ [e] wa) (he : starEach [e] X.env = (false, eval e X.env) :: starEach [] X.env := by rfl) : VE X S₀ (.Call (.Name "abs" p) [e] [] pos) (wCB wrAbs wa) :=
  ve_callB call_abs lk_abs hg hm (by decide +kernel) ha (he := he)
theorem ve_sum (hc : X.calm = true) (hg : Gl X "sum") (hm : X.mg "sum" = none) (ha : VA X S₀ [e] wa) (he : starEach [e] X.env = (false, eval e X.env) :: starEach [] X.env := by rfl) : VE X S₀ (.Call (.Name "sum" p) [e] [] pos) (wCB wrSum wa) :=
  ve_callB (cr_sum hc) lk_sum hg hm (by decide +kernel) ha (he := he)
theorem ve_max (hc : X.calm = true) (hg : Gl X "max") (hm : X.mg "max" = none) (ha : VA X S₀ [e] wa) (he : starEach [e] X.env = (false, eval e X.env) :: starEach [] X.env := by rfl) : VE X S₀ (.Call (.Name "max" p) [e] [] pos) (wCB wrMax wa) :=
  ve_callB (cr_max hc) lk_max hg hm (by decide +kernel) ha (he := he)
theorem ve_min (hc : X.calm = true) (hg : Gl X "min") (hm : X.mg "min" = none) (ha : VA X S₀ [e] wa) (he : starEach [e] X.env = (false, eval e X.env) :: starEach [] X.env := by rfl) : VE X S₀ (.Call (.Name "min" p) [e] [] pos) (wCB wrMin wa) :=
  ve_callB (cr_min hc) lk_min hg hm (by decide +kernel) ha (he := he)
theorem ve_max2 (hc : X.calm = true) (hg : Gl X "max") (hm : X.mg "max" = none) (ha : VA X S₀ [e, e2] wa) (he : starEach [e, e2] X.env = (false, eval e X.env) :: starEach [e2] X.env := by rfl) (hpl : (backTo pos (starEach [e2] X.env)).any (·.1) = false := by rfl) : VE X S₀ (.Call (.Name "max" p) [e, e2] [] pos) (wCB wrMax2 wa) :=
  ve_callB (call_max2 hc) lk_max2 hg hm (by decide +kernel) ha (he := he) (hpl := hpl)
theorem ve_min2 (hc : X.calm = true) (hg : Gl X "min") (hm : X.mg "min" = none) (ha : VA X S₀ [e, e2] wa) (he : starEach [e, e2] X.env = (false, eval e X.env) :: starEach [e2] X.env := by rfl) (hpl : (backTo pos (starEach [e2] X.env)).any (·.1) = false := by rfl) : VE X S₀ (.Call (.Name "min" p) [e, e2] [] pos) (wCB wrMin2 wa) :=
  ve_callB (call_min2 hc) lk_min2 hg hm (by decide +kernel) ha (he := he) (hpl := hpl)
theorem ve_all (hc : X.calm = true) (hg : Gl X "all") (hm : X.mg "all" = none) (ha : VA X S₀ [e] wa) (he : starEach [e] X.env = (false, eval e X.env) :: starEach [] X.env := by rfl) : VE X S₀ (.Call (.Name "all" p) [e] [] pos) (wCB wrAll wa) :=
  ve_callB (cr_all hc) lk_all hg hm (by decide +kernel) ha (he := he)
theorem ve_any (hc : X.calm = true) (hg : Gl X "any") (hm : X.mg "any" = none) (ha : VA X S₀ [e] wa) (he : starEach [e] X.env = (false, eval e X.env) :: starEach [] X.env := by rfl) : VE X S₀ (.Call (.Name "any" p) [e] [] pos) (wCB wrAny wa) :=
  ve_callB (cr_any hc) lk_any hg hm (by decide +kernel) ha (he := he)
theorem ve_sorted (hg : Gl X "sorted") (hm : X.mg "sorted" = none) (ha : VA X S₀ [e] wa) (he : starEach [e] X.env = (false, eval e X.env) :: starEach [] X.env := by rfl) : VE X S₀ (.Call (.Name "sorted" p) [e] [] pos) (wCB wrSorted wa) :=
  ve_callB cr_sorted lk_sorted hg hm (by decide +kernel) ha (he := he)
end
/-! ### methods of lists that may change -/
abbrev WM := D → List D → Mem → KD → Prop
def LkM (K : PySem.W.Frag) (r : V → List V → Hp → VK → Prop) (wr : WM) : Prop := ∀ (S₀ : W0) Hf M H x v ds vs Φ Q, Wd K S₀ Hf M H → IsD K Hf x v → IsDs K Hf ds vs → wr x ds M Φ → Knt K S₀ Hf M H Φ Q → r v vs H Q
def kBM2 (wr : WM) (x : D) (Φ : KD) : List D → Mem → Prop := fun ds M => wr x ds M Φ
def kBM1 (wr : WM) (wa : WA) (ρ : Sg) (Φ : KD) : KD := fun x M => (lstF M x).isSome = true ∧ wa ρ M (kBM2 wr x Φ)
/-- o.m(..) of a list -/
def wBM (wr : WM) (wo : WE) (wa : WA) : WE := fun ρ M Φ => wo ρ M (kBM1 wr wa ρ Φ)
section
variable {X : Cx} {o e : Expr} {es : List Expr} {wo : WE} {wa : WA} {name : Str} {apos cpos : Pos} {id : String} {r : V → List V → Hp → VK → Prop} {wr : WM}
theorem tyL {K : PySem.W.Frag} {Hf : Hp} {M : Mem} {H : Hp} (W : Wd K S₀ Hf M H) {x : D} {v : V} (i : IsD K Hf x v) (h : (lstF M x).isSome = true) : tyV K "list" v H := by
  obtain ⟨ds, e⟩ := Option.isSome_iff_exists.mp h
  obtain ⟨a, xs, rfl, h1, h2⟩ := lstF_some W i e
  exact .inl ⟨rfl, xs, h1⟩
theorem ve_bm (slot : Slot "list" name id) (hty : typeOf (.builtin id) = pure (.type "method_descriptor")) (hm : MtR X id r) (lk : LkM X.K r wr) (ho : VE X S₀ o wo) (ha : VA X S₀ (e :: es) wa)
    (hbase : attributeBase o name X.env (eval o X.env) = eval o X.env := by rfl)
    (hfew : ((backTo cpos (starEach (e :: es) X.env)).all (fun x => !x.1) && (backToKw cpos (keywordEach [] X.env)).all (fun x => x.1.isSome)
      && decide ((e :: es).length + ([] : List Keyword).length + (if ([] : List Keyword).isEmpty then 0 else 1) < 30)) = true := by rfl)
    (hline : (apos.endLine == cpos.line) = true := by rfl) (hs : starEach (e :: es) X.env = (false, eval e X.env) :: starEach es X.env := by rfl) (hplain : (backTo cpos (starEach es X.env)).any (·.1) = false := by rfl) :
    VE X S₀ (.Call (.Attribute o name apos) (e :: es) [] cpos) (wBM wr wo wa) :=
  PE.imp (pe_bm PySem.F.plainAttrs_list slot hty hm ho ha hbase hfew hline hs hplain) fun σ H Q ⟨Hf, ρ, M, Φ, W, e, h, k⟩ => by
    refine ⟨Hf, ρ, M, _, W, e, h, fun x M1 v Hf1 H1 h1 W1 s1 i1 => ⟨tyL W1 i1 h1.1, ?_⟩⟩
    exact ⟨Hf1, ρ, M1, _, W1, e.mono s1.ex, h1.2, fun ds M2 vs Hf2 H2 h2 W2 s2 i2 => lk _ _ _ _ _ _ _ _ _ _ W2 (IsD.mono s2.ex _ _ i1) i2 h2 (k.at (s1.trans s2))⟩
theorem ve_bm0 (slot : Slot "list" name id) (hty : typeOf (.builtin id) = pure (.type "method_descriptor")) (hm : MtR X id r) (lk : LkM X.K r wr) (ho : VE X S₀ o wo)
    (hbase : attributeBase o name X.env (eval o X.env) = eval o X.env := by rfl) (hline : (apos.endLine == cpos.line) = true := by rfl) : VE X S₀ (.Call (.Attribute o name apos) [] [] cpos) (wBM wr wo wNil) :=
  PE.imp (pe_bm0 PySem.F.plainAttrs_list slot hty hm ho hbase hline) fun σ H Q ⟨Hf, ρ, M, Φ, W, e, h, k⟩ => by
    refine ⟨Hf, ρ, M, _, W, e, h, fun x M1 v Hf1 H1 h1 W1 s1 i1 => ⟨tyL W1 i1 h1.1, ?_⟩⟩
    exact lk _ _ _ _ _ _ _ _ _ _ W1 i1 isDs_nil h1.2 (k.at s1)
end
/-- a list of the memory -/
def memL (M : Mem) : D → Option (Addr × List D)
  | .ref a => match M a with | some (.lst ds) => some (a, ds) | _ => none
  | _ => none
theorem memL_some {K : PySem.W.Frag} {Hf : Hp} {M : Mem} {H : Hp} (W : Wd K S₀ Hf M H) {x : D} {v : V} {a : Addr} {ds : List D} (i : IsD K Hf x v) (h : memL M x = some (a, ds)) : M a = some (.lst ds) ∧ v = .ref a ∧ ∃ xs, H a = some (.lst xs) ∧ IsDs K Hf ds xs := by
  cases x <;> simp only [memL] at h
  case ref b =>
    split at h <;> cases h
    rename_i e
    obtain ⟨_, o, h1, xs, rfl, h2⟩ := W.mem _ _ e
    exact ⟨e, isD_ref.mp i, xs, h1, h2⟩
  all_goals cases h
def wrAppend : WM := fun x ds M Φ => match memL M x, one ds with | some (a, es), some d => es.length < lim ∧ Φ .non (put M a (.lst (es ++ [d]))) | _, _ => False
theorem lk_append {K : PySem.W.Frag} : LkM K rAppend wrAppend := by
  intro S₀ Hf M H x v ds vs Φ Q W ix i h k
  unfold wrAppend at h
  split at h
  · rename_i a es d e1 e2
    obtain ⟨hm, rfl, xs, h1, h2⟩ := memL_some W ix e1
    obtain ⟨y, rfl, i1⟩ := one_some i e2
    refine ⟨a, xs, y, rfl, rfl, h1, by rw [← h2.len]; exact lim_lt h.1, ?_⟩
    obtain ⟨w, s⟩ := W.chg (o := .lst (xs ++ [y])) (m := .lst (es ++ [d])) hm ⟨_, rfl, h2.app (isDs_cons i1 isDs_nil)⟩
    exact k _ _ _ _ _ h.2 w s (isD_non.mpr rfl)
  · exact h.elim
def iv2 (ds : List D) : Option (Int × D) := match ds with | [.int i, d] => some (i, d) | _ => none
theorem iv2_some {K : PySem.W.Frag} {Hf : Hp} {ds : List D} {vs : List V} {i : Int} {d : D} (h : iv2 ds = some (i, d)) (q : IsDs K Hf ds vs) : ∃ u, vs = [.int i, u] ∧ IsD K Hf d u := by
  unfold iv2 at h
  split at h
  · cases h
    obtain ⟨v, r, rfl, h1, h2⟩ := isDs_cons_inv q
    obtain ⟨u, r, rfl, h3, h4⟩ := isDs_cons_inv h2
    rw [isDs_nil_inv h4, isD_int.mp h1]
    exact ⟨u, rfl, h3⟩
  · cases h
def wrInsert : WM := fun x ds M Φ => match memL M x, iv2 ds with
  | some (a, es), some (i, d) => (es.length < lim ∧ 0 ≤ i ∧ i < 2 ^ 63) ∧ Φ .non (put M a (.lst (es.take i.toNat ++ [d] ++ es.drop i.toNat)))
  | _, _ => False
theorem lk_insert {K : PySem.W.Frag} : LkM K (fun x vs H Q => ∃ (l : Addr) (xs : List V) (i : Int) (y : V), x = .ref l ∧ vs = [.int i, y] ∧ H l = some (.lst xs) ∧ xs.length < sizeLine ∧ 0 ≤ i ∧ i < 2 ^ 63 ∧
    Q .non (upd H l (.lst (xs.take i.toNat ++ [y] ++ xs.drop i.toNat)))) wrInsert := by
  intro S₀ Hf M H x v ds vs Φ Q W ix i h k
  unfold wrInsert at h
  split at h
  · rename_i a es j d e1 e2
    obtain ⟨hm, rfl, xs, h1, h2⟩ := memL_some W ix e1
    obtain ⟨y, rfl, i1⟩ := iv2_some e2 i
    refine ⟨a, xs, j, y, rfl, rfl, h1, by rw [← h2.len]; exact lim_lt h.1.1, h.1.2.1, h.1.2.2, ?_⟩
    obtain ⟨w, s⟩ := W.chg (o := .lst (xs.take j.toNat ++ [y] ++ xs.drop j.toNat)) (m := .lst (es.take j.toNat ++ [d] ++ es.drop j.toNat)) hm ⟨_, rfl, ((h2.takeN _).app (isDs_cons i1 isDs_nil)).app (h2.dropN _)⟩
    exact k _ _ _ _ _ h.2 w s (isD_non.mpr rfl)
  · exact h.elim
theorem isDs_dropLast {K : PySem.W.Frag} {Hf : Hp} {ds : List D} {vs : List V} (h : IsDs K Hf ds vs) : IsDs K Hf ds.dropLast vs.dropLast := by
  rw [List.dropLast_eq_take, List.dropLast_eq_take, h.len]
  exact h.takeN _
def wrPop : WM := fun x ds M Φ => match memL M x with
  | some (a, es) => match es[es.length - 1]? with | some d => ds = [] ∧ Φ d (put M a (.lst es.dropLast)) | none => False
  | none => False
theorem lk_pop {K : PySem.W.Frag} : LkM K rPop wrPop := by
  intro S₀ Hf M H x v ds vs Φ Q W ix i h k
  unfold wrPop at h
  split at h
  · rename_i a es e1
    split at h
    · rename_i d e2
      obtain ⟨hm, rfl, xs, h1, h2⟩ := memL_some W ix e1
      rw [h.1] at i
      obtain ⟨y, h3, i3⟩ := h2.get e2
      refine ⟨a, xs, y, rfl, isDs_nil_inv i, h1, by rw [← h2.len]; exact h3, ?_⟩
      obtain ⟨w, s⟩ := W.chg (o := .lst xs.dropLast) (m := .lst es.dropLast) hm ⟨_, rfl, isDs_dropLast h2⟩
      exact k _ _ _ _ _ h.2 w s i3
    · exact h.elim
  · exact h.elim
def wrExtend : WM := fun x ds M Φ => match memL M x, (one ds).bind (lstM M) with
  | some (a, es), some fs => es.length + fs.length ≤ lim ∧ Φ .non (put M a (.lst (es ++ fs)))
  | _, _ => False
theorem lk_extend {K : PySem.W.Frag} : LkM K rExtend wrExtend := by
  intro S₀ Hf M H x v ds vs Φ Q W ix i h k
  unfold wrExtend at h
  split at h
  · rename_i a es fs e1 e2
    cases e3 : one ds with
    | none => rw [e3] at e2; cases e2
    | some z =>
      rw [e3] at e2
      obtain ⟨hm, rfl, xs, h1, h2⟩ := memL_some W ix e1
      obtain ⟨y, rfl, i1⟩ := one_some i e3
      obtain ⟨b, ys, rfl, h3, h4⟩ := lstM_some W i1 e2
      refine ⟨a, b, xs, ys, rfl, rfl, h1, h3, by rw [← h2.len, ← h4.len]; exact lim_ok h.1, ?_⟩
      obtain ⟨w, s⟩ := W.chg (o := .lst (xs ++ ys)) (m := .lst (es ++ fs)) hm ⟨_, rfl, h2.app h4⟩
      exact k _ _ _ _ _ h.2 w s (isD_non.mpr rfl)
  · exact h.elim
section
variable {X : Cx} {o e e2 : Expr} {wo : WE} {wa : WA} {apos cpos : Pos}
theorem ve_append (ho : VE X S₀ o wo) (ha : VA X S₀ [e] wa) (hbase : attributeBase o "append" X.env (eval o X.env) = eval o X.env := by rfl)
    (hfew : ((backTo cpos (starEach [e] X.env)).all (fun x => !x.1) && (backToKw cpos (keywordEach [] X.env)).all (fun x => x.1.isSome)
      && decide (([e] : List Expr).length + ([] : List Keyword).length + (if ([] : List Keyword).isEmpty then 0 else 1) < 30)) = true := by rfl)
    (hline : (apos.endLine == cpos.line) = true := by rfl) (hs : starEach [e] X.env = (false, eval e X.env) :: starEach [] X.env := by rfl) :
    VE X S₀ (.Call (.Attribute o "append" apos) [e] [] cpos) (wBM wrAppend wo wa) :=
  ve_bm PySem.F.slot_list_append PySem.F.type_list_append mt_append lk_append ho ha hbase hfew hline hs
theorem ve_extend (ho : VE X S₀ o wo) (ha : VA X S₀ [e] wa) (hbase : attributeBase o "extend" X.env (eval o X.env) = eval o X.env := by rfl)
    (hfew : ((backTo cpos (starEach [e] X.env)).all (fun x => !x.1) && (backToKw cpos (keywordEach [] X.env)).all (fun x => x.1.isSome)
      && decide (([e] : List Expr).length + ([] : List Keyword).length + (if ([] : List Keyword).isEmpty then 0 else 1) < 30)) = true := by rfl)
    (hline : (apos.endLine == cpos.line) = true := by rfl) (hs : starEach [e] X.env = (false, eval e X.env) :: starEach [] X.env := by rfl) :
    VE X S₀ (.Call (.Attribute o "extend" apos) [e] [] cpos) (wBM wrExtend wo wa) :=
  ve_bm PySem.F.slot_list_extend PySem.F.type_list_extend mt_extend lk_extend ho ha hbase hfew hline hs
theorem ve_insert (ho : VE X S₀ o wo) (ha : VA X S₀ [e, e2] wa) (hbase : attributeBase o "insert" X.env (eval o X.env) = eval o X.env := by rfl)
    (hfew : ((backTo cpos (starEach [e, e2] X.env)).all (fun x => !x.1) && (backToKw cpos (keywordEach [] X.env)).all (fun x => x.1.isSome)
      && decide (([e, e2] : List Expr).length + ([] : List Keyword).length + (if ([] : List Keyword).isEmpty then 0 else 1) < 30)) = true := by rfl)
    (hline : (apos.endLine == cpos.line) = true := by rfl) (hs : starEach [e, e2] X.env = (false, eval e X.env) :: starEach [e2] X.env := by rfl) (hplain : (backTo cpos (starEach [e2] X.env)).any (·.1) = false := by rfl) :
    VE X S₀ (.Call (.Attribute o "insert" apos) [e, e2] [] cpos) (wBM wrInsert wo wa) :=
  ve_bm PySem.F.slot_list_insert PySem.F.type_list_insert mt_insert lk_insert ho ha hbase hfew hline hs hplain
theorem ve_pop (ho : VE X S₀ o wo) (hbase : attributeBase o "pop" X.env (eval o X.env) = eval o X.env := by rfl) (hline : (apos.endLine == cpos.line) = true := by rfl) : VE X S₀ (.Call (.Attribute o "pop" apos) [] [] cpos) (wBM wrPop wo wNil) :=
  ve_bm0 PySem.F.slot_list_pop PySem.F.type_list_pop mt_pop lk_pop ho hbase hline
end
/-! ### dicts -/
section
variable {X : Cx} {o e f : Expr} {wo we wf : WE} {apos cpos : Pos}
/-- d.get(k, x) -/
def kGet3 (x k : D) (Φ : KD) : KD := fun z M => match dkM M x, keyD k with | some kvs, some key => Φ ((look kvs key).getD z) M | _, _ => False
def kGet2 (wf : WE) (ρ : Sg) (x : D) (Φ : KD) : KD := fun k M => wf ρ M (kGet3 x k Φ)
def kGet1 (we wf : WE) (ρ : Sg) (Φ : KD) : KD := fun x M => (dkM M x).isSome = true ∧ we ρ M (kGet2 wf ρ x Φ)
def wGet (wo we wf : WE) : WE := fun ρ M Φ => wo ρ M (kGet1 we wf ρ Φ)
theorem dkM_isD {K : PySem.W.Frag} {Hf : Hp} {M : Mem} {H : Hp} (W : Wd K S₀ Hf M H) {x : D} {v : V} (i : IsD K Hf x v) (h : (dkM M x).isSome = true) : ∃ a, v = .ref a ∧ L2.IsD H a := by
  obtain ⟨kvs, e⟩ := Option.isSome_iff_exists.mp h
  obtain ⟨a, vs, rfl, rfl, h1, h2⟩ := dkM_some W i e
  exact ⟨a, rfl, .inl ⟨vs, h1⟩⟩
theorem ve_get (hu : X.A.units + 1 < cLine) (ho : VE X S₀ o wo) (he : VE X S₀ e we) (hf : VE X S₀ f wf) (m : M2 X o "get" apos e f cpos) : VE X S₀ (.Call (.Attribute o "get" apos) [e, f] [] cpos) (wGet wo we wf) :=
  PE.imp (pe_dget2 hu ho he hf m) fun σ H Q ⟨Hf, ρ, M, Φ, W, e, h, k⟩ => by
    refine ⟨Hf, ρ, M, _, W, e, h, fun x M1 v Hf1 H1 h1 W1 s1 i1 => ?_⟩
    obtain ⟨a, ea, d1⟩ := dkM_isD W1 i1 h1.1
    refine ⟨a, ea, d1, Hf1, ρ, M1, _, W1, e.mono s1.ex, h1.2, fun y M2 u Hf2 H2 h2 W2 s2 i2 => ?_⟩
    refine ⟨Hf2, ρ, M2, _, W2, e.mono (s1.ex.trans s2.ex), h2, fun z M3 t Hf3 H3 h3 W3 s3 i3 => ?_⟩
    unfold kGet3 at h3
    split at h3
    · rename_i kvs key e1 e2
      obtain ⟨b, vs, rfl, eb, q1, q2⟩ := dkM_some W3 (IsD.mono (s2.ex.trans s3.ex) _ _ i1) e1
      rw [ea] at eb
      cases eb
      rw [keyD_V e2 (IsD.mono s3.ex _ _ i2)]
      refine ⟨_, .inl ⟨vs, key, q1, rfl, rfl⟩, ?_⟩
      obtain ⟨g1, g2⟩ := q2.val key
      cases e4 : look kvs key with
      | none =>
        rw [e4] at h3
        rw [g1 e4]
        exact (k.at ((s1.trans s2).trans s3)).go W3 h3 i3
      | some d =>
        rw [e4] at h3
        obtain ⟨vv, g3, g4⟩ := g2 d e4
        rw [g3]
        exact (k.at ((s1.trans s2).trans s3)).go W3 h3 g4
    · exact h3.elim
/-- d.pop(k): there -/
def kPopD2 (x : D) (Φ : KD) : KD := fun k M => match x with
  | .ref a => match M a, keyD k with
    | some (.dK kvs), some key => match look kvs key with | some d => Φ d (put M a (.dK (dropKD kvs key))) | none => False
    | _, _ => False
  | _ => False
def kPopD1 (we : WE) (ρ : Sg) (Φ : KD) : KD := fun x M => (dkM M x).isSome = true ∧ we ρ M (kPopD2 x Φ)
def wPopD (wo we : WE) : WE := fun ρ M Φ => wo ρ M (kPopD1 we ρ Φ)
theorem ve_popD (ho : VE X S₀ o wo) (he : VE X S₀ e we) (m : M1 X o "pop" apos e cpos) : VE X S₀ (.Call (.Attribute o "pop" apos) [e] [] cpos) (wPopD wo we) :=
  PE.imp (pe_dpop1 ho he m) fun σ H Q ⟨Hf, ρ, M, Φ, W, e, h, k⟩ => by
    refine ⟨Hf, ρ, M, _, W, e, h, fun x M1 v Hf1 H1 h1 W1 s1 i1 => ?_⟩
    obtain ⟨a, ea, d1⟩ := dkM_isD W1 i1 h1.1
    refine ⟨a, ea, d1, Hf1, ρ, M1, _, W1, e.mono s1.ex, h1.2, fun y M2 u Hf2 H2 h2 W2 s2 i2 => ?_⟩
    unfold kPopD2 at h2
    split at h2
    · rename_i b
      have eb := isD_ref.mp i1
      rw [ea] at eb
      cases eb
      split at h2
      · rename_i kvs key e1 e2
        split at h2
        · rename_i d e3
          obtain ⟨_, o, q0, vs, rfl, q2⟩ := W2.mem _ _ e1
          obtain ⟨vv, g3, g4⟩ := (q2.val key).2 d e3
          rw [keyD_V e2 i2]
          refine ⟨vs, key, vv, q0, rfl, g3, ?_⟩
          obtain ⟨w, s⟩ := W2.chg (o := .dK (dropK vs key)) (m := .dK (dropKD kvs key)) e1 ⟨_, rfl, q2.drop key⟩
          exact k _ _ _ _ _ h2 w ((s1.trans s2).trans s) g4
        · exact h2.elim
      · exact h2.elim
    · exact h2.elim
end
/-- the pairs of a display -/
abbrev WP := Sg → Mem → (List (Key × D) → Mem → Prop) → Prop
def liftP (K : PySem.W.Frag) (S₀ : W0) (w : WP) : St → Hp → (List (V × V) → Hp → Prop) → Prop := fun σ H Q => ∃ Hf ρ M Φ, Wd K S₀ Hf M H ∧ EnvOk K Hf σ ρ ∧ w ρ M Φ ∧ ∀ kvs M' vs Hf' H', Φ kvs M' → Wd K S₀ Hf' M' H' → Stp Hf M H Hf' M' H' → IsKs K Hf' kvs vs → Q (vs.map fun kv => (kV kv.1, kv.2)) H'
def wpNil : WP := fun _ M Φ => Φ [] M
def kp3 (k : Key) (d : D) (Φ : List (Key × D) → Mem → Prop) : List (Key × D) → Mem → Prop := fun r M => Φ ((k, d) :: r) M
def kp2 (wr : WP) (ρ : Sg) (x : D) (Φ : List (Key × D) → Mem → Prop) : KD := fun d M => match keyD x with | some k => wr ρ M (kp3 k d Φ) | none => False
def kp1 (wv : WE) (wr : WP) (ρ : Sg) (Φ : List (Key × D) → Mem → Prop) : KD := fun x M => wv ρ M (kp2 wr ρ x Φ)
def wpCons (wk wv : WE) (wr : WP) : WP := fun ρ M Φ => wk ρ M (kp1 wv wr ρ Φ)
/-- the readings of a display's pairs, with what they say of data -/
def VPs (X : Cx) (S₀ : W0) (pos : Pos) (ks : List (Option Expr)) (vs : List Expr) (w : WP) : Prop := ∃ trs, PPs X pos ks vs trs ∧ ∀ σ H Q, liftP X.K S₀ w σ H Q → tPairs trs σ H Q
def mergeD (kvs : List (Key × D)) : List (Key × D) := kvs.foldl (fun acc kv => putKD acc kv.1 kv.2) []
def kDisp (Φ : KD) : List (Key × D) → Mem → Prop := fun kvs M => kvs.length ≤ 15 ∧ ∀ p, M p = none → Φ (.ref p) (put M p (.dK (mergeD kvs)))
def wDisp (w : WP) : WE := fun ρ M Φ => w ρ M (kDisp Φ)
theorem isKs_merge {K : PySem.W.Frag} {Hf : Hp} : ∀ {kvs : List (Key × D)} {vs : List (Key × V)} {acc : List (Key × D)} {av : List (Key × V)}, IsKs K Hf kvs vs → IsKs K Hf acc av →
    IsKs K Hf (kvs.foldl (fun acc kv => putKD acc kv.1 kv.2) acc) (vs.foldl (fun acc kv => putK acc kv.1 kv.2) av)
  | [], vs, acc, av, h, g => by have h : vs = [] := h; rw [h]; exact g
  | (k, d) :: r, vs, acc, av, h, g => by
    obtain ⟨v, t, rfl, h2, h3⟩ := h
    rw [List.foldl_cons, List.foldl_cons]
    exact isKs_merge h3 (g.put k h2)
section
variable {X : Cx} {pos : Pos} {k v : Expr} {ks : List (Option Expr)} {vs : List Expr} {wk wv : WE} {wr : WP}
theorem vps_nil : VPs X S₀ pos [] [] wpNil := ⟨[], pps_nil, fun σ H Q ⟨Hf, ρ, M, Φ, W, e, h, k⟩ => k [] M [] Hf H h W Stp.refl rfl⟩
theorem vps_cons (hk : VE X S₀ k wk) (hv : VE X S₀ v wv) (hr : VPs X S₀ pos ks vs wr) : VPs X S₀ pos (some k :: ks) (v :: vs) (wpCons wk wv wr) := by
  obtain ⟨trs, hp, hl⟩ := hr
  refine ⟨_, pps_cons hk hv hp, fun σ H Q ⟨Hf, ρ, M, Φ, W, e, h, k⟩ => ?_⟩
  refine ⟨Hf, ρ, M, _, W, e, h, fun x M1 v1 Hf1 H1 h1 W1 s1 i1 => ?_⟩
  refine ⟨Hf1, ρ, M1, _, W1, e.mono s1.ex, h1, fun d M2 v2 Hf2 H2 h2 W2 s2 i2 => ?_⟩
  unfold kp2 at h2
  split at h2
  · rename_i key ek
    refine hl σ H2 _ ⟨Hf2, ρ, M2, _, W2, e.mono (s1.ex.trans s2.ex), h2, fun kvs M3 us Hf3 H3 h3 W3 s3 i3 => ?_⟩
    have := k ((key, d) :: kvs) M3 ((key, v2) :: us) Hf3 H3 h3 W3 ((s1.trans s2).trans s3) ⟨v2, us, rfl, IsD.mono s3.ex _ _ i2, i3⟩
    rw [List.map_cons, ← keyD_V ek i1] at this
    exact this
  · exact h2.elim
/-- {k: v, ..}, a dict that may change -/
theorem ve_disp {keys : List (Option Expr)} {values : List Expr} {w : WP} (h : VPs X S₀ pos keys values w) (hall : keys.all (·.isSome) = true := by rfl) (hl : keys.length = values.length := by rfl) (h0 : keys ≠ [] := by exact (fun z => nomatch z))
    (h15 : keys.length ≤ 15 := by decide) : VE X S₀ (.Dict keys values pos) (wDisp w) := by
  obtain ⟨trs, hp, hr⟩ := h
  refine PE.imp (pe_disp hp hall hl h0 h15) fun σ H Q ⟨Hf, ρ, M, Φ, W, e, h, k⟩ => ?_
  intro p hp0
  have hf := W.fresh_f hp0
  have hm := W.fresh_m hp0
  have U0 : Wd X.K S₀ Hf M (upd H p (.dK [])) := ⟨⟨fun a o q => by
      have n : a ≠ p := fun z => by subst z; rw [hf] at q; cases q
      rw [upd_ne n]; exact W.fro a o q, fun a m q => by
      have n : a ≠ p := fun z => by subst z; rw [hm] at q; cases q
      obtain ⟨h1, o, h2, h3⟩ := W.mem a m q
      exact ⟨h1, o, by rw [upd_ne n]; exact h2, h3⟩⟩, W.st.trans ⟨Ex.refl _, fun a o q1 q2 q3 => by
      have n : a ≠ p := fun z => by subst z; rw [hp0] at q1; cases q1
      exact ⟨by rw [upd_ne n]; exact q1, q2, q3⟩⟩⟩
  refine hr σ _ _ ⟨Hf, ρ, M, _, U0, e, h, fun kvs M1 us Hf1 H1 h1 W1 s1 i1 => ?_⟩
  obtain ⟨g1, g2, g3⟩ := s1.out p _ upd_same hf hm
  refine ⟨g1, us, rfl, by rw [← i1.len]; exact h1.1, ?_⟩
  have s2 : Stp Hf M H Hf1 (put M1 p (.dK (mergeD kvs))) (upd H1 p (.dK (mergeK [] us))) := ⟨s1.ex, fun a o q1 q2 q3 => by
    have n : a ≠ p := fun z => by subst z; rw [hp0] at q1; cases q1
    obtain ⟨r1, r2, r3⟩ := s1.out a o (by rw [upd_ne n]; exact q1) q2 q3
    exact ⟨by rw [upd_ne n]; exact r1, r2, by rw [put_ne n]; exact r3⟩⟩
  have W2 : Wd X.K S₀ Hf1 (put M1 p (.dK (mergeD kvs))) (upd H1 p (.dK (mergeK [] us))) := ⟨⟨fun a o q => by
      have n : a ≠ p := fun z => by subst z; rw [g2] at q; cases q
      rw [upd_ne n]; exact W1.fro a o q, fun a m q => by
      by_cases n : a = p
      · subst n
        rw [put_same] at q
        cases q
        exact ⟨g2, _, upd_same, _, rfl, isKs_merge i1 rfl⟩
      · rw [put_ne n] at q
        obtain ⟨h1, o, h2, h3⟩ := W1.mem a m q
        exact ⟨h1, o, by rw [upd_ne n]; exact h2, h3⟩⟩, W.st.trans s2⟩
  exact k _ _ _ _ _ (h1.2 p g3) W2 s2 (isD_ref.mpr rfl)
/-- {} -/
def wDict0 : WE := fun _ M Φ => ∀ p, M p = none → Φ (.ref p) (put M p (.dK []))
theorem ve_dict0 : VE X S₀ (.Dict [] [] pos) wDict0 := PE.imp pe_dnewK fun σ H Q ⟨Hf, ρ, M, Φ, W, e, h, k⟩ => by
  intro p hp
  obtain ⟨w, s⟩ := W.newM (o := .dK []) (m := .dK []) hp ⟨[], rfl, rfl⟩
  exact k _ _ _ _ _ (h p (W.fresh_m hp)) w s (isD_ref.mpr rfl)
end
end VL

namespace VL
variable {S₀ : W0}
open PySem PySem.Spec PyProof.Rows L2
/-! ### targets -/
def wgName (i : Nat) : WG := fun d ρ M P => P (ρ.set i (some d)) M
theorem wipe_set {σ : St} {i : Nat} {x : Option V} : ∀ {vs : List Nat}, i ∈ vs → wipe (σ.set i x) vs = wipe σ vs
  | [], h => by cases h
  | v :: vs, h => by
    show (wipe (σ.set i x) vs).set v none = (wipe σ vs).set v none
    by_cases hi : i ∈ vs
    · rw [wipe_set hi]
    · have e : i = v := by
        rcases List.mem_cons.mp h with e | e
        · exact e
        · exact absurd e hi
      subst e
      have g : ∀ (vs : List Nat), i ∉ vs → (wipe (σ.set i x) vs).set i none = (wipe σ vs).set i none := by
        intro vs
        induction vs with
        | nil => intro _; show (σ.set i x).set i none = σ.set i none; rw [List.set_set]
        | cons u us ih =>
          intro hu
          have n : i ≠ u := fun z => hu (List.mem_cons.mpr (.inl z))
          have m : i ∉ us := fun z => hu (List.mem_cons.mpr (.inr z))
          show ((wipe (σ.set i x) us).set u none).set i none = ((wipe σ us).set u none).set i none
          rw [List.set_comm _ _ (Ne.symm n), List.set_comm (l := wipe σ us) _ _ (Ne.symm n), ih m]
      exact g vs hi
theorem wipe_wipe (σ : St) : ∀ vs : List Nat, wipe (wipe σ vs) vs = wipe σ vs := by
  intro vs
  suffices h : ∀ (us vs : List Nat), (∀ i ∈ us, i ∈ vs) → wipe (wipe σ us) vs = wipe σ vs from h vs vs fun _ h => h
  intro us
  induction us with
  | nil => intro vs _; rfl
  | cons u us ih =>
    intro vs h
    show wipe ((wipe σ us).set u none) vs = wipe σ vs
    rw [wipe_set (h u (List.mem_cons_self ..))]
    exact ih vs fun i hi => h i (List.mem_cons_of_mem _ hi)
def wipeD (ρ : Sg) : List Nat → Sg
  | [] => ρ
  | v :: vs => (wipeD ρ vs).set v none
theorem EnvOk.wipe {K : PySem.W.Frag} {Hf : Hp} {σ : St} {ρ : Sg} (e : EnvOk K Hf σ ρ) : ∀ vs : List Nat, EnvOk K Hf (wipe σ vs) (wipeD ρ vs)
  | [] => e
  | v :: vs => (EnvOk.wipe e vs).unset v
section
variable {X : Cx} {pos : Pos}
theorem vg_name {vs : List Nat} (i : Nat) {x : Str} (hN : X.N.Nodup) (hi : X.N[i]? = some x := by rfl) (hx : Loc X.env.scope x := by first | exact .inl rfl | exact .inr rfl) (hv : i ∈ vs := by decide)
    (hf : X.fn x = true ∨ X.env.scope.names.lookup x = some .local := by first | exact .inl rfl | exact .inr rfl | assumption) : VG X S₀ (.Name x pos) (wgName i) vs :=
  PG.imp (pg_name hN hi hx hf) fun v σ H Q ⟨Hf, ρ, M, Φ, d, W, e, i1, h, k⟩ => k _ _ _ _ _ h W Stp.refl (e.set i i1) (wipe_set hv)
/-- several targets -/
abbrev WGs := List D → Sg → Mem → (Sg → Mem → Prop) → Prop
def liftGs (K : PySem.W.Frag) (S₀ : W0) (w : WGs) (vs : List Nat) : TGs := fun us σ H Q => ∃ Hf ρ M Φ ds, Wd K S₀ Hf M H ∧ EnvOk K Hf σ ρ ∧ IsDs K Hf ds us ∧ w ds ρ M Φ ∧
  ∀ ρ' M' σ' Hf' H', Φ ρ' M' → Wd K S₀ Hf' M' H' → Stp Hf M H Hf' M' H' → EnvOk K Hf' σ' ρ' → wipe σ' vs = wipe σ vs → Q σ' H'
def VGs (X : Cx) (S₀ : W0) (es : List Expr) (w : WGs) (vs : List Nat) : Prop := PGs X es (liftGs X.K S₀ w vs)
def wgNil : WGs := fun ds ρ M P => ds = [] ∧ P ρ M
def kg1 (u : WGs) (r : List D) (P : Sg → Mem → Prop) : Sg → Mem → Prop := fun ρ M => u r ρ M P
def wgCons (t : WG) (u : WGs) : WGs := fun ds ρ M P => match ds with | d :: r => t d ρ M (kg1 u r P) | [] => False
theorem PGs.imp {es : List Expr} {t t' : TGs} (h : PGs X es t) (i : ∀ v σ H Q, t' v σ H Q → t v σ H Q) : PGs X es t' := ⟨fun pins s σ H v u Q I r q => h.run pins s σ H v u Q I r (i v σ H Q q)⟩
theorem vgs_nil {vs : List Nat} : VGs X S₀ [] wgNil vs := PGs.imp pgs_nil fun v σ H Q ⟨Hf, ρ, M, Φ, ds, W, e, i1, h, k⟩ => by
  obtain ⟨rfl, h⟩ := h
  exact ⟨isDs_nil_inv i1, k _ _ _ _ _ h W Stp.refl e rfl⟩
theorem vgs_cons {vs : List Nat} {e : Expr} {es : List Expr} {t : WG} {u : WGs} (h1 : VG X S₀ e t vs) (h2 : VGs X S₀ es u vs) (hs : (assignEach (e :: es) X.env).map (·.2) = assign e X.env :: (assignEach es X.env).map (·.2) := by rfl) : VGs X S₀ (e :: es) (wgCons t u) vs :=
  PGs.imp (pgs_cons h1 h2 hs) fun v σ H Q ⟨Hf, ρ, M, Φ, ds, W, e, i1, h, k⟩ => by
    cases ds with
    | nil => exact h.elim
    | cons d r =>
      obtain ⟨x, us, rfl, i2, i3⟩ := isDs_cons_inv i1
      refine ⟨x, us, rfl, Hf, ρ, M, _, d, W, e, i2, h, fun ρ1 M1 σ1 Hf1 H1 h1 W1 s1 e1 w1 => ?_⟩
      refine ⟨Hf1, ρ1, M1, Φ, r, W1, e1, IsDs.mono s1.ex _ _ i3, h1, fun ρ2 M2 σ2 Hf2 H2 h2 W2 s2 e2 w2 => ?_⟩
      exact k _ _ _ _ _ h2 W2 (s1.trans s2) e2 (w2.trans w1)
/-- (a, b, ..) = a tuple -/
def wgTup (n : Nat) (u : WGs) : WG := fun d ρ M P => match d with | .tup ds => ds.length = n ∧ u ds ρ M P | _ => False
theorem vg_tup {vs : List Nat} {es : List Expr} {k : Nat} {u : WGs} {n : Nat} (hc : X.calm = true) (h : VGs X S₀ es u vs) (hn : (assignEach es X.env).length = n := by rfl) (hst : (assignEach es X.env).findIdx? (·.1) = none := by rfl) : VG X S₀ (.Tuple es k pos) (wgTup n u) vs :=
  PG.imp (pg_tup hc h hn hst) fun v σ H Q ⟨Hf, ρ, M, Φ, d, W, e, i1, h, k⟩ => by
    unfold wgTup at h
    split at h
    · obtain ⟨a, xs, rfl, q1, q2⟩ := isD_tup.mp i1
      exact ⟨a, xs, rfl, (q1.up W.fro).sq, by rw [← q2.len]; exact h.1, Hf, ρ, M, Φ, _, W, e, q2, h.2, k⟩
    · exact h.elim
end
/-! ### a, *b = a list or a tuple -/
section
variable {X : Cx} {pos : Pos}
/-- at places: i ahead of the star, n targets in all -/
def wgStar (n i : Nat) (u : WGs) : WG := fun d ρ M P => match seqM M d with
  | some ds => (n ≤ ds.length + 1 ∧ ds.length ≤ 16384) ∧ u (ds.take i ++ [.lst ((ds.drop i).take (ds.length + 1 - n))] ++ (ds.drop i).drop (ds.length + 1 - n)) ρ M P
  | none => False
theorem objOk_there {P : Program} {w : World} {H : Hp} {h : Heap} {a : Addr} {o : HO} (x : ObjOk P w H h a o) : ∃ ob, h.get? a = some ob := by
  induction o with
  | lst xs => obtain ⟨_, its, n, _, e⟩ := x; exact ⟨_, e⟩
  | tup xs => obtain ⟨_, its, _, ob, e, _⟩ := x; exact ⟨_, e⟩
  | dK kvs => obtain ⟨_, _, vs, _, o, es, ep, e, _⟩ := x; exact ⟨_, e⟩
  | dT kvs => obtain ⟨_, _, vs, _, o, es, ep, e, _⟩ := x; exact ⟨_, e⟩
  | set S n => obtain ⟨o, es, ep, _, e, _⟩ := x; exact ⟨_, e⟩
  | ins C dx fs => obtain ⟨_, _, _, e, _⟩ := x; exact ⟨_, e⟩
  | own y => exact x
  | xd fs => obtain ⟨mA, ⟨o, es, ep, e, _⟩, _⟩ := x; exact ⟨_, e⟩
  | met f y => exact ⟨_, x⟩
  | rng lo hi => obtain ⟨t, u, v, e⟩ := x; exact ⟨_, e⟩
  | frz ob u => exact ⟨_, x.1⟩
  | tbl ps => exact ⟨_, x⟩
  | ext φ => exact x.2.1
theorem vals_toList {xs : List V} {its : List Value} (r : Vals xs its) : its.toArray.toList = its := by simp
def gStar (K : PySem.W.Frag) (n i : Nat) (t : TGs) : TG := fun v σ H Q => ∃ a xs, v = .ref a ∧ (SqL K H a xs ∨ SqT K H a xs) ∧ n ≤ xs.length + 1 ∧ xs.length ≤ 16384 ∧
  ∀ p, H p = none → t (xs.take i ++ [.ref p] ++ (xs.drop i).drop (xs.length + 1 - n)) σ (upd H p (.lst ((xs.drop i).take (xs.length + 1 - n)))) Q
theorem pg_star {es : List Expr} {k : Nat} {t : TGs} {n i : Nat} (hc : X.calm = true) (h : PGs X es t) (hn : (assignEach es X.env).length = n) (hst : (assignEach es X.env).findIdx? (·.1) = some i) (hi : i < n) : PG X (.Tuple es k pos) (gStar X.K n i t) := by
  refine ⟨fun pins s σ H v u Q I r hw => ?_⟩
  obtain ⟨a, xs, rfl, hq, hl, hz, hw⟩ := hw
  cases r
  obtain ⟨m, F⟩ := I.fr
  have fin : ∀ (its : List Value), Vals xs its → ∀ (D : Addr) (h' : Heap) (tk : Nat), News X.base X.env.locals h' ((D, PySem.W.listOf ((its.drop i).take (its.length + 1 - n)).toArray 0) :: allNews X.base s.heap X.env.locals) →
      Fr X.base X.env.locals h' m → (∀ p ∈ allNews X.base s.heap X.env.locals, p.1 < D) →
      wpAny (model X.prog X.w) X.A (assignInOrder ((assignEach es X.env).map (·.2)) (its.take i ++ [.ref D] ++ (its.drop i).drop (its.length + 1 - n))) (fun _ s' => ∃ σ' H', Inv X pins σ' H' s' ∧ Q σ' H') X.xe { s with heap := h', toks := tk } := by
    intro its rv D h' tk N F' hlt
    have hlen := rv.length
    have keep : ∀ b o, b ≠ X.env.locals → s.heap.get? b = some o → h'.get? b = some o := fun b o hb e => by
      cases q : X.base.get? b with
      | some u =>
        have := I.bk b u q
        rw [e] at this; cases this
        exact F'.keep b _ q
      | none => exact (N (b, o) (List.mem_cons_of_mem _ (mem_allNews hb q e))).1
    have hD : H D = none := by
      cases e : H D with
      | none => rfl
      | some o =>
        have lt := I.hok.lt e
        have nl : D ≠ X.env.locals := fun z => by rw [z, I.free] at e; cases e
        have nb : X.base.get? D = none := by
          cases q : X.base.get? D with
          | none => rfl
          | some u => have z := (I.bs D u q).2; rw [e] at z; cases z
        have hg := objOk_there (I.hok D o e)
        obtain ⟨ob, hg⟩ := hg
        exact absurd (hlt (D, ob) (mem_allNews nl nb hg)) (Nat.lt_irrefl _)
    have eD := (N _ (List.mem_cons_self ..)).1
    have rmid : Vals ((xs.drop i).take (xs.length + 1 - n)) ((its.drop i).take (its.length + 1 - n)) := by
      rw [hlen]; exact (rv.drop i).take _
    have I1 : Inv X pins σ (upd H D (.lst ((xs.drop i).take (xs.length + 1 - n)))) { s with heap := h', toks := tk } := by
      refine I.step (ch := []) (fun b hb => nomatch hb) (fun b o hb _ _ e _ => keep b o hb e) (fun b o hb _ _ e _ => ⟨o.slots, keep b o hb e⟩) (fun b o _ e hn => ?_) (fun b o _ e => ?_) (fun b ys e => ?_) (fun b o u e => ?_) (fun b ps e => ⟨#[], ?_⟩) (fun m' hm => ?_) (fun b o e => ?_) I.bare
      · have nb : b ≠ D := fun z => by
          subst z
          by_cases hl : b = X.env.locals
          · exact (N _ (List.mem_cons_self ..)).2.1 hl
          · have nb : X.base.get? b = none := (N _ (List.mem_cons_self ..)).2.2
            exact absurd (hlt (b, o) (mem_allNews hl nb e)) (Nat.lt_irrefl _)
        rw [upd_ne nb]; exact hn
      · by_cases hl : b = X.env.locals
        · obtain ⟨_, _, _, q, _⟩ := F'.ns
          exact ⟨_, by rw [hl]; exact q⟩
        · exact ⟨o, keep b o hl e⟩
      · rw [upd_ne (ne_of_none e hD)]; exact e
      · rw [upd_ne (ne_of_none e hD)]; exact e
      · rw [upd_ne (ne_of_none e hD)]; simpa using e
      · rw [show m' = m from funext fun z => hm.agree F.ns z]; exact F'.ns
      · by_cases hb : b = D
        · subst hb
          rw [upd_same] at e
          cases e
          refine ⟨?_, _, 0, rmid, eD⟩
          rw [List.length_take, List.length_drop]
          have hs : (16384 : Nat) ≤ sizeLine := by decide
          omega
        · rw [upd_ne hb] at e
          refine (I.hok b o e).stay (fun c v hc q => keep c v (fun z => ?_) q) (fun c q => by rw [upd_ne (ne_of_none q hD)]; exact q) fun c ys q => by rw [upd_ne (ne_of_none q hD)]; exact q
          subst z
          rcases hc with rfl | hc
          · rw [I.free] at e; cases e
          · rw [I.free] at hc; cases hc
    have rall : Vals (xs.take i ++ [.ref D] ++ (xs.drop i).drop (xs.length + 1 - n)) (its.take i ++ [.ref D] ++ (its.drop i).drop (its.length + 1 - n)) := by
      rw [hlen]; exact ((rv.take i).append (Vals.append (.cons (show RelV (.ref D) (.ref D) from rfl) .nil) .nil)).append ((rv.drop i).drop _)
    exact h.run pins _ σ _ _ _ Q I1 rall (hw D hD)
  rcases hq with hq | hq
  · obtain ⟨its, rv, ht, hz2⟩ := I.list hq
    have hlen := rv.length
    exact PySem.W.kun_assignL F news_all ht.isList (I.ok.hd hc) hn hst hi (by rw [List.size_toArray, ← hlen]; exact hl) (by rw [List.size_toArray, ← hlen]; exact hz) rfl rfl rfl fun D h' tk F' N' hlt => fin its rv D h' tk N' F' hlt
  · obtain ⟨its, rv, ht, hz2⟩ := I.tuple hq
    have hlen := rv.length
    exact PySem.W.kun_assignT F news_all ht (I.ok.hd hc) hn hst hi (by rw [List.size_toArray, ← hlen]; exact hl) (by rw [List.size_toArray, ← hlen]; exact hz) rfl rfl rfl fun D h' tk F' N' hlt => fin its rv D h' tk N' F' hlt
theorem vg_star {vs : List Nat} {es : List Expr} {k : Nat} {u : WGs} {n i : Nat} (hc : X.calm = true) (h : VGs X S₀ es u vs) (hn : (assignEach es X.env).length = n := by rfl) (hst : (assignEach es X.env).findIdx? (·.1) = some i := by rfl) (hi : i < n := by decide) : VG X S₀ (.Tuple es k pos) (wgStar n i u) vs :=
  PG.imp (pg_star hc h hn hst hi) fun v σ H Q ⟨Hf, ρ, M, Φ, d, W, e, i1, h, k⟩ => by
    unfold wgStar at h
    split at h
    · rename_i ds e2
      obtain ⟨a, xs, rfl, q1, q2⟩ := seqM_some W i1 e2
      refine ⟨a, xs, rfl, q1, by rw [← q2.len]; exact h.1.1, by rw [← q2.len]; exact h.1.2, fun p hp => ?_⟩
      obtain ⟨w, s, il⟩ := W.newLst hp ((q2.dropN i).takeN (xs.length + 1 - n))
      have q3 := IsDs.mono s.ex _ _ q2
      refine ⟨_, ρ, M, Φ, _, w, e.mono s.ex, ?_, h.2, fun ρ' M' σ' Hf' H' p1 W1 s1 e1 w1 => k _ _ _ _ _ p1 W1 (s.trans s1) e1 w1⟩
      rw [q2.len]
      exact ((q3.takeN i).app (isDs_cons il isDs_nil)).app ((q3.dropN i).dropN _)
    · exact h.elim
/-- a target that is a starred name: in a list of targets it is the name -/
theorem vgs_star {vs : List Nat} {e : Expr} {es : List Expr} {t : WG} {u : WGs} {p : Pos} (h1 : VG X S₀ e t vs) (h2 : VGs X S₀ es u vs) : VGs X S₀ (.Starred e p :: es) (wgCons t u) vs := by
  refine ⟨fun pins s σ H us' us Q I r q => ?_⟩
  obtain ⟨Hf, ρ, M, Φ, ds, W, e, i1, h, k⟩ := q
  cases ds with
  | nil => exact h.elim
  | cons d rr =>
    obtain ⟨x, us2, rfl, i2, i3⟩ := isDs_cons_inv i1
    cases r with
    | cons rx rr2 =>
      rename_i u0 ur
      show wpAny _ _ (assignInOrder (assign _ X.env :: (assignEach es X.env).map (·.2)) (u0 :: ur)) _ _ _
      unfold assignInOrder
      refine wpAny_bind (wpAny_holding (thn (h1.run pins s σ H x u0 (fun σ1 H1 => liftGs X.K S₀ u vs us2 σ1 H1 Q) I rx ⟨Hf, ρ, M, _, d, W, e, i2, h, fun ρ1 M1 σ1 Hf1 H1 h1 W1 s1 e1 w1 => ?_⟩) fun _ s1 ⟨σ1, H1, I1, q1⟩ => h2.run pins s1 σ1 H1 us2 ur Q I1 rr2 q1))
      exact ⟨Hf1, ρ1, M1, Φ, rr, W1, e1, IsDs.mono s1.ex _ _ i3, h1, fun ρ2 M2 σ2 Hf2 H2 h2 W2 s2 e2 w2 => k _ _ _ _ _ h2 W2 (s1.trans s2) e2 (w2.trans w1)⟩
end
end VL

namespace VL
variable {S₀ : W0}
open PySem PySem.Spec PyProof.Rows L2
section
variable {K : PySem.W.Frag} {Hf Hf' : Hp} {M M' : Mem} {H H' : Hp} {σ : St} {ρ : Sg}
theorem KntN.go {Φ : Sg → Mem → Prop} {Q : St → Hp → Prop} (k : KntN K S₀ Hf M H Φ Q) (W : Wd K S₀ Hf M H) (p : Φ ρ M) (e : EnvOk K Hf σ ρ) : Q σ H := k _ _ _ _ _ p W Stp.refl e
end
/-! ### statements -/
def sNext : WS := fun D ρ M => D.nx ρ M
def sSeq (t u : WS) : WS := fun D ρ M => t ⟨u D, D.rt, D.bk, D.ct⟩ ρ M
def sBreak : WS := fun D ρ M => D.bk ρ M
def sCont : WS := fun D ρ M => D.ct ρ M
def kDrop (D : WN) (ρ : Sg) : KD := fun _ M => D.nx ρ M
def sDrop (w : WE) : WS := fun D ρ M => w ρ M (kDrop D ρ)
def sRet (w : WE) : WS := fun D ρ M => w ρ M D.rt
/-- return a list that may change: it is frozen from here on -/
def kFz (Φ : KD) : KD := fun d M => match memL M d with | some (a, ds) => Φ (.lst ds) (del M a) | none => Φ d M
def sRetF (w : WE) : WS := fun D ρ M => w ρ M (kFz D.rt)
def sRetN : WS := fun D _ M => D.rt .non M
def kIf (t u : WS) (D : WN) (ρ : Sg) : Bool → Mem → Prop := fun b M => match b with | true => t D ρ M | false => u D ρ M
def sIf (c : WT) (t u : WS) : WS := fun D ρ M => c ρ M (kIf t u D ρ)
def sNever : WS := fun _ _ _ => False
def kAsg (g : WG) (D : WN) (ρ : Sg) : KD := fun d M => g d ρ M D.nx
def sAsg (w : WE) (g : WG) : WS := fun D ρ M => w ρ M (kAsg g D ρ)
def kPar (i j : Nat) (De : WN) (ρ : Sg) : List D → Mem → Prop := fun ds M => match ds with | [x, y] => De.nx ((ρ.set i (some x)).set j (some y)) M | _ => False
def sPar (i j : Nat) (w : WA) : WS := fun D ρ M => w ρ M (kPar i j D ρ)
def kPar3 (i j l : Nat) (De : WN) (ρ : Sg) : List D → Mem → Prop := fun ds M => match ds with | [x, y, z] => De.nx (((ρ.set i (some x)).set j (some y)).set l (some z)) M | _ => False
def sPar3 (i j l : Nat) (w : WA) : WS := fun D ρ M => w ρ M (kPar3 i j l D ρ)
section
variable {X : Cx} {st : Stmt} {rest : List Stmt} {t u : WS} {e : Expr} {we : WE} {pos : Pos}
theorem vss_nil : VSs X S₀ [] sNext := PSs.imp pss_nil fun D σ H ⟨Hf, ρ, M, De, W, e, h, k⟩ => k.nx.go W h e
theorem vss_cons (h1 : VS X S₀ st t) (h2 : VSs X S₀ rest u) : VSs X S₀ (st :: rest) (sSeq t u) := PSs.imp (pss_cons h1 h2) fun D σ H ⟨Hf, ρ, M, De, W, e, h, k⟩ =>
  ⟨Hf, ρ, M, _, W, e, h, ⟨fun ρ1 M1 σ1 Hf1 H1 h1 W1 s1 e1 => ⟨Hf1, ρ1, M1, De, W1, e1, h1, k.at s1⟩, k.rt, k.bk, k.ct⟩⟩
theorem vss_one (h : VS X S₀ st t) : VSs X S₀ [st] t := pss_one h
theorem vs_pass : VS X S₀ (.Pass pos) sNext := PS.imp ps_pass fun D σ H ⟨Hf, ρ, M, De, W, e, h, k⟩ => k.nx.go W h e
theorem vs_break : VS X S₀ (.Break pos) sBreak := PS.imp ps_break fun D σ H ⟨Hf, ρ, M, De, W, e, h, k⟩ => k.bk.go W h e
theorem vs_continue : VS X S₀ (.Continue pos) sCont := PS.imp ps_continue fun D σ H ⟨Hf, ρ, M, De, W, e, h, k⟩ => k.ct.go W h e
theorem vs_doc {x j pos pos'} : VS X S₀ (.Expr (.Constant (.str x) j pos) pos') sNext := PS.imp ps_doc fun D σ H ⟨Hf, ρ, M, De, W, e, h, k⟩ => k.nx.go W h e
theorem vs_expr (he : VE X S₀ e we) (hs : swapsWith e none pos.line X.env = pure false := by rfl) : VS X S₀ (.Expr e pos) (sDrop we) := PS.imp (ps_expr he hs) fun D σ H ⟨Hf, ρ, M, De, W, e, h, k⟩ =>
  ⟨Hf, ρ, M, _, W, e, h, fun d M1 v Hf1 H1 h1 W1 s1 i1 => (k.nx.at s1).go W1 h1 (e.mono s1.ex)⟩
theorem vs_ret (he : VE X S₀ e we) : VS X S₀ (.Return (some e) pos) (sRet we) := PS.imp (ps_ret he) fun D σ H ⟨Hf, ρ, M, De, W, e, h, k⟩ => ⟨Hf, ρ, M, _, W, e, h, k.rt⟩
theorem vs_retF (he : VE X S₀ e we) : VS X S₀ (.Return (some e) pos) (sRetF we) := PS.imp (ps_ret he) fun D σ H ⟨Hf, ρ, M, De, W, e, h, k⟩ => ⟨Hf, ρ, M, _, W, e, h, fun d M1 v Hf1 H1 h1 W1 s1 i1 => by
  unfold kFz at h1
  split at h1
  · rename_i a ds e2
    obtain ⟨hm, rfl, _⟩ := memL_some W1 i1 e2
    obtain ⟨Hf2, W2, s2, i2⟩ := W1.freeze hm
    exact k.rt _ _ _ _ _ h1 W2 (s1.trans s2) i2
  · exact (k.rt.at s1).go W1 h1 i1⟩
theorem vs_retN : VS X S₀ (.Return none pos) sRetN := PS.imp ps_retN fun D σ H ⟨Hf, ρ, M, De, W, e, h, k⟩ => k.rt.go W h (isD_non.mpr rfl)
theorem vs_if {c : Expr} {a b : List Stmt} {tc : WT} (hc : VT X S₀ c tc) (ha : VSs X S₀ a t) (hb : VSs X S₀ b u) : VS X S₀ (.If c a b pos) (sIf tc t u) := PS.imp (ps_if hc ha hb) fun D σ H ⟨Hf, ρ, M, De, W, e, h, k⟩ => by
  refine ⟨Hf, ρ, M, _, W, e, h, fun b M1 Hf1 H1 h1 W1 s1 => ?_⟩
  cases b with
  | true => rw [if_pos rfl]; exact ⟨Hf1, ρ, M1, De, W1, e.mono s1.ex, h1, k.at s1⟩
  | false => rw [if_neg (by decide)]; exact ⟨Hf1, ρ, M1, De, W1, e.mono s1.ex, h1, k.at s1⟩
theorem vs_never : VS X S₀ st sNever := PS.imp ps_never fun D σ H ⟨Hf, ρ, M, De, W, e, h, k⟩ => h
theorem vss_never : VSs X S₀ rest sNever := PSs.imp pss_never fun D σ H ⟨Hf, ρ, M, De, W, e, h, k⟩ => h
theorem vs_asg {tg : Expr} {g : WG} {vs : List Nat} (he : VE X S₀ e we) (hg : VG X S₀ tg g vs) (hs : swapsWithSole [tg] e pos.line X.env = pure false := by rfl) (hw : swappedStores [tg] e X.env = pure none := by rfl)
    (h1 : (assignEach [tg] X.env).map (·.2) = [assign tg X.env] := by rfl) : VS X S₀ (.Assign [tg] e pos) (sAsg we g) := PS.imp (ps_asg he hg hs hw h1) fun D σ H ⟨Hf, ρ, M, De, W, e, h, k⟩ =>
  ⟨Hf, ρ, M, _, W, e, h, fun d M1 v Hf1 H1 h1 W1 s1 i1 => ⟨Hf1, ρ, M1, _, d, W1, e.mono s1.ex, i1, h1, fun ρ2 M2 σ2 Hf2 H2 h2 W2 s2 e2 _ => k.nx _ _ _ _ _ h2 W2 (s1.trans s2) e2⟩⟩
theorem vs_set (i : Nat) {x : Str} {pos' : Pos} (hN : X.N.Nodup) (he : VE X S₀ e we) (hi : X.N[i]? = some x := by rfl) (hx : Loc X.env.scope x := by first | exact .inl rfl | exact .inr rfl) (hs : swapsWith e (some (.Name x pos')) pos.line X.env = pure false := by rfl)
    (hf : X.fn x = true ∨ X.env.scope.names.lookup x = some .local := by first | exact .inl rfl | exact .inr rfl | assumption) : VS X S₀ (.Assign [.Name x pos'] e pos) (sAsg we (wgName i)) := PS.imp (ps_set hN hi hx he hs hf) fun D σ H ⟨Hf, ρ, M, De, W, e, h, k⟩ =>
  ⟨Hf, ρ, M, _, W, e, h, fun d M1 v Hf1 H1 h1 W1 s1 i1 => k.nx _ _ _ _ _ h1 W1 s1 ((e.mono s1.ex).set i i1)⟩
theorem vs_par (i j : Nat) {x y : Str} {a b : Expr} {wa : WA} {px py pt : Pos} {kt k2 pt2} (hc : X.calm = true) (hN : X.N.Nodup) (ha : VA X S₀ [a, b] wa)
    (hw : swappedStores [.Tuple [.Name x px, .Name y py] kt pt] (.Tuple [a, b] k2 pt2) X.env = pure (some [x, y]) := by rfl)
    (hi : X.N[i]? = some x := by rfl) (hj : X.N[j]? = some y := by rfl) (hij : i ≠ j := by decide)
    (hx : X.env.scope.names.lookup x = some .local := by rfl) (hy : X.env.scope.names.lookup y = some .local := by rfl)
    (hs : swapsWithSole [.Tuple [.Name x px, .Name y py] kt pt] (.Tuple [a, b] k2 pt2) pos.line X.env = pure false := by rfl) :
    VS X S₀ (.Assign [.Tuple [.Name x px, .Name y py] kt pt] (.Tuple [a, b] k2 pt2) pos) (sPar i j wa) := PS.imp (ps_par hc hN hi hj hij hx hy ha hw hs) fun D σ H ⟨Hf, ρ, M, De, W, e, h, k⟩ => by
  refine ⟨Hf, ρ, M, _, W, e, h, fun ds M1 vs Hf1 H1 h1 W1 s1 i1 => ?_⟩
  unfold kPar at h1
  split at h1
  · obtain ⟨v, r, rfl, q1, q2⟩ := isDs_cons_inv i1
    obtain ⟨w, r, rfl, q3, q4⟩ := isDs_cons_inv q2
    rw [isDs_nil_inv q4]
    exact ⟨v, w, rfl, k.nx _ _ _ _ _ h1 W1 s1 (((e.mono s1.ex).set i q1).set j q3)⟩
  · exact h1.elim
theorem vs_par3 (i j l : Nat) {x y z : Str} {a b c : Expr} {wa : WA} {px py pz pt : Pos} {kt k2 pt2} (hc : X.calm = true) (hN : X.N.Nodup) (ha : VA X S₀ [a, b, c] wa)
    (hw : swappedStores [.Tuple [.Name x px, .Name y py, .Name z pz] kt pt] (.Tuple [a, b, c] k2 pt2) X.env = pure (some [x, y, z]) := by rfl)
    (hi : X.N[i]? = some x := by rfl) (hj : X.N[j]? = some y := by rfl) (hl : X.N[l]? = some z := by rfl) (hij : i ≠ j := by decide) (hil : i ≠ l := by decide) (hjl : j ≠ l := by decide)
    (hx : X.env.scope.names.lookup x = some .local := by rfl) (hy : X.env.scope.names.lookup y = some .local := by rfl) (hz : X.env.scope.names.lookup z = some .local := by rfl)
    (hs : swapsWithSole [.Tuple [.Name x px, .Name y py, .Name z pz] kt pt] (.Tuple [a, b, c] k2 pt2) pos.line X.env = pure false := by rfl) :
    VS X S₀ (.Assign [.Tuple [.Name x px, .Name y py, .Name z pz] kt pt] (.Tuple [a, b, c] k2 pt2) pos) (sPar3 i j l wa) := PS.imp (ps_par3 hc hN hi hj hl hij hil hjl hx hy hz ha hw hs) fun D σ H ⟨Hf, ρ, M, De, W, e, h, k⟩ => by
  refine ⟨Hf, ρ, M, _, W, e, h, fun ds M1 vs Hf1 H1 h1 W1 s1 i1 => ?_⟩
  unfold kPar3 at h1
  split at h1
  · obtain ⟨v, r, rfl, q1, q2⟩ := isDs_cons_inv i1
    obtain ⟨w, r, rfl, q3, q4⟩ := isDs_cons_inv q2
    obtain ⟨w2, r, rfl, q5, q6⟩ := isDs_cons_inv q4
    rw [isDs_nil_inv q6]
    exact ⟨v, w, w2, rfl, k.nx _ _ _ _ _ h1 W1 s1 ((((e.mono s1.ex).set i q1).set j q3).set l q5)⟩
  · exact h1.elim
end
/-! o[i] = e: lists, dicts -/
def putS (M : Mem) (o i v : D) : Option (Addr × MO) := match o with
  | .ref a => match M a with
    | some (.lst ds) => match i with | .int j => (ixN ds.length j).map fun n => (a, .lst (ds.set n v)) | _ => none
    | some (.dK kvs) => if kvs.length < lim then (keyD i).map fun k => (a, .dK (putKD kvs k v)) else none
    | _ => none
  | _ => none
def kSub2 (o v : D) (P : Mem → Prop) : KD := fun i M => match putS M o i v with | some (a, mo) => P (put M a mo) | none => False
def kSub1 (wi : WE) (v : D) (ρ : Sg) (P : Mem → Prop) : KD := fun o M => wi ρ M (kSub2 o v P)
def wgSub (wo wi : WE) : WG := fun v ρ M P => wo ρ M (kSub1 wi v ρ (P ρ))
def rSetA (o i v : V) (H : Hp) (Q : Hp → Prop) : Prop := (∃ p xs k j, o = .ref p ∧ i = .int k ∧ H p = some (.lst xs) ∧ ixN xs.length k = some j ∧ Q (upd H p (.lst (xs.set j v)))) ∨ ∃ a H4, o = .ref a ∧ DPut H a i v H4 ∧ Q H4
theorem set_any {X : Cx} (hu : X.A.units + 1 < cLine) : PSet X rSetA := by
  intro pins s σ H o i v ov iv u Q I ro ri rv h
  rcases h with h | ⟨a, H4, rfl, g, q⟩
  · exact set_list pins s σ H o i v ov iv u Q I ro ri rv h
  · obtain rfl : ov = Value.ref a := ro
    exact d_setItem hu I g ri rv fun s' I' => ⟨H4, I', q⟩
theorem putS_some {K : PySem.W.Frag} {Hf : Hp} {M : Mem} {H : Hp} (W : Wd K S₀ Hf M H) {o i v : D} {ov iv vv : V} {a : Addr} {mo : MO} (io : IsD K Hf o ov) (ii : IsD K Hf i iv) (iv' : IsD K Hf v vv) (h : putS M o i v = some (a, mo)) {Q : Hp → Prop}
    (k : ∀ H', Wd K S₀ Hf (put M a mo) H' → Stp Hf M H Hf (put M a mo) H' → Q H') : rSetA ov iv vv H Q := by
  cases o <;> simp only [putS] at h <;> try cases h
  rename_i b
  split at h
  · rename_i ds e
    obtain ⟨_, o, h1, xs, rfl, h2⟩ := W.mem _ _ e
    split at h
    · rename_i j
      cases e2 : ixN ds.length j with
      | none => rw [e2] at h; cases h
      | some n =>
        rw [e2] at h
        cases h
        refine .inl ⟨_, xs, j, n, isD_ref.mp io, isD_int.mp ii, h1, by rw [← h2.len]; exact e2, ?_⟩
        obtain ⟨w, s⟩ := W.chg (o := .lst (xs.set n vv)) (m := .lst (ds.set n v)) e ⟨_, rfl, h2.setAt n iv'⟩
        exact k _ w s
    · cases h
  · rename_i kvs e
    obtain ⟨_, o, h1, xs, rfl, h2⟩ := W.mem _ _ e
    split at h
    · rename_i hl
      cases e2 : keyD i with
      | none => rw [e2] at h; cases h
      | some key =>
        rw [e2] at h
        cases h
        refine .inr ⟨a, upd H a (.dK (putK xs key vv)), isD_ref.mp io, ?_, ?_⟩
        · rw [keyD_V e2 ii]
          exact DPut.k h1 (by rw [← h2.len]; exact lim_lt hl)
        · obtain ⟨w, s⟩ := W.chg (o := .dK (putK xs key vv)) (m := .dK (putKD kvs key v)) e ⟨_, rfl, h2.put key iv'⟩
          exact k _ w s
    · cases h
  · cases h
theorem vg_sub {X : Cx} {o i : Expr} {wo wi : WE} {pos : Pos} {vs : List Nat} (hu : X.A.units + 1 < cLine) (ho : VE X S₀ o wo) (hi : VE X S₀ i wi)
    (ha : ∀ v, assign (.Subscript o i pos) X.env v = (do
      let ov ← holding [v] (eval o X.env)
      let iv ← holding [v, ov] (eval i X.env)
      standAt pos
      holding [v, ov, iv] (setItem ov iv v)
      release [v, ov, iv] []) := by intro _; rfl) : VG X S₀ (.Subscript o i pos) (wgSub wo wi) vs :=
  PG.imp (pg_sub ho hi (set_any hu) ha) fun v σ H Q ⟨Hf, ρ, M, Φ, d, W, e, i1, h, k⟩ => by
    refine ⟨Hf, ρ, M, _, W, e, h, fun x M1 u Hf1 H1 h1 W1 s1 i2 => ?_⟩
    refine ⟨Hf1, ρ, M1, _, W1, e.mono s1.ex, h1, fun y M2 w Hf2 H2 h2 W2 s2 i3 => ?_⟩
    unfold kSub2 at h2
    split at h2
    · rename_i a mo e2
      refine putS_some W2 (IsD.mono s2.ex _ _ i2) i3 (IsD.mono (s1.ex.trans s2.ex) _ _ i1) e2 fun H3 W3 s3 => ?_
      exact k _ _ _ _ _ h2 W3 ((s1.trans s2).trans s3) (e.mono ((s1.ex.trans s2.ex).trans s3.ex)) rfl
    · exact h2.elim
/-! name op= e -/
def kAug (i : Nat) (x : D) (wr : WR) (D : WN) (ρ : Sg) : KD := fun y M => wr x y M (kAsg (wgName i) D ρ)
def sAug (i : Nat) (w : WE) (wr : WR) : WS := fun D ρ M => match at_ ρ i with | some x => w ρ M (kAug i x wr D ρ) | none => False
theorem vs_aug (i : Nat) {X : Cx} {x : Str} {e : Expr} {we : WE} {op : Operator} {r : R2} {wr : WR} {pos pos' : Pos} (hN : X.N.Nodup) (ho : OpR X (inplaceOp op) r) (lk : LkR X.K r wr) (he : VE X S₀ e we) (hi : X.N[i]? = some x := by rfl) (hx : Loc X.env.scope x := by first | exact .inl rfl | exact .inr rfl)
    (hf : X.fn x = true ∨ X.env.scope.names.lookup x = some .local := by first | exact .inl rfl | exact .inr rfl | assumption) : VS X S₀ (.AugAssign (.Name x pos') op e pos) (sAug i we wr) :=
  PS.imp (ps_aug (ti := r) hN hi hx he (fun pins s σ H x y v u Q I rx ry q => ho pins s σ H x y v u Q I rx ry q) hf) fun D σ H ⟨Hf, ρ, M, De, W, e, h, k⟩ => by
    unfold sAug at h
    split at h
    · rename_i d hd
      obtain ⟨v, h1, h2⟩ := e.at hd
      refine ⟨v, h1, Hf, ρ, M, _, W, e, h, fun y M1 u Hf1 H1 h1 W1 s1 i1 => ?_⟩
      refine lk _ Hf1 M1 H1 d y v u _ _ W1 (IsD.mono s1.ex _ _ h2) i1 h1 fun z M2 w Hf2 H2 h2 W2 s2 i2 => ?_
      exact k.nx _ _ _ _ _ h2 W2 (s1.trans s2) ((e.mono (s1.ex.trans s2.ex)).set i i2)
    · exact h.elim
theorem vs_augAdd (i : Nat) {X : Cx} {x : Str} {e : Expr} {we : WE} {pos pos' : Pos} (hN : X.N.Nodup) (he : VE X S₀ e we) (hi : X.N[i]? = some x := by rfl) (hx : Loc X.env.scope x := by first | exact .inl rfl | exact .inr rfl)
    (hf : X.fn x = true ∨ X.env.scope.names.lookup x = some .local := by first | exact .inl rfl | exact .inr rfl | assumption) : VS X S₀ (.AugAssign (.Name x pos') .Add e pos) (sAug i we (wrI fun i j => .int (i + j))) :=
  vs_aug i hN iop_add (lk_I0 fun _ _ _ => isD_int.mpr rfl) he hi hx hf
/-! ### what is walked -/
structure Wk (K : PySem.W.Frag) (J : It) (items : List D) (Hf0 : Hp) : Prop where
  go : ∀ i H, i < items.length → Ex Hf0 H → J.go i H
  stop : ∀ i H, items.length ≤ i → Ex Hf0 H → J.stop i H
  yld : ∀ i H x H' Hf d, Ex Hf0 Hf → Ex Hf H → J.yld i H x H' → items[i]? = some d → ∃ Hf', Ex Hf Hf' ∧ Ex Hf' H' ∧ (∀ a o, Hf' a = some o → Hf a = some o ∨ H a = none) ∧ Ex H H' ∧ IsD K Hf' d x
def liftI (K : PySem.W.Frag) (S₀ : W0) (w : WI) : TI := fun σ H R => ∃ Hf ρ M Φ, Wd K S₀ Hf M H ∧ EnvOk K Hf σ ρ ∧ w ρ M Φ ∧ ∀ items M' J Hf' H', Φ items M' → Wd K S₀ Hf' M' H' → Stp Hf M H Hf' M' H' → Wk K J items Hf' → R J H'
def VI (X : Cx) (S₀ : W0) (tg iter : Expr) (w : WI) : Prop := PI X tg iter (liftI X.K S₀ w)
section
variable {K : PySem.W.Frag} {Hf Hf0 : Hp} {M : Mem} {H : Hp}
theorem Wk.take {J : It} {items : List D} (k : Wk K J items Hf0) (W : Wd K S₀ Hf M H) (e0 : Ex Hf0 Hf) {i : Nat} {d : D} {x : V} {H' : Hp} (y : J.yld i H x H') (hd : items[i]? = some d) :
    ∃ Hf', Wd K S₀ Hf' M H' ∧ Stp Hf M H Hf' M H' ∧ IsD K Hf' d x := by
  obtain ⟨Hf', q1, q2, q3, q4, q5⟩ := k.yld i H x H' Hf d e0 W.fro y hd
  suffices h : Wr K Hf' M H' ∧ Stp Hf M H Hf' M H' from ⟨Hf', ⟨h.1, W.st.trans h.2⟩, h.2, q5⟩
  refine ⟨⟨q2, fun a m e => ?_⟩, ⟨q1, fun a o e1 e2 e3 => ⟨q4 a o e1, ?_, e3⟩⟩⟩
  · obtain ⟨h1, o, h2, h3⟩ := W.mem a m e
    refine ⟨?_, o, q4 a o h2, h3.mono q1⟩
    cases z : Hf' a with
    | none => rfl
    | some u =>
      rcases q3 a u z with z | z
      · rw [h1] at z; cases z
      · rw [h2] at z; cases z
  · cases z : Hf' a with
    | none => rfl
    | some u =>
      rcases q3 a u z with z | z
      · rw [e2] at z; cases z
      · rw [e1] at z; cases z
theorem atI_ofnat {α : Type} {xs : List α} {i : Nat} {v : α} (h : xs[i]? = some v) : xs[i]? = some v := h
theorem wk_list {a : Addr} {xs : List V} {items : List D} (h : SqL K Hf0 a xs) (i : IsDs K Hf0 items xs) : Wk K (Itl K a) items Hf0 where
  go := fun j H hj e => by
    have l := i.len
    exact ⟨xs, xs[j], ex_l e h, List.getElem?_eq_getElem (by omega)⟩
  stop := fun j H hj e => ⟨xs, ex_l e h, by rw [← i.len]; exact hj⟩
  yld := fun j H x H' Hf d e1 e2 y hd => by
    obtain ⟨rfl, y⟩ := y
    obtain ⟨v, q1, q2⟩ := i.get hd
    have z := y xs (ex_l (e1.trans e2) h)
    rw [q1] at z
    cases z
    exact ⟨Hf, Ex.refl _, e2, fun _ _ q => .inl q, Ex.refl _, IsD.mono e1 _ _ q2⟩
theorem wk_tup {a : Addr} {xs : List V} {items : List D} (h : SqT K Hf0 a xs) (i : IsDs K Hf0 items xs) : Wk K (Itt K a) items Hf0 where
  go := fun j H hj e => by
    have l := i.len
    exact ⟨xs, xs[j], ex_t e h, List.getElem?_eq_getElem (by omega)⟩
  stop := fun j H hj e => ⟨xs, ex_t e h, by rw [← i.len]; exact hj⟩
  yld := fun j H x H' Hf d e1 e2 y hd => by
    obtain ⟨rfl, y⟩ := y
    obtain ⟨v, q1, q2⟩ := i.get hd
    have z := y xs (ex_t (e1.trans e2) h)
    rw [q1] at z
    cases z
    exact ⟨Hf, Ex.refl _, e2, fun _ _ q => .inl q, Ex.refl _, IsD.mono e1 _ _ q2⟩
/-- lo, lo + 1, .. -/
def rgD (lo : Int) (n : Nat) : List D := (List.range n).map fun (i : Nat) => D.int (lo + i)
theorem rgD_at {lo : Int} {n i : Nat} {d : D} (h : (rgD lo n)[i]? = some d) : i < n ∧ d = .int (lo + i) := by
  unfold rgD at h
  rw [List.getElem?_map] at h
  by_cases hi : i < n
  · rw [List.getElem?_eq_getElem (by rw [List.length_range]; exact hi)] at h
    simp at h
    exact ⟨hi, h.symm⟩
  · rw [List.getElem?_eq_none (by rw [List.length_range]; omega)] at h
    cases h
theorem rgD_len (lo : Int) (n : Nat) : (rgD lo n).length = n := by unfold rgD; simp
theorem wk_rng {lo : Int} {n : Nat} : Wk K (Itr lo n) (rgD lo n) Hf0 where
  go := fun j H hj e => by rw [rgD_len] at hj; exact hj
  stop := fun j H hj e => by rw [rgD_len] at hj; exact hj
  yld := fun j H x H' Hf d e1 e2 y hd => by
    obtain ⟨rfl, y⟩ := y
    obtain ⟨q1, rfl⟩ := rgD_at hd
    exact ⟨Hf, Ex.refl _, e2, fun _ _ q => .inl q, Ex.refl _, isD_int.mpr y⟩
/-- zip of two lists -/
def zipD (xs ys : List D) : List D := (xs.zip ys).map fun p => D.tup [p.1, p.2]
theorem zipD_at : ∀ {xs ys : List D} {i : Nat} {d : D}, (zipD xs ys)[i]? = some d → ∃ x y, xs[i]? = some x ∧ ys[i]? = some y ∧ d = .tup [x, y] := by
  intro xs ys i d h
  unfold zipD at h
  rw [List.getElem?_map] at h
  cases e : (xs.zip ys)[i]? with
  | none => rw [e] at h; cases h
  | some p =>
    rw [e] at h
    cases h
    rw [List.getElem?_zip_eq_some] at e
    exact ⟨p.1, p.2, e.1, e.2, rfl⟩
theorem zipD_len (xs ys : List D) : (zipD xs ys).length = min xs.length ys.length := by unfold zipD; simp
theorem wk_zipL {a b : Addr} {xs ys : List V} {ds es : List D} (h1 : SqL K Hf0 a xs) (i1 : IsDs K Hf0 ds xs) (h2 : SqL K Hf0 b ys) (i2 : IsDs K Hf0 es ys) : Wk K (Itz K a b) (zipD ds es) Hf0 where
  go := fun j H hj e => by
    rw [zipD_len] at hj
    have l1 := i1.len
    have l2 := i2.len
    exact ⟨xs, ys, xs[j], ys[j], ex_l e h1, ex_l e h2, List.getElem?_eq_getElem (by omega), List.getElem?_eq_getElem (by omega)⟩
  stop := fun j H hj e => by
    rw [zipD_len] at hj
    have l1 := i1.len
    have l2 := i2.len
    exact ⟨xs, ys, ex_l e h1, ex_l e h2, by omega⟩
  yld := fun j H x H' Hf d e1 e2 y hd => by
    obtain ⟨T, u, v, rfl, nT, rfl, y1, y2⟩ := y
    obtain ⟨dx, dy, g1, g2, rfl⟩ := zipD_at hd
    obtain ⟨u', q1, q2⟩ := i1.get g1
    obtain ⟨v', q3, q4⟩ := i2.get g2
    have z1 := y1 xs (ex_l (e1.trans e2) h1)
    have z2 := y2 ys (ex_l (e1.trans e2) h2)
    rw [q1] at z1
    rw [q3] at z2
    cases z1
    cases z2
    have hf : Hf T = none := by
      cases e : Hf T with
      | none => rfl
      | some o => rw [e2 _ _ e] at nT; cases nT
    refine ⟨upd Hf T (.tup [u, v]), Ex.new hf, fun c o q => ?_, fun c o q => ?_, Ex.new nT, isD_tup.mpr ⟨T, _, rfl, .inl upd_same, isDs_cons (IsD.mono (e1.trans (Ex.new hf)) _ _ q2) (isDs_cons (IsD.mono (e1.trans (Ex.new hf)) _ _ q4) isDs_nil)⟩⟩
    · by_cases n : c = T
      · subst n; rw [upd_same] at q ⊢; exact q
      · rw [upd_ne n] at q ⊢; exact e2 _ _ q
    · by_cases n : c = T
      · subst n; exact .inr nT
      · rw [upd_ne n] at q; exact .inl q
theorem wk_zipT {a b : Addr} {xs ys : List V} {ds es : List D} (h1 : SqT K Hf0 a xs) (i1 : IsDs K Hf0 ds xs) (h2 : SqT K Hf0 b ys) (i2 : IsDs K Hf0 es ys) : Wk K (RZ.ItzT K a b) (zipD ds es) Hf0 where
  go := fun j H hj e => by
    rw [zipD_len] at hj
    have l1 := i1.len
    have l2 := i2.len
    exact ⟨xs, ys, xs[j], ys[j], ex_t e h1, ex_t e h2, List.getElem?_eq_getElem (by omega), List.getElem?_eq_getElem (by omega)⟩
  stop := fun j H hj e => by
    rw [zipD_len] at hj
    have l1 := i1.len
    have l2 := i2.len
    exact ⟨xs, ys, ex_t e h1, ex_t e h2, by omega⟩
  yld := fun j H x H' Hf d e1 e2 y hd => by
    obtain ⟨T, u, v, rfl, nT, rfl, y1, y2⟩ := y
    obtain ⟨dx, dy, g1, g2, rfl⟩ := zipD_at hd
    obtain ⟨u', q1, q2⟩ := i1.get g1
    obtain ⟨v', q3, q4⟩ := i2.get g2
    have z1 := y1 xs (ex_t (e1.trans e2) h1)
    have z2 := y2 ys (ex_t (e1.trans e2) h2)
    rw [q1] at z1
    rw [q3] at z2
    cases z1
    cases z2
    have hf : Hf T = none := by
      cases e : Hf T with
      | none => rfl
      | some o => rw [e2 _ _ e] at nT; cases nT
    refine ⟨upd Hf T (.tup [u, v]), Ex.new hf, fun c o q => ?_, fun c o q => ?_, Ex.new nT, isD_tup.mpr ⟨T, _, rfl, .inl upd_same, isDs_cons (IsD.mono (e1.trans (Ex.new hf)) _ _ q2) (isDs_cons (IsD.mono (e1.trans (Ex.new hf)) _ _ q4) isDs_nil)⟩⟩
    · by_cases n : c = T
      · subst n; rw [upd_same] at q ⊢; exact q
      · rw [upd_ne n] at q ⊢; exact e2 _ _ q
    · by_cases n : c = T
      · subst n; exact .inr nT
      · rw [upd_ne n] at q; exact .inl q
end
/-- a frozen list, a tuple -/
def frzS : D → Option (List D)
  | .tup ds => some ds
  | .lst ds => some ds
  | .fz ds => some ds
  | _ => none
def kSeqI (Φ : List D → Mem → Prop) : KD := fun x M => match frzS x with | some ds => Φ ds M | none => False
def wiSeq (w : WE) : WI := fun ρ M Φ => w ρ M (kSeqI Φ)
def kRng1 (Φ : List D → Mem → Prop) : List D → Mem → Prop := fun ds M => match one ds with | some (.int j) => (-(2 ^ 62) ≤ j ∧ j < 2 ^ 62) ∧ Φ (rgD 0 j.toNat) M | _ => False
def wiRng1 (w : WA) : WI := fun ρ M Φ => w ρ M (kRng1 Φ)
def kRng2 (Φ : List D → Mem → Prop) : List D → Mem → Prop := fun ds M => match two ds with | some (i, j) => (-(2 ^ 62) ≤ i ∧ i < 2 ^ 62 ∧ -(2 ^ 62) ≤ j ∧ j < 2 ^ 62) ∧ Φ (rgD i (j - i).toNat) M | _ => False
def wiRng2 (w : WA) : WI := fun ρ M Φ => w ρ M (kRng2 Φ)
def zip2 (ds : List D) : Option (List D) := match ds with
  | [.lst xs, .lst ys] => some (zipD xs ys)
  | [.tup xs, .tup ys] => some (zipD xs ys)
  | _ => none
def kZip (Φ : List D → Mem → Prop) : List D → Mem → Prop := fun ds M => match zip2 ds with | some es => Φ es M | none => False
def wiZip (w : WA) : WI := fun ρ M Φ => w ρ M (kZip Φ)
section
variable {X : Cx} {tg : Expr} {l e e2 : Expr} {wl : WE} {wa : WA} {p pos : Pos}
def iSeq (K : PySem.W.Frag) (tl : TE) : TI := fun σ H R => tl σ H fun x H1 => ∃ a, x = .ref a ∧ (((∃ xs, SqL K H1 a xs) ∧ R (Itl K a) H1) ∨ ((∃ xs, SqT K H1 a xs) ∧ R (Itt K a) H1))
theorem pi_seq {tl : TE} (hl : PE X l tl) : PI X tg l (iSeq X.K tl) := by
  refine ⟨fun pins s σ H R I h => ?_⟩
  refine thn (hl.run pins s σ H _ I h) fun v s1 ⟨x, H1, I1, r1, a, ex, q⟩ => ?_
  have A := fun (X' : Cx) (e : X' = X) => e
  rcases q with ⟨hq, q⟩ | ⟨hq, q⟩
  · have g : PE X l (fun σ' H' Q => ∃ y, RelV y v ∧ Q y H') → True := fun _ => trivial
    obtain ⟨xs, hq⟩ := hq
    subst ex
    cases r1
    obtain ⟨its, rv, p, hz⟩ := I1.list hq
    refine wpAny_pyIter_list p.isList (pi_one I1 _ (turn_list a _) ⟨_, Heap.get?_push_size _ rfl, rfl, rfl⟩ q)
  · obtain ⟨xs, hq⟩ := hq
    subst ex
    cases r1
    obtain ⟨its, rv, p, hz⟩ := I1.tuple hq
    exact iter_tuple p (pi_one I1 _ (turn_tuple a _) ⟨_, Heap.get?_push_size _ rfl, rfl, rfl⟩ q)
theorem vi_seq (hl : VE X S₀ l wl) : VI X S₀ tg l (wiSeq wl) := PI.imp (pi_seq hl) fun σ H R ⟨Hf, ρ, M, Φ, W, e, h, k⟩ => by
  refine ⟨Hf, ρ, M, _, W, e, h, fun x M1 v Hf1 H1 h1 W1 s1 i1 => ?_⟩
  unfold kSeqI at h1
  split at h1
  · rename_i ds e2
    cases x <;> simp only [frzS] at e2 <;> cases e2
    · obtain ⟨a, xs, rfl, q1, q2⟩ := isD_tup.mp i1
      exact ⟨a, rfl, .inr ⟨⟨xs, (q1.up W1.fro).sq⟩, k _ _ _ _ _ h1 W1 s1 (wk_tup q1.sq q2)⟩⟩
    · obtain ⟨a, xs, rfl, q1, q2⟩ := isD_lst.mp i1
      exact ⟨a, rfl, .inl ⟨⟨xs, ex_l W1.fro (SqL.of q1)⟩, k _ _ _ _ _ h1 W1 s1 (wk_list (SqL.of q1) q2)⟩⟩
    · obtain ⟨a, xs, rfl, q1, q2⟩ := isD_fz.mp i1
      exact ⟨a, rfl, .inl ⟨⟨xs, ex_l W1.fro q1⟩, k _ _ _ _ _ h1 W1 s1 (wk_list q1 q2)⟩⟩
  · exact h1.elim
theorem vi_rng1 (hg : Gl X "range") (hm : X.mg "range" = none) (ha : VA X S₀ [e] wa) (hs : starEach [e] X.env = [(false, eval e X.env)] := by rfl) : VI X S₀ tg (.Call (.Name "range" p) [e] [] pos) (wiRng1 wa) :=
  PI.imp (pi_range1 hg hm ha hs) fun σ H R ⟨Hf, ρ, M, Φ, W, e, h, k⟩ => by
    refine ⟨Hf, ρ, M, _, W, e, h, fun ds M1 vs Hf1 H1 h1 W1 s1 i1 => ?_⟩
    unfold kRng1 at h1
    split at h1
    · rename_i j e2
      obtain ⟨v, rfl, i2⟩ := one_some i1 e2
      exact ⟨j, by rw [isD_int.mp i2], h1.1.1, h1.1.2, k _ _ _ _ _ h1.2 W1 s1 wk_rng⟩
    · exact h1.elim
theorem vi_rng2 (hg : Gl X "range") (hm : X.mg "range" = none) (ha : VA X S₀ [e, e2] wa) (hs : starEach [e, e2] X.env = [(false, eval e X.env), (false, eval e2 X.env)] := by rfl) (hs2 : starEach [e2] X.env = [(false, eval e2 X.env)] := by rfl) : VI X S₀ tg (.Call (.Name "range" p) [e, e2] [] pos) (wiRng2 wa) :=
  PI.imp (pi_range2 hg hm ha hs hs2) fun σ H R ⟨Hf, ρ, M, Φ, W, e, h, k⟩ => by
    refine ⟨Hf, ρ, M, _, W, e, h, fun ds M1 vs Hf1 H1 h1 W1 s1 i1 => ?_⟩
    unfold kRng2 at h1
    split at h1
    · rename_i i j e2
      exact ⟨i, j, two_some e2 i1, h1.1, k _ _ _ _ _ h1.2 W1 s1 wk_rng⟩
    · exact h1.elim
theorem vi_zip {elts : List Expr} {kk : Nat} {tpos : Pos} (hg : Gl X "zip") (hm : X.mg "zip" = none) (ha : VA X S₀ [e, e2] wa) (hs : starEach [e, e2] X.env = (false, eval e X.env) :: starEach [e2] X.env := by rfl) (hpl : (backTo pos (starEach [e2] X.env)).any (·.1) = false := by rfl) :
    VI X S₀ (.Tuple elts kk tpos) (.Call (.Name "zip" p) [e, e2] [] pos) (wiZip wa) :=
  PI.imp (RZ.pi_zipA hg hm ha hs hpl) fun σ H R ⟨Hf, ρ, M, Φ, W, e, h, k⟩ => by
    refine ⟨Hf, ρ, M, _, W, e, h, fun ds M1 vs Hf1 H1 h1 W1 s1 i1 => ?_⟩
    unfold kZip at h1
    split at h1
    · rename_i es e2
      unfold zip2 at e2
      split at e2
      · cases e2
        obtain ⟨v, r, rfl, i2, i3⟩ := isDs_cons_inv i1
        obtain ⟨u, r, rfl, i4, i5⟩ := isDs_cons_inv i3
        rw [isDs_nil_inv i5]
        obtain ⟨a, xs, rfl, q1, q2⟩ := isD_lst.mp i2
        obtain ⟨b, ys, rfl, q3, q4⟩ := isD_lst.mp i4
        exact ⟨a, b, xs, ys, rfl, .inl ⟨ex_l W1.fro (SqL.of q1), ex_l W1.fro (SqL.of q3), k _ _ _ _ _ h1 W1 s1 (wk_zipL (SqL.of q1) q2 (SqL.of q3) q4)⟩⟩
      · cases e2
        obtain ⟨v, r, rfl, i2, i3⟩ := isDs_cons_inv i1
        obtain ⟨u, r, rfl, i4, i5⟩ := isDs_cons_inv i3
        rw [isDs_nil_inv i5]
        obtain ⟨a, xs, rfl, q1, q2⟩ := isD_tup.mp i2
        obtain ⟨b, ys, rfl, q3, q4⟩ := isD_tup.mp i4
        exact ⟨a, b, xs, ys, rfl, .inr ⟨(q1.up W1.fro).sq, (q3.up W1.fro).sq, k _ _ _ _ _ h1 W1 s1 (wk_zipT q1.sq q2 q3.sq q4)⟩⟩
      · cases e2
    · exact h1.elim
end
/-! ### for -/
def sLoop (g : WG) (body : WS) (De : WN) : List D → Sg → Mem → Prop
  | [] => De.nx
  | x :: r => fun ρ M => g x ρ M (body ⟨sLoop g body De r, De.rt, De.nx, sLoop g body De r⟩)
def kFor (g : WG) (body : WS) (De : WN) (ρ : Sg) : List D → Mem → Prop := fun items M => sLoop g body De items ρ M
def sFor (wi : WI) (g : WG) (body : WS) : WS := fun D ρ M => wi ρ M (kFor g body D ρ)
theorem vs_for {X : Cx} {tg iter : Expr} {body : List Stmt} {wi : WI} {g : WG} {wb : WS} {vs : List Nat} {pos : Pos} (hp : PassesOwn (model X.prog X.w) X.A X.env X.xe) (hc : X.calm = true) (hi : VI X S₀ tg iter wi) (hg : VG X S₀ tg g vs) (hb : VSs X S₀ body wb)
    (hs : ∀ x, foldedSetIterable iter X.env x = pure x := by intro _; rfl) : VS X S₀ (.For tg iter body [] pos) (sFor wi g wb) :=
  PS.imp (ps_for hp hc hi hg hb hs) fun D σ H ⟨Hf, ρ, M, De, W, e, h, k⟩ => by
    refine ⟨Hf, ρ, M, _, W, e, h, fun items M0 J Hf0 H0 h0 W0 s0 wk => ?_⟩
    refine ⟨fun i m σ' H' => m = items.length - i ∧ i ≤ items.length ∧ ∃ Hf' ρ' M', Wd X.K S₀ Hf' M' H' ∧ EnvOk X.K Hf' σ' ρ' ∧ Ex Hf0 Hf' ∧ Stp Hf M H Hf' M' H' ∧ sLoop g wb De (items.drop i) ρ' M',
      ⟨items.length, by omega, by omega, Hf0, ρ, M0, W0, e.mono s0.ex, Ex.refl _, s0, h0⟩, fun i m σ' H' hW => ?_⟩
    obtain ⟨em, hi, Hf', ρ', M', W', e', x', s', hl⟩ := hW
    by_cases hlt : i < items.length
    · obtain ⟨d, hd⟩ : ∃ d, items[i]? = some d := ⟨_, List.getElem?_eq_getElem hlt⟩
      have ed : items.drop i = d :: items.drop (i + 1) := by
        rw [List.drop_eq_getElem_cons hlt]
        rw [List.getElem?_eq_getElem hlt] at hd
        cases hd; rfl
      rw [ed] at hl
      refine .inr ⟨wk.go i H' hlt (x'.trans W'.fro), _, fun σ2 H2 n => n, fun x H2 y => ?_⟩
      · obtain ⟨Hf2, W2, s2, i2⟩ := wk.take W' x' y hd
        refine ⟨Hf2, ρ', M', _, d, W2, e'.mono s2.ex, i2, hl, fun ρ3 M3 σ3 Hf3 H3 h3 W3 s3 e3 _ => ?_⟩
        have s4 := (s'.trans s2).trans s3
        have nxt : ∀ ρ5 M5 σ5 Hf5 H5, sLoop g wb De (items.drop (i + 1)) ρ5 M5 → Wd X.K S₀ Hf5 M5 H5 → Stp Hf3 M3 H3 Hf5 M5 H5 → EnvOk X.K Hf5 σ5 ρ5 →
            ∃ m', m' < m ∧ m' = items.length - (i + 1) ∧ i + 1 ≤ items.length ∧ ∃ Hf' ρ' M', Wd X.K S₀ Hf' M' H5 ∧ EnvOk X.K Hf' σ5 ρ' ∧ Ex Hf0 Hf' ∧ Stp Hf M H Hf' M' H5 ∧ sLoop g wb De (items.drop (i + 1)) ρ' M' :=
          fun ρ5 M5 σ5 Hf5 H5 h5 W5 s5 e5 => ⟨_, by omega, rfl, hlt, Hf5, ρ5, M5, W5, e5, ((x'.trans s2.ex).trans s3.ex).trans s5.ex, s4.trans s5, h5⟩
        exact ⟨Hf3, ρ3, M3, _, W3, e3, h3, ⟨nxt, k.rt.at s4, k.nx.at s4, nxt⟩⟩
    · have ei : i = items.length := by omega
      subst ei
      rw [List.drop_length] at hl
      exact .inl ⟨wk.stop _ H' (Nat.le_refl _) (x'.trans W'.fro), k.nx _ _ _ _ _ hl W' s' e'⟩
/-- the invariant form: P by what is done and what is left -/
theorem loop_inv {g : WG} {body : WS} {De : WN} {items : List D} {ρ : Sg} {M : Mem} (P : List D → List D → Sg → Mem → Prop) (h0 : P [] items ρ M)
    (hs : ∀ pre x post ρ M (bk : Sg → Mem → Prop) (nx : Sg → Mem → Prop), items = pre ++ x :: post → P pre (x :: post) ρ M → bk = De.nx → (∀ ρ M, P (pre ++ [x]) post ρ M → nx ρ M) → g x ρ M (body ⟨nx, De.rt, bk, nx⟩))
    (hd : ∀ ρ M, P items [] ρ M → De.nx ρ M) : sLoop g body De items ρ M := by
  suffices h : ∀ (post pre : List D) ρ M, items = pre ++ post → P pre post ρ M → sLoop g body De post ρ M from h items [] ρ M rfl h0
  intro post
  induction post with
  | nil => intro pre ρ M e p; rw [List.append_nil] at e; subst e; exact hd ρ M p
  | cons x post ih =>
    intro pre ρ M e p
    exact hs pre x post ρ M _ _ e p rfl fun ρ' M' p' => ih (pre ++ [x]) ρ' M' (by rw [e, List.append_assoc]; rfl) p'
/-! ### while -/
def kWhile (body : WS) (D : WN) (P : Nat → Sg → Mem → Prop) (m : Nat) (ρ : Sg) : Bool → Mem → Prop := fun b M => match b with
  | true => body ⟨fun ρ' M' => ∃ m', m' < m ∧ P m' ρ' M', D.rt, D.nx, fun ρ' M' => ∃ m', m' < m ∧ P m' ρ' M'⟩ ρ M
  | false => D.nx ρ M
def sWhile (c : WT) (body : WS) : WS := fun D ρ M => ∃ P : Nat → Sg → Mem → Prop, (∃ m, P m ρ M) ∧ ∀ m ρ M, P m ρ M → c ρ M (kWhile body D P m ρ)
theorem vs_while {X : Cx} {c : Expr} {body : List Stmt} {tc : WT} {wb : WS} {pos : Pos} (hp : PassesOwn (model X.prog X.w) X.A X.env X.xe) (hc : VT X S₀ c tc) (hb : VSs X S₀ body wb) : VS X S₀ (.While c body [] pos) (sWhile tc wb) :=
  PS.imp (ps_while hp hc hb) fun D σ H ⟨Hf, ρ, M, De, W, e, ⟨P, h0, hP⟩, k⟩ => by
    refine ⟨fun m σ' H' => ∃ Hf' ρ' M', Wd X.K S₀ Hf' M' H' ∧ EnvOk X.K Hf' σ' ρ' ∧ Stp Hf M H Hf' M' H' ∧ P m ρ' M', ?_, fun m σ' H' hW => ?_⟩
    · obtain ⟨m, h0⟩ := h0
      exact ⟨m, Hf, ρ, M, W, e, Stp.refl, h0⟩
    · obtain ⟨Hf', ρ', M', W', e', s', p'⟩ := hW
      refine ⟨Hf', ρ', M', _, W', e', hP m ρ' M' p', fun b M1 Hf1 H1 h1 W1 s1 => ?_⟩
      cases b with
      | true =>
        rw [if_pos rfl]
        refine ⟨fun σ2 H2 => ∃ m', m' < m ∧ ∃ Hf' ρ' M', Wd X.K S₀ Hf' M' H2 ∧ EnvOk X.K Hf' σ2 ρ' ∧ Stp Hf M H Hf' M' H2 ∧ P m' ρ' M', fun _ _ n => n, Hf1, ρ', M1, _, W1, e'.mono s1.ex, h1, ⟨?_, (k.rt.at s').at s1, (k.nx.at s').at s1, ?_⟩⟩
        · exact fun ρ5 M5 σ5 Hf5 H5 ⟨m', hm, h5⟩ W5 s5 e5 => ⟨m', hm, Hf5, ρ5, M5, W5, e5, (s'.trans s1).trans s5, h5⟩
        · exact fun ρ5 M5 σ5 Hf5 H5 ⟨m', hm, h5⟩ W5 s5 e5 => ⟨m', hm, Hf5, ρ5, M5, W5, e5, (s'.trans s1).trans s5, h5⟩
      | false =>
        rw [if_neg (by decide)]
        exact k.nx _ _ _ _ _ h1 W1 (s'.trans s1) (e'.mono s1.ex)
end VL

namespace VL
variable {S₀ : W0}
open PySem PySem.Spec PyProof.Rows L2
/-! ### comprehensions -/
def wYes : WT := fun _ M Φ => Φ true M
def VTs (X : Cx) (S₀ : W0) (es : List Expr) (w : WT) : Prop := PTs X es (liftT X.K S₀ w)
theorem vts_nil {X : Cx} : VTs X S₀ [] wYes := PTs.imp pts_nil fun σ H Q ⟨Hf, ρ, M, Φ, W, e, h, k⟩ => k _ _ _ _ h W Stp.refl
theorem vts_one {X : Cx} {c : Expr} {w : WT} (h : VT X S₀ c w) : VTs X S₀ [c] w := pts_one h
def kLc3 (acc : List D) (k : List D → Mem → Prop) : KD := fun y M => k (acc ++ [y]) M
def kLc2 (te : WE) (ρ : Sg) (acc : List D) (k : List D → Mem → Prop) : Bool → Mem → Prop := fun b M => match b with | true => te ρ M (kLc3 acc k) | false => k acc M
def kLc1 (tt : WT) (te : WE) (acc : List D) (k : List D → Mem → Prop) : Sg → Mem → Prop := fun ρ M => tt ρ M (kLc2 te ρ acc k)
def wLcGo (g : WG) (tt : WT) (te : WE) (ρ : Sg) (k : List D → Mem → Prop) : List D → List D → Mem → Prop
  | [] => k
  | x :: r => fun acc M => g x ρ M (kLc1 tt te acc (wLcGo g tt te ρ k r))
def kLcF (Φ : KD) : List D → Mem → Prop := fun acc M => Φ (.lst acc) M
def kLcM (Φ : KD) : List D → Mem → Prop := fun acc M => ∀ p, M p = none → Φ (.ref p) (put M p (.lst acc))
def kLc0 (g : WG) (tt : WT) (te : WE) (ρ : Sg) (k : List D → Mem → Prop) : List D → Mem → Prop := fun items M => items.length ≤ lim ∧ wLcGo g tt te ρ k items [] M
def wLc (wi : WI) (g : WG) (tt : WT) (te : WE) (vs : List Nat) : WE := fun ρ M Φ => wi ρ M (kLc0 g tt te (wipeD ρ vs) (kLcF Φ))
def wLcM (wi : WI) (g : WG) (tt : WT) (te : WE) (vs : List Nat) : WE := fun ρ M Φ => wi ρ M (kLc0 g tt te (wipeD ρ vs) (kLcM Φ))
theorem lift_lc {K : PySem.W.Frag} {wi : WI} {g : WG} {tt : WT} {te : WE} {vs : List Nat} {σ : St} {H : Hp} {Q : VK} {Hf : Hp} {ρ : Sg} {M : Mem} {k : List D → Mem → Prop} (W : Wd K S₀ Hf M H) (e : EnvOk K Hf σ ρ) (h : wi ρ M (kLc0 g tt te (wipeD ρ vs) k))
    (fin : ∀ acc M' H' Hf' D us, k acc M' → Wd K S₀ Hf' M' H' → Stp Hf M H Hf' M' H' → (∀ o, H D = some o → Hf D = none → M D = none → False) → H' D = some (.lst us) → Hf' D = none → M' D = none → IsDs K Hf' acc us → Q (.ref D) H') :
    tLc (liftI K S₀ wi) (liftG K S₀ g vs) (liftT K S₀ tt) (liftE K S₀ te) vs σ H Q := by
  refine ⟨Hf, ρ, M, _, W, e, h, fun items M0 J Hf0 H0 h0 W0 s0 wk => fun D hD => ?_⟩
  obtain ⟨hlim, h0⟩ := h0
  have hDf := W0.fresh_f hD
  have hDm := W0.fresh_m hD
  have nd : ∀ o, H D = some o → Hf D = none → M D = none → False := fun o q1 q2 q3 => by
    have := (s0.out D o q1 q2 q3).1
    rw [hD] at this; cases this
  have up2 : ∀ {Hf1 M1 H1 o}, Stp Hf M H Hf1 M1 H1 → Stp Hf M H Hf1 M1 (upd H1 D o) := fun {Hf1 M1 H1 o} s1 => ⟨s1.ex, fun a u q1 q2 q3 => by
      have n : a ≠ D := fun z => by subst z; exact nd u q1 q2 q3
      rw [upd_ne n]; exact s1.out a u q1 q2 q3⟩
  have up1 : ∀ {Hf1 M1 H1 o}, Wd K S₀ Hf1 M1 H1 → Hf1 D = none → M1 D = none → Stp Hf M H Hf1 M1 H1 → Wd K S₀ Hf1 M1 (upd H1 D o) := fun {Hf1 M1 H1 o} W1 z1 z2 s1 => ⟨⟨fun a u q => by
      have n : a ≠ D := fun z => by subst z; rw [z1] at q; cases q
      rw [upd_ne n]; exact W1.fro a u q, fun a m q => by
      have n : a ≠ D := fun z => by subst z; rw [z2] at q; cases q
      obtain ⟨q1, o, q2, q3⟩ := W1.mem a m q
      exact ⟨q1, o, by rw [upd_ne n]; exact q2, q3⟩⟩, W.st.trans (up2 s1)⟩
  refine ⟨fun i m H' => m = items.length - i ∧ i ≤ items.length ∧ ∃ Hf' M' acc us, Wd K S₀ Hf' M' H' ∧ Ex Hf0 Hf' ∧ Stp Hf M H Hf' M' H' ∧ H' D = some (.lst us) ∧ Hf' D = none ∧ M' D = none ∧ IsDs K Hf' acc us ∧ acc.length ≤ i ∧ wLcGo g tt te (wipeD ρ vs) k (items.drop i) acc M',
    ⟨items.length, by omega, by omega, Hf0, M0, [], [], up1 W0 hDf hDm s0, Ex.refl _, up2 s0, upd_same, hDf, hDm, isDs_nil, Nat.le_refl _, h0⟩, fun i m H' hW => ?_⟩
  obtain ⟨em, hi, Hf', M', acc, us, W', x', s', d1, d2, d3, ia, la, hl⟩ := hW
  by_cases hlt : i < items.length
  · obtain ⟨d, hd⟩ : ∃ d, items[i]? = some d := ⟨_, List.getElem?_eq_getElem hlt⟩
    have ed : items.drop i = d :: items.drop (i + 1) := by
      rw [List.drop_eq_getElem_cons hlt]
      rw [List.getElem?_eq_getElem hlt] at hd
      cases hd; rfl
    rw [ed] at hl
    refine .inr ⟨wk.go i H' hlt (x'.trans W'.fro), _, fun H2 n => n, fun x H2 y => ?_⟩
    obtain ⟨Hf2, W2, s2, i2⟩ := wk.take W' x' y hd
    obtain ⟨d4, d5, d6⟩ := s2.out D _ d1 d2 d3
    refine ⟨Hf2, wipeD ρ vs, M', _, d, W2, (e.wipe vs).mono (s'.ex.trans s2.ex), i2, hl, fun ρ3 M3 σ3 Hf3 H3 h3 W3 s3 e3 w3 => ⟨by rw [w3, wipe_wipe], ?_⟩⟩
    obtain ⟨d7, d8, d9⟩ := s3.out D _ d4 d5 d6
    refine ⟨Hf3, ρ3, M3, _, W3, e3, h3, fun b M4 Hf4 H4 h4 W4 s4 => ?_⟩
    obtain ⟨d10, d11, d12⟩ := s4.out D _ d7 d8 d9
    have s5 := ((s'.trans s2).trans s3).trans s4
    have x5 := ((x'.trans s2.ex).trans s3.ex).trans s4.ex
    cases b with
    | true =>
      rw [if_pos rfl]
      refine ⟨Hf4, ρ3, M4, _, W4, e3.mono s4.ex, h4, fun y M6 v Hf6 H6 h6 W6 s6 i6 => ?_⟩
      obtain ⟨d13, d14, d15⟩ := s6.out D _ d10 d11 d12
      have ia6 := IsDs.mono (((s2.ex.trans s3.ex).trans s4.ex).trans s6.ex) _ _ ia
      refine ⟨us, d13, by rw [← ia.len]; exact lim_lt (by omega), _, ?_, rfl, hlt, Hf6, M6, acc ++ [y], us ++ [v], up1 W6 d14 d15 (s5.trans s6), x5.trans s6.ex, up2 (s5.trans s6), upd_same, d14, d15, ia6.app (isDs_cons i6 isDs_nil), by simp; omega, h6⟩
      omega
    | false =>
      rw [if_neg (by decide)]
      exact ⟨_, by omega, rfl, hlt, Hf4, M4, acc, us, W4, x5, s5, d10, d11, d12, IsDs.mono ((s2.ex.trans s3.ex).trans s4.ex) _ _ ia, by omega, h4⟩
  · have ei : i = items.length := by omega
    subst ei
    rw [List.drop_length] at hl
    exact .inl ⟨wk.stop _ H' (Nat.le_refl _) (x'.trans W'.fro), fin acc M' H' Hf' D us hl W' s' nd d1 d2 d3 ia⟩
section
variable {K : PySem.W.Frag} {Hf Hf' : Hp} {M M' : Mem} {H H' : Hp}
theorem lc_finF {Φ : KD} {Q : VK} (W₀ : Stp S₀.Hf S₀.M S₀.H Hf M H) (kn : Knt K S₀ Hf M H Φ Q) : ∀ acc M' H' Hf' D us, kLcF Φ acc M' → Wd K S₀ Hf' M' H' → Stp Hf M H Hf' M' H' → (∀ o, H D = some o → Hf D = none → M D = none → False) → H' D = some (.lst us) → Hf' D = none → M' D = none → IsDs K Hf' acc us → Q (.ref D) H' := by
  intro acc M' H' Hf' D us h W s nd d1 d2 d3 i
  have e := Ex.new (o := .lst us) d2
  suffices z : Wr K (upd Hf' D (.lst us)) M' H' ∧ Stp Hf M H (upd Hf' D (.lst us)) M' H' from kn _ _ _ (upd Hf' D (.lst us)) H' h ⟨z.1, W₀.trans z.2⟩ z.2 (isD_lst.mpr ⟨D, us, rfl, upd_same, IsDs.mono e _ _ i⟩)
  refine ⟨⟨fun a u q => ?_, fun a m q => ?_⟩, ⟨s.ex.trans e, fun a u q1 q2 q3 => ?_⟩⟩
  · by_cases n : a = D
    · subst n; rw [upd_same] at q; rw [d1]; exact q
    · rw [upd_ne n] at q; exact W.fro a u q
  · have n : a ≠ D := fun z => by subst z; rw [d3] at q; cases q
    obtain ⟨q1, o, q2, q3⟩ := W.mem a m q
    exact ⟨by rw [upd_ne n]; exact q1, o, q2, q3.mono e⟩
  · have n : a ≠ D := fun z => by subst z; exact nd u q1 q2 q3
    obtain ⟨z1, z2, z3⟩ := s.out a u q1 q2 q3
    exact ⟨z1, by rw [upd_ne n]; exact z2, z3⟩
theorem lc_finM {Φ : KD} {Q : VK} (W₀ : Stp S₀.Hf S₀.M S₀.H Hf M H) (kn : Knt K S₀ Hf M H Φ Q) : ∀ acc M' H' Hf' D us, kLcM Φ acc M' → Wd K S₀ Hf' M' H' → Stp Hf M H Hf' M' H' → (∀ o, H D = some o → Hf D = none → M D = none → False) → H' D = some (.lst us) → Hf' D = none → M' D = none → IsDs K Hf' acc us → Q (.ref D) H' := by
  intro acc M' H' Hf' D us h W s nd d1 d2 d3 i
  suffices z : Wr K Hf' (put M' D (.lst acc)) H' ∧ Stp Hf M H Hf' (put M' D (.lst acc)) H' from kn _ _ _ Hf' H' (h D d3) ⟨z.1, W₀.trans z.2⟩ z.2 (isD_ref.mpr rfl)
  refine ⟨⟨W.fro, fun a m q => ?_⟩, ⟨s.ex, fun a u q1 q2 q3 => ?_⟩⟩
  · by_cases n : a = D
    · subst n; rw [put_same] at q; cases q; exact ⟨d2, _, d1, us, rfl, i⟩
    · rw [put_ne n] at q; exact W.mem a m q
  · have n : a ≠ D := fun z => by subst z; exact nd u q1 q2 q3
    obtain ⟨z1, z2, z3⟩ := s.out a u q1 q2 q3
    exact ⟨z1, z2, by rw [put_ne n]; exact z3⟩
end
section
variable {X : Cx} {elt tg iter : Expr} {ifs : List Expr} {scope : Scope} {own : List (Str × Nat)} {pos : Pos} {wi : WI} {g : WG} {tt : WT} {te : WE}
theorem ve_lc (hc : X.calm = true) (hN : X.N.Nodup) (hi : VI X S₀ tg iter wi) (ok : BlkOk X.N X.env.scope scope own)
    (hg : ∀ (s : Shared) (H : Hp) (C : Addr) (cl : List (Str × Addr)) (fp : List Addr), VG (X.blk s H scope (compEnvC scope cl C X.env) fp) S₀ tg g (own.map (·.2))) (ht : ∀ (s : Shared) (H : Hp) (C : Addr) (cl : List (Str × Addr)) (fp : List Addr), VTs (X.blk s H scope (compEnvC scope cl C X.env) fp) S₀ ifs tt)
    (he : ∀ (s : Shared) (H : Hp) (C : Addr) (cl : List (Str × Addr)) (fp : List Addr), VE (X.blk s H scope (compEnvC scope cl C X.env) fp) S₀ elt te) (hs : ∀ x, foldedSetIterable iter X.env x = pure x := by intro _; rfl) :
    VE X S₀ (.ListComp elt [⟨tg, iter, ifs, 0⟩] scope pos) (wLc wi g tt te (own.map (·.2))) :=
  PE.imp (pe_lc (g := liftG X.K S₀ g (own.map fun (x : Str × Nat) => x.2)) (tt := liftT X.K S₀ tt) (te := liftE X.K S₀ te) hc hN hi ok hg ht he hs) fun σ H Q ⟨Hf, ρ, M, Φ, W, e, h, k⟩ => lift_lc W e h (lc_finF W.st k)
theorem ve_lcM (hc : X.calm = true) (hN : X.N.Nodup) (hi : VI X S₀ tg iter wi) (ok : BlkOk X.N X.env.scope scope own)
    (hg : ∀ (s : Shared) (H : Hp) (C : Addr) (cl : List (Str × Addr)) (fp : List Addr), VG (X.blk s H scope (compEnvC scope cl C X.env) fp) S₀ tg g (own.map (·.2))) (ht : ∀ (s : Shared) (H : Hp) (C : Addr) (cl : List (Str × Addr)) (fp : List Addr), VTs (X.blk s H scope (compEnvC scope cl C X.env) fp) S₀ ifs tt)
    (he : ∀ (s : Shared) (H : Hp) (C : Addr) (cl : List (Str × Addr)) (fp : List Addr), VE (X.blk s H scope (compEnvC scope cl C X.env) fp) S₀ elt te) (hs : ∀ x, foldedSetIterable iter X.env x = pure x := by intro _; rfl) :
    VE X S₀ (.ListComp elt [⟨tg, iter, ifs, 0⟩] scope pos) (wLcM wi g tt te (own.map (·.2))) :=
  PE.imp (pe_lc (g := liftG X.K S₀ g (own.map fun (x : Str × Nat) => x.2)) (tt := liftT X.K S₀ tt) (te := liftE X.K S₀ te) hc hN hi ok hg ht he hs) fun σ H Q ⟨Hf, ρ, M, Φ, W, e, h, k⟩ => lift_lc W e h (lc_finM W.st k)
/-- name = [..], the name a local -/
theorem vs_setLc (i : Nat) {y : Str} {py spos : Pos} (hc : X.calm = true) (hN : X.N.Nodup) (hi : VI X S₀ tg iter wi) (ok : BlkOk X.N X.env.scope scope own)
    (hg : ∀ (s : Shared) (H : Hp) (C : Addr) (cl : List (Str × Addr)) (fp : List Addr), VG (X.blk s H scope (compEnvC scope cl C X.env) fp) S₀ tg g (own.map (·.2))) (ht : ∀ (s : Shared) (H : Hp) (C : Addr) (cl : List (Str × Addr)) (fp : List Addr), VTs (X.blk s H scope (compEnvC scope cl C X.env) fp) S₀ ifs tt)
    (he : ∀ (s : Shared) (H : Hp) (C : Addr) (cl : List (Str × Addr)) (fp : List Addr), VE (X.blk s H scope (compEnvC scope cl C X.env) fp) S₀ elt te)
    (hsw : swapsWith (.ListComp elt [⟨tg, iter, ifs, 0⟩] scope pos) (some (.Name y py)) spos.line X.env = pure true) (hy : X.N[i]? = some y := by rfl) (hyl : X.env.scope.names.lookup y = some .local := by rfl) (hs : ∀ x, foldedSetIterable iter X.env x = pure x := by intro _; rfl) :
    VS X S₀ (.Assign [.Name y py] (.ListComp elt [⟨tg, iter, ifs, 0⟩] scope pos) spos) (sAsg (wLc wi g tt te (own.map (·.2))) (wgName i)) :=
  PS.imp (ps_setLc (g := liftG X.K S₀ g (own.map fun (x : Str × Nat) => x.2)) (tt := liftT X.K S₀ tt) (te := liftE X.K S₀ te) hc hN hy hyl hsw hi ok hg ht he hs) fun D σ H ⟨Hf, ρ, M, De, W, e, h, k⟩ => by
    refine lift_lc (Q := fun x H1 => D.nx (σ.set i (some x)) H1) W e h (lc_finF W.st (Φ := kAsg (wgName i) De ρ) (Q := fun x H1 => D.nx (σ.set i (some x)) H1) ?_)
    exact fun d M' v Hf' H' p W' s' i' => k.nx _ _ _ _ _ p W' s' ((e.mono s'.ex).set i i')
theorem vs_setLcM (i : Nat) {y : Str} {py spos : Pos} (hc : X.calm = true) (hN : X.N.Nodup) (hi : VI X S₀ tg iter wi) (ok : BlkOk X.N X.env.scope scope own)
    (hg : ∀ (s : Shared) (H : Hp) (C : Addr) (cl : List (Str × Addr)) (fp : List Addr), VG (X.blk s H scope (compEnvC scope cl C X.env) fp) S₀ tg g (own.map (·.2))) (ht : ∀ (s : Shared) (H : Hp) (C : Addr) (cl : List (Str × Addr)) (fp : List Addr), VTs (X.blk s H scope (compEnvC scope cl C X.env) fp) S₀ ifs tt)
    (he : ∀ (s : Shared) (H : Hp) (C : Addr) (cl : List (Str × Addr)) (fp : List Addr), VE (X.blk s H scope (compEnvC scope cl C X.env) fp) S₀ elt te)
    (hsw : swapsWith (.ListComp elt [⟨tg, iter, ifs, 0⟩] scope pos) (some (.Name y py)) spos.line X.env = pure true) (hy : X.N[i]? = some y := by rfl) (hyl : X.env.scope.names.lookup y = some .local := by rfl) (hs : ∀ x, foldedSetIterable iter X.env x = pure x := by intro _; rfl) :
    VS X S₀ (.Assign [.Name y py] (.ListComp elt [⟨tg, iter, ifs, 0⟩] scope pos) spos) (sAsg (wLcM wi g tt te (own.map (·.2))) (wgName i)) :=
  PS.imp (ps_setLc (g := liftG X.K S₀ g (own.map fun (x : Str × Nat) => x.2)) (tt := liftT X.K S₀ tt) (te := liftE X.K S₀ te) hc hN hy hyl hsw hi ok hg ht he hs) fun D σ H ⟨Hf, ρ, M, De, W, e, h, k⟩ => by
    refine lift_lc (Q := fun x H1 => D.nx (σ.set i (some x)) H1) W e h (lc_finM W.st (Φ := kAsg (wgName i) De ρ) (Q := fun x H1 => D.nx (σ.set i (some x)) H1) ?_)
    exact fun d M' v Hf' H' p W' s' i' => k.nx _ _ _ _ _ p W' s' ((e.mono s'.ex).set i i')
end
/-- a comprehension over data whose parts only read: item by item -/
theorem lcGo_map {g : WG} {tt : WT} {te : WE} {ρ : Sg} {k : List D → Mem → Prop} {M : Mem} (b : D → Bool) (f : D → D) : ∀ (items acc : List D),
    (∀ x ∈ items, ∀ Ψ : List D → Mem → Prop, ∀ acc, (b x = true → Ψ (acc ++ [f x]) M) → (b x = false → Ψ acc M) → g x ρ M (kLc1 tt te acc Ψ)) → k (acc ++ (items.filter b).map f) M → wLcGo g tt te ρ k items acc M
  | [], acc, _, h => by
    show k acc M
    simpa using h
  | x :: r, acc, hx, h => by
    refine hx x (List.mem_cons_self ..) _ _ (fun hb => ?_) (fun hb => ?_)
    · refine lcGo_map b f r _ (fun y hy => hx y (List.mem_cons_of_mem _ hy)) ?_
      rw [List.append_assoc]
      rw [List.filter_cons, if_pos hb] at h
      exact h
    · refine lcGo_map b f r _ (fun y hy => hx y (List.mem_cons_of_mem _ hy)) ?_
      rw [List.filter_cons, if_neg (by rw [hb]; decide)] at h
      exact h
/-- the same with an invariant -/
theorem lcGo_inv {g : WG} {tt : WT} {te : WE} {ρ : Sg} {k : List D → Mem → Prop} {items : List D} {M : Mem} (P : List D → List D → List D → Mem → Prop) (h0 : P [] items [] M)
    (hs : ∀ pre x post acc M (Ψ : List D → Mem → Prop), items = pre ++ x :: post → P pre (x :: post) acc M → (∀ acc M, P (pre ++ [x]) post acc M → Ψ acc M) → g x ρ M (kLc1 tt te acc Ψ))
    (hd : ∀ acc M, P items [] acc M → k acc M) : wLcGo g tt te ρ k items [] M := by
  suffices h : ∀ (post pre acc : List D) M, items = pre ++ post → P pre post acc M → wLcGo g tt te ρ k post acc M from h items [] [] M rfl h0
  intro post
  induction post with
  | nil => intro pre acc M e p; rw [List.append_nil] at e; subst e; exact hd acc M p
  | cons x post ih =>
    intro pre acc M e p
    exact hs pre x post acc M _ e p fun acc' M' p' => ih (pre ++ [x]) acc' M' (by rw [e, List.append_assoc]; rfl) p'
/-! ### defs -/
/-- a promise over data: the arguments, the memory, what is wanted of the answer -/
abbrev W3 := List D → Mem → KD → Prop
def Knr (K : PySem.W.Frag) (Hf : Hp) (M : Mem) (H : Hp) (Φ : KD) (Q : VK) : Prop := ∀ d M' v Hf' H', Φ d M' → Wr K Hf' M' H' → Stp Hf M H Hf' M' H' → IsD K Hf' d v → Q v H'
theorem Knt.raw {K : PySem.W.Frag} {Hf : Hp} {M : Mem} {H : Hp} {Φ : KD} {Q : VK} (k : Knt K S₀ Hf M H Φ Q) (W : Wd K S₀ Hf M H) : Knr K Hf M H Φ Q := fun d M' v Hf' H' p W' s i => k d M' v Hf' H' p ⟨W', W.st.trans s⟩ s i
theorem Knr.of {K : PySem.W.Frag} {Hf : Hp} {M : Mem} {H : Hp} {Φ : KD} {Q : VK} (k : Knr K Hf M H Φ Q) : Knt K ⟨Hf, M, H⟩ Hf M H Φ Q := fun d M' v Hf' H' p W' s i => k d M' v Hf' H' p W'.toWr s i
theorem Wr.begin {K : PySem.W.Frag} {Hf : Hp} {M : Mem} {H : Hp} (W : Wr K Hf M H) : Wd K ⟨Hf, M, H⟩ Hf M H := ⟨W, Stp.refl⟩
def spW (K : PySem.W.Frag) (Wf : W3) : Sp := fun vs H Q _ => ∃ Hf M ds Φ, Wr K Hf M H ∧ IsDs K Hf ds vs ∧ Wf ds M Φ ∧ Knr K Hf M H Φ Q
def startD (n : Nat) (ds : List D) : Sg := ds.map some ++ List.replicate (n - ds.length) none
theorem env_start {K : PySem.W.Frag} {Hf : Hp} : ∀ {ds : List D} {vs : List V} (n : Nat), IsDs K Hf ds vs → EnvOk K Hf (vs.map some ++ List.replicate n none) (ds.map some ++ List.replicate n none) := by
  intro ds vs n h
  refine ⟨by simp [h.len], fun i d q => ?_⟩
  by_cases hi : i < ds.length
  · rw [List.getElem?_append_left (by simpa using hi), List.getElem?_map] at q
    cases e : ds[i]? with
    | none => rw [e] at q; cases q
    | some d' =>
      rw [e] at q
      cases q
      obtain ⟨v, h1, h2⟩ := h.get e
      refine ⟨v, ?_, h2⟩
      rw [List.getElem?_append_left (by rw [List.length_map, ← h.len]; exact hi), List.getElem?_map, h1]
      rfl
  · rw [List.getElem?_append_right (by rw [List.length_map]; omega)] at q
    rw [List.getElem?_replicate] at q
    split at q <;> cases q
def endsD (Φ : KD) : WN := ⟨fun _ M => Φ .non M, Φ, fun _ _ => False, fun _ _ => False⟩
section
variable {P : Program} {w : World} {K : PySem.W.Frag} {mg : Str → Option Value} {base : Heap}
/-- THE RULE for a def -/
theorem fnW {x qual : Str} {st : Stmt} {f : Addr} {fd : FuncData} {N ps : List Str} {k : Nat} {Wf : W3} (F : Fun K x qual st f fd) (S : FnScope N ps (defScope st)) (len : ∀ ds M Φ, Wf ds M Φ → ds.length = ps.length)
    (h : ∀ (cdv : Value) (A : Around) (outer : List Env) (s : Shared) (H : Hp) (E : XK), Room k (A.deeper (envOfC qual (defScope st) s.heap.objs.size f cdv)) →
      ∀ S₀ : W0, ∃ w', VSs (cxOf CX0 P w K mg base N qual (defScope st) f cdv A outer s H E).nox S₀ (defBody st) w' ∧ ∀ ds M Φ, Wf ds M Φ → w' (endsD Φ) (startD N.length ds) M) : FnOk P w K mg base CX0 (k + 1) f fd ps (spW K Wf) := by
  refine F.ok S (fun vs H Q E h => ?_) (fun cdv A outer s H vs Q E hr hsp => ?_)
  · obtain ⟨Hf, M, ds, Φ, _, i, hw, _⟩ := h
    rw [← i.len]
    exact len ds M Φ hw
  · obtain ⟨Hf, M, ds, Φ, W, i, hw, kn⟩ := hsp
    have kn := kn.of
    obtain ⟨w', hv, hw'⟩ := h cdv A outer s H E hr ⟨Hf, M, H⟩
    refine ⟨_, hv, ?_⟩
    refine ⟨Hf, startD N.length ds, M, endsD Φ, W.begin, ?_, hw' ds M Φ hw, ⟨fun ρ' M' σ' Hf' H' p W' s' e' => kn _ _ _ _ _ p W' s' (isD_non.mpr rfl), kn, (fun ρ' M' σ' Hf' H' p W' s' e' => (p : False).elim), (fun ρ' M' σ' Hf' H' p W' s' e' => (p : False).elim)⟩⟩
    have e := env_start (K := K) (Hf := Hf) (N.length - ds.length) i
    unfold startD
    rw [show start N vs = vs.map some ++ List.replicate (N.length - vs.length) none from rfl, ← i.len]
    exact e
/-- .. with defaults -/
theorem fnWD {x qual : Str} {params : Arguments} {body : List Stmt} {scope : Scope} {dvs : List V} {kws : List (Str × V)} {f : Addr} {fd : FuncData} {N ps : List Str} {k : Nat} {Wf : W3} (F : FunD K x qual params body scope dvs kws f fd) (S : FnScope N ps scope) (len : ∀ ds M Φ, Wf ds M Φ → ds.length = ps.length)
    (h : ∀ (cdv : Value) (A : Around) (outer : List Env) (s : Shared) (H : Hp) (E : XK), Room k (A.deeper (envOfC qual scope s.heap.objs.size f cdv)) →
      ∀ S₀ : W0, ∃ w', VSs (cxOf CX0 P w K mg base N qual scope f cdv A outer s H E).nox S₀ body w' ∧ ∀ ds M Φ, Wf ds M Φ → w' (endsD Φ) (startD N.length ds) M) : FnOk P w K mg base CX0 (k + 1) f fd ps (spW K Wf) := by
  refine F.ok S (fun vs H Q E h => ?_) (fun cdv A outer s H vs Q E hr hsp => ?_)
  · obtain ⟨Hf, M, ds, Φ, _, i, hw, _⟩ := h
    rw [← i.len]
    exact len ds M Φ hw
  · obtain ⟨Hf, M, ds, Φ, W, i, hw, kn⟩ := hsp
    have kn := kn.of
    obtain ⟨w', hv, hw'⟩ := h cdv A outer s H E hr ⟨Hf, M, H⟩
    refine ⟨_, PSs.nox hv, ?_⟩
    refine ⟨Hf, startD N.length ds, M, endsD Φ, W.begin, ?_, hw' ds M Φ hw, ⟨fun ρ' M' σ' Hf' H' p W' s' e' => kn _ _ _ _ _ p W' s' (isD_non.mpr rfl), kn, (fun ρ' M' σ' Hf' H' p W' s' e' => (p : False).elim), (fun ρ' M' σ' Hf' H' p W' s' e' => (p : False).elim)⟩⟩
    have e := env_start (K := K) (Hf := Hf) (N.length - ds.length) i
    unfold startD
    rw [show start N vs = vs.map some ++ List.replicate (N.length - vs.length) none from rfl, ← i.len]
    exact e
/-- a weaker promise -/
theorem spW_imp {k : Nat} {f : Addr} {fd : FuncData} {ps : List Str} {Wf Wf' : W3} (F : FnOk P w K mg base CX0 k f fd ps (spW K Wf)) (h : ∀ ds M Φ, Wf' ds M Φ → Wf ds M Φ) : FnOk P w K mg base CX0 k f fd ps (spW K Wf') :=
  F.imp fun vs H Q E ⟨Hf, M, ds, Φ, W, i, hw, kn⟩ => ⟨Hf, M, ds, Φ, W, i, h ds M Φ hw, kn⟩
end
def kCall (Wf : W3) (Φ : KD) : List D → Mem → Prop := fun ds M => Wf ds M Φ
def wCall (Wf : W3) (wa : WA) : WE := fun ρ M Φ => wa ρ M (kCall Wf Φ)
def kCallD (Wf : W3) (dds : List D) (Φ : KD) : List D → Mem → Prop := fun ds M => Wf (ds ++ dds) M Φ
def wCallD (Wf : W3) (dds : List D) (wa : WA) : WE := fun ρ M Φ => wa ρ M (kCallD Wf dds Φ)
section
variable {X : Cx} {k : Nat} {f : Addr} {fd : FuncData} {ps : List Str} {Wf : W3} {x : Str} {p pos : Pos} {e : Expr} {es : List Expr} {wa : WA} {dvs : List V} {ds : List Value}
theorem ve_call (F : FnOk X.prog X.w X.K X.mg X.base CX0 k f fd ps (spW X.K Wf)) (hr : Room k X.A) (hg : Gl X x) (hm : X.mg x = some (.ref f)) (hk : PySem.W.keepIn X.K (.ref f) = true) (hb : Binds X.K fd ps [])
    (ha : VA X S₀ (e :: es) wa) (hdb : (x == ("__debug__" : Str)) = false := by decide) (he : starEach (e :: es) X.env = (false, eval e X.env) :: starEach es X.env := by rfl) (hpl : (backTo pos (starEach es X.env)).any (·.1) = false := by rfl) :
    VE X S₀ (.Call (.Name x p) (e :: es) [] pos) (wCall Wf wa) :=
  PE.imp (pe_call F hr hg hm hk hb .nil pass0 ha hdb he hpl) fun σ H Q ⟨Hf, ρ, M, Φ, W, e, h, k⟩ =>
    ⟨Hf, ρ, M, _, W, e, h, fun dd M1 vs Hf1 H1 h1 W1 s1 i1 => ⟨Hf1, M1, dd, Φ, W1.toWr, by rw [List.append_nil]; exact i1, h1, (k.at s1).raw W1⟩⟩
theorem ve_call0 (F : FnOk X.prog X.w X.K X.mg X.base CX0 k f fd ps (spW X.K Wf)) (hr : Room k X.A) (hg : Gl X x) (hm : X.mg x = some (.ref f)) (hk : PySem.W.keepIn X.K (.ref f) = true) (hb : Binds X.K fd ps []) (hdb : (x == ("__debug__" : Str)) = false := by decide) :
    VE X S₀ (.Call (.Name x p) [] [] pos) (wCall Wf wNil) :=
  PE.imp (pe_call0 F hr hg hm hk hb .nil pass0 hdb) fun σ H Q ⟨Hf, ρ, M, Φ, W, e, h, k⟩ => ⟨Hf, M, [], Φ, W.toWr, isDs_nil, h, k.raw W⟩
/-- with defaults that fill up -/
theorem ve_callD {dds : List D} (F : FnOk X.prog X.w X.K X.mg X.base CX0 k f fd ps (spW X.K Wf)) (hr : Room k X.A) (hg : Gl X x) (hm : X.mg x = some (.ref f)) (hk : PySem.W.keepIn X.K (.ref f) = true) (hb : Binds X.K fd ps ds) (hd : Vals dvs ds) (hdd : ∀ Hf, IsDs X.K Hf dds dvs)
    (ha : VA X S₀ (e :: es) wa) (hdb : (x == ("__debug__" : Str)) = false := by decide) (he : starEach (e :: es) X.env = (false, eval e X.env) :: starEach es X.env := by rfl) (hpl : (backTo pos (starEach es X.env)).any (·.1) = false := by rfl) :
    VE X S₀ (.Call (.Name x p) (e :: es) [] pos) (wCallD Wf dds wa) :=
  PE.imp (pe_call F hr hg hm hk hb hd pass0 ha hdb he hpl) fun σ H Q ⟨Hf, ρ, M, Φ, W, e, h, k⟩ =>
    ⟨Hf, ρ, M, _, W, e, h, fun dd M1 vs Hf1 H1 h1 W1 s1 i1 => ⟨Hf1, M1, dd ++ dds, Φ, W1.toWr, i1.app (hdd _), h1, (k.at s1).raw W1⟩⟩
/-- with keywords -/
def VKw (X : Cx) (S₀ : W0) (kws : List Keyword) (w : WA) : Prop := PK X kws (liftA X.K S₀ w)
theorem PK.imp {kws : List Keyword} {t t' : TA} (h : PK X kws t) (i : ∀ σ H Q, t' σ H Q → t σ H Q) : PK X kws t' := ⟨fun p pins s σ H Q I q => h.run p pins s σ H Q I (i σ H Q q)⟩
theorem vk_nil : VKw X S₀ [] wNil := PK.imp pk_nil fun σ H Q ⟨Hf, ρ, M, Φ, W, e, h, k⟩ => k _ _ _ _ _ h W Stp.refl isDs_nil
theorem vk_cons {nm : Option Str} {kpos : Pos} {kws : List Keyword} {we : WE} {wr : WA} (h : VE X S₀ e we) (t : VKw X S₀ kws wr) : VKw X S₀ (⟨nm, e, kpos⟩ :: kws) (wCons we wr) := PK.imp (pk_cons h t) fun σ H Q ⟨Hf, ρ, M, Φ, W, e, h, k⟩ => by
  refine ⟨Hf, ρ, M, _, W, e, h, fun x M1 v Hf1 H1 h1 W1 s1 i1 => ?_⟩
  refine ⟨Hf1, ρ, M1, _, W1, e.mono s1.ex, h1, fun xs M2 vs Hf2 H2 h2 W2 s2 i2 => ?_⟩
  exact k _ _ _ _ _ h2 W2 (s1.trans s2) (isDs_cons (IsD.mono s2.ex _ _ i1) i2)
def kCallK2 (n m : Nat) (Wf : W3) (gD : List D → List D → List D) (ds : List D) (Φ : KD) : List D → Mem → Prop := fun zs M => (ds.length = n ∧ zs.length = m) ∧ Wf (gD ds zs) M Φ
def kCallK1 (n m : Nat) (Wf : W3) (gD : List D → List D → List D) (wk : WA) (ρ : Sg) (Φ : KD) : List D → Mem → Prop := fun ds M => wk ρ M (kCallK2 n m Wf gD ds Φ)
def wCallK (n m : Nat) (Wf : W3) (gD : List D → List D → List D) (wa wk : WA) : WE := fun ρ M Φ => wa ρ M (kCallK1 n m Wf gD wk ρ Φ)
theorem ve_callK {n : Nat} {ks : List Str} {kws : List Keyword} {wk : WA} {g : List Value → List Value → List Value} {gV : List V → List V → List V} {gD : List D → List D → List D} (F : FnOk X.prog X.w X.K X.mg X.base CX0 k f fd ps (spW X.K Wf)) (hr : Room k X.A) (hg : Gl X x) (hm : X.mg x = some (.ref f)) (hk : PySem.W.keepIn X.K (.ref f) = true)
    (hb : KBn X.K fd ps n ks g gV) (hgD : ∀ Hf ds zs vs us, IsDs X.K Hf ds vs → IsDs X.K Hf zs us → IsDs X.K Hf (gD ds zs) (gV vs us)) (ha : VA X S₀ (e :: es) wa) (hkw : VKw X S₀ kws wk) (hall : (backToKw pos (keywordEach kws X.env)).all (·.1.isSome) = true := by rfl) (hks : (backToKw pos (keywordEach kws X.env)).filterMap (·.1) = ks := by rfl)
    (hdb : (x == ("__debug__" : Str)) = false := by decide) (he : starEach (e :: es) X.env = (false, eval e X.env) :: starEach es X.env := by rfl)
    (hpl : ((backTo pos (starEach (e :: es) X.env)).any (·.1) || (backToKw pos (keywordEach kws X.env)).any (·.1.isNone)) = false := by rfl) :
    VE X S₀ (.Call (.Name x p) (e :: es) kws pos) (wCallK n ks.length Wf gD wa wk) :=
  PE.imp (pe_callN F hr hg hm hk hb pass0 ha hkw hall hks hdb he hpl) fun σ H Q ⟨Hf, ρ, M, Φ, W, e, h, k⟩ => by
    refine ⟨Hf, ρ, M, _, W, e, h, fun dd M1 vs Hf1 H1 h1 W1 s1 i1 => ?_⟩
    refine ⟨Hf1, ρ, M1, _, W1, e.mono s1.ex, h1, fun zz M2 us Hf2 H2 h2 W2 s2 i2 => ?_⟩
    exact ⟨by rw [← i1.len]; exact h2.1.1, by rw [← i2.len]; exact h2.1.2, Hf2, M2, _, Φ, W2.toWr, hgD _ _ _ _ _ (IsDs.mono s2.ex _ _ i1) i2, h2.2, (k.at (s1.trans s2)).raw W2⟩
end
/-! ### isinstance -/
def tyN (M : Mem) : D → Option String
  | .non => some "NoneType" | .bl _ => some "bool" | .int _ => some "int" | .str _ => some "str" | .tup _ => some "tuple" | .lst _ => some "list" | .fz _ => some "list"
  | .ref a => match M a with | some (.lst _) => some "list" | some (.dK _) => some "dict" | some (.dT _) => some "dict" | _ => none
  | _ => none
def isiB (t n : String) : Bool := t == n || (t == "bool" && n == "int")
def tyNames : List String := ["NoneType", "bool", "int", "str", "tuple", "list", "dict"]
theorem isi_kit : ∀ t ∈ tyNames, ∀ n ∈ tyNames, kitB t n = some (isiB t n) := by decide +kernel
def clsN : D → Option (List String)
  | .ty n => some [n]
  | .tup (d :: ds) => tysD (d :: ds)
  | _ => none
where tysD : List D → Option (List String)
  | [] => some []
  | .ty n :: r => (tysD r).map (n :: ·)
  | _ :: _ => none
def wrIsi : WC := fun ds M Φ => match ds with
  | [x, c] => match tyN M x, clsN c with
    | some t, some ns => (ns.all (tyNames.contains ·)) = true ∧ Φ (.bl (ns.any (isiB t))) M
    | _, _ => False
  | _ => False
section
variable {K : PySem.W.Frag} {Hf : Hp} {M : Mem} {H : Hp}
theorem tyN_x (W : Wd K S₀ Hf M H) {x : D} {v : V} {t : String} (i : IsD K Hf x v) (h : tyN M x = some t) : TyX K H v (.type t) ∧ t ∈ tyNames := by
  cases x <;> simp only [tyN] at h
  case non => cases h; rw [isD_non.mp i]; exact ⟨.base .non, by decide⟩
  case bl => cases h; rw [isD_bl.mp i]; exact ⟨.base (.bl _), by decide⟩
  case int => cases h; rw [isD_int.mp i]; exact ⟨.base (.int _), by decide⟩
  case str => cases h; rw [isD_str.mp i]; exact ⟨.base (.str _), by decide⟩
  case tup =>
    cases h
    obtain ⟨a, xs, rfl, h1, _⟩ := isD_tup.mp i
    refine ⟨?_, by decide⟩
    rcases h1 with h1 | ⟨o, ns, h1, _⟩ | ⟨o, its, n, h1, h2, _⟩
    · exact .base (.tup (W.fro _ _ h1))
    · exact .fTuple (W.fro _ _ h1)
    · exact .kTuple h1 h2
  case lst =>
    cases h
    obtain ⟨a, xs, rfl, h1, _⟩ := isD_lst.mp i
    exact ⟨.base (.lst (W.fro _ _ h1)), by decide⟩
  case fz =>
    cases h
    obtain ⟨a, xs, rfl, h1, _⟩ := isD_fz.mp i
    refine ⟨?_, by decide⟩
    rcases h1 with (h1 | ⟨o, h1⟩) | ⟨o, its, n, h1, h2, _⟩
    · exact .base (.lst (W.fro _ _ h1))
    · exact .base (.frz (W.fro _ _ h1))
    · exact .kList h1 h2
  case ref a =>
    rw [isD_ref.mp i]
    split at h <;> cases h
    · rename_i e; obtain ⟨_, o, h1, xs, rfl, _⟩ := W.mem _ _ e; exact ⟨.base (.lst h1), by decide⟩
    · rename_i e; obtain ⟨_, o, h1, xs, rfl, _⟩ := W.mem _ _ e; exact ⟨.base (.dK h1), by decide⟩
    · rename_i e; obtain ⟨_, o, h1, xs, rfl, _⟩ := W.mem _ _ e; exact ⟨.base (.dT h1), by decide⟩
  all_goals cases h
theorem kit_any {t : String} (ht : t ∈ tyNames) : ∀ {ns : List String}, (ns.all (tyNames.contains ·)) = true → PySem.W.kitAny K (.type t) (ns.map Value.type) = some (ns.any (isiB t))
  | [], _ => kitAny_nil
  | n :: r, h => by
    rw [List.all_cons, Bool.and_eq_true] at h
    have hn : n ∈ tyNames := by simpa using h.1
    have ih := kit_any ht h.2
    have e := kit_ty (K := K) (isi_kit t ht n hn)
    rw [List.map_cons, List.any_cons]
    refine kitAny_cons e (fun hb => ?_) (fun hb => by rw [hb]; rfl)
    rw [hb, Bool.false_or]
    exact ih
theorem tys_vals : ∀ {ds : List D} {vs : List V} {ns : List String}, IsDs K Hf ds vs → clsN.tysD ds = some ns → vs = ns.map V.ty
  | [], vs, ns, i, h => by cases h; exact isDs_nil_inv i
  | d :: r, vs, ns, i, h => by
    obtain ⟨v, t, rfl, h1, h2⟩ := isDs_cons_inv i
    cases d <;> try cases h
    rename_i n
    simp only [clsN.tysD] at h
    cases e : clsN.tysD r with
    | none => rw [e] at h; cases h
    | some ms => rw [e] at h; cases h; rw [tys_vals h2 e, isD_ty.mp h1]; rfl
theorem clsV_all : ∀ ns : List String, Paired ClsV (ns.map V.ty) (ns.map Value.type)
  | [] => .nil
  | n :: r => .cons (.ty n) (clsV_all r)
theorem lk_isi : LkC K (fun xs H Q => rIsi K xs H Q ∨ rIsiT K xs H Q ∨ rIsiK K xs H Q) wrIsi := by
  intro S₀ Hf M H ds vs Φ Q W i h k
  unfold wrIsi at h
  split at h
  · rename_i x c
    split at h
    · rename_i t ns e1 e2
      obtain ⟨v, r, rfl, i1, i2⟩ := isDs_cons_inv i
      obtain ⟨u, r, rfl, i3, i4⟩ := isDs_cons_inv i2
      rw [isDs_nil_inv i4]
      obtain ⟨tx, ht⟩ := tyN_x W i1 e1
      have ka := kit_any (K := K) ht h.1
      have q := k.go W h.2 (isD_bl.mpr rfl)
      cases c <;> simp only [clsN] at e2 <;> try cases e2
      · rw [isD_ty.mp i3]
        refine .inl ⟨v, _, _, _, _, rfl, .ty _, tx, ?_, q⟩
        rw [List.any_cons, List.any_nil, Bool.or_false]
        rw [List.all_cons, Bool.and_eq_true] at h
        exact kit_ty (isi_kit t ht _ (by simpa using h.1.1))
      · rename_i cs
        have e2 : cs ≠ [] ∧ clsN.tysD cs = some ns := by
          cases cs with
          | nil => cases e2
          | cons d cs => exact ⟨List.cons_ne_nil _ _, e2⟩
        obtain ⟨ne, e2⟩ := e2
        obtain ⟨a, xs, rfl, h1, h2⟩ := isD_tup.mp i3
        have hxs := tys_vals h2 e2
        have hlen := h2.len
        rw [hxs] at h1
        rcases h1 with h1 | ⟨o, ms, h1, hm⟩ | ⟨o, its, n, h1, hc, hd, hz, hv⟩
        · exact .inr (.inl ⟨v, a, _, _, _, _, rfl, W.fro _ _ h1, clsV_all ns, tx, ka, q⟩)
        · exfalso
          cases ns with
          | nil =>
            rw [hxs] at hlen
            exact ne (List.length_eq_zero_iff.mp hlen)
          | cons n ns =>
            cases ms with
            | nil => cases hm
            | cons m ms => cases hm
        · refine .inr (.inr ⟨v, a, o.dict, ns.map Value.type, n, o.slots, _, _, rfl, ?_, tx, ka, q⟩)
          have e := ClsV.all (clsV_all ns) hv
          have e2 : its = (ns.map Value.type).toArray := by rw [← e]
          rw [h1]
          cases o
          simp only at hc hd
          rw [hc, hd, e2]
    · exact h.elim
  · exact h.elim
end
theorem call_isiA {X : Cx} : CallR X (.builtin "isinstance") (fun xs H Q => rIsi X.K xs H Q ∨ rIsiT X.K xs H Q ∨ rIsiK X.K xs H Q) := CallR.or call_isi (CallR.or call_isiT call_isiK)
theorem ve_isi {X : Cx} {p pos : Pos} {e e2 : Expr} {wa : WA} (hg : Gl X "isinstance") (hm : X.mg "isinstance" = none) (ha : VA X S₀ [e, e2] wa) (he : starEach [e, e2] X.env = (false, eval e X.env) :: starEach [e2] X.env := by rfl) (hpl : (backTo pos (starEach [e2] X.env)).any (·.1) = false := by rfl) :
    VE X S₀ (.Call (.Name "isinstance" p) [e, e2] [] pos) (wCB wrIsi wa) := ve_callB call_isiA lk_isi hg hm (by decide +kernel) ha (he := he) (hpl := hpl)
end VL

namespace VL
variable {S₀ : W0}
open PySem PySem.Spec PyProof.Rows L2
/-! ### lists put together, to a list that may change -/
def wrAddM : WR := fun x y M Φ => match lstM M x, lstM M y with
  | some a, some b => a.length + b.length ≤ lim ∧ ∀ p, M p = none → Φ (.ref p) (put M p (.lst (a ++ b)))
  | _, _ => False
theorem lk_addM {K : PySem.W.Frag} : LkR K rCat wrAddM := by
  intro S₀ Hf M H x y v u Φ Q W ix iy h k
  unfold wrAddM at h
  split at h
  · rename_i a b e1 e2
    obtain ⟨p, xs, rfl, h1, i1⟩ := lstM_some W ix e1
    obtain ⟨q, ys, rfl, h2, i2⟩ := lstM_some W iy e2
    refine ⟨p, q, xs, ys, rfl, rfl, h1, h2, by rw [← i1.len, ← i2.len]; exact lim_ok h.1, fun l hl => ?_⟩
    obtain ⟨w, s⟩ := W.newM (o := .lst (xs ++ ys)) (m := .lst (a ++ b)) hl ⟨_, rfl, i1.app i2⟩
    exact k _ _ _ _ _ (h.2 l (W.fresh_m hl)) w s (isD_ref.mpr rfl)
  · exact h.elim
theorem ve_addM {X : Cx} {a b : Expr} {wa wb : WE} {pos : Pos} (ha : VE X S₀ a wa) (hb : VE X S₀ b wb) : VE X S₀ (.BinOp a .Add b pos) (wOp wrAddM wa wb) := ve_op op_cat lk_addM ha hb
/-! ### a < b < c -/
def kCh4 (wr' : WR) (y : D) (Φ : KD) : KD := fun z M => wr' y z M Φ
def kCh3 (wr' : WR) (wc : WE) (ρ : Sg) (y : D) (Φ : KD) : KD := fun k M => match k with | .bl true => wc ρ M (kCh4 wr' y Φ) | .bl false => Φ (.bl false) M | _ => False
def kCh2 (wr wr' : WR) (wc : WE) (ρ : Sg) (x : D) (Φ : KD) : KD := fun y M => wr x y M (kCh3 wr' wc ρ y Φ)
def kCh1 (wr wr' : WR) (wb wc : WE) (ρ : Sg) (Φ : KD) : KD := fun x M => wb ρ M (kCh2 wr wr' wc ρ x Φ)
def wChain (wr wr' : WR) (wa wb wc : WE) : WE := fun ρ M Φ => wa ρ M (kCh1 wr wr' wb wc ρ Φ)
theorem lift_chain {K : PySem.W.Frag} {r r' : R2} {wr wr' : WR} {wa wb wc : WE} (lk : LkR K r wr) (lk' : LkR K r' wr') {σ : St} {H : Hp} {Q : VK} (h : liftE K S₀ (wChain wr wr' wa wb wc) σ H Q) : tChain r r' (liftE K S₀ wa) (liftE K S₀ wb) (liftE K S₀ wc) σ H Q := by
  obtain ⟨Hf, ρ, M, Φ, W, e, h, k⟩ := h
  refine ⟨Hf, ρ, M, _, W, e, h, fun x M1 v Hf1 H1 h1 W1 s1 i1 => ?_⟩
  refine ⟨Hf1, ρ, M1, _, W1, e.mono s1.ex, h1, fun y M2 u Hf2 H2 h2 W2 s2 i2 => ?_⟩
  refine lk _ Hf2 M2 H2 x y v u _ _ W2 (IsD.mono s2.ex _ _ i1) i2 h2 fun z M3 t Hf3 H3 h3 W3 s3 i3 => ?_
  have k3 := k.at ((s1.trans s2).trans s3)
  unfold kCh3 at h3
  split at h3
  · refine ⟨true, isD_bl.mp i3, ?_⟩
    rw [if_pos rfl]
    refine ⟨Hf3, ρ, M3, _, W3, e.mono ((s1.ex.trans s2.ex).trans s3.ex), h3, fun z M4 t2 Hf4 H4 h4 W4 s4 i4 => ?_⟩
    exact lk' _ Hf4 M4 H4 y z u t2 Φ Q W4 (IsD.mono (s3.ex.trans s4.ex) _ _ i2) i4 h4 (k3.at s4)
  · refine ⟨false, isD_bl.mp i3, ?_⟩
    rw [if_neg (by decide)]
    exact k3.go W3 h3 (isD_bl.mpr rfl)
  · exact h3.elim
abbrev wch_lt : WR := wrI fun i j => .bl (decide (i < j))
abbrev wch_le : WR := wrI fun i j => .bl (decide (i ≤ j))
/-- one link of a chain -/
structure Ch (op : CmpOp) (r : R2) (wr : WR) : Prop where
  op_ : ∀ X : Cx, OpR X (compareOp op) r
  lk : ∀ K, LkR K r wr
theorem ch_lt : Ch .Lt (rI0 fun i j => .bl (decide (i < j))) wch_lt := ⟨fun _ => op_lt, fun _ => lk_I0 fun _ _ _ => isD_bl.mpr rfl⟩
theorem ch_le : Ch .LtE (rI0 fun i j => .bl (decide (i ≤ j))) wch_le := ⟨fun _ => op_le, fun _ => lk_I0 fun _ _ _ => isD_bl.mpr rfl⟩
section
variable {X : Cx} {op op' : CmpOp} {r r' : R2} {wr wr' : WR} {a b c : Expr} {wa wb wc : WE} {pos : Pos}
theorem ve_chain (h1 : Ch op r wr) (h2 : Ch op' r' wr') (ha : VE X S₀ a wa) (hb : VE X S₀ b wb) (hc : VE X S₀ c wc) (hm : lastMarks [op, op'] [b, c] = false := by with_unfolding_all rfl) : VE X S₀ (.Compare a [op, op'] [b, c] pos) (wChain wr wr' wa wb wc) :=
  PE.imp (pe_chain (h1.op_ X) (h2.op_ X) ha hb hc hm) fun _ _ _ h => lift_chain (h1.lk _) (h2.lk _) h
theorem vt_chain (h1 : Ch op r wr) (h2 : Ch op' r' wr') (ha : VE X S₀ a wa) (hb : VE X S₀ b wb) (hc : VE X S₀ c wc) (hm : lastMarks [op, op'] [b, c] = false := by with_unfolding_all rfl) : VT X S₀ (.Compare a [op, op'] [b, c] pos) (wTest (wChain wr wr' wa wb wc)) :=
  PT.imp (pt_chain (h1.op_ X) (h2.op_ X) ha hb hc hm) fun σ H Q ⟨Hf, ρ, M, Φ, W, e, h, k⟩ => by
    refine lift_chain (h1.lk _) (h2.lk _) ⟨Hf, ρ, M, _, W, e, h, fun x M1 v Hf1 H1 h1 W1 s1 i1 => ?_⟩
    unfold kTest at h1
    split at h1
    · exact ⟨_, isD_bl.mp i1, k _ _ _ _ h1 W1 s1⟩
    · exact h1.elim
end
/-! ### for k in d: the dict stands locked while the loop runs -/
def unlk (a : Addr) (od : Obj) (vs : List (Key × V)) (kvs : List (Key × D)) (M : Mem) (P : Mem → Prop) : Prop := M a = some (.lk od vs kvs) ∧ P (put M a (.dK kvs))
def dKey : Key → D
  | .inl i => .int i
  | .inr x => .str x
theorem dKey_V {K : PySem.W.Frag} {Hf : Hp} (k : Key) : IsD K Hf (dKey k) (kV k) := by
  cases k
  · exact isD_int.mpr rfl
  · exact isD_str.mpr rfl
def lockN (a : Addr) (od : Obj) (vs : List (Key × V)) (kvs : List (Key × D)) (De : WN) : WN :=
  ⟨fun ρ M => unlk a od vs kvs M (De.nx ρ), fun d M => unlk a od vs kvs M (De.rt d), fun ρ M => unlk a od vs kvs M (De.bk ρ), fun ρ M => unlk a od vs kvs M (De.ct ρ)⟩
/-- at each turn the dict must still stand locked -/
def sLoopK (g : WG) (body : WS) (De : WN) (a : Addr) (mo : MO) : List D → Sg → Mem → Prop
  | [] => De.nx
  | x :: r => fun ρ M => M a = some mo ∧ g x ρ M (body ⟨sLoopK g body De a mo r, De.rt, De.nx, sLoopK g body De a mo r⟩)
def kForK (g : WG) (body : WS) (De : WN) (ρ : Sg) (a : Addr) (od : Obj) (vs : List (Key × V)) (kvs : List (Key × D)) : KD := fun x M => x = .ref a ∧ M a = some (.lk od vs kvs) ∧ sLoopK g body (lockN a od vs kvs De) a (.lk od vs kvs) (kvs.map fun kv => dKey kv.1) ρ M
def sForK (wd : WE) (g : WG) (body : WS) : WS := fun De ρ M => ∃ a kvs, M a = some (.dK kvs) ∧ ∀ od vs, wd ρ (put M a (.lk od vs kvs)) (kForK g body De ρ a od vs kvs)
section
variable {K : PySem.W.Frag} {Hf Hf0 : Hp} {M : Mem} {H : Hp}
theorem isKs_get {κ : Type} : ∀ {kvs : List (κ × D)} {vs : List (κ × V)} {i : Nat} {k : κ} {d : D}, IsKs K Hf kvs vs → kvs[i]? = some (k, d) → ∃ v, vs[i]? = some (k, v) ∧ IsD K Hf d v
  | [], vs, i, k, d, _, e => by simp at e
  | (k0, d0) :: r, vs, 0, k, d, h, e => by
    obtain ⟨v, t, rfl, h2, _⟩ := h
    simp at e
    obtain ⟨rfl, rfl⟩ := e
    exact ⟨v, rfl, h2⟩
  | (k0, d0) :: r, vs, i + 1, k, d, h, e => by
    obtain ⟨v, t, rfl, _, h3⟩ := h
    obtain ⟨u, h4, h5⟩ := isKs_get (i := i) h3 (by simpa using e)
    exact ⟨u, by simpa using h4, h5⟩
end
theorem vs_forK {X : Cx} {tg iter : Expr} {body : List Stmt} {wd : WE} {g : WG} {wb : WS} {vs : List Nat} {pos : Pos} (hp : PassesOwn (model X.prog X.w) X.A X.env X.xe) (hc : X.calm = true) (hd : VE X S₀ iter wd) (hg : VG X S₀ tg g vs) (hb : VSs X S₀ body wb)
    (hs : ∀ x, foldedSetIterable iter X.env x = pure x := by intro _; rfl) : VS X S₀ (.For tg iter body [] pos) (sForK wd g wb) :=
  PS.imp (ps_lock (ps_for hp hc (pi_keys hd) hg hb hs)) fun D σ H ⟨Hf, ρ, M, De, W, e, ⟨a, kvs, hM, h⟩, k⟩ => by
    obtain ⟨ha, o, hH, us, rfl, iK⟩ := W.mem a _ hM
    refine ⟨a, .dK us, hH, trivial, fun od => ?_⟩
    have hloc := h od us
    obtain ⟨W0, s0⟩ := W.chg (o := .frz od (.dK us)) (m := .lk od us kvs) hM ⟨rfl, iK⟩
    have lenK := iK.len
    have at1 : ∀ {Hf1 M1 H1}, Wd X.K S₀ Hf1 M1 H1 → M1 a = some (.lk od us kvs) → H1 a = some (.frz od (.dK us)) := fun W1 e1 => by
      obtain ⟨q1, o, q2, rfl, q3⟩ := W1.mem a _ e1
      exact q2
    -- back from the lock
    have back : ∀ {Hf1 M1 H1}, Wd X.K S₀ Hf1 M1 H1 → M1 a = some (.lk od us kvs) → Wd X.K S₀ Hf1 (put M1 a (.dK kvs)) (upd H1 a (.dK us)) ∧ Stp Hf1 M1 H1 Hf1 (put M1 a (.dK kvs)) (upd H1 a (.dK us)) := by
      intro Hf1 M1 H1 W1 e1
      obtain ⟨q1, o, q2, rfl, q3⟩ := W1.mem a _ e1
      exact W1.chg (o := .dK us) (m := .dK kvs) e1 ⟨us, rfl, q3⟩
    let Dn : Ends := ⟨fun σ' H' => H' a = some (.frz od (.dK us)) ∧ D.nx σ' (upd H' a (.dK us)), fun v H' => H' a = some (.frz od (.dK us)) ∧ D.rt v (upd H' a (.dK us)), fun σ' H' => H' a = some (.frz od (.dK us)) ∧ D.bk σ' (upd H' a (.dK us)), fun σ' H' => H' a = some (.frz od (.dK us)) ∧ D.ct σ' (upd H' a (.dK us))⟩
    have k0 : KntS X.K S₀ Hf (put M a (.lk od us kvs)) (upd H a (.frz od (.dK us))) (lockN a od us kvs De) Dn := by
      have ks := k.at s0
      refine ⟨fun ρ' M' σ' Hf' H' p W' s' e' => ?_, fun d M' v Hf' H' p W' s' i' => ?_, fun ρ' M' σ' Hf' H' p W' s' e' => ?_, fun ρ' M' σ' Hf' H' p W' s' e' => ?_⟩
      · obtain ⟨w, s⟩ := back W' p.1
        exact ⟨at1 W' p.1, ks.nx _ _ _ _ _ p.2 w (s'.trans s) e'⟩
      · obtain ⟨w, s⟩ := back W' p.1
        exact ⟨at1 W' p.1, ks.rt _ _ _ _ _ p.2 w (s'.trans s) i'⟩
      · obtain ⟨w, s⟩ := back W' p.1
        exact ⟨at1 W' p.1, ks.bk _ _ _ _ _ p.2 w (s'.trans s) e'⟩
      · obtain ⟨w, s⟩ := back W' p.1
        exact ⟨at1 W' p.1, ks.ct _ _ _ _ _ p.2 w (s'.trans s) e'⟩
    refine ⟨Hf, ρ, _, _, W0, e, hloc, fun x M1 v Hf1 H1 h1 W1 s1 i1 => ?_⟩
    obtain ⟨rfl, hM1, hl⟩ := h1
    refine ⟨a, od, isD_ref.mp i1, .inl ⟨us, at1 W1 hM1, ?_⟩⟩
    have k1 := k0.at s1
    let items : List VL.D := kvs.map fun (kv : Key × VL.D) => dKey kv.1
    have li : items.length = kvs.length := by simp [items]
    refine ⟨fun i m σ' H' => m = kvs.length - i ∧ i ≤ kvs.length ∧ ∃ Hf' ρ' M', Wd X.K S₀ Hf' M' H' ∧ EnvOk X.K Hf' σ' ρ' ∧ Stp Hf1 M1 H1 Hf' M' H' ∧ sLoopK g wb (lockN a od us kvs De) a (.lk od us kvs) (items.drop i) ρ' M',
      ⟨kvs.length, by omega, by omega, Hf1, ρ, M1, W1, e.mono s1.ex, Stp.refl, hl⟩, fun i m σ' H' hW => ?_⟩
    obtain ⟨em, hi, Hf', ρ', M', W', e', s', hl⟩ := hW
    by_cases hlt : i < kvs.length
    · obtain ⟨⟨key, d⟩, hd⟩ : ∃ d, kvs[i]? = some d := ⟨_, List.getElem?_eq_getElem hlt⟩
      have hit : items[i]? = some (dKey key) := by simp [items, hd]
      have ed : items.drop i = dKey key :: items.drop (i + 1) := by
        have hlt2 : i < items.length := by omega
        rw [List.drop_eq_getElem_cons hlt2]
        rw [List.getElem?_eq_getElem hlt2] at hit
        rw [Option.some.inj hit]
      rw [ed] at hl
      obtain ⟨hMa, hl⟩ := hl
      have hHa := at1 W' hMa
      refine .inr ⟨⟨hHa, by rw [← lenK]; exact hlt⟩, _, fun σ2 H2 n => n, fun x H2 y => ?_⟩
      obtain ⟨rfl, k', v', y1, rfl⟩ := y
      obtain ⟨v2, y2, _⟩ := isKs_get iK hd
      rw [y2] at y1
      cases y1
      refine ⟨Hf', ρ', M', _, dKey key, W', e', dKey_V key, hl, fun ρ3 M3 σ3 Hf3 H3 h3 W3 s3 e3 _ => ?_⟩
      have s4 := s'.trans s3
      have nxt : ∀ ρ5 M5 σ5 Hf5 H5, sLoopK g wb (lockN a od us kvs De) a (.lk od us kvs) (items.drop (i + 1)) ρ5 M5 → Wd X.K S₀ Hf5 M5 H5 → Stp Hf3 M3 H3 Hf5 M5 H5 → EnvOk X.K Hf5 σ5 ρ5 →
          ∃ m', m' < m ∧ m' = kvs.length - (i + 1) ∧ i + 1 ≤ kvs.length ∧ ∃ Hf' ρ' M', Wd X.K S₀ Hf' M' H5 ∧ EnvOk X.K Hf' σ5 ρ' ∧ Stp Hf1 M1 H1 Hf' M' H5 ∧ sLoopK g wb (lockN a od us kvs De) a (.lk od us kvs) (items.drop (i + 1)) ρ' M' :=
        fun ρ5 M5 σ5 Hf5 H5 h5 W5 s5 e5 => ⟨_, by omega, rfl, hlt, Hf5, ρ5, M5, W5, e5, s4.trans s5, h5⟩
      have k4 := k1.at s4
      exact ⟨Hf3, ρ3, M3, _, W3, e3, h3, ⟨nxt, k4.rt, k4.nx, nxt⟩⟩
    · have ei : i = kvs.length := by omega
      subst ei
      rw [List.drop_of_length_le (by omega)] at hl
      have hMa : M' a = some (.lk od us kvs) := hl.1
      exact .inl ⟨⟨at1 W' hMa, by rw [← lenK]; exact Nat.le_refl _⟩, k1.nx _ _ _ _ _ hl W' s' e'⟩
end VL

namespace VL
open PySem PySem.Spec PyProof.Rows L2
/-! ### the machine: one lemma a combinator, each by computation -/
section
variable {ρ : Sg} {M : Mem} {Φ : KD} {i j : Nat} {d x y z : D} {r ds es xs : List D} {wa wb wc we wf wo : WE} {wr : WR} {wt wu : WT} {wA wB : WA} {wl wh : WO} {De : WN} {a : Addr} {n m : Int} {b : Bool} {ΦT : Bool → Mem → Prop} {ΦA : List D → Mem → Prop}
theorem e_var : wVar i ρ M Φ = match at_ ρ i with | some d => Φ d M | none => False := rfl
theorem e_at0 : at_ (some d :: ρ) 0 = some d := rfl
theorem e_at0n : at_ (none :: ρ) 0 = none := rfl
theorem e_atS {o : Option D} : at_ (o :: ρ) (i + 1) = at_ ρ i := rfl
theorem e_matchO {f : D → Prop} : (match (some d : Option D) with | some d => f d | none => False) = f d := rfl
theorem e_c : wC d ρ M Φ = Φ d M := rfl
theorem e_op : wOp wr wa wb ρ M Φ = wa ρ M (kOp1 wr wb ρ Φ) := rfl
theorem e_op1 : kOp1 wr wb ρ Φ x M = wb ρ M (kOp2 wr x Φ) := rfl
theorem e_op2 : kOp2 wr x Φ y M = wr x y M Φ := rfl
theorem e_I {g : Int → Int → D} : wrI g (.int n) (.int m) M Φ = Φ (g n m) M := rfl
theorem e_IC {C : Int → Int → Prop} {g : Int → Int → D} : wrIC C g (.int n) (.int m) M Φ = (C n m ∧ Φ (g n m) M) := rfl
theorem e_addI : wrAdd (.int n) (.int m) M Φ = Φ (.int (n + m)) M := rfl
theorem e_addT : wrAdd (.tup ds) (.tup es) M Φ = (ds.length + es.length ≤ lim ∧ Φ (.tup (ds ++ es)) M) := rfl
theorem e_addL : wrAdd (.lst ds) (.lst es) M Φ = (ds.length + es.length ≤ lim ∧ Φ (.lst (ds ++ es)) M) := rfl
theorem e_mulI : wrMul (.int n) (.int m) M Φ = (CMulW n m ∧ Φ (.int (n * m)) M) := rfl
theorem e_isN : wrIsN x .non M Φ = Φ (.bl (isN x)) M := rfl
theorem e_notN : wrNotN x .non M Φ = Φ (.bl (!isN x)) M := rfl
theorem e_isN_non : isN .non = true := rfl
theorem e_isN_int : isN (.int n) = false := rfl
theorem e_isN_bl : isN (.bl b) = false := rfl
theorem e_isN_str {s : Str} : isN (.str s) = false := rfl
theorem e_isN_tup : isN (.tup ds) = false := rfl
theorem e_isN_lst : isN (.lst ds) = false := rfl
theorem e_isN_ref : isN (.ref a) = false := rfl
theorem e_test : wTest we ρ M ΦT = we ρ M (kTest ΦT) := rfl
theorem e_testK : kTest ΦT (.bl b) M = ΦT b M := rfl
theorem e_and : wAnd wt wu ρ M ΦT = wt ρ M (kAnd wu ρ ΦT) := rfl
theorem e_andT : kAnd wu ρ ΦT true M = wu ρ M ΦT := rfl
theorem e_andF : kAnd wu ρ ΦT false M = ΦT false M := rfl
theorem e_or : wOr wt wu ρ M ΦT = wt ρ M (kOr wu ρ ΦT) := rfl
theorem e_orT : kOr wu ρ ΦT true M = ΦT true M := rfl
theorem e_orF : kOr wu ρ ΦT false M = wu ρ M ΦT := rfl
theorem e_not : wNot wt ρ M ΦT = wt ρ M (kNot ΦT) := rfl
theorem e_notK : kNot ΦT b M = ΦT (!b) M := rfl
theorem e_ifE : wIfE wt wa wb ρ M Φ = wt ρ M (kIfE wa wb ρ Φ) := rfl
theorem e_ifET : kIfE wa wb ρ Φ true M = wa ρ M Φ := rfl
theorem e_ifEF : kIfE wa wb ρ Φ false M = wb ρ M Φ := rfl
theorem e_andV : wAndV wa wb ρ M Φ = wa ρ M (kAndV wb ρ Φ) := rfl
theorem e_andVT : kAndV wb ρ Φ (.bl true) M = wb ρ M Φ := rfl
theorem e_andVF : kAndV wb ρ Φ (.bl false) M = Φ (.bl false) M := rfl
theorem e_orV : wOrV wa wb ρ M Φ = wa ρ M (kOrV wb ρ Φ) := rfl
theorem e_orVT : kOrV wb ρ Φ (.bl true) M = Φ (.bl true) M := rfl
theorem e_orVF : kOrV wb ρ Φ (.bl false) M = wb ρ M Φ := rfl
theorem e_notV : wNotV wa ρ M Φ = wa ρ M (kNotV Φ) := rfl
theorem e_notVK : kNotV Φ (.bl b) M = Φ (.bl (!b)) M := rfl
theorem e_neg : wNeg wa ρ M Φ = wa ρ M (kNeg Φ) := rfl
theorem e_negK : kNeg Φ (.int n) M = Φ (.int (-n)) M := rfl
theorem e_nil : wNil ρ M ΦA = ΦA [] M := rfl
theorem e_cons : wCons wa wA ρ M ΦA = wa ρ M (kCons1 wA ρ ΦA) := rfl
theorem e_cons1 : kCons1 wA ρ ΦA x M = wA ρ M (kCons2 x ΦA) := rfl
theorem e_cons2 : kCons2 x ΦA xs M = ΦA (x :: xs) M := rfl
theorem e_tup : wTup wA ρ M Φ = wA ρ M (kTup Φ) := rfl
theorem e_tupK : kTup Φ ds M = (ds.length ≤ lim ∧ Φ (.tup ds) M) := rfl
theorem e_lst : wLst wA ρ M Φ = wA ρ M (kLst Φ) := rfl
theorem e_lstK : kLst Φ ds M = (ds.length ≤ lim ∧ Φ (.lst ds) M) := rfl
theorem e_lstM : wLstM wA ρ M Φ = wA ρ M (kLstM Φ) := rfl
theorem e_lstMK : kLstM Φ ds M = (ds.length ≤ lim ∧ ∀ p, M p = none → Φ (.ref p) (put M p (.lst ds))) := rfl
theorem e_cb {wr : WC} : wCB wr wA ρ M Φ = wA ρ M (kCB wr Φ) := rfl
theorem e_cbK {wr : WC} : kCB wr Φ ds M = wr ds M Φ := rfl
theorem e_lenT : wrLen [.tup ds] M Φ = Φ (.int ds.length) M := rfl
theorem e_lenL : wrLen [.lst ds] M Φ = Φ (.int ds.length) M := rfl
theorem e_lenF : wrLen [.fz ds] M Φ = Φ (.int ds.length) M := rfl
theorem e_lenR (h : M a = some (.lst ds)) : wrLen [.ref a] M Φ = Φ (.int ds.length) M := by simp only [wrLen, one, seqM, h]
theorem e_tupCL : wrTupC [.lst ds] M Φ = Φ (.tup ds) M := rfl
theorem e_tupCT : wrTupC [.tup ds] M Φ = Φ (.tup ds) M := rfl
theorem e_tupCR (h : M a = some (.lst ds)) : wrTupC [.ref a] M Φ = Φ (.tup ds) M := by simp only [wrTupC, one, seqM, h]
theorem e_lstCL : wrLstC [.lst ds] M Φ = Φ (.lst ds) M := rfl
theorem e_lstCT : wrLstC [.tup ds] M Φ = Φ (.lst ds) M := rfl
theorem e_min2 : wrMin2 [.int n, .int m] M Φ = Φ (.int (if m < n then m else n)) M := rfl
theorem e_max2 : wrMax2 [.int n, .int m] M Φ = Φ (.int (if m > n then m else n)) M := rfl
theorem e_allL {bs : List Bool} : wrAll [.lst (bs.map D.bl)] M Φ = Φ (.bl (bs.all id)) M := by simp only [wrAll, bls1, lst1, one, Option.bind, lstF, blsD_map]
theorem e_maxL {ns : List Int} : wrMax [.lst (ns.map D.int)] M Φ = (0 < ns.length ∧ ∀ m, m ∈ ns → (∀ y, y ∈ ns → y ≤ m) → Φ (.int m) M) := by simp only [wrMax, ints1, lst1, one, Option.bind, lstF, intsD_map]
theorem e_sumL {ns : List Int} : wrSum [.lst (ns.map D.int)] M Φ = Φ (.int ns.sum) M := by simp only [wrSum, ints1, lst1, one, Option.bind, lstF, intsD_map]
theorem e_sortedL {ns : List Int} : wrSorted [.lst (ns.map D.int)] M Φ = (ns.length < 64 ∧ ∀ ns' : List Int, ns'.Perm ns → ns'.Pairwise (· ≤ ·) → Φ (.lst (ns'.map D.int)) M) := by simp only [wrSorted, ints1, lst1, one, Option.bind, lstF, intsD_map]
theorem e_sl : wSl we wl wh ρ M Φ = we ρ M (kSl1 wl wh ρ Φ) := rfl
theorem e_sl1 : kSl1 wl wh ρ Φ x M = wl ρ M (kSl2 wh ρ x Φ) := rfl
theorem e_sl2 {lo : Option Int} : kSl2 wh ρ x Φ lo M = wh ρ M (kSl3 x lo Φ) := rfl
theorem e_sl3T {lo hi : Option Int} : kSl3 (.tup ds) lo Φ hi M = Φ (.tup (cutD ds lo hi)) M := rfl
theorem e_sl3L {lo hi : Option Int} : kSl3 (.lst ds) lo Φ hi M = Φ (.lst (cutD ds lo hi)) M := rfl
theorem e_sl3F {lo hi : Option Int} : kSl3 (.fz ds) lo Φ hi M = Φ (.lst (cutD ds lo hi)) M := rfl
theorem e_noPart {ΦO : Option Int → Mem → Prop} : wNoPart ρ M ΦO = ΦO none M := rfl
theorem e_part {ΦO : Option Int → Mem → Prop} : wPart we ρ M ΦO = we ρ M (kPart ΦO) := rfl
theorem e_partK {ΦO : Option Int → Mem → Prop} : kPart ΦO (.int n) M = ΦO (some n) M := rfl
theorem e_revL : wRevL we ρ M Φ = we ρ M (kRevL Φ) := rfl
theorem e_revLK : kRevL Φ (.lst ds) M = Φ (.lst ds.reverse) M := rfl
theorem e_call {Wf : W3} : wCall Wf wA ρ M Φ = wA ρ M (kCall Wf Φ) := rfl
theorem e_callK {Wf : W3} : kCall Wf Φ ds M = Wf ds M Φ := rfl
theorem e_callD {Wf : W3} : wCallD Wf es wA ρ M Φ = wA ρ M (kCallD Wf es Φ) := rfl
theorem e_callDK {Wf : W3} : kCallD Wf es Φ ds M = Wf (ds ++ es) M Φ := rfl
theorem e_callKw {Wf : W3} {n m : Nat} {g : List D → List D → List D} : wCallK n m Wf g wA wB ρ M Φ = wA ρ M (kCallK1 n m Wf g wB ρ Φ) := rfl
theorem e_callKw1 {Wf : W3} {n m : Nat} {g : List D → List D → List D} : kCallK1 n m Wf g wB ρ Φ ds M = wB ρ M (kCallK2 n m Wf g ds Φ) := rfl
theorem e_callKw2 {Wf : W3} {n m : Nat} {g : List D → List D → List D} : kCallK2 n m Wf g ds Φ es M = ((ds.length = n ∧ es.length = m) ∧ Wf (g ds es) M Φ) := rfl
theorem e_bm {wr : WM} : wBM wr wo wA ρ M Φ = wo ρ M (kBM1 wr wA ρ Φ) := rfl
theorem e_bm1 {wr : WM} (h : M a = some (.lst ds)) : kBM1 wr wA ρ Φ (.ref a) M = wA ρ M (kBM2 wr (.ref a) Φ) := by simp only [kBM1, lstF, h, Option.isSome, true_and]
theorem e_bm2 {wr : WM} : kBM2 wr x Φ ds M = wr x ds M Φ := rfl
theorem e_append (h : M a = some (.lst es)) : wrAppend (.ref a) [x] M Φ = (es.length < lim ∧ Φ .non (put M a (.lst (es ++ [x])))) := by simp only [wrAppend, memL, one, h]
theorem e_insert (h : M a = some (.lst es)) : wrInsert (.ref a) [.int n, x] M Φ = ((es.length < lim ∧ 0 ≤ n ∧ n < 2 ^ 63) ∧ Φ .non (put M a (.lst (es.take n.toNat ++ [x] ++ es.drop n.toNat)))) := by simp only [wrInsert, memL, iv2, h]
theorem e_ixR (h : M a = some (.lst ds)) : wrIx (.ref a) (.int n) M Φ = match atD ds n with | some d => Φ d M | none => False := by simp only [wrIx, seqM, h]; try rfl
theorem e_ixL : wrIx (.lst ds) (.int n) M Φ = match atD ds n with | some d => Φ d M | none => False := rfl
theorem e_ixT : wrIx (.tup ds) (.int n) M Φ = match atD ds n with | some d => Φ d M | none => False := rfl
theorem e_ixD {kvs : List (Key × D)} (h : M a = some (.dK kvs)) {s : Str} : wrIx (.ref a) (.str s) M Φ = match look kvs (.inr s) with | some d => Φ d M | none => False := by simp only [wrIx, seqM, h, dkM, keyD]; try rfl
theorem e_ixDi {kvs : List (Key × D)} (h : M a = some (.dK kvs)) : wrIx (.ref a) (.int n) M Φ = match look kvs (.inl n) with | some d => Φ d M | none => False := by simp only [wrIx, seqM, h, dkM, keyD]; try rfl
theorem e_inD {kvs : List (Key × D)} {g : Bool} (h : M a = some (.dK kvs)) : wrIn g (.int n) (.ref a) M Φ = Φ (.bl (if g then !(look kvs (.inl n)).isSome else (look kvs (.inl n)).isSome)) M := by simp only [wrIn, seqM, h, dkM, keyD]
/-! the four cells of a draw -/
theorem e_dr0 {c p q s : D} (h : M a = some (.lst [c, p, q, s])) : wrIx (.ref a) (.int 0) M Φ = Φ c M := by rw [e_ixR h]; rfl
theorem e_dr1 {c p q s : D} (h : M a = some (.lst [c, p, q, s])) : wrIx (.ref a) (.int 1) M Φ = Φ p M := by rw [e_ixR h]; rfl
theorem e_dr2 {c p q s : D} (h : M a = some (.lst [c, p, q, s])) : wrIx (.ref a) (.int 2) M Φ = Φ q M := by rw [e_ixR h]; rfl
theorem e_dr3 {c p q s : D} (h : M a = some (.lst [c, p, q, s])) : wrIx (.ref a) (.int 3) M Φ = Φ s M := by rw [e_ixR h]; rfl
/-! statements -/
variable {t u : WS} {g : WG} {P : Sg → Mem → Prop}
theorem e_next : sNext De ρ M = De.nx ρ M := rfl
theorem e_seq : sSeq t u De ρ M = t ⟨u De, De.rt, De.bk, De.ct⟩ ρ M := rfl
theorem e_drop : sDrop we De ρ M = we ρ M (kDrop De ρ) := rfl
theorem e_dropK : kDrop De ρ x M = De.nx ρ M := rfl
theorem e_ret : sRet we De ρ M = we ρ M De.rt := rfl
theorem e_retF : sRetF we De ρ M = we ρ M (kFz De.rt) := rfl
theorem e_fz (h : M a = some (.lst ds)) : kFz Φ (.ref a) M = Φ (.lst ds) (del M a) := by simp only [kFz, memL, h]
theorem e_if : sIf wt t u De ρ M = wt ρ M (kIf t u De ρ) := rfl
theorem e_ifT : kIf t u De ρ true M = t De ρ M := rfl
theorem e_ifF : kIf t u De ρ false M = u De ρ M := rfl
theorem e_asg : sAsg we g De ρ M = we ρ M (kAsg g De ρ) := rfl
theorem e_asgK : kAsg g De ρ x M = g x ρ M De.nx := rfl
theorem e_gname : wgName i x ρ M P = P (ρ.set i (some x)) M := rfl
theorem e_par : sPar i j wA De ρ M = wA ρ M (kPar i j De ρ) := rfl
theorem e_parK : kPar i j De ρ [x, y] M = De.nx ((ρ.set i (some x)).set j (some y)) M := rfl
theorem e_par3 {l : Nat} : sPar3 i j l wA De ρ M = wA ρ M (kPar3 i j l De ρ) := rfl
theorem e_par3K {l : Nat} : kPar3 i j l De ρ [x, y, z] M = De.nx (((ρ.set i (some x)).set j (some y)).set l (some z)) M := rfl
theorem e_gsub {wi : WE} : wgSub wo wi x ρ M P = wo ρ M (kSub1 wi x ρ (P ρ)) := rfl
theorem e_gsub1 {wi : WE} {PM : Mem → Prop} : kSub1 wi x ρ PM y M = wi ρ M (kSub2 y x PM) := rfl
theorem e_gsub2L {PM : Mem → Prop} (h : M a = some (.lst ds)) : kSub2 (.ref a) x PM (.int n) M = match ixN ds.length n with | some k => PM (put M a (.lst (ds.set k x))) | none => False := by
  simp only [kSub2, putS, h]; cases ixN ds.length n <;> rfl
theorem e_gsub2S {PM : Mem → Prop} {kvs : List (Key × D)} {s : Str} (h : M a = some (.dK kvs)) : kSub2 (.ref a) x PM (.str s) M = (kvs.length < lim ∧ PM (put M a (.dK (putKD kvs (.inr s) x)))) := by
  simp only [kSub2, putS, h, keyD, Option.map]
  by_cases q : kvs.length < lim
  · simp only [q, if_true, true_and]
  · simp only [q, if_false, false_and]
theorem e_gsub2I {PM : Mem → Prop} {kvs : List (Key × D)} (h : M a = some (.dK kvs)) : kSub2 (.ref a) x PM (.int n) M = (kvs.length < lim ∧ PM (put M a (.dK (putKD kvs (.inl n) x)))) := by
  simp only [kSub2, putS, h, keyD, Option.map]
  by_cases q : kvs.length < lim
  · simp only [q, if_true, true_and]
  · simp only [q, if_false, false_and]
theorem e_ds1 {PM : Mem → Prop} {c p q s : D} (h : M a = some (.lst [c, p, q, s])) : kSub2 (.ref a) x PM (.int 1) M = PM (put M a (.lst [c, x, q, s])) := by rw [e_gsub2L h]; rfl
theorem e_ds2 {PM : Mem → Prop} {c p q s : D} (h : M a = some (.lst [c, p, q, s])) : kSub2 (.ref a) x PM (.int 2) M = PM (put M a (.lst [c, p, x, s])) := by rw [e_gsub2L h]; rfl
theorem e_ds3 {PM : Mem → Prop} {c p q s : D} (h : M a = some (.lst [c, p, q, s])) : kSub2 (.ref a) x PM (.int 3) M = PM (put M a (.lst [c, p, q, x])) := by rw [e_gsub2L h]; rfl
theorem e_gnil {vs : List D} : wgNil vs ρ M P = (vs = [] ∧ P ρ M) := rfl
theorem e_gcons {u : WGs} : wgCons g u (x :: r) ρ M P = g x ρ M (kg1 u r P) := rfl
theorem e_kg1 {u : WGs} : kg1 u r P ρ M = u r ρ M P := rfl
theorem e_gtup {n : Nat} {u : WGs} : wgTup n u (.tup ds) ρ M P = (ds.length = n ∧ u ds ρ M P) := rfl
theorem e_for {wi : WI} {wb : WS} : sFor wi g wb De ρ M = wi ρ M (kFor g wb De ρ) := rfl
theorem e_forK {wb : WS} : kFor g wb De ρ ds M = sLoop g wb De ds ρ M := rfl
theorem e_wiSeq : wiSeq we ρ M ΦA = we ρ M (kSeqI ΦA) := rfl
theorem e_seqIL : kSeqI ΦA (.lst ds) M = ΦA ds M := rfl
theorem e_seqIT : kSeqI ΦA (.tup ds) M = ΦA ds M := rfl
theorem e_wiRng1 : wiRng1 wA ρ M ΦA = wA ρ M (kRng1 ΦA) := rfl
theorem e_rng1K : kRng1 ΦA [.int n] M = ((-(2 ^ 62) ≤ n ∧ n < 2 ^ 62) ∧ ΦA (rgD 0 n.toNat) M) := rfl
theorem e_wiRng2 : wiRng2 wA ρ M ΦA = wA ρ M (kRng2 ΦA) := rfl
theorem e_rng2K : kRng2 ΦA [.int n, .int m] M = ((-(2 ^ 62) ≤ n ∧ n < 2 ^ 62 ∧ -(2 ^ 62) ≤ m ∧ m < 2 ^ 62) ∧ ΦA (rgD n (m - n).toNat) M) := rfl
theorem e_wiZip : wiZip wA ρ M ΦA = wA ρ M (kZip ΦA) := rfl
theorem e_zipKL : kZip ΦA [.lst ds, .lst es] M = ΦA (zipD ds es) M := rfl
theorem e_zipKT : kZip ΦA [.tup ds, .tup es] M = ΦA (zipD ds es) M := rfl
theorem e_lc {wi : WI} {vs : List Nat} : wLc wi g wt we vs ρ M Φ = wi ρ M (kLc0 g wt we (wipeD ρ vs) (kLcF Φ)) := rfl
theorem e_lc0 {k : List D → Mem → Prop} : kLc0 g wt we ρ k ds M = (ds.length ≤ lim ∧ wLcGo g wt we ρ k ds [] M) := rfl
theorem e_lcF : kLcF Φ ds M = Φ (.lst ds) M := rfl
theorem e_lc1 {k : List D → Mem → Prop} : kLc1 wt we es k ρ M = wt ρ M (kLc2 we ρ es k) := rfl
theorem e_lc2T {k : List D → Mem → Prop} : kLc2 we ρ es k true M = we ρ M (kLc3 es k) := rfl
theorem e_lc2F {k : List D → Mem → Prop} : kLc2 we ρ es k false M = k es M := rfl
theorem e_lc3 {k : List D → Mem → Prop} : kLc3 es k x M = k (es ++ [x]) M := rfl
theorem e_yes : wYes ρ M ΦT = ΦT true M := rfl
theorem e_wipe0 : wipeD ρ [] = ρ := rfl
theorem e_wipeS {vs : List Nat} : wipeD ρ (i :: vs) = (wipeD ρ vs).set i none := rfl
theorem e_endsNx : (endsD Φ).nx ρ M = Φ .non M := rfl
theorem e_endsRt : (endsD Φ).rt = Φ := rfl
end
theorem start_1 {n : Nat} {x : D} : startD (n + 1) [x] = some x :: List.replicate n none := by simp [startD]
theorem start_2 {n : Nat} {x y : D} : startD (n + 2) [x, y] = some x :: some y :: List.replicate n none := by simp [startD]
end VL

/-! == and != of whole numbers and of their tuples and lists; dicts of whole numbers -/
namespace VL
open PySem PySem.Spec PyProof.Rows L2
theorem pys_ints : ∀ ns : List Int, pys (ns.map D.int) = some (ns.map PyData.int)
  | [] => rfl
  | n :: ns => by rw [List.map_cons, pys, pys_ints ns]; rfl
theorem lay_ints : ∀ ns : List Int, PyData.canLayAll0 (ns.map PyData.int) = true
  | [] => rfl
  | n :: ns => by rw [List.map_cons, PyData.canLayAll0, lay_ints ns]; rfl
theorem dep_ints : ∀ ns : List Int, PyData.depthAll (ns.map PyData.int) = 0
  | [] => rfl
  | n :: ns => by rw [List.map_cons, PyData.depthAll, dep_ints ns]; rfl
theorem eqv_int (n m : Int) : PyData.eqv (.int n) (.int m) = decide (n = m) := by
  rw [PyData.eqv]
  by_cases h : n = m
  · rw [h]; simp
  · simp [h]
theorem eqv_ints : ∀ a b : List Int, PyData.eqvAll (a.map PyData.int) (b.map PyData.int) = decide (a = b)
  | [], [] => by simp [PyData.eqvAll]
  | [], _ :: _ => by simp [PyData.eqvAll]
  | _ :: _, [] => by simp [PyData.eqvAll]
  | x :: a, y :: b => by
    rw [List.map_cons, List.map_cons, PyData.eqvAll, eqv_int, eqv_ints a b]
    by_cases h : x = y
    · by_cases g : a = b
      · simp [h, g]
      · simp [h, g]
    · simp [h]
theorem sh_int (n : Int) : SeqAt.shaped (.int n) = true := rfl
theorem sh_tup (ns : List Int) : SeqAt.shaped (.tuple (ns.map PyData.int)) = true := by
  unfold SeqAt.shaped
  rw [PyData.canLay0, PyData.depth, lay_ints, dep_ints]
  rfl
theorem sh_lst (ns : List Int) : SeqAt.shaped (.list (ns.map PyData.int)) = true := by
  unfold SeqAt.shaped
  rw [PyData.canLay0, PyData.depth, lay_ints, dep_ints]
  rfl
section
variable {M : Mem} {Φ : KD} {n m : Int} {a b : List Int} {p : Addr}
theorem py_tup (a : List Int) : pyM M (.tup (a.map D.int)) = some (.tuple (a.map PyData.int)) := by unfold pyM; simp only [py, pys_ints]; rfl
theorem py_lst (a : List Int) : pyM M (.lst (a.map D.int)) = some (.list (a.map PyData.int)) := by unfold pyM; simp only [py, pys_ints]; rfl
theorem py_ref (h : M p = some (.lst (a.map D.int))) : pyM M (.ref p) = some (.list (a.map PyData.int)) := by unfold pyM; simp only [h, pys_ints]; rfl
theorem eqv_tup (a b : List Int) : PyData.eqv (.tuple (a.map PyData.int)) (.tuple (b.map PyData.int)) = decide (a = b) := by rw [PyData.eqv]; exact eqv_ints a b
theorem eqv_lst (a b : List Int) : PyData.eqv (.list (a.map PyData.int)) (.list (b.map PyData.int)) = decide (a = b) := by rw [PyData.eqv]; exact eqv_ints a b
theorem wrEq_of {x y : D} {s t : PyData} {c : Bool} (h1 : pyM M x = some s) (h2 : pyM M y = some t) (h3 : SeqAt.shaped s = true) (h4 : SeqAt.shaped t = true) (h5 : PyData.eqv s t = c) : wrEq x y M Φ = Φ (.bl c) M := by
  unfold wrEq; rw [h1, h2]; simp only [h3, h4, h5, true_and]
theorem wrNe_of {x y : D} {s t : PyData} {c : Bool} (h1 : pyM M x = some s) (h2 : pyM M y = some t) (h3 : SeqAt.shaped s = true) (h4 : SeqAt.shaped t = true) (h5 : PyData.eqv s t = c) : wrNe x y M Φ = Φ (.bl (!c)) M := by
  unfold wrNe; rw [h1, h2]; simp only [h3, h4, h5, true_and]
theorem e_eqI : wrEq (.int n) (.int m) M Φ = Φ (.bl (decide (n = m))) M := wrEq_of rfl rfl rfl rfl (eqv_int n m)
theorem e_neI : wrNe (.int n) (.int m) M Φ = Φ (.bl (!decide (n = m))) M := wrNe_of rfl rfl rfl rfl (eqv_int n m)
theorem e_eqB {c d : Bool} : wrEq (.bl c) (.bl d) M Φ = Φ (.bl (c == d)) M := wrEq_of rfl rfl rfl rfl (by rw [PyData.eqv])
theorem e_neB {c d : Bool} : wrNe (.bl c) (.bl d) M Φ = Φ (.bl (!(c == d))) M := wrNe_of rfl rfl rfl rfl (by rw [PyData.eqv])
theorem e_eqTI : wrEq (.tup (a.map D.int)) (.tup (b.map D.int)) M Φ = Φ (.bl (decide (a = b))) M := wrEq_of (py_tup a) (py_tup b) (sh_tup a) (sh_tup b) (eqv_tup a b)
theorem e_neTI : wrNe (.tup (a.map D.int)) (.tup (b.map D.int)) M Φ = Φ (.bl (!decide (a = b))) M := wrNe_of (py_tup a) (py_tup b) (sh_tup a) (sh_tup b) (eqv_tup a b)
theorem e_eqLI : wrEq (.lst (a.map D.int)) (.lst (b.map D.int)) M Φ = Φ (.bl (decide (a = b))) M := wrEq_of (py_lst a) (py_lst b) (sh_lst a) (sh_lst b) (eqv_lst a b)
theorem e_neLI : wrNe (.lst (a.map D.int)) (.lst (b.map D.int)) M Φ = Φ (.bl (!decide (a = b))) M := wrNe_of (py_lst a) (py_lst b) (sh_lst a) (sh_lst b) (eqv_lst a b)
theorem e_eqT0 : wrEq (.tup (a.map D.int)) (.tup []) M Φ = Φ (.bl (decide (a = []))) M := e_eqTI (b := [])
theorem e_neT0 : wrNe (.tup (a.map D.int)) (.tup []) M Φ = Φ (.bl (!decide (a = []))) M := e_neTI (b := [])
theorem e_eqL0 : wrEq (.lst (a.map D.int)) (.lst []) M Φ = Φ (.bl (decide (a = []))) M := e_eqLI (b := [])
theorem e_neL0 : wrNe (.lst (a.map D.int)) (.lst []) M Φ = Φ (.bl (!decide (a = []))) M := e_neLI (b := [])
theorem e_neR0 (h : M p = some (.lst (a.map D.int))) : wrNe (.ref p) (.lst []) M Φ = Φ (.bl (!decide (a = []))) M := wrNe_of (py_ref h) (py_lst []) (sh_lst a) (sh_lst []) (eqv_lst a [])
theorem e_eqR0 (h : M p = some (.lst (a.map D.int))) : wrEq (.ref p) (.lst []) M Φ = Φ (.bl (decide (a = []))) M := wrEq_of (py_ref h) (py_lst []) (sh_lst a) (sh_lst []) (eqv_lst a [])
end
/-! ### dicts of whole numbers -/
def ikv (ps : List (Int × Int)) : List (Key × D) := ps.map fun p => (.inl p.1, .int p.2)
def ig (ps : List (Int × Int)) (k : Int) : Option Int := (ps.find? fun p => decide (p.1 = k)).map (·.2)
theorem ig_nil (k : Int) : ig [] k = none := rfl
theorem ig_cons (a b : Int) (ps : List (Int × Int)) (k : Int) : ig ((a, b) :: ps) k = if a = k then some b else ig ps k := by
  unfold ig
  rw [List.find?_cons]
  by_cases h : a = k
  · simp [h]
  · simp [h]
theorem look_ikv (k : Int) : ∀ ps, look (ikv ps) (.inl k) = (ig ps k).map D.int
  | [] => rfl
  | (a, b) :: ps => by
    have ih := look_ikv k ps
    rw [ig_cons]
    unfold look ikv at ih ⊢
    rw [List.map_cons, List.find?_cons]
    by_cases h : a = k
    · subst h; simp
    · have : (Sum.inl a : Key) ≠ .inl k := fun e => h (by cases e; rfl)
      simp only [this, decide_false, if_neg h]
      exact ih
theorem ikv_len (ps : List (Int × Int)) : (ikv ps).length = ps.length := by unfold ikv; rw [List.length_map]
theorem ig_some {ps : List (Int × Int)} {k v : Int} (h : ig ps k = some v) : (k, v) ∈ ps := by
  induction ps with
  | nil => cases h
  | cons p ps ih =>
    obtain ⟨a, b⟩ := p
    rw [ig_cons] at h
    split at h
    · rename_i e; cases h; subst e; exact List.mem_cons_self ..
    · exact List.mem_cons_of_mem _ (ih h)
theorem ig_none {ps : List (Int × Int)} {k : Int} (h : k ∉ ps.map (·.1)) : ig ps k = none := by
  cases e : ig ps k with
  | none => rfl
  | some v => exact absurd (List.mem_map.mpr ⟨_, ig_some e, rfl⟩) h
theorem ig_none_iff {ps : List (Int × Int)} {k : Int} : ig ps k = none ↔ k ∉ ps.map (·.1) := by
  refine ⟨fun h hm => ?_, ig_none⟩
  induction ps with
  | nil => cases hm
  | cons p ps ih =>
    obtain ⟨a, b⟩ := p
    rw [ig_cons] at h
    split at h
    · cases h
    · rename_i n
      rw [List.map_cons] at hm
      rcases List.mem_cons.mp hm with e | e
      · exact n e.symm
      · exact ih h e
theorem ig_app (ps qs : List (Int × Int)) (k : Int) : ig (ps ++ qs) k = (ig ps k).or (ig qs k) := by
  induction ps with
  | nil => rfl
  | cons p ps ih =>
    obtain ⟨a, b⟩ := p
    rw [List.cons_append, ig_cons, ig_cons, ih]
    split <;> rfl
theorem ig_mem {ps : List (Int × Int)} (hn : (ps.map (·.1)).Nodup) {k v : Int} (h : (k, v) ∈ ps) : ig ps k = some v := by
  induction ps with
  | nil => cases h
  | cons p ps ih =>
    obtain ⟨a, b⟩ := p
    rw [List.map_cons, List.nodup_cons] at hn
    rw [ig_cons]
    rcases List.mem_cons.mp h with e | h
    · cases e; rw [if_pos rfl]
    · have : a ≠ k := fun e => hn.1 (by rw [e]; exact List.mem_map.mpr ⟨_, h, rfl⟩)
      rw [if_neg this]
      exact ih hn.2 h
/-- the key was not there: at the end -/
theorem put_new {ps : List (Int × Int)} {k : Int} (h : ig ps k = none) (v : Int) : putKD (ikv ps) (.inl k) (.int v) = ikv (ps ++ [(k, v)]) := by
  have : (ikv ps).any (fun kv => decide (kv.1 = Sum.inl k)) = false := by
    rw [List.any_eq_false]
    intro kv hk
    unfold ikv at hk
    obtain ⟨p, hp, rfl⟩ := List.mem_map.mp hk
    have := ig_none_iff.mp h
    intro e
    have e := of_decide_eq_true e
    refine this (List.mem_map.mpr ⟨p, hp, ?_⟩)
    cases e; rfl
  unfold putKD
  rw [this]
  unfold ikv
  simp
/-- what a dict of whole numbers holds -/
structure Im (ps : List (Int × Int)) (f : Int → Option Int) : Prop where
  nd : (ps.map (·.1)).Nodup
  get : ∀ k, ig ps k = f k
theorem Im.nil : Im [] fun _ => none := ⟨List.nodup_nil, fun _ => rfl⟩
theorem Im.congr {ps : List (Int × Int)} {f g : Int → Option Int} (h : Im ps f) (e : ∀ k, f k = g k) : Im ps g := ⟨h.nd, fun k => by rw [h.get k, e k]⟩
theorem Im.new {ps : List (Int × Int)} {f : Int → Option Int} (h : Im ps f) {k : Int} (hk : f k = none) (v : Int) : Im (ps ++ [(k, v)]) fun x => if x = k then some v else f x := by
  have hn : ig ps k = none := by rw [h.get, hk]
  refine ⟨?_, fun x => ?_⟩
  · rw [List.map_append, List.nodup_append]
    refine ⟨h.nd, by simp, fun a ha b hb e => ?_⟩
    simp at hb
    subst e
    rw [hb] at ha
    exact ig_none_iff.mp hn ha
  · rw [ig_app, ig_cons, ig_nil]
    by_cases e : x = k
    · subst e; rw [hn]; simp
    · have : k ≠ x := fun z => e z.symm
      rw [if_neg this, if_neg e, h.get x]
      cases f x <;> rfl
end VL

/-! more of the machine: displays, get, pop, lists put together, a tree's row -/
namespace VL
open PySem PySem.Spec PyProof.Rows L2
section
variable {ρ : Sg} {M : Mem} {Φ : KD} {we wf wo wk wv : WE} {wr : WP} {ΦP : List (Key × D) → Mem → Prop} {kvs r : List (Key × D)} {x d z : D} {a : Addr} {n : Int} {De : WN} {ds es : List D}
theorem e_disp {w : WP} : wDisp w ρ M Φ = w ρ M (kDisp Φ) := rfl
theorem e_dispK : kDisp Φ kvs M = (kvs.length ≤ 15 ∧ ∀ p, M p = none → Φ (.ref p) (put M p (.dK (mergeD kvs)))) := rfl
theorem e_pcons : wpCons wk wv wr ρ M ΦP = wk ρ M (kp1 wv wr ρ ΦP) := rfl
theorem e_p1 : kp1 wv wr ρ ΦP x M = wv ρ M (kp2 wr ρ x ΦP) := rfl
theorem e_p2s {s : Str} : kp2 wr ρ (.str s) ΦP d M = wr ρ M (kp3 (.inr s) d ΦP) := rfl
theorem e_p2i : kp2 wr ρ (.int n) ΦP d M = wr ρ M (kp3 (.inl n) d ΦP) := rfl
theorem e_p3 {k : Key} : kp3 k d ΦP r M = ΦP ((k, d) :: r) M := rfl
theorem e_pnil : wpNil ρ M ΦP = ΦP [] M := rfl
theorem e_dict0 : wDict0 ρ M Φ = ∀ p, M p = none → Φ (.ref p) (put M p (.dK [])) := rfl
theorem e_get : wGet wo we wf ρ M Φ = wo ρ M (kGet1 we wf ρ Φ) := rfl
theorem e_get1 (h : M a = some (.dK kvs)) : kGet1 we wf ρ Φ (.ref a) M = we ρ M (kGet2 wf ρ (.ref a) Φ) := by simp only [kGet1, dkM, h, Option.isSome, true_and]
theorem e_get2 : kGet2 wf ρ x Φ d M = wf ρ M (kGet3 x d Φ) := rfl
theorem e_get3 (h : M a = some (.dK kvs)) : kGet3 (.ref a) (.int n) Φ z M = Φ ((look kvs (.inl n)).getD z) M := by simp only [kGet3, dkM, keyD, h]
theorem e_pop (h : M a = some (.lst (es ++ [d]))) : wrPop (.ref a) [] M Φ = Φ d (put M a (.lst es)) := by simp [wrPop, memL, h]
theorem e_extL (h : M a = some (.lst es)) : wrExtend (.ref a) [.lst ds] M Φ = (es.length + ds.length ≤ lim ∧ Φ .non (put M a (.lst (es ++ ds)))) := by simp [wrExtend, memL, h, one, lstM]
theorem e_addM (h : M a = some (.lst es)) : wrAddM (.ref a) (.lst ds) M Φ = (es.length + ds.length ≤ lim ∧ ∀ p, M p = none → Φ (.ref p) (put M p (.lst (es ++ ds)))) := by simp [wrAddM, lstM, h]
theorem e_inI (h : M a = some (.dK kvs)) : wrIn false (.int n) (.ref a) M Φ = Φ (.bl (look kvs (.inl n)).isSome) M := by simp [wrIn, seqM, h, dkM, keyD]
theorem e_ninI (h : M a = some (.dK kvs)) : wrIn true (.int n) (.ref a) M Φ = Φ (.bl (!(look kvs (.inl n)).isSome)) M := by simp [wrIn, seqM, h, dkM, keyD]
theorem e_whT {body : WS} {P : Nat → Sg → Mem → Prop} {m : Nat} : kWhile body De P m ρ true M = body ⟨fun ρ' M' => ∃ m', m' < m ∧ P m' ρ' M', De.rt, De.nx, fun ρ' M' => ∃ m', m' < m ∧ P m' ρ' M'⟩ ρ M := rfl
theorem e_whF {body : WS} {P : Nat → Sg → Mem → Prop} {m : Nat} : kWhile body De P m ρ false M = De.nx ρ M := rfl
theorem e_break : sBreak De ρ M = De.bk ρ M := rfl
theorem e_cont : sCont De ρ M = De.ct ρ M := rfl
theorem e_retN : sRetN De ρ M = De.rt .non M := rfl
theorem e_aug {i : Nat} {wr : WR} : sAug i we wr De ρ M = match at_ ρ i with | some x => we ρ M (kAug i x wr De ρ) | none => False := rfl
end
/-! ### a tree's row: root, left, right, up -/
structure TA where
  m : Addr
  l : Addr
  r : Addr
  u : Addr
def rowT (A : TA) : List (Key × D) := [(.inr "left", .ref A.l), (.inr "right", .ref A.r), (.inr "up", .ref A.u)]
def rowD (x : D) (A : TA) : List (Key × D) := (.inr "root", x) :: rowT A
def optD : Option Int → D
  | none => .non
  | some k => .int k
section
variable {M : Mem} {Φ : KD} {A : TA} {a : Addr} {x y : D}
theorem look_root : look (rowD x A) (.inr "root") = some x := by
  have : decide ((.inr "root" : Key) = .inr "root") = true := by decide +kernel
  simp only [look, rowD, rowT, List.find?, this]; rfl
theorem look_left : look (rowD x A) (.inr "left") = some (.ref A.l) := by
  have h1 : decide ((.inr "root" : Key) = .inr "left") = false := by decide +kernel
  have h2 : decide ((.inr "left" : Key) = .inr "left") = true := by decide +kernel
  simp only [look, rowD, rowT, List.find?, h1, h2]; rfl
theorem look_right : look (rowD x A) (.inr "right") = some (.ref A.r) := by
  have h1 : decide ((.inr "root" : Key) = .inr "right") = false := by decide +kernel
  have h2 : decide ((.inr "left" : Key) = .inr "right") = false := by decide +kernel
  have h3 : decide ((.inr "right" : Key) = .inr "right") = true := by decide +kernel
  simp only [look, rowD, rowT, List.find?, h1, h2, h3]; rfl
theorem look_up : look (rowD x A) (.inr "up") = some (.ref A.u) := by
  have h1 : decide ((.inr "root" : Key) = .inr "up") = false := by decide +kernel
  have h2 : decide ((.inr "left" : Key) = .inr "up") = false := by decide +kernel
  have h3 : decide ((.inr "right" : Key) = .inr "up") = false := by decide +kernel
  have h4 : decide ((.inr "up" : Key) = .inr "up") = true := by decide +kernel
  simp only [look, rowD, rowT, List.find?, h1, h2, h3, h4]; rfl
theorem e_tRoot (h : M a = some (.dK (rowD x A))) : wrIx (.ref a) (.str "root") M Φ = Φ x M := by rw [e_ixD h, look_root]
theorem e_tLeft (h : M a = some (.dK (rowD x A))) : wrIx (.ref a) (.str "left") M Φ = Φ (.ref A.l) M := by rw [e_ixD h, look_left]
theorem e_tRight (h : M a = some (.dK (rowD x A))) : wrIx (.ref a) (.str "right") M Φ = Φ (.ref A.r) M := by rw [e_ixD h, look_right]
theorem e_tUp (h : M a = some (.dK (rowD x A))) : wrIx (.ref a) (.str "up") M Φ = Φ (.ref A.u) M := by rw [e_ixD h, look_up]
theorem put_root : putKD (rowD x A) (.inr "root") y = rowD y A := by
  have h0 : decide ((.inr "root" : Key) = .inr "root") = true := by decide +kernel
  have h1 : decide ((.inr "left" : Key) = .inr "root") = false := by decide +kernel
  have h2 : decide ((.inr "right" : Key) = .inr "root") = false := by decide +kernel
  have h3 : decide ((.inr "up" : Key) = .inr "root") = false := by decide +kernel
  have n1 : ¬ (.inr "left" : Key) = .inr "root" := of_decide_eq_false h1
  have n2 : ¬ (.inr "right" : Key) = .inr "root" := of_decide_eq_false h2
  have n3 : ¬ (.inr "up" : Key) = .inr "root" := of_decide_eq_false h3
  unfold putKD
  simp only [rowD, rowT, List.any, decide_true, Bool.true_or, if_true, List.map, if_neg n1, if_neg n2, if_neg n3]
theorem e_tSetRoot {PM : Mem → Prop} (h : M a = some (.dK (rowD x A))) : kSub2 (.ref a) y PM (.str "root") M = PM (put M a (.dK (rowD y A))) := by
  rw [e_gsub2S h, put_root]
  have : (rowD x A).length < lim := (show (4 : Nat) < lim by decide)
  simp only [this, true_and]
theorem putKD_new {kvs : List (Key × D)} {k : Key} (h : k ∉ kvs.map (·.1)) (v : D) : putKD kvs k v = kvs ++ [(k, v)] := by
  have : kvs.any (fun kv => decide (kv.1 = k)) = false := by
    rw [List.any_eq_false]
    intro kv hk e
    exact h (List.mem_map.mpr ⟨kv, hk, of_decide_eq_true e⟩)
  unfold putKD
  rw [this]
  rfl
theorem merge_nd : ∀ (kvs acc : List (Key × D)), (acc.map (·.1) ++ kvs.map (·.1)).Nodup → kvs.foldl (fun acc kv => putKD acc kv.1 kv.2) acc = acc ++ kvs
  | [], acc, _ => by simp
  | (k, v) :: r, acc, h => by
    rw [List.foldl_cons, putKD_new ?_ v, merge_nd r _ ?_]
    · simp
    · simpa using h
    · intro hm
      rw [List.nodup_append] at h
      exact h.2.2 k hm k (by simp) rfl
theorem merge_of {kvs : List (Key × D)} (h : (kvs.map (·.1)).Nodup) : mergeD kvs = kvs := merge_nd kvs [] h
theorem merge_row {l r u : Addr} : mergeD [(.inr "root", x), (.inr "left", .ref l), (.inr "right", .ref r), (.inr "up", .ref u)] = rowD x ⟨default, l, r, u⟩ := by
  refine merge_of ?_
  show ([.inr "root", .inr "left", .inr "right", .inr "up"] : List Key).Nodup
  decide +kernel
end
end VL

local macro_rules | `(tactic| walk_at "vl") => `(tactic| simp only [VL.e_var, VL.e_at0, VL.e_at0n, VL.e_atS, VL.e_c, VL.e_op, VL.e_op1, VL.e_op2, VL.e_I, VL.e_IC, VL.e_addI, VL.e_addT, VL.e_addL, VL.e_mulI, VL.e_isN, VL.e_notN, VL.e_isN_non, VL.e_isN_int, VL.e_isN_bl, VL.e_isN_str, VL.e_isN_tup, VL.e_isN_lst, VL.e_isN_ref, VL.e_test, VL.e_testK, VL.e_and, VL.e_andT, VL.e_andF, VL.e_or, VL.e_orT, VL.e_orF, VL.e_not, VL.e_notK, VL.e_ifE, VL.e_ifET, VL.e_ifEF, VL.e_andV, VL.e_andVT, VL.e_andVF, VL.e_orV, VL.e_orVT, VL.e_orVF, VL.e_notV, VL.e_notVK, VL.e_neg, VL.e_negK, VL.e_nil, VL.e_cons, VL.e_cons1, VL.e_cons2, VL.e_tup, VL.e_tupK, VL.e_lst, VL.e_lstK, VL.e_lstM, VL.e_lstMK, VL.e_cb, VL.e_cbK, VL.e_lenT, VL.e_lenL, VL.e_lenF, VL.e_tupCL, VL.e_tupCT, VL.e_lstCL, VL.e_lstCT, VL.e_min2, VL.e_max2, VL.e_sl, VL.e_sl1, VL.e_sl2, VL.e_sl3T, VL.e_sl3L, VL.e_sl3F, VL.e_noPart, VL.e_part, VL.e_partK, VL.e_revL, VL.e_revLK, VL.e_call, VL.e_callK, VL.e_callD, VL.e_callDK, VL.e_callKw, VL.e_callKw1, VL.e_callKw2, VL.e_bm, VL.e_bm2, VL.e_ixL, VL.e_ixT, VL.e_next, VL.e_seq, VL.e_drop, VL.e_dropK, VL.e_ret, VL.e_retF, VL.e_if, VL.e_ifT, VL.e_ifF, VL.e_asg, VL.e_asgK, VL.e_gname, VL.e_par, VL.e_parK, VL.e_par3, VL.e_par3K, VL.e_gsub, VL.e_gsub1, VL.e_gnil, VL.e_gcons, VL.e_kg1, VL.e_gtup, VL.e_for, VL.e_forK, VL.e_wiSeq, VL.e_seqIL, VL.e_seqIT, VL.e_wiRng1, VL.e_rng1K, VL.e_wiRng2, VL.e_rng2K, VL.e_wiZip, VL.e_zipKL, VL.e_zipKT, VL.e_lc, VL.e_lc0, VL.e_lcF, VL.e_lc1, VL.e_lc2T, VL.e_lc2F, VL.e_lc3, VL.e_yes, VL.e_wipe0, VL.e_wipeS, VL.e_endsNx, VL.e_endsRt, VL.e_eqI, VL.e_neI, VL.e_eqB, VL.e_neB, VL.e_eqTI, VL.e_neTI, VL.e_eqLI, VL.e_neLI, VL.e_eqT0, VL.e_neT0, VL.e_eqL0, VL.e_neL0, VL.e_disp, VL.e_dispK, VL.e_pcons, VL.e_p1, VL.e_p2s, VL.e_p2i, VL.e_p3, VL.e_pnil, VL.e_dict0, VL.e_get, VL.e_get2, VL.e_whT, VL.e_whF, VL.e_break, VL.e_cont, VL.e_retN, VL.e_aug, VL.e_lenR VL.put_same, VL.e_tupCR VL.put_same, VL.e_bm1 VL.put_same, VL.e_append VL.put_same, VL.e_insert VL.put_same, VL.e_ixD VL.put_same, VL.e_ixDi VL.put_same, VL.e_dr0 VL.put_same, VL.e_dr1 VL.put_same, VL.e_dr2 VL.put_same, VL.e_dr3 VL.put_same, VL.e_fz VL.put_same, VL.e_gsub2S VL.put_same, VL.e_gsub2I VL.put_same, VL.e_ds1 VL.put_same, VL.e_ds2 VL.put_same, VL.e_ds3 VL.put_same, VL.e_neR0 VL.put_same, VL.e_eqR0 VL.put_same, VL.e_get1 VL.put_same, VL.e_get3 VL.put_same, VL.e_pop VL.put_same, VL.e_extL VL.put_same, VL.e_addM VL.put_same, VL.e_inI VL.put_same, VL.e_ninI VL.put_same, VL.e_tRoot VL.put_same, VL.e_tLeft VL.put_same, VL.e_tRight VL.put_same, VL.e_tUp VL.put_same, VL.e_tSetRoot VL.put_same, Bool.not_true, Bool.not_false, VL.put_put, List.set_cons_zero, List.set_cons_succ, List.replicate])
local macro_rules | `(tactic| wp_walk using $ts,*) => `(tactic| simp only [VL.e_var, VL.e_at0, VL.e_at0n, VL.e_atS, VL.e_c, VL.e_op, VL.e_op1, VL.e_op2, VL.e_I, VL.e_IC, VL.e_addI, VL.e_addT, VL.e_addL, VL.e_mulI, VL.e_isN, VL.e_notN, VL.e_isN_non, VL.e_isN_int, VL.e_isN_bl, VL.e_isN_str, VL.e_isN_tup, VL.e_isN_lst, VL.e_isN_ref, VL.e_test, VL.e_testK, VL.e_and, VL.e_andT, VL.e_andF, VL.e_or, VL.e_orT, VL.e_orF, VL.e_not, VL.e_notK, VL.e_ifE, VL.e_ifET, VL.e_ifEF, VL.e_andV, VL.e_andVT, VL.e_andVF, VL.e_orV, VL.e_orVT, VL.e_orVF, VL.e_notV, VL.e_notVK, VL.e_neg, VL.e_negK, VL.e_nil, VL.e_cons, VL.e_cons1, VL.e_cons2, VL.e_tup, VL.e_tupK, VL.e_lst, VL.e_lstK, VL.e_lstM, VL.e_lstMK, VL.e_cb, VL.e_cbK, VL.e_lenT, VL.e_lenL, VL.e_lenF, VL.e_tupCL, VL.e_tupCT, VL.e_lstCL, VL.e_lstCT, VL.e_min2, VL.e_max2, VL.e_sl, VL.e_sl1, VL.e_sl2, VL.e_sl3T, VL.e_sl3L, VL.e_sl3F, VL.e_noPart, VL.e_part, VL.e_partK, VL.e_revL, VL.e_revLK, VL.e_call, VL.e_callK, VL.e_callD, VL.e_callDK, VL.e_callKw, VL.e_callKw1, VL.e_callKw2, VL.e_bm, VL.e_bm2, VL.e_ixL, VL.e_ixT, VL.e_next, VL.e_seq, VL.e_drop, VL.e_dropK, VL.e_ret, VL.e_retF, VL.e_if, VL.e_ifT, VL.e_ifF, VL.e_asg, VL.e_asgK, VL.e_gname, VL.e_par, VL.e_parK, VL.e_par3, VL.e_par3K, VL.e_gsub, VL.e_gsub1, VL.e_gnil, VL.e_gcons, VL.e_kg1, VL.e_gtup, VL.e_for, VL.e_forK, VL.e_wiSeq, VL.e_seqIL, VL.e_seqIT, VL.e_wiRng1, VL.e_rng1K, VL.e_wiRng2, VL.e_rng2K, VL.e_wiZip, VL.e_zipKL, VL.e_zipKT, VL.e_lc, VL.e_lc0, VL.e_lcF, VL.e_lc1, VL.e_lc2T, VL.e_lc2F, VL.e_lc3, VL.e_yes, VL.e_wipe0, VL.e_wipeS, VL.e_endsNx, VL.e_endsRt, VL.e_eqI, VL.e_neI, VL.e_eqB, VL.e_neB, VL.e_eqTI, VL.e_neTI, VL.e_eqLI, VL.e_neLI, VL.e_eqT0, VL.e_neT0, VL.e_eqL0, VL.e_neL0, VL.e_disp, VL.e_dispK, VL.e_pcons, VL.e_p1, VL.e_p2s, VL.e_p2i, VL.e_p3, VL.e_pnil, VL.e_dict0, VL.e_get, VL.e_get2, VL.e_whT, VL.e_whF, VL.e_break, VL.e_cont, VL.e_retN, VL.e_aug, VL.e_lenR VL.put_same, VL.e_tupCR VL.put_same, VL.e_bm1 VL.put_same, VL.e_append VL.put_same, VL.e_insert VL.put_same, VL.e_ixD VL.put_same, VL.e_ixDi VL.put_same, VL.e_dr0 VL.put_same, VL.e_dr1 VL.put_same, VL.e_dr2 VL.put_same, VL.e_dr3 VL.put_same, VL.e_fz VL.put_same, VL.e_gsub2S VL.put_same, VL.e_gsub2I VL.put_same, VL.e_ds1 VL.put_same, VL.e_ds2 VL.put_same, VL.e_ds3 VL.put_same, VL.e_neR0 VL.put_same, VL.e_eqR0 VL.put_same, VL.e_get1 VL.put_same, VL.e_get3 VL.put_same, VL.e_pop VL.put_same, VL.e_extL VL.put_same, VL.e_addM VL.put_same, VL.e_inI VL.put_same, VL.e_ninI VL.put_same, VL.e_tRoot VL.put_same, VL.e_tLeft VL.put_same, VL.e_tRight VL.put_same, VL.e_tUp VL.put_same, VL.e_tSetRoot VL.put_same, Bool.not_true, Bool.not_false, VL.put_put, List.set_cons_zero, List.set_cons_succ, List.replicate, $[$ts:term],*])
local macro_rules | `(tactic| k_search $h) => `(tactic| simp only [VL.e_var, VL.e_at0, VL.e_at0n, VL.e_atS, VL.e_c, VL.e_op, VL.e_op1, VL.e_op2, VL.e_I, VL.e_IC, VL.e_addI, VL.e_addT, VL.e_addL, VL.e_mulI, VL.e_isN, VL.e_notN, VL.e_isN_non, VL.e_isN_int, VL.e_isN_bl, VL.e_isN_str, VL.e_isN_tup, VL.e_isN_lst, VL.e_isN_ref, VL.e_test, VL.e_testK, VL.e_and, VL.e_andT, VL.e_andF, VL.e_or, VL.e_orT, VL.e_orF, VL.e_not, VL.e_notK, VL.e_ifE, VL.e_ifET, VL.e_ifEF, VL.e_andV, VL.e_andVT, VL.e_andVF, VL.e_orV, VL.e_orVT, VL.e_orVF, VL.e_notV, VL.e_notVK, VL.e_neg, VL.e_negK, VL.e_nil, VL.e_cons, VL.e_cons1, VL.e_cons2, VL.e_tup, VL.e_tupK, VL.e_lst, VL.e_lstK, VL.e_lstM, VL.e_lstMK, VL.e_cb, VL.e_cbK, VL.e_lenT, VL.e_lenL, VL.e_lenF, VL.e_tupCL, VL.e_tupCT, VL.e_lstCL, VL.e_lstCT, VL.e_min2, VL.e_max2, VL.e_sl, VL.e_sl1, VL.e_sl2, VL.e_sl3T, VL.e_sl3L, VL.e_sl3F, VL.e_noPart, VL.e_part, VL.e_partK, VL.e_revL, VL.e_revLK, VL.e_call, VL.e_callK, VL.e_callD, VL.e_callDK, VL.e_callKw, VL.e_callKw1, VL.e_callKw2, VL.e_bm, VL.e_bm2, VL.e_ixL, VL.e_ixT, VL.e_next, VL.e_seq, VL.e_drop, VL.e_dropK, VL.e_ret, VL.e_retF, VL.e_if, VL.e_ifT, VL.e_ifF, VL.e_asg, VL.e_asgK, VL.e_gname, VL.e_par, VL.e_parK, VL.e_par3, VL.e_par3K, VL.e_gsub, VL.e_gsub1, VL.e_gnil, VL.e_gcons, VL.e_kg1, VL.e_gtup, VL.e_for, VL.e_forK, VL.e_wiSeq, VL.e_seqIL, VL.e_seqIT, VL.e_wiRng1, VL.e_rng1K, VL.e_wiRng2, VL.e_rng2K, VL.e_wiZip, VL.e_zipKL, VL.e_zipKT, VL.e_lc, VL.e_lc0, VL.e_lcF, VL.e_lc1, VL.e_lc2T, VL.e_lc2F, VL.e_lc3, VL.e_yes, VL.e_wipe0, VL.e_wipeS, VL.e_endsNx, VL.e_endsRt, VL.e_eqI, VL.e_neI, VL.e_eqB, VL.e_neB, VL.e_eqTI, VL.e_neTI, VL.e_eqLI, VL.e_neLI, VL.e_eqT0, VL.e_neT0, VL.e_eqL0, VL.e_neL0, VL.e_disp, VL.e_dispK, VL.e_pcons, VL.e_p1, VL.e_p2s, VL.e_p2i, VL.e_p3, VL.e_pnil, VL.e_dict0, VL.e_get, VL.e_get2, VL.e_whT, VL.e_whF, VL.e_break, VL.e_cont, VL.e_retN, VL.e_aug, VL.e_lenR VL.put_same, VL.e_tupCR VL.put_same, VL.e_bm1 VL.put_same, VL.e_append VL.put_same, VL.e_insert VL.put_same, VL.e_ixD VL.put_same, VL.e_ixDi VL.put_same, VL.e_dr0 VL.put_same, VL.e_dr1 VL.put_same, VL.e_dr2 VL.put_same, VL.e_dr3 VL.put_same, VL.e_fz VL.put_same, VL.e_gsub2S VL.put_same, VL.e_gsub2I VL.put_same, VL.e_ds1 VL.put_same, VL.e_ds2 VL.put_same, VL.e_ds3 VL.put_same, VL.e_neR0 VL.put_same, VL.e_eqR0 VL.put_same, VL.e_get1 VL.put_same, VL.e_get3 VL.put_same, VL.e_pop VL.put_same, VL.e_extL VL.put_same, VL.e_addM VL.put_same, VL.e_inI VL.put_same, VL.e_ninI VL.put_same, VL.e_tRoot VL.put_same, VL.e_tLeft VL.put_same, VL.e_tRight VL.put_same, VL.e_tUp VL.put_same, VL.e_tSetRoot VL.put_same, Bool.not_true, Bool.not_false, VL.put_put, List.set_cons_zero, List.set_cons_succ, List.replicate, VL.e_dr0 $h, VL.e_dr1 $h, VL.e_dr2 $h, VL.e_dr3 $h, VL.e_ds1 $h, VL.e_ds2 $h, VL.e_ds3 $h])
namespace VL
open PySem PySem.Spec PyProof.Rows L2
/-! ### the draws -/
def PR : Int := 2305843009213693951
/-- a draw's list: the cells, the place, the rest, the state -/
def DrO (mo : MO) : Prop := ∃ (ns : List Int) (p q s : Int), mo = .lst [.lst (ns.map D.int), .int p, .int q, .int s] ∧ 0 ≤ p ∧ 0 ≤ q ∧ 0 ≤ s ∧ s < PR
/-- a draw stands at d -/
def Dw (M : Mem) (d : Addr) : Prop := ∃ mo, M d = some mo ∧ DrO mo
/-- what is behind a draw at d: d has turned, all else that stood stands -/
structure Kp (d : Addr) (M M' : Mem) : Prop where
  dw : Dw M' d
  rest : ∀ a o, a ≠ d → M a = some o → M' a = some o
theorem Kp.refl {d : Addr} {M : Mem} (h : Dw M d) : Kp d M M := ⟨h, fun _ _ _ e => e⟩
theorem Kp.trans {d : Addr} {M M1 M2 : Mem} (a : Kp d M M1) (b : Kp d M1 M2) : Kp d M M2 := ⟨b.dw, fun p o n e => b.rest p o n (a.rest p o n e)⟩
theorem Kp.put {d : Addr} {M : Mem} {mo : MO} (h : DrO mo) : Kp d M (put M d mo) := ⟨⟨mo, put_same, h⟩, fun a o n e => by rw [put_ne n]; exact e⟩
def W_l_take : W3 := fun ds M Φ => ∃ d n, ds = [.ref d, .int n] ∧ Dw M d ∧ (0 < n ∧ n ≤ 10 ^ 40) ∧ ∀ r M', 0 ≤ r → r < n → Kp d M M' → Φ (.int r) M'
def w_l_take2 : WS := (sSeq (sIf (wTest (wOp (wrI fun i j => .bl (decide (j ≤ i))) (wOp wrIx (wVar 0) (wC (.int 2))) (wVar 1))) (sSeq (sAsg (wOp (wrIC (fun _ j => 0 < j) fun i j => .int (i % j)) (wOp wrIx (wVar 0) (wC (.int 2))) (wVar 1)) (wgName 3))
  (sSeq (sAsg (wOp (wrIC CDivW fun i j => .int (i / j)) (wOp wrIx (wVar 0) (wC (.int 2))) (wVar 1)) (wgSub (wVar 0) (wC (.int 2))))
  (sRet (wVar 3)))) sNext)
  (sSeq (sAsg (wOp (wrIC (fun _ j => 0 < j) fun i j => .int (i % j)) (wOp wrMul (wOp wrIx (wVar 0) (wC (.int 3))) (wOp wrIx (wVar 0) (wC (.int 3)))) (wC (.int 2305843009213693951))) (wgName 4))
  (sSeq (sAsg (wOp (wrIC (fun _ j => 0 < j) fun i j => .int (i % j)) (wOp wrAdd (wOp wrAdd (wOp wrMul (wVar 4) (wC (.int 48271))) (wOp wrMul (wOp wrIx (wVar 0) (wC (.int 3))) (wC (.int 16807)))) (wC (.int 12345))) (wC (.int 2305843009213693951))) (wgSub (wVar 0) (wC (.int 3))))
  (sRet (wOp (wrIC (fun _ j => 0 < j) fun i j => .int (i % j)) (wOp (wrIC CDivW fun i j => .int (i / j)) (wOp wrIx (wVar 0) (wC (.int 3))) (wC (.int 1021))) (wVar 1))))))
def w_l_take : WS := (sSeq (sIf (wAnd (wTest (wOp (wrI fun i j => .bl (decide (i < j))) (wOp wrIx (wVar 0) (wC (.int 2))) (wVar 1))) (wTest (wOp (wrI fun i j => .bl (decide (i < j))) (wOp wrIx (wVar 0) (wC (.int 1))) (wCB wrLen (wCons (wOp wrIx (wVar 0) (wC (.int 0))) wNil))))) (sSeq (sAsg (wOp wrIx (wOp wrIx (wVar 0) (wC (.int 0))) (wOp wrIx (wVar 0) (wC (.int 1)))) (wgName 2))
  (sSeq (sAsg (wOp wrAdd (wOp wrIx (wVar 0) (wC (.int 1))) (wC (.int 1))) (wgSub (wVar 0) (wC (.int 1))))
  (sSeq (sAsg (wC (.int 0)) (wgSub (wVar 0) (wC (.int 2))))
  (sSeq (sIf (wTest (wOp (wrI fun i j => .bl (decide (j ≤ i))) (wVar 2) (wOp (wrIC CPow fun i j => .int (i ^ j.toNat)) (wC (.int 10)) (wC (.int 18))))) (sAsg (wVar 2) (wgSub (wVar 0) (wC (.int 2)))) sNext)
  (sAsg (wOp (wrIC (fun _ j => 0 < j) fun i j => .int (i % j)) (wOp wrAdd (wOp wrAdd (wOp wrMul (wOp wrIx (wVar 0) (wC (.int 3))) (wC (.int 52711))) (wOp wrMul (wOp (wrIC (fun _ j => 0 < j) fun i j => .int (i % j)) (wVar 2) (wC (.int 2305843009213693951))) (wC (.int 7)))) (wOp wrIx (wVar 0) (wC (.int 1)))) (wC (.int 2305843009213693951))) (wgSub (wVar 0) (wC (.int 3)))))))) sNext) w_l_take2)
theorem r_l_take2 {M : Mem} {Φ : KD} {d : Addr} {n p q s : Int} {c : D} {o2 : Option D} (hM : M d = some (.lst [c, .int p, .int q, .int s])) (hn : 0 < n) (hn2 : n ≤ 10 ^ 40) (h1 : 0 ≤ q) (h2 : 0 ≤ s) (h3 : s < PR)
    (k : ∀ r q' s', 0 ≤ r → r < n → 0 ≤ q' → 0 ≤ s' → s' < PR → Φ (.int r) (put M d (.lst [c, .int p, .int q', .int s']))) : w_l_take2 (endsD Φ) [some (.ref d), some (.int n), o2, none, none] M := by
  have hdiv : CDivW q n := wide_div (b := 140) hn (by have : n.natAbs ≤ 10 ^ 40 := by omega
                                                      exact Nat.lt_of_le_of_lt this (by decide)) (by decide) (by decide)
  have hP : (2305843009213693951 : Int) = PR := rfl
  unfold w_l_take2
  k_search hM
  by_cases hq : n ≤ q
  · rw [decide_eq_true hq]
    k_search hM
    refine ⟨hn, hdiv, ?_⟩
    have := k (q % n) (q / n) s (Int.emod_nonneg _ (by omega)) (Int.emod_lt_of_pos _ hn) (Int.ediv_nonneg h1 (by omega)) h2 h3
    exact this
  · rw [decide_eq_false hq]
    k_search hM
    have m1 : ∀ i j : Int, 0 ≤ i → i < PR → 0 ≤ j → j < PR → CMulW i j := fun i j a b c d => wide_mul (a := 64) (b := 64) (by unfold PR at b; omega) (by unfold PR at d; omega) (by decide) (by decide) (by decide)
    have z1 : 0 ≤ s * s % 2305843009213693951 := Int.emod_nonneg _ (by decide)
    have z2 : s * s % 2305843009213693951 < PR := Int.emod_lt_of_pos _ (by decide)
    refine ⟨m1 s s h2 h3 h2 h3, by decide, m1 _ _ z1 z2 (by decide) (by decide), m1 _ _ h2 h3 (by decide) (by decide), by decide, ?_⟩
    generalize hs : (s * s % 2305843009213693951 * 48271 + s * 16807 + 12345) % 2305843009213693951 = s'
    have z3 : 0 ≤ s' := by rw [← hs]; exact Int.emod_nonneg _ (by decide)
    have z4 : s' < PR := by rw [← hs]; exact Int.emod_lt_of_pos _ (by decide)
    refine ⟨wide_div (b := 20) (by decide) (by decide) (by decide) (by decide), hn, ?_⟩
    exact k _ q s' (Int.emod_nonneg _ (by omega)) (Int.emod_lt_of_pos _ hn) h1 z3 z4
theorem r_l_take : ∀ ds M Φ, W_l_take ds M Φ → w_l_take (endsD Φ) (startD 5 ds) M := by
  intro ds M Φ ⟨d, n, eds, ⟨mo, hM, ns, p, q, s, emo, h0, h1, h2, h3⟩, ⟨hn, hn2⟩, k⟩
  subst eds emo
  unfold w_l_take
  rw [start_2]
  k_search hM
  have go : ∀ (p' q' s' : Int) (M' : Mem), M' = M ∨ M' = put M d (.lst [.lst (ns.map D.int), .int p', .int q', .int s']) → M' d = some (.lst [.lst (ns.map D.int), .int p', .int q', .int s']) → 0 ≤ p' → 0 ≤ q' → 0 ≤ s' → s' < PR → ∀ o2, w_l_take2 (endsD Φ) [some (.ref d), some (.int n), o2, none, none] M' := by
    intro p' q' s' M' hm hM' g1 g2 g3 g4 o2
    refine r_l_take2 hM' hn hn2 g2 g3 g4 fun r q2 s2 e1 e2 e3 e4 e5 => ?_
    have := k r _ e1 e2 (Kp.put (mo := .lst [.lst (ns.map D.int), .int p', .int q2, .int s2]) ⟨ns, p', q2, s2, rfl, g1, e3, e4, e5⟩)
    rcases hm with hm | hm
    · rw [hm]; exact this
    · rw [hm, put_put]; exact this
  by_cases hq : q < n
  · rw [decide_eq_true hq]
    k_search hM
    by_cases hp : p < ((ns.map D.int).length : Int)
    · rw [decide_eq_true hp]
      k_search hM
      have hp2 : p.toNat < ns.length := by rw [List.length_map] at hp; omega
      have e1 : atD (ns.map D.int) p = some (.int ns[p.toNat]) := by
        have e0 : ixN (ns.map D.int).length p = some p.toNat := by unfold ixN; rw [if_pos h0, if_pos hp]
        unfold atD
        rw [e0]
        simp [hp2]
      rw [e1]
      have h7 : CMulW s 52711 := wide_mul (a := 64) (b := 64) (by unfold PR at h3; omega) (by decide) (by decide) (by decide) (by decide)
      have z1 : 0 ≤ ns[p.toNat] % 2305843009213693951 := Int.emod_nonneg _ (by decide)
      have z2 : ns[p.toNat] % 2305843009213693951 < 2305843009213693951 := Int.emod_lt_of_pos _ (by decide)
      have h8 : CMulW (ns[p.toNat] % 2305843009213693951) 7 := wide_mul (a := 64) (b := 64) (by omega) (by decide) (by decide) (by decide) (by decide)
      walk_at "vl"
      refine ⟨⟨by decide, by decide, by decide⟩, ?_⟩
      by_cases hc : (10 ^ (18 : Int).toNat : Int) ≤ ns[p.toNat]
      · rw [decide_eq_true hc]
        walk_at "vl"
        refine ⟨h7, by decide, h8, by decide, ?_⟩
        refine go (p + 1) ns[p.toNat] _ _ (.inr rfl) put_same (by omega) ?_ (Int.emod_nonneg _ (by decide)) (Int.emod_lt_of_pos _ (by decide)) _
        exact Int.le_trans (by decide) hc
      · rw [decide_eq_false hc]
        walk_at "vl"
        refine ⟨h7, by decide, h8, by decide, ?_⟩
        exact go (p + 1) 0 _ _ (.inr rfl) put_same (by omega) (by decide) (Int.emod_nonneg _ (by decide)) (Int.emod_lt_of_pos _ (by decide)) _
    · rw [decide_eq_false hp]
      k_search hM
      exact go p q s M (.inl rfl) hM h0 h1 h2 h3 _
  · rw [decide_eq_false hq]
    k_search hM
    exact go p q s M (.inl rfl) hM h0 h1 h2 h3 _
theorem W_take_go {d : Addr} {n : Int} {M : Mem} {Φ : KD} (h : Dw M d) (h0 : 0 < n) (h1 : n ≤ 10 ^ 40) (k : ∀ r M', 0 ≤ r → r < n → Kp d M M' → Φ (.int r) M') : W_l_take [.ref d, .int n] M Φ := ⟨d, n, rfl, h, ⟨h0, h1⟩, k⟩
/-! _law_start -/
def W_l_start : W3 := fun ds M Φ => ∃ ns : List Int, ds = [.fz (ns.map D.int)] ∧ ns.length ≤ 63 ∧ ∀ p M', M p = none → Dw M' p → (∀ a o, M a = some o → M' a = some o) → Φ (.ref p) M'
def w_l_start : WS := (sRet (wLstM (wCons (wCB wrLstC (wCons (wSl (wVar 0) wNoPart (wPart (wC (.int 63)))) wNil)) (wCons (wC (.int 0)) (wCons (wC (.int 0)) (wCons (wOp wrAdd (wC (.int 9484)) (wOp wrMul (wC (.int 31)) (wCB wrLen (wCons (wSl (wVar 0) wNoPart (wPart (wC (.int 63)))) wNil)))) wNil))))))
theorem cut_take {ns : List Int} (h : ns.length ≤ 63) : cutD (ns.map D.int) none (some 63) = ns.map D.int := by
  unfold cutD
  rw [HT.sIx_none, show HT.sIx (ns.map D.int).length (ns.map D.int).length (some 63) = min 63 (ns.map D.int).length from HT.sIx_nat _ _ 63, List.drop_zero]
  rw [List.take_of_length_le]
  rw [List.length_map]; omega
theorem r_l_start : ∀ ds M Φ, W_l_start ds M Φ → w_l_start (endsD Φ) (startD 1 ds) M := by
  intro ds M Φ ⟨ns, eds, hl, k⟩
  subst eds
  unfold w_l_start
  rw [start_1]
  walk_at "vl"
  rw [cut_take hl, List.length_map]
  refine ⟨wide_mul (a := 64) (b := 64) (by decide) (by omega) (by decide) (by decide) (by decide), (show (4 : Nat) ≤ lim by decide), fun p hp => ?_⟩
  refine k p _ hp ⟨_, put_same, ns, 0, 0, _, rfl, by decide, by decide, by omega, by unfold PR; omega⟩ fun a o e => ?_
  rw [put_ne (ne_mem e hp)]
  exact e
/-! _law_of -/
def W_l_of : W3 := fun ds M Φ => ∃ d es, (ds = [.ref d, .lst es] ∨ ds = [.ref d, .tup es]) ∧ Dw M d ∧ (0 < es.length ∧ es.length ≤ 100000) ∧ ∀ x M', x ∈ es → Kp d M M' → Φ x M'
def w_l_of : WS := (sRet (wOp wrIx (wVar 1) (wCall W_l_take (wCons (wVar 0) (wCons (wCB wrLen (wCons (wVar 1) wNil)) wNil)))))
theorem atD_of {ds : List D} {i : Int} (h0 : 0 ≤ i) (h1 : i < ds.length) : atD ds i = some (ds[i.toNat]'(by omega)) := by
  unfold atD ixN
  rw [if_pos h0, if_pos h1]
  exact List.getElem?_eq_getElem (by omega)
theorem r_l_of : ∀ ds M Φ, W_l_of ds M Φ → w_l_of (endsD Φ) (startD 2 ds) M := by
  intro ds M Φ ⟨d, es, eds, hd, ⟨h0, h1⟩, k⟩
  rcases eds with eds | eds
  · subst eds
    unfold w_l_of
    rw [start_2]
    walk_at "vl"
    refine W_take_go hd (by omega) (by omega) fun r M' g0 g1 kp => ?_
    walk_at "vl"
    rw [atD_of g0 g1]
    exact k _ M' (List.getElem_mem _) kp
  · subst eds
    unfold w_l_of
    rw [start_2]
    walk_at "vl"
    refine W_take_go hd (by omega) (by omega) fun r M' g0 g1 kp => ?_
    walk_at "vl"
    rw [atD_of g0 g1]
    exact k _ M' (List.getElem_mem _) kp
/-! _law_shuffled -/
def W_l_shuffled : W3 := fun ds M Φ => ∃ d es, ds = [.ref d, .lst es] ∧ Dw M d ∧ es.length ≤ 100000 ∧ ∀ es' M', es'.Perm es → Kp d M M' → Φ (.lst es') M'
def w_l_shuffled : WS := (sSeq (sAsg (wLstM wNil) (wgName 2))
  (sSeq (sFor (wiSeq (wVar 1)) (wgName 3) (sDrop (wBM wrInsert (wVar 2) (wCons (wCall W_l_take (wCons (wVar 0) (wCons (wOp wrAdd (wCB wrLen (wCons (wVar 2) wNil)) (wC (.int 1))) wNil))) (wCons (wVar 3) wNil)))))
  (sRetF (wVar 2))))
theorem Dw.put_ne {M : Mem} {d p : Addr} {mo : MO} (h : Dw M d) (n : d ≠ p) : Dw (put M p mo) d := by
  obtain ⟨m, h1, h2⟩ := h
  exact ⟨m, by rw [VL.put_ne n]; exact h1, h2⟩
theorem Dw.del_ne {M : Mem} {d p : Addr} (h : Dw M d) (n : d ≠ p) : Dw (del M p) d := by
  obtain ⟨m, h1, h2⟩ := h
  exact ⟨m, by rw [VL.del_ne n]; exact h1, h2⟩
theorem Dw.ne {M : Mem} {d p : Addr} (h : Dw M d) (hp : M p = none) : d ≠ p := by
  obtain ⟨m, h1, h2⟩ := h
  exact ne_mem h1 hp
theorem perm_ins {α : Type} (l : List α) (i : Nat) (x : α) : (l.take i ++ [x] ++ l.drop i).Perm (l ++ [x]) := by
  have h1 : (l.take i ++ ([x] ++ l.drop i)).Perm (l.take i ++ (l.drop i ++ [x])) := List.Perm.append_left _ List.perm_append_comm
  rw [← List.append_assoc, ← List.append_assoc, List.take_append_drop] at h1
  exact h1
theorem r_l_shuffled : ∀ ds M Φ, W_l_shuffled ds M Φ → w_l_shuffled (endsD Φ) (startD 4 ds) M := by
  intro ds M Φ ⟨d, es, eds, hd, hl, k⟩
  subst eds
  unfold w_l_shuffled
  rw [start_2]
  walk_at "vl"
  refine ⟨by decide, fun p hp => ?_⟩
  have dp := hd.ne hp
  refine loop_inv (fun pre post ρ M1 => ∃ o3 acc, ρ = [some (.ref d), some (.lst es), some (.ref p), o3] ∧ acc.Perm pre ∧ M1 p = some (.lst acc) ∧ Dw M1 d ∧ ∀ a o, a ≠ d → M a = some o → M1 a = some o) ?_ ?_ ?_
  · exact ⟨none, [], rfl, .nil, put_same, hd.put_ne dp, fun a o n e => by rw [put_ne (ne_mem e hp)]; exact e⟩
  · rintro pre x post ρ M1 bk nx e ⟨o3, acc, rfl, pm, hp1, hd1, hr⟩ _ hnx
    have la : acc.length ≤ 100000 := by rw [pm.length_eq]; rw [e] at hl; simp at hl; omega
    wp_walk using e_bm1 hp1, e_lenR hp1
    refine W_take_go hd1 (by omega) (by omega) fun r M2 g0 g1 kp => ?_
    have hp2 := kp.rest p _ dp.symm hp1
    wp_walk using e_insert hp2
    refine ⟨⟨Nat.lt_of_le_of_lt la (by decide), g0, by omega⟩, ?_⟩
    refine hnx _ _ ⟨some x, _, rfl, ?_, put_same, kp.dw.put_ne dp, fun a o n e1 => ?_⟩
    · exact (perm_ins acc r.toNat x).trans (pm.append_right [x])
    · rw [put_ne (ne_mem e1 hp)]
      exact kp.rest a o n (hr a o n e1)
  · rintro ρ M1 ⟨o3, acc, rfl, pm, hp1, hd1, hr⟩
    wp_walk using e_fz hp1
    refine k acc _ pm ⟨hd1.del_ne dp, fun a o n e1 => ?_⟩
    rw [del_ne (ne_mem e1 hp)]
    exact hr a o n e1
/-! _law_keys -/
def Asc (ks : List Int) : Prop := ks.Pairwise (· < ·)
def W_l_keys : W3 := fun ds M Φ => ∃ d n, ds = [.ref d, .int n] ∧ Dw M d ∧ (0 ≤ n ∧ n ≤ 49) ∧ ∀ (ks : List Int) M', (ks.length : Int) = n → Asc ks → (∀ k ∈ ks, -(10 ^ 9) ≤ k ∧ k ≤ 10 ^ 9 - 1000) → Kp d M M' → Φ (.lst (ks.map D.int)) M'
def w_l_keys : WS := (sSeq (sAsg (wCall W_l_of (wCons (wVar 0) (wCons (wLst (wCons (wOp (wrI fun i j => .int (i - j)) (wC (.int 0)) (wC (.int 5))) (wCons (wC (.int 1)) (wCons (wOp (wrI fun i j => .int (i - j)) (wC (.int 0)) (wOp (wrIC CPow fun i j => .int (i ^ j.toNat)) (wC (.int 10)) (wC (.int 9)))) (wCons (wOp (wrI fun i j => .int (i - j)) (wOp (wrIC CPow fun i j => .int (i ^ j.toNat)) (wC (.int 10)) (wC (.int 9))) (wC (.int 50000))) (wCons (wCall W_l_take (wCons (wVar 0) (wCons (wOp (wrIC CPow fun i j => .int (i ^ j.toNat)) (wC (.int 10)) (wC (.int 6))) wNil))) wNil)))))) wNil))) (wgName 2))
  (sSeq (sPar 3 4 (wCons (wCall W_l_of (wCons (wVar 0) (wCons (wLst (wCons (wC (.int 1)) (wCons (wC (.int 2)) (wCons (wC (.int 9)) (wCons (wC (.int 1000)) wNil))))) wNil))) (wCons (wLstM wNil) wNil)))
  (sSeq (sFor (wiRng1 (wCons (wVar 1) wNil)) (wgName 5) (sSeq (sDrop (wBM wrAppend (wVar 4) (wCons (wVar 2) wNil)))
  (sAsg (wOp wrAdd (wOp wrAdd (wVar 2) (wC (.int 1))) (wCall W_l_take (wCons (wVar 0) (wCons (wVar 3) wNil)))) (wgName 2))))
  (sRetF (wVar 4)))))
theorem pow_ok {i j : Int} (h : j ≤ 1000) (h0 : 0 ≤ j) (hi : i.natAbs < 2 ^ 64) : CPow i j := ⟨h0, by omega, hi⟩
theorem asc_snoc {ks : List Int} {k : Int} (h : Asc ks) (hk : ∀ x ∈ ks, x < k) : Asc (ks ++ [k]) := by
  unfold Asc
  rw [List.pairwise_append]
  exact ⟨h, List.pairwise_singleton _ _, fun x hx y hy => by rw [List.mem_singleton.mp hy]; exact hk x hx⟩
theorem r_l_keys : ∀ ds M Φ, W_l_keys ds M Φ → w_l_keys (endsD Φ) (startD 6 ds) M := by
  intro ds M Φ ⟨d, n, eds, hd, ⟨h0, h1⟩, k⟩
  subst eds
  unfold w_l_keys
  rw [start_2]
  walk_at "vl"
  refine ⟨⟨by decide, by decide, by decide⟩, ⟨by decide, by decide, by decide⟩, ⟨by decide, by decide, by decide⟩, W_take_go hd (by decide) (by decide) fun r M1 g0 g1 kp1 => ?_⟩
  walk_at "vl"
  refine ⟨(show (5 : Nat) ≤ lim by decide), d, _, .inl rfl, kp1.dw, ⟨(show (0 : Nat) < 5 by decide), (show (5 : Nat) ≤ 100000 by decide)⟩, fun x M2 hx kp2 => ?_⟩
  have hx2 : ∃ k0 : Int, x = .int k0 ∧ -(10 ^ 9) ≤ k0 ∧ k0 ≤ 10 ^ 9 - 50000 := by
    simp only [List.mem_cons, List.not_mem_nil, or_false] at hx
    have e9 : (10 : Int) ^ (9 : Int).toNat = 1000000000 := by decide
    have e6 : (10 : Int) ^ (6 : Int).toNat = 1000000 := by decide
    rw [e6] at g1
    rcases hx with rfl | rfl | rfl | rfl | rfl
    · exact ⟨_, rfl, by decide, by decide⟩
    · exact ⟨_, rfl, by decide, by decide⟩
    · exact ⟨_, rfl, by decide, by decide⟩
    · exact ⟨_, rfl, by decide, by decide⟩
    · exact ⟨_, rfl, by omega, by omega⟩
  obtain ⟨k0, rfl, b0, b1⟩ := hx2
  walk_at "vl"
  refine ⟨(show (4 : Nat) ≤ lim by decide), d, _, .inl rfl, kp2.dw, ⟨by decide, by decide⟩, fun x M3 hx kp3 => ?_⟩
  have hx3 : ∃ w : Int, x = .int w ∧ 0 < w ∧ w ≤ 1000 := by
    simp only [List.mem_cons, List.not_mem_nil, or_false] at hx
    rcases hx with rfl | rfl | rfl | rfl
    · exact ⟨_, rfl, by decide, by decide⟩
    · exact ⟨_, rfl, by decide, by decide⟩
    · exact ⟨_, rfl, by decide, by decide⟩
    · exact ⟨_, rfl, by decide, by decide⟩
  obtain ⟨w, rfl, w0, w1⟩ := hx3
  have kp := (kp1.trans kp2).trans kp3
  walk_at "vl"
  refine ⟨by decide, fun p hp => ?_⟩
  have dp := kp.dw.ne hp
  have hpM : M p = none := by
    cases e : M p with
    | none => rfl
    | some o => rw [kp.rest p o dp.symm e] at hp; cases hp
  refine ⟨⟨by omega, by omega⟩, ?_⟩
  refine loop_inv (fun pre post ρ M4 => ∃ (o5 : Option D) (ks : List Int) (kn : Int), ρ = [some (.ref d), some (.int n), some (.int kn), some (.int w), some (.ref p), o5] ∧ ks.length = pre.length ∧ Asc ks ∧ (∀ x ∈ ks, -(10 ^ 9) ≤ x ∧ x < kn) ∧ (-(10 ^ 9) ≤ kn ∧ kn ≤ 10 ^ 9 - 50000 + 1000 * (pre.length : Int)) ∧ M4 p = some (.lst (ks.map D.int)) ∧ Dw M4 d ∧ ∀ a o, a ≠ d → M a = some o → M4 a = some o) ?_ ?_ ?_
  · exact ⟨none, [], k0, rfl, rfl, .nil, (fun x hx => nomatch hx), ⟨b0, by omega⟩, put_same, kp.dw.put_ne dp, fun a o n e => by rw [put_ne (ne_mem e hpM)]; exact kp.rest a o n e⟩
  · rintro pre x post ρ M4 bk nx e ⟨o5, ks, kn, rfl, lk, ha, hb, ⟨c0, c1⟩, hp1, hd1, hr⟩ _ hnx
    have ll : pre.length < n.toNat := by
      have := congrArg List.length e
      rw [rgD_len, List.length_append, List.length_cons] at this
      omega
    wp_walk using e_bm1 hp1, e_append hp1
    refine ⟨by rw [List.length_map, lk]; exact Nat.lt_of_lt_of_le ll (by unfold lim; omega), ?_⟩
    refine W_take_go (hd1.put_ne dp) w0 (by omega) fun r M5 g0 g1 kp5 => ?_
    walk_at "vl"
    refine hnx _ _ ⟨some x, ks ++ [kn], kn + 1 + r, rfl, by rw [List.length_append, List.length_append, lk]; rfl, asc_snoc ha fun x hx => (hb x hx).2, fun x hx => ?_, ⟨by omega, ?_⟩, ?_, kp5.dw, fun a o n e1 => ?_⟩
    · rcases List.mem_append.mp hx with hx | hx
      · have := hb x hx; omega
      · rw [List.mem_singleton.mp hx]; omega
    · rw [List.length_append, List.length_singleton]; omega
    · have := kp5.rest p _ dp.symm put_same
      rw [this, List.map_append]; rfl
    · refine kp5.rest a o n ?_
      rw [put_ne (ne_mem e1 hpM)]
      exact hr a o n e1
  · rintro ρ M4 ⟨o5, ks, kn, rfl, lk, ha, hb, ⟨c0, c1⟩, hp1, hd1, hr⟩
    rw [rgD_len] at lk c1
    wp_walk using e_fz hp1
    refine k ks _ (by omega) ha (fun x hx => ?_) ⟨hd1.del_ne dp, fun a o n e1 => ?_⟩
    · have := hb x hx; omega
    · rw [del_ne (ne_mem e1 hpM)]
      exact hr a o n e1
/-! _law_size -/
def W_l_size : W3 := fun ds M Φ => ∃ d n, ds = [.ref d, .int n] ∧ Dw M d ∧ (0 ≤ n ∧ n ≤ 1000) ∧ ∀ r M', 0 ≤ r → r ≤ n → Kp d M M' → Φ (.int r) M'
def w_l_size : WS := (sRet (wCall W_l_of (wCons (wVar 0) (wCons (wLst (wCons (wCall W_l_take (wCons (wVar 0) (wCons (wOp wrAdd (wVar 1) (wC (.int 1))) wNil))) (wCons (wCB wrMin2 (wCons (wVar 1) (wCons (wCall W_l_take (wCons (wVar 0) (wCons (wC (.int 8)) wNil))) wNil))) (wCons (wCB wrMin2 (wCons (wVar 1) (wCons (wC (.int 3)) wNil))) wNil)))) wNil))))
theorem r_l_size : ∀ ds M Φ, W_l_size ds M Φ → w_l_size (endsD Φ) (startD 2 ds) M := by
  intro ds M Φ ⟨d, n, eds, hd, ⟨h0, h1⟩, k⟩
  subst eds
  unfold w_l_size
  rw [start_2]
  walk_at "vl"
  refine W_take_go hd (by omega) (by omega) fun r M1 g0 g1 kp1 => ?_
  walk_at "vl"
  refine W_take_go kp1.dw (by decide) (by decide) fun r2 M2 g2 g3 kp2 => ?_
  walk_at "vl"
  refine ⟨(show (3 : Nat) ≤ lim by decide), d, _, .inl rfl, kp2.dw, ⟨(show (0 : Nat) < 3 by decide), (show (3 : Nat) ≤ 100000 by decide)⟩, fun x M3 hx kp3 => ?_⟩
  have hx2 : ∃ q : Int, x = .int q ∧ 0 ≤ q ∧ q ≤ n := by
    simp only [List.mem_cons, List.not_mem_nil, or_false] at hx
    rcases hx with rfl | rfl | rfl
    · exact ⟨_, rfl, g0, by omega⟩
    · exact ⟨_, rfl, by split <;> omega, by split <;> omega⟩
    · exact ⟨_, rfl, by split <;> omega, by split <;> omega⟩
  obtain ⟨q, rfl, q0, q1⟩ := hx2
  exact k q M3 q0 q1 ((kp1.trans kp2).trans kp3)
end VL

/-! trees of ints: plain mathematics -/
namespace Tm
inductive Tr where
  | nil
  | node (l : Tr) (k : Int) (r : Tr)
def Tr.pre : Tr → List Int
  | .nil => []
  | .node l k r => k :: (l.pre ++ r.pre)
def Tr.ino : Tr → List Int
  | .nil => []
  | .node l k r => l.ino ++ k :: r.ino
def Tr.size : Tr → Nat
  | .nil => 0
  | .node l _ r => l.size + r.size + 1
def Tr.root : Tr → Option Int
  | .nil => none
  | .node _ k _ => some k
def Tr.lft : Tr → Tr
  | .nil => .nil
  | .node l _ _ => l
def Tr.rgt : Tr → Tr
  | .nil => .nil
  | .node _ _ r => r
/-- x is a key -/
def Tr.has (x : Int) : Tr → Prop
  | .nil => False
  | .node l k r => l.has x ∨ x = k ∨ r.has x
def Tr.bst : Tr → Prop
  | .nil => True
  | .node l k r => l.bst ∧ r.bst ∧ (∀ x, l.has x → x < k) ∧ (∀ x, r.has x → k < x)
theorem has_pre {x : Int} : ∀ {t : Tr}, x ∈ t.pre ↔ t.has x
  | .nil => by simp [Tr.pre, Tr.has]
  | .node l k r => by
    simp only [Tr.pre, Tr.has, List.mem_cons, List.mem_append, has_pre (t := l), has_pre (t := r)]
    constructor
    · rintro (h | h | h)
      · exact .inr (.inl h)
      · exact .inl h
      · exact .inr (.inr h)
    · rintro (h | h | h)
      · exact .inr (.inl h)
      · exact .inl h
      · exact .inr (.inr h)
theorem has_ino {x : Int} : ∀ {t : Tr}, x ∈ t.ino ↔ t.has x
  | .nil => by simp [Tr.ino, Tr.has]
  | .node l k r => by simp only [Tr.ino, Tr.has, List.mem_cons, List.mem_append, has_ino (t := l), has_ino (t := r)]
theorem len_pre : ∀ t : Tr, t.pre.length = t.size
  | .nil => rfl
  | .node l k r => by simp [Tr.pre, Tr.size, len_pre l, len_pre r]
theorem len_ino : ∀ t : Tr, t.ino.length = t.size
  | .nil => rfl
  | .node l k r => by simp [Tr.ino, Tr.size, len_ino l, len_ino r]; omega
theorem ino_asc : ∀ {t : Tr}, t.bst → t.ino.Pairwise (· < ·)
  | .nil, _ => List.Pairwise.nil
  | .node l k r, ⟨hl, hr, h1, h2⟩ => by
    rw [Tr.ino, List.pairwise_append, List.pairwise_cons]
    refine ⟨ino_asc hl, ⟨fun x hx => h2 x (has_ino.mp hx), ino_asc hr⟩, fun x hx y hy => ?_⟩
    have hx := h1 x (has_ino.mp hx)
    rcases List.mem_cons.mp hy with rfl | hy
    · exact hx
    · have := h2 y (has_ino.mp hy); omega
theorem pre_perm_ino : ∀ t : Tr, t.pre.Perm t.ino
  | .nil => .nil
  | .node l k r => by
    rw [Tr.pre, Tr.ino]
    refine List.Perm.trans ?_ (List.perm_middle).symm
    exact ((pre_perm_ino l).append (pre_perm_ino r)).cons k
theorem pre_nodup {t : Tr} (h : t.bst) : t.pre.Nodup := by
  rw [(pre_perm_ino t).nodup_iff]
  exact (ino_asc h).imp fun h => Int.ne_of_lt h
/-! insertion -/
def Tr.ins (x : Int) : Tr → Tr
  | .nil => .node .nil x .nil
  | .node l k r => if x < k then .node (l.ins x) k r else .node l k (r.ins x)
theorem has_ins {x y : Int} : ∀ {t : Tr}, (t.ins x).has y ↔ y = x ∨ t.has y
  | .nil => by simp [Tr.ins, Tr.has]
  | .node l k r => by
    unfold Tr.ins
    split
    · simp only [Tr.has, has_ins (t := l)]
      constructor
      · rintro ((h | h) | h | h)
        · exact .inl h
        · exact .inr (.inl h)
        · exact .inr (.inr (.inl h))
        · exact .inr (.inr (.inr h))
      · rintro (h | h | h | h)
        · exact .inl (.inl h)
        · exact .inl (.inr h)
        · exact .inr (.inl h)
        · exact .inr (.inr h)
    · simp only [Tr.has, has_ins (t := r)]
      constructor
      · rintro (h | h | h | h)
        · exact .inr (.inl h)
        · exact .inr (.inr (.inl h))
        · exact .inl h
        · exact .inr (.inr (.inr h))
      · rintro (h | h | h | h)
        · exact .inr (.inr (.inl h))
        · exact .inl h
        · exact .inr (.inl h)
        · exact .inr (.inr (.inr h))
theorem size_ins (x : Int) : ∀ t : Tr, (t.ins x).size = t.size + 1
  | .nil => rfl
  | .node l k r => by
    unfold Tr.ins
    split
    · simp only [Tr.size, size_ins x l]; omega
    · simp only [Tr.size, size_ins x r]; omega
theorem bst_ins {x : Int} : ∀ {t : Tr}, t.bst → ¬ t.has x → (t.ins x).bst
  | .nil, _, _ => ⟨trivial, trivial, (fun _ h => h.elim), (fun _ h => h.elim)⟩
  | .node l k r, ⟨hl, hr, h1, h2⟩, hx => by
    have nk : x ≠ k := fun e => hx (.inr (.inl e))
    unfold Tr.ins
    split
    · rename_i h
      refine ⟨bst_ins hl fun z => hx (.inl z), hr, fun y hy => ?_, h2⟩
      rcases has_ins.mp hy with rfl | hy
      · exact h
      · exact h1 y hy
    · rename_i h
      refine ⟨hl, bst_ins hr fun z => hx (.inr (.inr z)), h1, fun y hy => ?_⟩
      rcases has_ins.mp hy with rfl | hy
      · omega
      · exact h2 y hy
def bld (l : List Int) : Tr := l.foldl (fun (t : Tr) x => t.ins x) .nil
theorem bld_from {l : List Int} : ∀ {t : Tr}, t.bst → (∀ x ∈ l, ¬ t.has x) → l.Nodup → (l.foldl (fun (t : Tr) x => t.ins x) t).bst ∧ (∀ y, (l.foldl (fun (t : Tr) x => t.ins x) t).has y ↔ t.has y ∨ y ∈ l) ∧ (l.foldl (fun (t : Tr) x => t.ins x) t).size = t.size + l.length := by
  induction l with
  | nil => intro t h _ _; exact ⟨h, by simp, rfl⟩
  | cons x l ih =>
    intro t h hn hd
    rw [List.nodup_cons] at hd
    have hx := hn x (List.mem_cons_self ..)
    have := ih (t := t.ins x) (bst_ins h hx) (fun y hy z => by
      rcases has_ins.mp z with rfl | z
      · exact hd.1 hy
      · exact hn y (List.mem_cons_of_mem _ hy) z) hd.2
    refine ⟨this.1, fun y => ?_, ?_⟩
    · rw [List.foldl_cons, this.2.1 y, has_ins]
      simp only [List.mem_cons]
      constructor
      · rintro ((h | h) | h)
        · exact .inr (.inl h)
        · exact .inl h
        · exact .inr (.inr h)
      · rintro (h | h | h)
        · exact .inl (.inr h)
        · exact .inl (.inl h)
        · exact .inr h
    · rw [List.foldl_cons, this.2.2, size_ins, List.length_cons]; omega
theorem bld_bst {l : List Int} (h : l.Nodup) : (bld l).bst := (bld_from (t := .nil) trivial (fun _ _ h => h) h).1
theorem bld_has {l : List Int} (h : l.Nodup) {y : Int} : (bld l).has y ↔ y ∈ l := by
  have := (bld_from (t := .nil) trivial (fun _ _ h => h) h).2.1 y
  unfold bld
  rw [this]
  exact ⟨fun h => h.elim (fun h => h.elim) id, .inr⟩
theorem bld_size {l : List Int} (h : l.Nodup) : (bld l).size = l.length := by
  have := (bld_from (t := .nil) trivial (fun _ _ h => h) h).2.2
  unfold bld
  rw [this]
  exact Nat.zero_add _
/-- two ascending lists with the same members are one -/
theorem asc_ext : ∀ {a b : List Int}, a.Pairwise (· < ·) → b.Pairwise (· < ·) → (∀ x, x ∈ a ↔ x ∈ b) → a = b
  | [], [], _, _, _ => rfl
  | [], y :: b, _, _, h => by have := (h y).mpr (List.mem_cons_self ..); cases this
  | x :: a, [], _, _, h => by have := (h x).mp (List.mem_cons_self ..); cases this
  | x :: a, y :: b, ha, hb, h => by
    rw [List.pairwise_cons] at ha hb
    have e : x = y := by
      have h1 := (h x).mp (List.mem_cons_self ..)
      have h2 := (h y).mpr (List.mem_cons_self ..)
      rcases List.mem_cons.mp h1 with e | h1
      · exact e
      · rcases List.mem_cons.mp h2 with e | h2
        · exact e.symm
        · have := hb.1 x h1; have := ha.1 y h2; omega
    subst e
    rw [asc_ext ha.2 hb.2 fun z => ?_]
    constructor
    · intro hz
      rcases List.mem_cons.mp ((h z).mp (List.mem_cons_of_mem _ hz)) with e | h3
      · have := ha.1 z hz; omega
      · exact h3
    · intro hz
      rcases List.mem_cons.mp ((h z).mpr (List.mem_cons_of_mem _ hz)) with e | h3
      · have := hb.1 z hz; omega
      · exact h3
theorem bld_ino {l ks : List Int} (hp : l.Perm ks) (ha : ks.Pairwise (· < ·)) : (bld l).ino = ks := by
  have hn : l.Nodup := (hp.nodup_iff).mpr (ha.imp fun h => Int.ne_of_lt h)
  exact asc_ext (ino_asc (bld_bst hn)) ha fun x => by rw [has_ino, bld_has hn]; exact hp.mem_iff
/-! the shape of an order, as the program reckons it -/
/-- with n for the longest way down -/
def arrN : Nat → List Int → List Int
  | _, [] => []
  | 0, _ :: _ => []
  | n + 1, x :: xs => x :: (arrN n (xs.filter fun y => decide (y < x)) ++ arrN n (xs.filter fun y => decide (x < y)))
theorem fold_node (x : Int) : ∀ (l : List Int) (a b : Tr), (∀ y ∈ l, y ≠ x) → l.foldl (fun (t : Tr) y => t.ins y) (Tr.node a x b) = Tr.node ((l.filter fun y => decide (y < x)).foldl (fun (t : Tr) y => t.ins y) a) x ((l.filter fun y => decide (x < y)).foldl (fun (t : Tr) y => t.ins y) b)
  | [], a, b, _ => rfl
  | y :: l, a, b, h => by
    have ny := h y (List.mem_cons_self ..)
    have hl : ∀ z ∈ l, z ≠ x := fun z hz => h z (List.mem_cons_of_mem _ hz)
    rw [List.foldl_cons]
    by_cases c : y < x
    · rw [show (Tr.node a x b).ins y = Tr.node (a.ins y) x b by simp [Tr.ins, c]]
      rw [fold_node x l _ _ hl, List.filter_cons, List.filter_cons, if_pos (by simpa using c), if_neg (by simp; omega)]
      rfl
    · rw [show (Tr.node a x b).ins y = Tr.node a x (b.ins y) by simp [Tr.ins, c]]
      rw [fold_node x l _ _ hl, List.filter_cons, List.filter_cons, if_neg (by simpa using c), if_pos (by simp; omega)]
      rfl
theorem bld_cons {x : Int} {xs : List Int} (h : x ∉ xs) : bld (x :: xs) = Tr.node (bld (xs.filter fun y => decide (y < x))) x (bld (xs.filter fun y => decide (x < y))) := by
  show xs.foldl (fun (t : Tr) y => t.ins y) (Tr.node .nil x .nil) = _
  rw [fold_node x xs _ _ fun y hy e => h (e ▸ hy)]
  rfl
theorem arr_bld : ∀ (n : Nat) (l : List Int), l.length ≤ n → l.Nodup → arrN n l = (bld l).pre := by
  intro n
  induction n with
  | zero => intro l h _; rw [List.eq_nil_of_length_eq_zero (Nat.le_zero.mp h)]; rfl
  | succ n ih =>
    intro l h hd
    cases l with
    | nil => rfl
    | cons x xs =>
      rw [List.nodup_cons] at hd
      have hl1 := List.length_filter_le (fun y => decide (y < x)) xs
      have hl2 := List.length_filter_le (fun y => decide (x < y)) xs
      simp only [List.length_cons] at h
      rw [arrN, ih _ (by omega) (hd.2.filter _), ih _ (by omega) (hd.2.filter _), bld_cons hd.1, Tr.pre]
theorem filter_true {l : List Int} {p : Int → Bool} (h : ∀ x ∈ l, p x = true) : l.filter p = l := List.filter_eq_self.mpr h
theorem filter_false {l : List Int} {p : Int → Bool} (h : ∀ x ∈ l, p x = false) : l.filter p = [] := by
  rw [List.filter_eq_nil_iff]
  intro x hx
  rw [h x hx]; decide
theorem pre_lt {l r : Tr} {k : Int} (h1 : ∀ x, l.has x → x < k) (h2 : ∀ x, r.has x → k < x) : ((l.pre ++ r.pre).filter fun y => decide (y < k)) = l.pre := by
  rw [List.filter_append, filter_true fun x hx => by simpa using h1 x (has_pre.mp hx), filter_false fun x hx => by have := h2 x (has_pre.mp hx); simp; omega, List.append_nil]
theorem pre_gt {l r : Tr} {k : Int} (h1 : ∀ x, l.has x → x < k) (h2 : ∀ x, r.has x → k < x) : ((l.pre ++ r.pre).filter fun y => decide (k < y)) = r.pre := by
  rw [List.filter_append, filter_false fun x hx => by have := h1 x (has_pre.mp hx); simp; omega, filter_true fun x hx => by simpa using h2 x (has_pre.mp hx), List.nil_append]
/-- the tree of a shape -/
theorem bld_pre : ∀ {t : Tr}, t.bst → bld t.pre = t
  | .nil, _ => rfl
  | .node l k r, h => by
    have hn := pre_nodup h
    obtain ⟨hl, hr, h1, h2⟩ := h
    rw [Tr.pre] at hn ⊢
    rw [List.nodup_cons] at hn
    show (l.pre ++ r.pre).foldl (fun (t : Tr) y => t.ins y) (Tr.node .nil k .nil) = _
    rw [fold_node k _ _ _ fun y hy e => hn.1 (e ▸ hy), pre_lt h1 h2, pre_gt h1 h2]
    rw [show List.foldl (fun (t : Tr) y => t.ins y) .nil l.pre = l from bld_pre hl, show List.foldl (fun (t : Tr) y => t.ins y) .nil r.pre = r from bld_pre hr]
theorem pre_inj {s t : Tr} (hs : s.bst) (ht : t.bst) (h : s.pre = t.pre) : s = t := by rw [← bld_pre hs, ← bld_pre ht, h]
/-! pigeons -/
theorem perm_of_sub : ∀ {l m : List Int}, l.Nodup → (∀ x ∈ l, x ∈ m) → m.length ≤ l.length → l.Perm m
  | [], m, _, _, h => by
    have : m = [] := List.eq_nil_of_length_eq_zero (Nat.le_zero.mp h)
    rw [this]
  | x :: l, m, hn, hs, h => by
    rw [List.nodup_cons] at hn
    have hx := hs x (List.mem_cons_self ..)
    have pe := List.perm_cons_erase hx
    have hl := pe.length_eq
    simp only [List.length_cons] at hl h
    refine List.Perm.trans ?_ pe.symm
    refine (perm_of_sub hn.2 (fun y hy => ?_) (by omega)).cons x
    have ny : y ≠ x := fun e => hn.1 (e ▸ hy)
    rcases List.mem_cons.mp (pe.mem_iff.mp (hs y (List.mem_cons_of_mem _ hy))) with e | h2
    · exact absurd e ny
    · exact h2
theorem len_le_of_sub : ∀ {l m : List Int}, l.Nodup → (∀ x ∈ l, x ∈ m) → l.length ≤ m.length
  | [], m, _, _ => Nat.zero_le _
  | x :: l, m, hn, hs => by
    rw [List.nodup_cons] at hn
    have hx := hs x (List.mem_cons_self ..)
    have pe := List.perm_cons_erase hx
    have hl := pe.length_eq
    simp only [List.length_cons] at hl ⊢
    have := len_le_of_sub (l := l) (m := m.erase x) hn.2 fun y hy => by
      have ny : y ≠ x := fun e => hn.1 (e ▸ hy)
      rcases List.mem_cons.mp (pe.mem_iff.mp (hs y (List.mem_cons_of_mem _ hy))) with e | h2
      · exact absurd e ny
      · exact h2
    omega
/-! children and parents by search -/
def Tr.lc (x : Int) : Tr → Option Int
  | .nil => none
  | .node l k r => if x = k then l.root else if x < k then l.lc x else r.lc x
def Tr.rc (x : Int) : Tr → Option Int
  | .nil => none
  | .node l k r => if x = k then r.root else if x < k then l.rc x else r.rc x
/-- the parent; p that of the whole -/
def Tr.par (x : Int) : Option Int → Tr → Option Int
  | _, .nil => none
  | p, .node l k r => if x = k then p else if x < k then l.par x (some k) else r.par x (some k)
inductive Sub : Tr → Tr → Prop
  | refl (t : Tr) : Sub t t
  | left {s l r : Tr} {k : Int} : Sub s l → Sub s (.node l k r)
  | right {s l r : Tr} {k : Int} : Sub s r → Sub s (.node l k r)
theorem Sub.has {s t : Tr} (h : Sub s t) {x : Int} (hx : s.has x) : t.has x := by
  induction h with
  | refl => exact hx
  | left _ ih => exact .inl ih
  | right _ ih => exact .inr (.inr ih)
theorem Sub.bst {s t : Tr} (h : Sub s t) (b : t.bst) : s.bst := by
  induction h with
  | refl => exact b
  | left _ ih => exact ih b.1
  | right _ ih => exact ih b.2.1
theorem Sub.trans {s t u : Tr} (h : Sub s t) (g : Sub t u) : Sub s u := by
  induction g with
  | refl => exact h
  | left _ ih => exact .left ih
  | right _ ih => exact .right ih
theorem Sub.kids {s t : Tr} (h : Sub s t) (b : t.bst) : ∀ {l r : Tr} {k : Int}, s = .node l k r → t.lc k = l.root ∧ t.rc k = r.root := by
  induction h with
  | refl => intro l r k e; subst e; simp [Tr.lc, Tr.rc]
  | @left l' r' k' h ih =>
    intro l r k e
    have hx : l'.has k := h.has (by rw [e]; exact .inr (.inl rfl))
    have := b.2.2.1 k hx
    rw [Tr.lc, Tr.rc, if_neg (by omega), if_pos this, if_neg (by omega), if_pos this]
    exact ih b.1 e
  | @right l' r' k' h ih =>
    intro l r k e
    have hx : r'.has k := h.has (by rw [e]; exact .inr (.inl rfl))
    have := b.2.2.2 k hx
    rw [Tr.lc, Tr.rc, if_neg (by omega), if_neg (by omega), if_neg (by omega), if_neg (by omega)]
    exact ih b.2.1 e
theorem root_has {t : Tr} {k : Int} (h : t.root = some k) : t.has k := by
  cases t with
  | nil => cases h
  | node l a r => cases h; exact .inr (.inl rfl)
theorem lc_none {x : Int} : ∀ {t : Tr}, ¬ t.has x → t.lc x = none
  | .nil, _ => rfl
  | .node l k r, h => by
    rw [Tr.lc, if_neg fun e => h (.inr (.inl e)), lc_none fun e => h (.inl e), lc_none fun e => h (.inr (.inr e))]
    split <;> rfl
theorem rc_none {x : Int} : ∀ {t : Tr}, ¬ t.has x → t.rc x = none
  | .nil, _ => rfl
  | .node l k r, h => by
    rw [Tr.rc, if_neg fun e => h (.inr (.inl e)), rc_none fun e => h (.inl e), rc_none fun e => h (.inr (.inr e))]
    split <;> rfl
theorem par_none {x : Int} : ∀ {t : Tr} {p : Option Int}, ¬ t.has x → t.par x p = none
  | .nil, _, _ => rfl
  | .node l k r, p, h => by
    rw [Tr.par, if_neg fun e => h (.inr (.inl e)), par_none fun e => h (.inl e), par_none fun e => h (.inr (.inr e))]
    split <;> rfl
end Tm

namespace Tm
/-- s is where the search of x comes by in t -/
inductive Pth (x : Int) (s : Tr) : Tr → Prop
  | here : Pth x s s
  | left {l r : Tr} {k : Int} : Pth x s l → x < k → Pth x s (.node l k r)
  | right {l r : Tr} {k : Int} : Pth x s r → ¬ x < k → Pth x s (.node l k r)
theorem Pth.sub {x : Int} {s t : Tr} (h : Pth x s t) : Sub s t := by
  induction h with
  | here => exact .refl _
  | left _ _ ih => exact .left ih
  | right _ _ ih => exact .right ih
theorem Pth.goL {x k : Int} {l r t : Tr} (h : Pth x (.node l k r) t) (c : x < k) : Pth x l t := by
  induction h with
  | here => exact .left .here c
  | left _ d ih => exact .left ih d
  | right _ d ih => exact .right ih d
theorem Pth.goR {x k : Int} {l r t : Tr} (h : Pth x (.node l k r) t) (c : ¬ x < k) : Pth x r t := by
  induction h with
  | here => exact .right .here c
  | left _ d ih => exact .left ih d
  | right _ d ih => exact .right ih d
theorem Sub.size {s t : Tr} (h : Sub s t) : s.size ≤ t.size := by
  induction h with
  | refl => exact Nat.le_refl _
  | left _ ih => rw [Tr.size]; omega
  | right _ ih => rw [Tr.size]; omega
theorem root_ins {x : Int} : ∀ {t : Tr}, t ≠ .nil → (t.ins x).root = t.root
  | .nil, h => absurd rfl h
  | .node l k r, _ => by unfold Tr.ins; split <;> rfl
theorem Pth.ne {x k : Int} {l r t : Tr} (h : Pth x (.node l k r) t) : t ≠ .nil := by
  intro e
  subst e
  cases h
theorem Pth.hask {x k : Int} {l r t : Tr} (h : Pth x (.node l k r) t) : t.has k := h.sub.has (.inr (.inl rfl))
theorem Pth.insL {x k : Int} {r t : Tr} (h : Pth x (.node .nil k r) t) (b : t.bst) (c : x < k) :
    (∀ y, (t.ins x).lc y = if y = k then some x else t.lc y) ∧ (∀ y, (t.ins x).rc y = t.rc y) ∧ ∀ p y, ¬ t.has x → (t.ins x).par y p = if y = x then some k else t.par y p := by
  induction h with
  | here =>
    refine ⟨fun y => ?_, fun y => ?_, fun p y n => ?_⟩
    · unfold Tr.ins
      rw [if_pos c]
      simp only [Tr.lc, Tr.ins, Tr.root]
      split
      · rfl
      · split
        · split <;> simp
        · rfl
    · unfold Tr.ins
      rw [if_pos c]
      simp only [Tr.rc, Tr.ins, Tr.root]
      split
      · rfl
      · split
        · split <;> simp
        · rfl
    · unfold Tr.ins
      rw [if_pos c]
      simp only [Tr.par, Tr.ins]
      by_cases e : y = x
      · subst e
        rw [if_neg (by omega), if_pos c, if_pos rfl, if_pos rfl]
      · rw [if_neg e]
        simp only [if_neg e]
        split
        · rfl
        · split
          · split <;> rfl
          · rfl
  | @left l' r' k' h d ih =>
    obtain ⟨i1, i2, i3⟩ := ih b.1
    have hk := b.2.2.1 k h.hask
    have hr := root_ins (x := x) h.ne
    refine ⟨fun y => ?_, fun y => ?_, fun p y n => ?_⟩
    · unfold Tr.ins
      rw [if_pos d]
      simp only [Tr.lc, i1, hr]
      by_cases e : y = k'
      · rw [if_pos e, if_neg (by omega), if_pos e]
      · simp only [if_neg e]
        split
        · rfl
        · rw [if_neg (by omega)]
    · unfold Tr.ins
      rw [if_pos d]
      simp only [Tr.rc, i2]
    · unfold Tr.ins
      rw [if_pos d]
      have nx : x ≠ k' := fun z => n (.inr (.inl z))
      simp only [Tr.par, i3 _ y fun z => n (.inl z)]
      by_cases e : y = x
      · subst e; rw [if_neg nx, if_pos d, if_pos rfl, if_pos rfl]
      · simp only [if_neg e]
  | @right l' r' k' h d ih =>
    obtain ⟨i1, i2, i3⟩ := ih b.2.1
    have hk := b.2.2.2 k h.hask
    have hr := root_ins (x := x) h.ne
    refine ⟨fun y => ?_, fun y => ?_, fun p y n => ?_⟩
    · unfold Tr.ins
      rw [if_neg d]
      simp only [Tr.lc, i1, hr]
      by_cases e : y = k'
      · rw [if_pos e, if_neg (by omega), if_pos e]
      · simp only [if_neg e]
        split
        · rw [if_neg (by omega)]
        · rfl
    · unfold Tr.ins
      rw [if_neg d]
      simp only [Tr.rc, i2, hr]
    · unfold Tr.ins
      rw [if_neg d]
      have nx : x ≠ k' := fun z => n (.inr (.inl z))
      simp only [Tr.par, i3 _ y fun z => n (.inr (.inr z))]
      by_cases e : y = x
      · subst e; rw [if_neg nx, if_neg d, if_pos rfl, if_pos rfl]
      · simp only [if_neg e]
theorem Pth.insR {x k : Int} {l t : Tr} (h : Pth x (.node l k .nil) t) (b : t.bst) (c : ¬ x < k) (c' : x ≠ k) :
    (∀ y, (t.ins x).rc y = if y = k then some x else t.rc y) ∧ (∀ y, (t.ins x).lc y = t.lc y) ∧ ∀ p y, ¬ t.has x → (t.ins x).par y p = if y = x then some k else t.par y p := by
  induction h with
  | here =>
    refine ⟨fun y => ?_, fun y => ?_, fun p y n => ?_⟩
    · unfold Tr.ins
      rw [if_neg c]
      simp only [Tr.rc, Tr.ins, Tr.root]
      split
      · rfl
      · split
        · rfl
        · split <;> simp
    · unfold Tr.ins
      rw [if_neg c]
      simp only [Tr.lc, Tr.ins, Tr.root]
      split
      · rfl
      · split
        · rfl
        · split <;> simp
    · unfold Tr.ins
      rw [if_neg c]
      simp only [Tr.par, Tr.ins]
      by_cases e : y = x
      · subst e
        rw [if_neg c', if_neg c, if_pos rfl, if_pos rfl]
      · rw [if_neg e]
        simp only [if_neg e]
        split
        · rfl
        · split
          · rfl
          · split <;> rfl
  | @left l' r' k' h d ih =>
    obtain ⟨i1, i2, i3⟩ := ih b.1
    have hk := b.2.2.1 k h.hask
    have hr := root_ins (x := x) h.ne
    refine ⟨fun y => ?_, fun y => ?_, fun p y n => ?_⟩
    · unfold Tr.ins
      rw [if_pos d]
      simp only [Tr.rc, i1, hr]
      by_cases e : y = k'
      · rw [if_pos e, if_neg (by omega), if_pos e]
      · simp only [if_neg e]
        split
        · rfl
        · rw [if_neg (by omega)]
    · unfold Tr.ins
      rw [if_pos d]
      simp only [Tr.lc, i2, hr]
    · unfold Tr.ins
      rw [if_pos d]
      have nx : x ≠ k' := fun z => n (.inr (.inl z))
      simp only [Tr.par, i3 _ y fun z => n (.inl z)]
      by_cases e : y = x
      · subst e; rw [if_neg nx, if_pos d, if_pos rfl, if_pos rfl]
      · simp only [if_neg e]
  | @right l' r' k' h d ih =>
    obtain ⟨i1, i2, i3⟩ := ih b.2.1
    have hk := b.2.2.2 k h.hask
    have hr := root_ins (x := x) h.ne
    refine ⟨fun y => ?_, fun y => ?_, fun p y n => ?_⟩
    · unfold Tr.ins
      rw [if_neg d]
      simp only [Tr.rc, i1, hr]
      by_cases e : y = k'
      · rw [if_pos e, if_neg (by omega), if_pos e]
      · simp only [if_neg e]
        split
        · rw [if_neg (by omega)]
        · rfl
    · unfold Tr.ins
      rw [if_neg d]
      simp only [Tr.lc, i2]
    · unfold Tr.ins
      rw [if_neg d]
      have nx : x ≠ k' := fun z => n (.inr (.inl z))
      simp only [Tr.par, i3 _ y fun z => n (.inr (.inr z))]
      by_cases e : y = x
      · subst e; rw [if_neg nx, if_neg d, if_pos rfl, if_pos rfl]
      · simp only [if_neg e]
/-! the mirror -/
def Tr.mir : Tr → Tr
  | .nil => .nil
  | .node l k r => .node r.mir (-k) l.mir
theorem mir_root : ∀ t : Tr, t.mir.root = t.root.map fun k => -k
  | .nil => rfl
  | .node l k r => rfl
theorem mir_lc (x : Int) : ∀ t : Tr, t.mir.lc x = (t.rc (-x)).map fun k => -k
  | .nil => rfl
  | .node l k r => by
    rw [Tr.mir, Tr.lc, Tr.rc, mir_lc x l, mir_lc x r, mir_root]
    by_cases e : x = -k
    · rw [if_pos e, if_pos (by omega)]
    · rw [if_neg e, if_neg (show ¬ -x = k by omega)]
      by_cases d : x < -k
      · rw [if_pos d, if_neg (show ¬ -x < k by omega)]
      · rw [if_neg d, if_pos (show -x < k by omega)]
theorem mir_rc (x : Int) : ∀ t : Tr, t.mir.rc x = (t.lc (-x)).map fun k => -k
  | .nil => rfl
  | .node l k r => by
    rw [Tr.mir, Tr.rc, Tr.lc, mir_rc x l, mir_rc x r, mir_root]
    by_cases e : x = -k
    · rw [if_pos e, if_pos (by omega)]
    · rw [if_neg e, if_neg (show ¬ -x = k by omega)]
      by_cases d : x < -k
      · rw [if_pos d, if_neg (show ¬ -x < k by omega)]
      · rw [if_neg d, if_pos (show -x < k by omega)]
theorem mir_has {x : Int} : ∀ {t : Tr}, t.mir.has x ↔ t.has (-x)
  | .nil => Iff.rfl
  | .node l k r => by
    rw [Tr.mir, Tr.has, Tr.has, mir_has (t := l), mir_has (t := r)]
    constructor
    · rintro (h | h | h)
      · exact .inr (.inr h)
      · exact .inr (.inl (by omega))
      · exact .inl h
    · rintro (h | h | h)
      · exact .inr (.inr h)
      · exact .inr (.inl (by omega))
      · exact .inl h
theorem mir_bst : ∀ {t : Tr}, t.bst → t.mir.bst
  | .nil, _ => trivial
  | .node l k r, ⟨hl, hr, h1, h2⟩ => by
    refine ⟨mir_bst hr, mir_bst hl, fun x hx => ?_, fun x hx => ?_⟩
    · have := h2 _ (mir_has.mp hx); omega
    · have := h1 _ (mir_has.mp hx); omega
theorem mir_mir : ∀ t : Tr, t.mir.mir = t
  | .nil => rfl
  | .node l k r => by rw [Tr.mir, Tr.mir, mir_mir l, mir_mir r, Int.neg_neg]
theorem mir_size : ∀ t : Tr, t.mir.size = t.size
  | .nil => rfl
  | .node l k r => by rw [Tr.mir, Tr.size, Tr.size, mir_size l, mir_size r]; omega
theorem ins_mir {x : Int} : ∀ {t : Tr}, ¬ t.has x → (t.ins x).mir = t.mir.ins (-x)
  | .nil, _ => rfl
  | .node l k r, h => by
    have nk : x ≠ k := fun e => h (.inr (.inl e))
    rw [Tr.ins, Tr.mir, Tr.ins]
    by_cases c : x < k
    · rw [if_pos c, if_neg (by omega), Tr.mir, ins_mir fun z => h (.inl z)]
    · rw [if_neg c, if_pos (by omega), Tr.mir, ins_mir fun z => h (.inr (.inr z))]
theorem fold_mir : ∀ (l : List Int) (t : Tr), (∀ x ∈ l, ¬ t.has x) → l.Nodup → (l.foldl (fun (t : Tr) x => t.ins x) t).mir = (l.map fun x => -x).foldl (fun (t : Tr) x => t.ins x) t.mir
  | [], t, _, _ => rfl
  | x :: l, t, h, hd => by
    rw [List.nodup_cons] at hd
    rw [List.foldl_cons, List.map_cons, List.foldl_cons, ← ins_mir (h x (List.mem_cons_self ..))]
    refine fold_mir l _ (fun y hy z => ?_) hd.2
    rcases has_ins.mp z with e | z
    · subst e; exact hd.1 hy
    · exact h y (List.mem_cons_of_mem _ hy) z
/-- the mirror of an order's tree -/
theorem bld_mir {l : List Int} (h : l.Nodup) : bld (l.map fun x => -x) = (bld l).mir := (fold_mir l .nil (fun _ _ z => z) h).symm
theorem arr_neg {n : Nat} {t : Tr} (b : t.bst) (h : t.size ≤ n) : arrN n (t.pre.map fun x => -x) = t.mir.pre := by
  have hn := pre_nodup b
  have : (t.pre.map fun x => -x).Nodup := by
    rw [List.nodup_iff_pairwise_ne, List.pairwise_map]
    exact hn.imp fun h e => h (by omega)
  rw [arr_bld n _ (by rw [List.length_map, len_pre]; exact h) this, bld_mir hn, bld_pre b]
end Tm
namespace Tm
/-! the spines -/
def Tr.lsp : Tr → Nat
  | .nil => 0
  | .node l _ _ => l.lsp + 1
def Tr.rsp : Tr → Nat
  | .nil => 0
  | .node _ _ r => r.rsp + 1
/-- as the program counts them: left, low -/
def stL (s : Nat × Option Int) (k : Int) : Nat × Option Int := if s.1 = 0 ∨ (∃ b, s.2 = some b ∧ k < b) then (s.1 + 1, some k) else (s.1, none)
def stR (s : Nat × Option Int) (k : Int) : Nat × Option Int := if s.2 = none ∨ (∃ b, s.2 = some b ∧ b < k) then (s.1 + 1, some k) else s
end Tm
namespace Tm
theorem stL_none {n : Nat} (h : n ≠ 0) : ∀ ys : List Int, ys.foldl stL (n, none) = (n, none)
  | [] => rfl
  | y :: ys => by
    rw [List.foldl_cons]
    have : stL (n, none) y = (n, none) := by
      unfold stL
      rw [if_neg]
      rintro (e | ⟨b, e, _⟩)
      · exact h e
      · cases e
    rw [this]
    exact stL_none h ys
theorem stL_up {n : Nat} (h : n ≠ 0) {m : Int} : ∀ ys : List Int, (∀ y ∈ ys, ¬ y < m) → ys.foldl stL (n, some m) = (n, none) ∨ ys.foldl stL (n, some m) = (n, some m)
  | [], _ => .inr rfl
  | y :: ys, hy => by
    left
    rw [List.foldl_cons]
    have : stL (n, some m) y = (n, none) := by
      unfold stL
      rw [if_neg]
      rintro (e | ⟨b, e, e'⟩)
      · exact h e
      · cases e; exact hy y (List.mem_cons_self ..) e'
    rw [this]
    exact stL_none h ys
theorem stL_tree : ∀ {t : Tr} {n : Nat} {b : Int}, t.bst → n ≠ 0 → (∀ y, t.has y → y < b) → ∃ o, t.pre.foldl stL (n, some b) = (n + t.lsp, o) ∧ (o = none ∨ ∃ m, o = some m ∧ (∀ y, t.has y → m ≤ y) ∧ m ≤ b)
  | .nil, n, b, _, _, _ => ⟨some b, rfl, .inr ⟨b, rfl, (fun _ h => h.elim), Int.le_refl _⟩⟩
  | .node l k r, n, b, ⟨hl, hr, h1, h2⟩, hn, hb => by
    have hk := hb k (.inr (.inl rfl))
    have e1 : stL (n, some b) k = (n + 1, some k) := by unfold stL; rw [if_pos (.inr ⟨b, rfl, hk⟩)]
    obtain ⟨o, e2, ho⟩ := stL_tree (t := l) (n := n + 1) (b := k) hl (by omega) h1
    rw [Tr.pre, List.foldl_cons, e1, List.foldl_append, e2]
    have e3 : n + 1 + l.lsp = n + (Tr.node l k r).lsp := by rw [Tr.lsp]; omega
    rw [e3]
    have nz : n + (Tr.node l k r).lsp ≠ 0 := by rw [Tr.lsp]; omega
    rcases ho with rfl | ⟨m, rfl, hm, hmk⟩
    · exact ⟨none, stL_none nz _, .inl rfl⟩
    · have : ∀ y ∈ r.pre, ¬ y < m := fun y hy => by have := h2 y (has_pre.mp hy); omega
      rcases stL_up nz r.pre this with e | e
      · exact ⟨_, e, .inl rfl⟩
      · refine ⟨_, e, .inr ⟨m, rfl, fun y hy => ?_, by omega⟩⟩
        rcases hy with hy | hy | hy
        · exact hm y hy
        · omega
        · have := h2 y hy; omega
theorem stL_whole : ∀ {t : Tr}, t.bst → (t.pre.foldl stL (0, none)).1 = t.lsp
  | .nil, _ => rfl
  | .node l k r, ⟨hl, hr, h1, h2⟩ => by
    have e1 : stL (0, none) k = (1, some k) := by unfold stL; rw [if_pos (.inl rfl)]
    obtain ⟨o, e2, ho⟩ := stL_tree (t := l) (n := 1) (b := k) hl (by omega) h1
    rw [Tr.pre, List.foldl_cons, e1, List.foldl_append, e2]
    have e3 : 1 + l.lsp = (Tr.node l k r).lsp := by rw [Tr.lsp]; omega
    rw [e3]
    have nz : (Tr.node l k r).lsp ≠ 0 := by rw [Tr.lsp]; omega
    rcases ho with rfl | ⟨m, rfl, hm, hmk⟩
    · rw [stL_none nz]
    · have : ∀ y ∈ r.pre, ¬ y < m := fun y hy => by have := h2 y (has_pre.mp hy); omega
      rcases stL_up nz r.pre this with e | e <;> rw [e]
theorem stR_dn {n : Nat} {m : Int} : ∀ ys : List Int, (∀ y ∈ ys, ¬ m < y) → ys.foldl stR (n, some m) = (n, some m)
  | [], _ => rfl
  | y :: ys, hy => by
    rw [List.foldl_cons]
    have : stR (n, some m) y = (n, some m) := by
      unfold stR
      rw [if_neg]
      rintro (e | ⟨b, e, e'⟩)
      · cases e
      · cases e; exact hy y (List.mem_cons_self ..) e'
    rw [this]
    exact stR_dn ys fun z hz => hy z (List.mem_cons_of_mem _ hz)
theorem stR_tree : ∀ {t : Tr} {n : Nat} {o : Option Int}, t.bst → (∀ b, o = some b → ∀ y, t.has y → b < y) → (t.pre.foldl stR (n, o)).1 = n + t.rsp
  | .nil, n, o, _, _ => rfl
  | .node l k r, n, o, ⟨hl, hr, h1, h2⟩, hb => by
    have e1 : stR (n, o) k = (n + 1, some k) := by
      unfold stR
      rw [if_pos]
      cases o with
      | none => exact .inl rfl
      | some b => exact .inr ⟨b, rfl, hb b rfl k (.inr (.inl rfl))⟩
    have hd : ∀ y ∈ l.pre, ¬ k < y := fun y hy => by have := h1 y (has_pre.mp hy); omega
    rw [Tr.pre, List.foldl_cons, e1, List.foldl_append, stR_dn _ hd, stR_tree hr (by rintro b ⟨⟩; exact h2), Tr.rsp]
    omega
theorem arrN_len : ∀ (n : Nat) (l : List Int), (arrN n l).length ≤ l.length
  | 0, [] => Nat.le_refl _
  | _ + 1, [] => Nat.le_refl _
  | 0, _ :: _ => Nat.zero_le _
  | n + 1, x :: xs => by
    have h1 := arrN_len n (xs.filter fun y => decide (y < x))
    have h2 := arrN_len n (xs.filter fun y => decide (x < y))
    have h3 : (xs.filter fun y => decide (y < x)).length + (xs.filter fun y => decide (x < y)).length ≤ xs.length := by
      induction xs with
      | nil => exact Nat.le_refl _
      | cons y ys ih =>
        have ih := ih (arrN_len n _) (arrN_len n _)
        rw [List.filter_cons, List.filter_cons]
        by_cases a : y < x
        · rw [if_pos (by simpa using a), if_neg (by simp; omega), List.length_cons, List.length_cons]; omega
        · by_cases b : x < y
          · rw [if_neg (by simpa using a), if_pos (by simpa using b), List.length_cons, List.length_cons]; omega
          · rw [if_neg (by simpa using a), if_neg (by simpa using b), List.length_cons]; omega
    rw [arrN, List.length_cons, List.length_append, List.length_cons]
    omega
end Tm

/-! readings of the law's own trees -/
namespace VL
open PySem PySem.Spec PyProof.Rows L2 Tm
/-- all that stood stands -/
def Kept (M M' : Mem) : Prop := ∀ a o, M a = some o → M' a = some o
theorem Kept.refl (M : Mem) : Kept M M := fun _ _ h => h
theorem Kept.trans {M M1 M2 : Mem} (a : Kept M M1) (b : Kept M1 M2) : Kept M M2 := fun x o h => b x o (a x o h)
theorem Kept.new {M M' : Mem} (k : Kept M M') {p : Addr} (hp : M p = none) (o : MO) : Kept M (put M' p o) := fun a u e => by rw [put_ne (ne_mem e hp)]; exact k a u e
theorem Kept.gone {M M' : Mem} (k : Kept M M') {p : Addr} (hp : M p = none) : Kept M (del M' p) := fun a u e => by rw [del_ne (ne_mem e hp)]; exact k a u e
theorem Kept.none {M M' : Mem} (k : Kept M M') {p : Addr} (h : M' p = none) : M p = none := by
  cases e : M p with
  | none => rfl
  | some o => rw [k p o e] at h; cases h
theorem Kp.of {d : Addr} {M M' : Mem} (k : Kept M M') (h : Dw M d) : Kp d M M' := ⟨by obtain ⟨mo, h1, h2⟩ := h; exact ⟨mo, k _ _ h1, h2⟩, fun a o _ e => k a o e⟩
theorem Dw.kept {d : Addr} {M M' : Mem} (k : Kept M M') (h : Dw M d) : Dw M' d := (Kp.of k h).dw
/-- a dict of whole numbers stands at a and holds f, at most n -/
def ImAt (M : Mem) (a : Addr) (f : Int → Option Int) (n : Nat) : Prop := ∃ ps, M a = some (.dK (ikv ps)) ∧ Im ps f ∧ ps.length ≤ n
theorem ImAt.kept {M M' : Mem} {a : Addr} {f : Int → Option Int} {n : Nat} (h : ImAt M a f n) (k : Kept M M') : ImAt M' a f n := by
  obtain ⟨ps, h1, h2, h3⟩ := h; exact ⟨ps, k _ _ h1, h2, h3⟩
theorem ImAt.ne {M : Mem} {a p : Addr} {f : Int → Option Int} {n : Nat} {o : MO} (h : ImAt M a f n) (hn : a ≠ p) : ImAt (put M p o) a f n := by
  obtain ⟨ps, h1, h2, h3⟩ := h; exact ⟨ps, by rw [put_ne hn]; exact h1, h2, h3⟩
structure TreeAt (M : Mem) (A : TA) (t : Tr) : Prop where
  m : M A.m = some (.dK (rowD (optD t.root) A))
  l : ImAt M A.l t.lc t.size
  r : ImAt M A.r t.rc t.size
  u : ImAt M A.u (fun x => t.par x none) t.size
  ml : A.m ≠ A.l
  mr : A.m ≠ A.r
  mu : A.m ≠ A.u
  lr : A.l ≠ A.r
  lu : A.l ≠ A.u
  ru : A.r ≠ A.u
theorem TreeAt.kept {M M' : Mem} {A : TA} {t : Tr} (h : TreeAt M A t) (k : Kept M M') : TreeAt M' A t := ⟨k _ _ h.m, h.l.kept k, h.r.kept k, h.u.kept k, h.ml, h.mr, h.mu, h.lr, h.lu, h.ru⟩
/-- the tree's four are new -/
structure Fr (M : Mem) (A : TA) : Prop where
  m : M A.m = none
  l : M A.l = none
  r : M A.r = none
  u : M A.u = none
theorem Fr.of {M M' : Mem} {A : TA} (h : Fr M' A) (k : Kept M M') : Fr M A := ⟨k.none h.m, k.none h.l, k.none h.r, k.none h.u⟩
theorem Kept.newT {M M' : Mem} {A : TA} (k : Kept M M') (f : Fr M A) {p : Addr} (hp : p = A.m ∨ p = A.l ∨ p = A.r ∨ p = A.u) (o : MO) : Kept M (put M' p o) := by
  refine k.new ?_ o
  rcases hp with e | e | e | e <;> subst e
  · exact f.m
  · exact f.l
  · exact f.r
  · exact f.u
/-! _law_empty -/
def W_l_empty : W3 := fun ds M Φ => ds = [] ∧ ∀ A M', TreeAt M' A .nil → Fr M A → Kept M M' → Φ (.ref A.m) M'
def w_l_empty : WS := (sRet (wDisp (wpCons (wC (.str "root")) (wC .non) (wpCons (wC (.str "left")) wDict0 (wpCons (wC (.str "right")) wDict0 (wpCons (wC (.str "up")) wDict0 wpNil))))))
theorem im_nil {M : Mem} {a : Addr} {n : Nat} : ImAt (put M a (.dK [])) a (fun _ => none) n := ⟨[], put_same, Im.nil, Nat.zero_le _⟩
theorem r_l_empty : ∀ ds M Φ, W_l_empty ds M Φ → w_l_empty (endsD Φ) (startD 0 ds) M := by
  intro ds M Φ ⟨eds, k⟩
  subst eds
  unfold w_l_empty
  walk_at "vl"
  intro l hl r hr u hu
  refine ⟨(show (4 : Nat) ≤ 15 by decide), fun m hm => ?_⟩
  rw [merge_row]
  have nr : r ≠ l := ne_mem' put_same hr
  have nu : u ≠ r := ne_mem' put_same hu
  have nm : m ≠ u := ne_mem' put_same hm
  have nul : u ≠ l := fun e => by subst e; rw [put_ne (Ne.symm nr), put_same] at hu; cases hu
  have nmr : m ≠ r := fun e => by subst e; rw [put_ne (Ne.symm nu), put_same] at hm; cases hm
  have nml : m ≠ l := fun e => by subst e; rw [put_ne (Ne.symm nul), put_ne (Ne.symm nr), put_same] at hm; cases hm
  have hr0 : M r = none := by rw [put_ne nr] at hr; exact hr
  have hu0 : M u = none := by rw [put_ne nu, put_ne nul] at hu; exact hu
  have hm0 : M m = none := by rw [put_ne nm, put_ne nmr, put_ne nml] at hm; exact hm
  refine k ⟨m, l, r, u⟩ _ ⟨put_same, ?_, ?_, ?_, nml, nmr, nm, Ne.symm nr, Ne.symm nul, Ne.symm nu⟩ ⟨hm0, hl, hr0, hu0⟩ ?_
  · exact ((im_nil.ne (Ne.symm nr)).ne (Ne.symm nul)).ne (Ne.symm nml)
  · exact (im_nil.ne (Ne.symm nu)).ne (Ne.symm nmr)
  · exact im_nil.ne (Ne.symm nm)
  · exact ((((Kept.refl M).new hl _).new hr0 _).new hu0 _).new hm0 _
/-! _law_place -/
def W_l_place : W3 := fun ds M Φ => ∃ A t x, ds = [.ref (TA.m A), .int x] ∧ TreeAt M A t ∧ (t.bst ∧ ¬ t.has x ∧ t.size < 60) ∧ ∀ n M', TreeAt M' A (t.ins x) → (∀ a o, a ≠ A.m → a ≠ A.l → a ≠ A.r → a ≠ A.u → M a = some o → M' a = some o) → Φ (.int n) M'
def w_l_place : WS := (sSeq (sPar 2 3 (wCons (wOp wrIx (wVar 0) (wC (.str "root"))) (wCons (wC (.int 0)) wNil)))
  (sSeq (sIf (wTest (wOp wrIsN (wVar 2) (wC .non))) (sAsg (wVar 1) (wgSub (wVar 0) (wC (.str "root")))) sNext)
  (sSeq (sFor (wiRng1 (wCons (wC (.int 60)) wNil)) (wgName 4) (sIf (wTest (wOp wrNotN (wVar 2) (wC .non))) (sSeq (sPar 5 3 (wCons (wOp wrIx (wVar 0) (wIfE (wTest (wOp (wrI fun i j => .bl (decide (i < j))) (wVar 1) (wVar 2))) (wC (.str "left")) (wC (.str "right")))) (wCons (wOp wrAdd (wVar 3) (wC (.int 1))) wNil)))
  (sIf (wTest (wOp (wrIn true) (wVar 2) (wVar 5))) (sSeq (sAsg (wVar 1) (wgSub (wVar 5) (wVar 2)))
  (sSeq (sAsg (wVar 2) (wgSub (wOp wrIx (wVar 0) (wC (.str "up"))) (wVar 1)))
  (sAsg (wC .non) (wgName 2)))) (sAsg (wOp wrIx (wVar 5) (wVar 2)) (wgName 2)))) sNext))
  (sRet (wVar 3)))))
theorem e_isN_opt {o : Option Int} : isN (optD o) = o.isNone := by cases o <;> rfl
theorem r_l_place : ∀ ds M Φ, W_l_place ds M Φ → w_l_place (endsD Φ) (startD 6 ds) M := by
  intro ds M Φ ⟨A, t, x, eds, T, ⟨hb, hx, hs⟩, k⟩
  subst eds
  unfold w_l_place
  rw [start_2]
  wp_walk using e_tRoot T.m, e_isN_opt
  -- the loop
  have go : ∀ (items : List D), items.length = 60 → ∀ (M1 : Mem) (d2 : D) (o4 o5 : Option D), (TreeAt M1 A (t.ins x) ∧ d2 = .non ∨ ∃ l k r, M1 = M ∧ d2 = .int k ∧ t = .node l k r) → (∀ a o, a ≠ A.m → a ≠ A.l → a ≠ A.r → a ≠ A.u → M a = some o → M1 a = some o) →
      sLoop (wgName 4) (sIf (wTest (wOp wrNotN (wVar 2) (wC .non))) (sSeq (sPar 5 3 (wCons (wOp wrIx (wVar 0) (wIfE (wTest (wOp (wrI fun i j => .bl (decide (i < j))) (wVar 1) (wVar 2))) (wC (.str "left")) (wC (.str "right")))) (wCons (wOp wrAdd (wVar 3) (wC (.int 1))) wNil)))
        (sIf (wTest (wOp (wrIn true) (wVar 2) (wVar 5))) (sSeq (sAsg (wVar 1) (wgSub (wVar 5) (wVar 2)))
        (sSeq (sAsg (wVar 2) (wgSub (wOp wrIx (wVar 0) (wC (.str "up"))) (wVar 1)))
        (sAsg (wC .non) (wgName 2)))) (sAsg (wOp wrIx (wVar 5) (wVar 2)) (wgName 2)))) sNext) ⟨sRet (wVar 3) (endsD Φ), Φ, (endsD Φ).bk, (endsD Φ).ct⟩ items [some (.ref A.m), some (.int x), some d2, some (.int 0), o4, o5] M1 := by
    intro items hit M1 d2 o4 o5 h0 hr
    refine loop_inv (fun pre post ρ M2 => ∃ (d2 : D) (n : Int) (o4 o5 : Option D), ρ = [some (.ref A.m), some (.int x), some d2, some (.int n), o4, o5] ∧ (TreeAt M2 A (t.ins x) ∧ d2 = .non ∨ ∃ l k r, M2 = M ∧ d2 = .int k ∧ Pth x (.node l k r) t ∧ (Tr.node l k r).size + pre.length ≤ t.size) ∧ (∀ a o, a ≠ A.m → a ≠ A.l → a ≠ A.r → a ≠ A.u → M a = some o → M2 a = some o)) ?_ ?_ ?_
    · refine ⟨d2, 0, o4, o5, rfl, ?_, hr⟩
      rcases h0 with h | ⟨l, k, r, h1, h2, h3⟩
      · exact .inl h
      · exact .inr ⟨l, k, r, h1, h2, h3 ▸ .here, by rw [← h3]; exact Nat.le_refl _⟩
    · rintro pre y post ρ M2 bk nx e ⟨d2, n, o4, o5, rfl, hc, hr⟩ _ hnx
      rcases hc with ⟨hT, rfl⟩ | ⟨l, c, r, rfl, rfl, hp, hsz⟩
      · walk_at "vl"
        exact hnx _ _ ⟨.non, n, _, o5, rfl, .inl ⟨hT, rfl⟩, hr⟩
      · have hcb := hp.sub.bst hb
        have hck := hp.sub.kids hb rfl
        have nxc : x ≠ c := fun z => hx (z ▸ hp.hask)
        have tne := hp.ne
        by_cases hd : x < c
        · wp_walk using e_tLeft T.m, e_tUp T.m, decide_eq_true hd
          obtain ⟨ps, h1, h2, h3⟩ := T.l
          cases l with
          | nil =>
            have hlk : ig ps c = none := by rw [h2.get]; exact hck.1
            have hlc : t.lc c = none := hck.1
            wp_walk using e_ninI h1, look_ikv, hlk, Option.map, Option.isSome, e_gsub2I h1, e_tUp T.m
            obtain ⟨pu, g1, g2, g3⟩ := T.u
            have hpx : t.par x none = none := par_none hx
            have hM1 : (put M2 A.l (.dK (putKD (ikv ps) (.inl c) (.int x)))) A.m = some (.dK (rowD (optD t.root) A)) := by rw [put_ne T.ml]; exact T.m
            have hM2 : (put M2 A.l (.dK (putKD (ikv ps) (.inl c) (.int x)))) A.u = some (.dK (ikv pu)) := by rw [put_ne T.lu.symm]; exact g1
            rw [ikv_len]
            refine ⟨Nat.lt_of_le_of_lt h3 (Nat.lt_trans hs (by decide)), ?_⟩
            wp_walk using e_tUp hM1, e_gsub2I hM2
            rw [ikv_len]
            refine ⟨Nat.lt_of_le_of_lt g3 (Nat.lt_trans hs (by decide)), ?_⟩
            rw [put_new hlk, put_new (by rw [g2.get]; exact hpx)]
            obtain ⟨i1, i2, i3⟩ := hp.insL hb hd
            refine hnx _ _ ⟨.non, _, _, _, rfl, .inl ⟨⟨?_, ?_, ?_, ?_, T.ml, T.mr, T.mu, T.lr, T.lu, T.ru⟩, rfl⟩, fun a o q1 q2 q3 q4 q5 => ?_⟩
            · rw [put_ne T.mu, put_ne T.ml, root_ins tne]; exact T.m
            · refine ImAt.ne ⟨_, put_same, (h2.new hlc x).congr fun z => (i1 z).symm, ?_⟩ T.lu
              rw [List.length_append, size_ins]; exact Nat.add_le_add_right h3 1
            · refine ((show ImAt M2 A.r (t.ins x).rc (t.ins x).size from ?_).ne T.lr.symm).ne T.ru
              obtain ⟨pr, f1, f2, f3⟩ := T.r
              exact ⟨pr, f1, f2.congr fun z => (i2 z).symm, by rw [size_ins]; omega⟩
            · refine ⟨_, put_same, (g2.new hpx c).congr fun z => (i3 none z hx).symm, ?_⟩
              rw [List.length_append, size_ins]; exact Nat.add_le_add_right g3 1
            · rw [put_ne q4, put_ne q2]; exact hr a o q1 q2 q3 q4 q5
          | node l1 k1 r1 =>
            have hlk : ig ps c = some k1 := by rw [h2.get]; exact hck.1
            wp_walk using e_ninI h1, look_ikv, hlk, Option.map, Option.isSome, e_ixDi h1
            refine hnx _ _ ⟨.int k1, _, _, _, rfl, .inr ⟨l1, k1, r1, rfl, rfl, hp.goL hd, ?_⟩, hr⟩
            rw [List.length_append, List.length_singleton]
            rw [Tr.size] at hsz
            omega
        · wp_walk using e_tRight T.m, e_tUp T.m, decide_eq_false hd
          obtain ⟨ps, h1, h2, h3⟩ := T.r
          cases r with
          | nil =>
            have hlk : ig ps c = none := by rw [h2.get]; exact hck.2
            have hlc : t.rc c = none := hck.2
            wp_walk using e_ninI h1, look_ikv, hlk, Option.map, Option.isSome, e_gsub2I h1, e_tUp T.m
            obtain ⟨pu, g1, g2, g3⟩ := T.u
            have hpx : t.par x none = none := par_none hx
            have hM1 : (put M2 A.r (.dK (putKD (ikv ps) (.inl c) (.int x)))) A.m = some (.dK (rowD (optD t.root) A)) := by rw [put_ne T.mr]; exact T.m
            have hM2 : (put M2 A.r (.dK (putKD (ikv ps) (.inl c) (.int x)))) A.u = some (.dK (ikv pu)) := by rw [put_ne T.ru.symm]; exact g1
            rw [ikv_len]
            refine ⟨Nat.lt_of_le_of_lt h3 (Nat.lt_trans hs (by decide)), ?_⟩
            wp_walk using e_tUp hM1, e_gsub2I hM2
            rw [ikv_len]
            refine ⟨Nat.lt_of_le_of_lt g3 (Nat.lt_trans hs (by decide)), ?_⟩
            rw [put_new hlk, put_new (by rw [g2.get]; exact hpx)]
            obtain ⟨i1, i2, i3⟩ := hp.insR hb hd nxc
            refine hnx _ _ ⟨.non, _, _, _, rfl, .inl ⟨⟨?_, ?_, ?_, ?_, T.ml, T.mr, T.mu, T.lr, T.lu, T.ru⟩, rfl⟩, fun a o q1 q2 q3 q4 q5 => ?_⟩
            · rw [put_ne T.mu, put_ne T.mr, root_ins tne]; exact T.m
            · refine ((show ImAt M2 A.l (t.ins x).lc (t.ins x).size from ?_).ne T.lr).ne T.lu
              obtain ⟨pr, f1, f2, f3⟩ := T.l
              exact ⟨pr, f1, f2.congr fun z => (i2 z).symm, by rw [size_ins]; omega⟩
            · refine ImAt.ne ⟨_, put_same, (h2.new hlc x).congr fun z => (i1 z).symm, ?_⟩ T.ru
              rw [List.length_append, size_ins]; exact Nat.add_le_add_right h3 1
            · refine ⟨_, put_same, (g2.new hpx c).congr fun z => (i3 none z hx).symm, ?_⟩
              rw [List.length_append, size_ins]; exact Nat.add_le_add_right g3 1
            · rw [put_ne q4, put_ne q3]; exact hr a o q1 q2 q3 q4 q5
          | node l1 k1 r1 =>
            have hlk : ig ps c = some k1 := by rw [h2.get]; exact hck.2
            wp_walk using e_ninI h1, look_ikv, hlk, Option.map, Option.isSome, e_ixDi h1
            refine hnx _ _ ⟨.int k1, _, _, _, rfl, .inr ⟨l1, k1, r1, rfl, rfl, hp.goR hd, ?_⟩, hr⟩
            rw [List.length_append, List.length_singleton]
            rw [Tr.size] at hsz
            omega
    · rintro ρ M2 ⟨d2, n, o4, o5, rfl, hc, hr⟩
      rcases hc with ⟨hT, rfl⟩ | ⟨l, c, r, rfl, rfl, hp, hsz⟩
      · walk_at "vl"
        exact k n M2 hT hr
      · rw [hit] at hsz
        omega
  cases ht : t with
  | nil =>
    subst ht
    wp_walk using Tr.root, Option.isNone, optD, e_tSetRoot T.m
    refine ⟨⟨by decide, by decide⟩, ?_⟩
    have hl : (rgD 0 (60 : Int).toNat).length = 60 := rgD_len 0 _
    generalize rgD 0 (60 : Int).toNat = items at hl ⊢
    refine go items hl _ .non _ _ (.inl ⟨?_, rfl⟩) fun a o q1 q2 q3 q4 q5 => ?_
    · refine ⟨put_same, ?_, ?_, ?_, T.ml, T.mr, T.mu, T.lr, T.lu, T.ru⟩
      · refine ImAt.ne ?_ T.ml.symm
        obtain ⟨ps, h1, h2, h3⟩ := T.l
        exact ⟨ps, h1, h2.congr fun z => by simp [Tr.ins, Tr.lc, Tr.root], Nat.le_trans h3 (Nat.zero_le _)⟩
      · refine ImAt.ne ?_ T.mr.symm
        obtain ⟨ps, h1, h2, h3⟩ := T.r
        exact ⟨ps, h1, h2.congr fun z => by simp [Tr.ins, Tr.rc, Tr.root], Nat.le_trans h3 (Nat.zero_le _)⟩
      · refine ImAt.ne ?_ T.mu.symm
        obtain ⟨ps, h1, h2, h3⟩ := T.u
        exact ⟨ps, h1, h2.congr fun z => by simp [Tr.ins, Tr.par], Nat.le_trans h3 (Nat.zero_le _)⟩
    · rw [put_ne q1]; exact q5
  | node l c r =>
    wp_walk using Tr.root, Option.isNone, optD
    refine ⟨⟨by decide, by decide⟩, ?_⟩
    have hl : (rgD 0 (60 : Int).toNat).length = 60 := rgD_len 0 _
    generalize rgD 0 (60 : Int).toNat = items at hl ⊢
    exact go items hl M (.int c) _ _ (.inr ⟨l, c, r, rfl, rfl, ht⟩) fun a o q1 q2 q3 q4 q5 => q5
end VL

/-! readings of the law's own trees, second part -/
namespace VL
open PySem PySem.Spec PyProof.Rows L2 Tm
/-- a loop over whole numbers -/
theorem loop_ints {g : WG} {body : WS} {De : WN} {ks : List Int} {ρ : Sg} {M : Mem} (P : List Int → List Int → Sg → Mem → Prop) (h0 : P [] ks ρ M)
    (hs : ∀ pre k post ρ M (bk : Sg → Mem → Prop) (nx : Sg → Mem → Prop), ks = pre ++ k :: post → P pre (k :: post) ρ M → bk = De.nx → (∀ ρ M, P (pre ++ [k]) post ρ M → nx ρ M) → g (.int k) ρ M (body ⟨nx, De.rt, bk, nx⟩))
    (hd : ∀ ρ M, P ks [] ρ M → De.nx ρ M) : sLoop g body De (ks.map D.int) ρ M := by
  suffices h : ∀ (post pre : List Int) ρ M, ks = pre ++ post → P pre post ρ M → sLoop g body De (post.map D.int) ρ M from h ks [] ρ M rfl h0
  intro post
  induction post with
  | nil => intro pre ρ M e p; rw [List.append_nil] at e; subst e; exact hd ρ M p
  | cons x post ih =>
    intro pre ρ M e p
    exact hs pre x post ρ M _ _ e p rfl fun ρ' M' p' => ih (pre ++ [x]) ρ' M' (by rw [e, List.append_assoc]; rfl) p'
theorem bld_snoc (l : List Int) (x : Int) : bld (l ++ [x]) = (bld l).ins x := by unfold bld; rw [List.foldl_append]; rfl
/-! _law_tree -/
def W_l_tree : W3 := fun ds M Φ => ∃ ks : List Int, (ds = [.lst (ks.map D.int)] ∨ ds = [.tup (ks.map D.int)]) ∧ (ks.Nodup ∧ ks.length ≤ 60) ∧ ∀ A M', TreeAt M' A (bld ks) → Fr M A → Kept M M' → Φ (.ref A.m) M'
def w_l_tree : WS := (sSeq (sAsg (wCall W_l_empty wNil) (wgName 1))
  (sSeq (sFor (wiSeq (wVar 0)) (wgName 2) (sDrop (wCall W_l_place (wCons (wVar 1) (wCons (wVar 2) wNil)))))
  (sRet (wVar 1))))
theorem r_l_tree : ∀ ds M Φ, W_l_tree ds M Φ → w_l_tree (endsD Φ) (startD 3 ds) M := by
  intro ds M Φ ⟨ks, eds, ⟨hn, hl⟩, k⟩
  have go : ∀ d : D, (∀ ΦA : List D → Mem → Prop, ∀ M, kSeqI ΦA d M = ΦA (ks.map D.int) M) → w_l_tree (endsD Φ) (startD 3 [d]) M := by
    intro d hd
    unfold w_l_tree
    rw [start_1]
    walk_at "vl"
    refine ⟨rfl, fun A M1 T f kp => ?_⟩
    wp_walk using hd
    refine loop_ints (fun pre post ρ M2 => ∃ o2, ρ = [some d, some (.ref A.m), o2] ∧ TreeAt M2 A (bld pre) ∧ Kept M M2) ⟨none, rfl, T, kp⟩ ?_ ?_
    · rintro pre x post ρ M2 bk nx e ⟨o2, rfl, T2, k2⟩ _ hnx
      have hn' := hn
      rw [e, List.nodup_append] at hn'
      have hx : ¬ (bld pre).has x := fun h => hn'.2.2 x ((bld_has hn'.1).mp h) x (List.mem_cons_self ..) rfl
      have hle : pre.length < 60 := by rw [e] at hl; simp at hl; omega
      walk_at "vl"
      refine ⟨A, bld pre, x, rfl, T2, ⟨bld_bst hn'.1, hx, by rw [bld_size hn'.1]; exact hle⟩, fun n M3 T3 h3 => ?_⟩
      walk_at "vl"
      refine hnx _ _ ⟨_, rfl, by rw [bld_snoc]; exact T3, fun a o h => h3 a o ?_ ?_ ?_ ?_ (k2 a o h)⟩
      · exact ne_mem h f.m
      · exact ne_mem h f.l
      · exact ne_mem h f.r
      · exact ne_mem h f.u
    · rintro ρ M2 ⟨o2, rfl, T2, k2⟩
      walk_at "vl"
      exact k A M2 T2 f k2
  rcases eds with eds | eds
  · subst eds; exact go _ fun _ _ => rfl
  · subst eds; exact go _ fun _ _ => rfl
/-! _law_shape -/
/-- a dict that is right at the keys of t -/
def ImS (M : Mem) (a : Addr) (f : Int → Option Int) (t : Tr) : Prop := ∃ g, ImAt M a g 100000 ∧ ∀ k, t.has k → g k = f k
theorem ImS.kept {M M' : Mem} {a : Addr} {f : Int → Option Int} {t : Tr} (h : ImS M a f t) (k : Kept M M') : ImS M' a f t := by
  obtain ⟨g, h1, h2⟩ := h; exact ⟨g, h1.kept k, h2⟩
structure ShAt (M : Mem) (A : TA) (t : Tr) : Prop where
  m : M A.m = some (.dK (rowD (optD t.root) A))
  l : ImS M A.l t.lc t
  r : ImS M A.r t.rc t
theorem ImAt.le {M : Mem} {a : Addr} {f : Int → Option Int} {n m : Nat} (h : ImAt M a f n) (hm : n ≤ m) : ImAt M a f m := by
  obtain ⟨ps, h1, h2, h3⟩ := h; exact ⟨ps, h1, h2, Nat.le_trans h3 hm⟩
theorem TreeAt.sh {M : Mem} {A : TA} {t : Tr} (h : TreeAt M A t) (hs : t.size ≤ 100000) : ShAt M A t := ⟨h.m, ⟨_, h.l.le hs, fun _ _ => rfl⟩, ⟨_, h.r.le hs, fun _ _ => rfl⟩⟩
theorem ShAt.kept {M M' : Mem} {A : TA} {t : Tr} (h : ShAt M A t) (k : Kept M M') : ShAt M' A t := ⟨k _ _ h.m, h.l.kept k, h.r.kept k⟩
def W_l_shape : W3 := fun ds M Φ => ∃ A t, ds = [.ref (TA.m A)] ∧ ShAt M A t ∧ (t.bst ∧ t.size ≤ 100000) ∧ ∀ M', Kept M M' → Φ (.tup (t.pre.map D.int)) M'
def w_l_shape : WS := (sSeq (sPar 1 2 (wCons (wLstM wNil) (wCons (wIfE (wTest (wOp wrNotN (wOp wrIx (wVar 0) (wC (.str "root"))) (wC .non))) (wLstM (wCons (wOp wrIx (wVar 0) (wC (.str "root"))) wNil)) (wLstM wNil)) wNil)))
  (sSeq (sWhile (wTest (wOp wrNe (wVar 2) (wLst wNil))) (sSeq (sAsg (wBM wrPop (wVar 2) wNil) (wgName 3))
  (sSeq (sDrop (wBM wrAppend (wVar 1) (wCons (wVar 3) wNil)))
  (sAsg (wOp wrAddM (wVar 2) (wLc (wiSeq (wTup (wCons (wOp wrIx (wVar 0) (wC (.str "right"))) (wCons (wOp wrIx (wVar 0) (wC (.str "left"))) wNil)))) (wgName 4) (wTest (wOp (wrIn false) (wVar 3) (wVar 4))) (wOp wrIx (wVar 4) (wVar 3)) [4])) (wgName 2)))))
  (sRet (wCB wrTupC (wCons (wVar 1) wNil)))))
def rk : Tr → Int
  | .nil => 0
  | .node _ k _ => k
def line (st : List Tr) : List Int := (st.map rk).reverse
def flat (st : List Tr) : List Int := (st.map Tr.pre).flatten
def szs (st : List Tr) : Nat := (st.map Tr.size).sum
def kid : Tr → List Tr
  | .nil => []
  | .node l k r => [.node l k r]
theorem kid_mem {s t : Tr} (h : s ∈ kid t) : s = t ∧ t ≠ .nil := by
  cases t with
  | nil => cases h
  | node l k r => exact ⟨List.mem_singleton.mp h, fun e => nomatch e⟩
theorem kid_pre (t : Tr) : ((kid t).map Tr.pre).flatten = t.pre := by cases t <;> simp [kid, Tr.pre]
theorem kid_size (t : Tr) : ((kid t).map Tr.size).sum = t.size := by cases t <;> simp [kid, Tr.size]
theorem kid_len (t : Tr) : (kid t).length ≤ 1 := by cases t <;> simp [kid]
def kids (l r : Tr) : List Tr := kid l ++ kid r
theorem nil_or (t : Tr) : t = .nil ∨ ∃ l k r, t = .node l k r := by cases t; exact .inl rfl; exact .inr ⟨_, _, _, rfl⟩
theorem len_szs : ∀ st : List Tr, (∀ s ∈ st, s ≠ .nil) → st.length ≤ szs st
  | [], _ => Nat.le_refl _
  | s :: st, h => by
    have ih := len_szs st fun x hx => h x (List.mem_cons_of_mem _ hx)
    have hs := h s (List.mem_cons_self ..)
    unfold szs at ih ⊢
    cases s with
    | nil => exact absurd rfl hs
    | node l k r => simp only [List.map_cons, List.sum_cons, List.length_cons, Tr.size]; omega
structure Stk (t : Tr) (acc : List Int) (st : List Tr) : Prop where
  sub : ∀ s ∈ st, Sub s t ∧ s ≠ .nil
  all : acc ++ flat st = t.pre
theorem flat_len (st : List Tr) : (flat st).length = szs st := by
  unfold flat szs
  induction st with
  | nil => rfl
  | cons s st ih => simp only [List.map_cons, List.flatten_cons, List.length_append, List.sum_cons, ih, len_pre]
theorem r_l_shape : ∀ ds M Φ, W_l_shape ds M Φ → w_l_shape (endsD Φ) (startD 5 ds) M := by
  intro ds M Φ ⟨A, t, eds, S, ⟨hb, hz⟩, k⟩
  subst eds
  unfold w_l_shape
  rw [start_1]
  wp_walk using e_tRoot S.m
  refine ⟨(show (0 : Nat) ≤ lim by decide), fun pf hpf => ?_⟩
  have k1 : Kept M (put M pf (.lst [])) := (Kept.refl M).new hpf _
  wp_walk using e_tRoot (k1 _ _ S.m), e_isN_opt
  -- the loop
  have go : ∀ (pl : Addr) (st : List Tr) (M2 : Mem), pl ≠ pf → M2 pf = some (.lst (([] : List Int).map D.int)) → M2 pl = some (.lst ((line st).map D.int)) → M pl = none → Stk t [] st → Kept M M2 →
      sWhile (wTest (wOp wrNe (wVar 2) (wLst wNil))) (sSeq (sAsg (wBM wrPop (wVar 2) wNil) (wgName 3))
      (sSeq (sDrop (wBM wrAppend (wVar 1) (wCons (wVar 3) wNil)))
      (sAsg (wOp wrAddM (wVar 2) (wLc (wiSeq (wTup (wCons (wOp wrIx (wVar 0) (wC (.str "right"))) (wCons (wOp wrIx (wVar 0) (wC (.str "left"))) wNil)))) (wgName 4) (wTest (wOp (wrIn false) (wVar 3) (wVar 4))) (wOp wrIx (wVar 4) (wVar 3)) [4])) (wgName 2))))
      ⟨sRet (wCB wrTupC (wCons (wVar 1) wNil)) (endsD Φ), Φ, (endsD Φ).bk, (endsD Φ).ct⟩ [some (.ref A.m), some (.ref pf), some (.ref pl), none, none] M2 := by
    intro pl st M2 hne hf hl hpl hst hk
    refine ⟨fun m ρ M3 => ∃ (pl : Addr) (acc : List Int) (st : List Tr) (o3 o4 : Option D), ρ = [some (.ref A.m), some (.ref pf), some (.ref pl), o3, o4] ∧ pl ≠ pf ∧ M3 pf = some (.lst (acc.map D.int)) ∧ M3 pl = some (.lst ((line st).map D.int)) ∧ M pl = none ∧ Stk t acc st ∧ Kept M M3 ∧ m = szs st,
      ⟨_, pl, [], st, none, none, rfl, hne, hf, hl, hpl, hst, hk, rfl⟩, ?_⟩
    rintro m ρ M3 ⟨pl, acc, st, o3, o4, rfl, hne, hf, hl, hpl, hst, hk, rfl⟩
    wp_walk using e_neR0 hl
    refine ⟨Nat.zero_le _, ?_⟩
    wp_walk using e_neR0 hl
    have hlen := congrArg List.length hst.all
    rw [List.length_append, flat_len, len_pre] at hlen
    cases st with
    | nil =>
      have : decide (line [] = []) = true := by decide
      rw [this]
      have ha : acc = t.pre := by rw [← hst.all]; exact (List.append_nil _).symm
      wp_walk using e_tupCR hf
      rw [ha]
      exact k M3 hk
    | cons s st =>
      obtain ⟨hs1, hs2⟩ := hst.sub s (List.mem_cons_self ..)
      rcases nil_or s with e | ⟨l, c, r, e⟩
      · exact absurd e hs2
      subst e
      have el : line (Tr.node l c r :: st) = line st ++ [c] := by unfold line; rw [List.map_cons, List.reverse_cons]; rfl
      have : decide (line (Tr.node l c r :: st) = []) = false := by rw [el]; simp
      rw [this]
      rw [el, List.map_append] at hl
      have hz2 : (szs (Tr.node l c r :: st)) = l.size + r.size + 1 + szs st := rfl
      have hl2 := len_szs st fun x hx => (hst.sub x (List.mem_cons_of_mem _ hx)).2
      have hM3f : put M3 pl (.lst ((line st).map D.int)) pf = some (.lst (acc.map D.int)) := by rw [put_ne hne.symm]; exact hf
      have hpop : ∀ Ψ : KD, wrPop (.ref pl) [] M3 Ψ = Ψ (.int c) (put M3 pl (.lst ((line st).map D.int))) := fun Ψ => e_pop hl
      wp_walk using e_bm1 hl, hpop, e_bm1 hM3f, e_append hM3f
      have la : acc.length < 100000 := by omega
      refine ⟨by rw [List.length_map]; exact Nat.lt_trans la (by decide), ?_⟩
      obtain ⟨ck1, ck2⟩ := hs1.kids hb rfl
      generalize hM4 : put (put M3 pl (.lst ((line st).map D.int))) pf (.lst (acc.map D.int ++ [D.int c])) = M4
      have hpf0 : M pf = none := hpf
      have hk4 : Kept M M4 := by rw [← hM4]; exact (hk.new hpl _).new hpf0 _
      have S4 := S.kept hk4
      have hl4 : M4 pl = some (.lst ((line st).map D.int)) := by rw [← hM4, put_ne hne, put_same]
      have hf4 : M4 pf = some (.lst ((acc ++ [c]).map D.int)) := by rw [← hM4, put_same, List.map_append]; rfl
      obtain ⟨gr, ⟨pr, r1, r2, r3⟩, r4⟩ := S4.r
      obtain ⟨gl, ⟨pq, q1, q2, q3⟩, q4⟩ := S4.l
      have lr : ig pr c = r.root := by rw [r2.get, r4 c (hs1.has (.inr (.inl rfl)))]; exact ck2
      have lq : ig pq c = l.root := by rw [q2.get, q4 c (hs1.has (.inr (.inl rfl)))]; exact ck1
      wp_walk using e_tRight S4.m, e_tLeft S4.m
      refine ⟨(show (2 : Nat) ≤ lim by decide), ?_⟩
      refine ⟨(show (2 : Nat) ≤ lim by decide), ?_⟩
      have fin : ∀ (ks : List Tr), ks = kids l r → ∀ o4, kOp2 wrAddM (.ref pl) (kAsg (wgName 2) ⟨fun ρ' M' => ∃ m', m' < szs (Tr.node l c r :: st) ∧ ∃ (pl : Addr) (acc : List Int) (st : List Tr) (o3 o4 : Option D), ρ' = [some (.ref A.m), some (.ref pf), some (.ref pl), o3, o4] ∧ pl ≠ pf ∧ M' pf = some (.lst (acc.map D.int)) ∧ M' pl = some (.lst ((line st).map D.int)) ∧ M pl = none ∧ Stk t acc st ∧ Kept M M' ∧ m' = szs st, Φ, sRet (wCB wrTupC (wCons (wVar 1) wNil)) (endsD Φ), fun ρ' M' => ∃ m', m' < szs (Tr.node l c r :: st) ∧ ∃ (pl : Addr) (acc : List Int) (st : List Tr) (o3 o4 : Option D), ρ' = [some (.ref A.m), some (.ref pf), some (.ref pl), o3, o4] ∧ pl ≠ pf ∧ M' pf = some (.lst (acc.map D.int)) ∧ M' pl = some (.lst ((line st).map D.int)) ∧ M pl = none ∧ Stk t acc st ∧ Kept M M' ∧ m' = szs st⟩ [some (.ref A.m), some (.ref pf), some (.ref pl), some (.int c), o4]) (.lst ((line ks).map D.int)) M4 := by
        intro ks eks o4
        subst eks
        wp_walk using e_addM hl4
        have lk : (line (kids l r)).length ≤ 2 := by unfold line kids; rw [List.length_reverse, List.length_map, List.length_append]; have := kid_len l; have := kid_len r; omega
        have lst' : (line st).length = st.length := by unfold line; rw [List.length_reverse, List.length_map]
        refine ⟨?_, fun pn hpn => ?_⟩
        · rw [List.length_map, List.length_map]; unfold lim; omega
        have npf : pn ≠ pf := ne_mem' hf4 hpn
        refine ⟨szs (kids l r ++ st), ?_, pn, acc ++ [c], kids l r ++ st, _, o4, rfl, npf, by rw [put_ne npf.symm]; exact hf4, ?_, hk4.none hpn, ⟨fun s hs => ?_, ?_⟩, hk4.new (hk4.none hpn) _, rfl⟩
        · rw [hz2]
          unfold szs kids
          rw [List.map_append, List.sum_append, List.map_append, List.sum_append]
          rw [kid_size, kid_size]
          show _ < _ + 1 + (st.map Tr.size).sum
          omega
        · rw [put_same]
          unfold line
          rw [← List.map_append, ← List.reverse_append, ← List.map_append]
        · rcases List.mem_append.mp hs with hs | hs
          · unfold kids at hs
            rcases List.mem_append.mp hs with hs | hs
            · obtain ⟨rfl, hn⟩ := kid_mem hs
              exact ⟨(Sub.left (.refl _)).trans hs1, hn⟩
            · obtain ⟨rfl, hn⟩ := kid_mem hs
              exact ⟨(Sub.right (.refl _)).trans hs1, hn⟩
          · exact hst.sub s (List.mem_cons_of_mem _ hs)
        · rw [← hst.all]
          unfold flat kids
          rw [List.append_assoc]
          congr 1
          rw [List.map_append, List.flatten_append, List.map_append, List.flatten_append, List.map_cons, List.flatten_cons, Tr.pre]
          rw [kid_pre, kid_pre]
          simp
      simp only [wLcGo]
      rcases nil_or l with e | ⟨l1, c1, l2, e⟩ <;> rcases nil_or r with e' | ⟨r1', c2, r2', e'⟩ <;> subst e e'
      · simp only [Tr.root] at lr lq
        wp_walk using e_inI r1, e_inI q1, look_ikv, lr, lq, Option.map, Option.isSome, e_ixDi r1, e_ixDi q1, List.nil_append, List.append_nil, List.cons_append
        exact fin [] rfl _
      · simp only [Tr.root] at lr lq
        wp_walk using e_inI r1, e_inI q1, look_ikv, lr, lq, Option.map, Option.isSome, e_ixDi r1, e_ixDi q1, List.nil_append, List.append_nil, List.cons_append
        exact fin [.node r1' c2 r2'] rfl _
      · simp only [Tr.root] at lr lq
        wp_walk using e_inI r1, e_inI q1, look_ikv, lr, lq, Option.map, Option.isSome, e_ixDi r1, e_ixDi q1, List.nil_append, List.append_nil, List.cons_append
        exact fin [.node l1 c1 l2] rfl _
      · simp only [Tr.root] at lr lq
        wp_walk using e_inI r1, e_inI q1, look_ikv, lr, lq, Option.map, Option.isSome, e_ixDi r1, e_ixDi q1, List.nil_append, List.append_nil, List.cons_append
        exact fin [.node l1 c1 l2, .node r1' c2 r2'] rfl _
  rcases nil_or t with e | ⟨l, c, r, e⟩
  · subst e
    wp_walk using Tr.root, Option.isNone
    refine ⟨Nat.zero_le _, fun pl hpl => ?_⟩
    have hne : pl ≠ pf := ne_mem' put_same hpl
    refine go pl [] _ hne (by rw [put_ne hne.symm, put_same]; rfl) (by rw [put_same]; rfl) (k1.none hpl) ⟨fun s hs => (nomatch hs), rfl⟩ (k1.new (k1.none hpl) _)
  · subst e
    wp_walk using Tr.root, Option.isNone, e_tRoot (k1 _ _ S.m), optD
    refine ⟨(show (1 : Nat) ≤ lim by decide), fun pl hpl => ?_⟩
    have hne : pl ≠ pf := ne_mem' put_same hpl
    refine go pl [.node l c r] _ hne (by rw [put_ne hne.symm, put_same]; rfl) (by rw [put_same]; rfl) (k1.none hpl) ⟨fun s hs => ?_, ?_⟩ (k1.new (k1.none hpl) _)
    · rw [List.mem_singleton.mp hs]; exact ⟨.refl _, fun e => nomatch e⟩
    · unfold flat; simp
end VL

/-! some shape; the spines; two answers the same -/
namespace VL
open PySem PySem.Spec PyProof.Rows L2 Tm
def unI : D → Int
  | .int i => i
  | _ => 0
theorem filter_all {α : Type} (l : List α) : l.filter (fun _ => true) = l := List.filter_eq_self.mpr fun _ _ => rfl
theorem perm_ints {es : List D} {ks : List Int} (h : es.Perm (ks.map D.int)) : ∃ ks' : List Int, es = ks'.map D.int ∧ ks'.Perm ks := by
  refine ⟨es.map unI, ?_, ?_⟩
  · rw [List.map_map]
    have : ∀ x ∈ es, (D.int ∘ unI) x = x := fun x hx => by
      obtain ⟨i, _, rfl⟩ := List.mem_map.mp (h.mem_iff.mp hx)
      rfl
    exact ((List.map_congr_left this).trans (List.map_id' es)).symm
  · have := h.map unI
    rw [List.map_map] at this
    have e : ks.map (unI ∘ D.int) = ks := (List.map_congr_left (fun _ _ => rfl)).trans (List.map_id' ks)
    rw [e] at this
    exact this
def zigI (ks : List Int) (i : Nat) : Int := if i % 2 = 0 then ks[i / 2]?.getD 0 else ks[ks.length - 1 - i / 2]?.getD 0
def zig (ks : List Int) : List Int := (List.range ks.length).map (zigI ks)
theorem zig_perm {ks : List Int} (h : Asc ks) : (zig ks).Perm ks := by
  have at1 : ∀ i, (hi : i < ks.length) → ∃ j, ∃ hj : j < ks.length, zigI ks i = ks[j] ∧ (i % 2 = 0 ∧ j = i / 2 ∨ i % 2 = 1 ∧ j + i / 2 + 1 = ks.length) := fun i hi => by
    unfold zigI
    by_cases c : i % 2 = 0
    · rw [if_pos c]
      have hj : i / 2 < ks.length := by omega
      exact ⟨i / 2, hj, by simp [hj], .inl ⟨c, rfl⟩⟩
    · rw [if_neg c]
      have hj : ks.length - 1 - i / 2 < ks.length := by omega
      exact ⟨_, hj, by simp [hj], .inr ⟨by omega, by omega⟩⟩
  have inj : ∀ j1 j2, (h1 : j1 < ks.length) → (h2 : j2 < ks.length) → ks[j1] = ks[j2] → j1 = j2 := fun j1 j2 h1 h2 e => by
    have hp := List.pairwise_iff_getElem.mp h
    rcases Nat.lt_trichotomy j1 j2 with c | c | c
    · have := hp j1 j2 h1 h2 c; omega
    · exact c
    · have := hp j2 j1 h2 h1 c; omega
  refine perm_of_sub ?_ ?_ ?_
  · unfold zig
    rw [List.nodup_iff_pairwise_ne, List.pairwise_map]
    have hr : (List.range ks.length).Pairwise (fun a b => a < b ∧ b < ks.length) := by
      rw [List.pairwise_iff_getElem]
      intro i j hi hj hij
      simp at hi hj ⊢
      exact ⟨hij, hj⟩
    refine hr.imp fun {a b} hab e => ?_
    obtain ⟨ja, pa, ea, ca⟩ := at1 a (by omega)
    obtain ⟨jb, pb, eb, cb⟩ := at1 b hab.2
    rw [ea, eb] at e
    have := inj _ _ pa pb e
    rcases ca with ca | ca <;> rcases cb with cb | cb <;> omega
  · intro x hx
    unfold zig at hx
    obtain ⟨i, hi, rfl⟩ := List.mem_map.mp hx
    rw [List.mem_range] at hi
    obtain ⟨j, pj, ej, _⟩ := at1 i hi
    rw [ej]
    exact List.getElem_mem _
  · unfold zig
    rw [List.length_map, List.length_range]
    exact Nat.le_refl _
/-! _law_some_shape -/
def W_l_some_shape : W3 := fun ds M Φ => ∃ d ks, ds = [.ref d, .lst (List.map D.int ks)] ∧ Dw M d ∧ (Asc ks ∧ ks.length ≤ 60) ∧ ∀ (t : Tr) M', t.bst → t.ino = ks → Kp d M M' → Φ (.tup (t.pre.map D.int)) M'
def w_l_some_shape : WS := (sSeq (sAsg (wCall W_l_take (wCons (wVar 0) (wCons (wC (.int 7)) wNil))) (wgName 2))
  (sSeq (sAsg (wCall W_l_shuffled (wCons (wVar 0) (wCons (wVar 1) wNil))) (wgName 3))
  (sSeq (sIf (wTest (wOp wrEq (wVar 2) (wC (.int 0)))) (sAsg (wCB wrLstC (wCons (wVar 1) wNil)) (wgName 3)) sNext)
  (sSeq (sIf (wTest (wOp wrEq (wVar 2) (wC (.int 1)))) (sAsg (wRevL (wVar 1)) (wgName 3)) sNext)
  (sSeq (sIf (wTest (wOp wrEq (wVar 2) (wC (.int 2)))) (sAsg (wLc (wiRng1 (wCons (wCB wrLen (wCons (wVar 1) wNil)) wNil)) (wgName 4) wYes (wIfE (wTest (wOp wrEq (wOp (wrIC (fun _ j => 0 < j) fun i j => .int (i % j)) (wVar 4) (wC (.int 2))) (wC (.int 0)))) (wOp wrIx (wVar 1) (wOp (wrIC CDivW fun i j => .int (i / j)) (wVar 4) (wC (.int 2)))) (wOp wrIx (wVar 1) (wOp (wrI fun i j => .int (i - j)) (wOp (wrI fun i j => .int (i - j)) (wCB wrLen (wCons (wVar 1) wNil)) (wC (.int 1))) (wOp (wrIC CDivW fun i j => .int (i / j)) (wVar 4) (wC (.int 2)))))) [4]) (wgName 3)) sNext)
  (sRet (wCall W_l_shape (wCons (wCall W_l_tree (wCons (wVar 3) wNil)) wNil))))))))
theorem atD_int {ks : List Int} {i : Int} {j : Nat} (e : i = j) (h : j < ks.length) : atD (ks.map D.int) i = some (.int (ks[j]?.getD 0)) := by
  subst e
  rw [atD_of (by omega) (by rw [List.length_map]; omega)]
  simp [h]
def dig (f : Nat → Int) : D → D
  | .int i => .int (f i.toNat)
  | d => d
theorem r_l_some_shape : ∀ ds M Φ, W_l_some_shape ds M Φ → w_l_some_shape (endsD Φ) (startD 5 ds) M := by
  intro ds M Φ ⟨d, ks, eds, hd, ⟨ha, hl⟩, k⟩
  subst eds
  unfold w_l_some_shape
  rw [start_2]
  walk_at "vl"
  refine W_take_go hd (by decide) (by decide) fun pick M1 g0 g1 kp1 => ?_
  walk_at "vl"
  refine ⟨d, _, rfl, kp1.dw, (by rw [List.length_map]; omega), fun es' M2 pm kp2 => ?_⟩
  obtain ⟨ks', rfl, pm'⟩ := perm_ints pm
  have kp := kp1.trans kp2
  have fin : ∀ (ks2 : List Int) (o2 o4 : Option D), ks2.Perm ks → sRet (wCall W_l_shape (wCons (wCall W_l_tree (wCons (wVar 3) wNil)) wNil)) (endsD Φ) [some (.ref d), some (.lst (ks.map D.int)), o2, some (.lst (ks2.map D.int)), o4] M2 := by
    intro ks2 o2 o4 p2
    have hn : ks2.Nodup := (p2.nodup_iff).mpr (ha.imp fun h => Int.ne_of_lt h)
    have hl2 : ks2.length ≤ 60 := by rw [p2.length_eq]; exact hl
    walk_at "vl"
    refine ⟨ks2, .inl rfl, ⟨hn, hl2⟩, fun A M3 T f k3 => ?_⟩
    walk_at "vl"
    refine ⟨A, bld ks2, rfl, T.sh ?_, ⟨bld_bst hn, ?_⟩, fun M4 k4 => ?_⟩
    · rw [bld_size hn]; omega
    · rw [bld_size hn]; omega
    · exact k _ M4 (bld_bst hn) (bld_ino p2 ha) (kp.trans (Kp.of (k3.trans k4) kp.dw))
  wp_walk using e_eqI
  by_cases c0 : pick = 0
  · subst c0
    rw [show decide ((0 : Int) = 0) = true from rfl]
    wp_walk using e_eqI
    rw [show decide ((0 : Int) = 1) = false from rfl]
    wp_walk using e_eqI
    rw [show decide ((0 : Int) = 2) = false from rfl]
    walk_at "vl"
    exact fin ks _ _ (.refl _)
  rw [decide_eq_false c0]
  wp_walk using e_eqI
  by_cases c1 : pick = 1
  · subst c1
    rw [show decide ((1 : Int) = 1) = true from rfl]
    wp_walk using e_eqI
    rw [show decide ((1 : Int) = 2) = false from rfl]
    wp_walk using (List.map_reverse (f := D.int) (l := ks)).symm
    exact fin ks.reverse _ _ (List.reverse_perm _)
  rw [decide_eq_false c1]
  wp_walk using e_eqI
  by_cases c2 : pick = 2
  · subst c2
    rw [show decide ((2 : Int) = 2) = true from rfl]
    walk_at "vl"
    rw [List.length_map]
    refine ⟨⟨by omega, by omega⟩, by rw [rgD_len]; unfold lim; omega, ?_⟩
    refine lcGo_map (fun _ => true) (dig (zigI ks)) _ _ (fun x hx Ψ acc h1 h2 => ?_) ?_
    · obtain ⟨i, hi⟩ := List.mem_iff_getElem?.mp hx
      obtain ⟨q1, rfl⟩ := rgD_at hi
      have h1 := h1 rfl
      have ei : (0 : Int) + (i : Int) = i := Int.zero_add _
      rw [ei] at h1 ⊢
      have hdv : CDivW (i : Int) 2 := wide_div (b := 20) (by decide) (by decide) (by decide) (by decide)
      wp_walk using e_eqI
      refine ⟨by decide, ?_⟩
      by_cases c : (i : Int) % 2 = 0
      · rw [decide_eq_true c]
        walk_at "vl"
        refine ⟨hdv, ?_⟩
        rw [atD_int (j := i / 2) (by omega) (by omega)]
        have : dig (zigI ks) (.int (i : Int)) = .int (ks[i / 2]?.getD 0) := by
          show D.int (zigI ks (i : Int).toNat) = _
          rw [Int.toNat_natCast]; unfold zigI; rw [if_pos (by omega)]
        rw [← this]
        exact h1
      · rw [decide_eq_false c]
        walk_at "vl"
        refine ⟨hdv, ?_⟩
        rw [List.length_map, atD_int (j := ks.length - 1 - i / 2) (by omega) (by omega)]
        have : dig (zigI ks) (.int (i : Int)) = .int (ks[ks.length - 1 - i / 2]?.getD 0) := by
          show D.int (zigI ks (i : Int).toNat) = _
          rw [Int.toNat_natCast]; unfold zigI; rw [if_neg (by omega)]
        rw [← this]
        exact h1
    · have e : ([] : List D) ++ ((rgD 0 ((ks.length : Int)).toNat).filter fun _ => true).map (dig (zigI ks)) = (zig ks).map D.int := by
        rw [List.nil_append, filter_all]
        unfold rgD zig
        rw [List.map_map, List.map_map, Int.toNat_natCast]
        refine List.map_congr_left fun i _ => ?_
        show dig (zigI ks) (.int ((0 : Int) + (i : Int))) = .int (zigI ks i)
        rw [Int.zero_add]
        show D.int (zigI ks (i : Int).toNat) = _
        rw [Int.toNat_natCast]
      rw [e]
      walk_at "vl"
      exact fin (zig ks) _ _ (zig_perm ha)
  rw [decide_eq_false c2]
  walk_at "vl"
  exact fin ks' _ _ pm'
/-! _law_spine -/
theorem optD_get {o : Option Int} : (o.map D.int).getD .non = optD o := by cases o <;> rfl
def W_l_spine : W3 := fun ds M Φ => ∃ A t, (ds = [.ref (TA.m A), .str "left"] ∧ Φ (.int (Tr.lsp t)) M ∨ ds = [.ref (TA.m A), .str "right"] ∧ Φ (.int (Tr.rsp t)) M) ∧ ShAt M A t ∧ t.bst ∧ t.size ≤ 41
def w_l_spine : WS := (sSeq (sPar 2 3 (wCons (wC (.int 0)) (wCons (wOp wrIx (wVar 0) (wC (.str "root"))) wNil)))
  (sSeq (sFor (wiRng1 (wCons (wC (.int 41)) wNil)) (wgName 4) (sIf (wTest (wOp wrNotN (wVar 3) (wC .non))) (sPar 2 3 (wCons (wOp wrAdd (wVar 2) (wC (.int 1))) (wCons (wGet (wOp wrIx (wVar 0) (wVar 1)) (wVar 3) (wC .non)) wNil))) sNext))
  (sRet (wVar 2))))
theorem r_l_spine : ∀ ds M Φ, W_l_spine ds M Φ → w_l_spine (endsD Φ) (startD 5 ds) M := by
  intro ds M Φ ⟨A, t, hc, S, hb, hz⟩
  have go : ∀ (s : Str) (p : Addr) (f : Int → Option Int) (ch : Tr → Tr) (len : Tr → Nat), (∀ Φ : KD, wrIx (.ref A.m) (.str s) M Φ = Φ (.ref p) M) → ImS M p f t → (∀ l k r, Tm.Sub (.node l k r) t → f k = (ch (.node l k r)).root) → (∀ l k r, Tm.Sub (ch (.node l k r)) (.node l k r) ∧ (ch (.node l k r)).size < (Tr.node l k r).size) →
      (∀ l k r, len (.node l k r) = len (ch (.node l k r)) + 1) → len .nil = 0 → Φ (.int (len t)) M → w_l_spine (endsD Φ) (startD 5 [.ref A.m, .str s]) M := by
    intro s p f ch len hix ⟨gg, ⟨ps, h1, h2, h3⟩, hgg⟩ hch hsz hlen hnil hk
    unfold w_l_spine
    rw [start_2]
    wp_walk using e_tRoot S.m
    refine ⟨⟨by decide, by decide⟩, ?_⟩
    have hl : (rgD 0 (41 : Int).toNat).length = 41 := rgD_len 0 _
    generalize rgD 0 (41 : Int).toNat = items at hl ⊢
    refine loop_inv (fun pre post ρ M2 => ∃ (n : Nat) (u : Tr) (o4 : Option D), ρ = [some (.ref A.m), some (.str s), some (.int n), some (optD u.root), o4] ∧ M2 = M ∧ n + len u = len t ∧ (u = .nil ∨ Tm.Sub u t ∧ u.size + pre.length ≤ t.size)) ?_ ?_ ?_
    · exact ⟨0, t, none, rfl, rfl, Nat.zero_add _, .inr ⟨.refl _, Nat.le_refl _⟩⟩
    · rintro pre y post ρ M2 bk nx e ⟨n, u, o4, rfl, rfl, hn, hu⟩ _ hnx
      wp_walk using e_isN_opt
      cases u with
      | nil =>
        wp_walk using Tr.root, Option.isNone
        exact hnx _ _ ⟨n, .nil, _, rfl, rfl, hn, .inl rfl⟩
      | node l c r =>
        rcases hu with hu | ⟨hu1, hu2⟩
        · cases hu
        wp_walk using Tr.root, Option.isNone, hix, e_get1 h1, e_get3 h1, look_ikv, optD, optD_get
        rw [h2.get, hgg c (hu1.has (.inr (.inl rfl))), hch l c r hu1]
        refine hnx _ _ ⟨n + 1, ch (.node l c r), _, rfl, rfl, by rw [hlen] at hn; omega, ?_⟩
        have := hsz l c r
        refine .inr ⟨this.1.trans hu1, ?_⟩
        rw [List.length_append, List.length_singleton]; omega
    · rintro ρ M2 ⟨n, u, o4, rfl, rfl, hn, hu⟩
      walk_at "vl"
      have : u = .nil := by
        rcases hu with hu | ⟨hu1, hu2⟩
        · exact hu
        · cases u with
          | nil => rfl
          | node l c r => rw [Tr.size] at hu2; omega
      subst this
      rw [hnil] at hn
      rw [show n = len t by omega]
      exact hk
  rcases hc with ⟨rfl, hk⟩ | ⟨rfl, hk⟩
  · refine go "left" A.l t.lc Tr.lft Tr.lsp (fun Φ => e_tLeft S.m) S.l (fun l k r h => (h.kids hb rfl).1) (fun l k r => ⟨.left (.refl _), ?_⟩) (fun l k r => rfl) rfl hk
    show l.size < l.size + r.size + 1
    omega
  · refine go "right" A.r t.rc Tr.rgt Tr.rsp (fun Φ => e_tRight S.m) S.r (fun l k r h => (h.kids hb rfl).2) (fun l k r => ⟨.right (.refl _), ?_⟩) (fun l k r => rfl) rfl hk
    show r.size < l.size + r.size + 1
    omega
/-! _law_same: the two are one -/
def cl : Nat → D → Prop
  | 0, _ => False
  | n + 1, .tup ds => ds.length ≤ lim ∧ ∀ d ∈ ds, cl n d
  | n + 1, .lst ds => ds.length ≤ lim ∧ ∀ d ∈ ds, cl n d
  | _ + 1, .non => True
  | _ + 1, .bl _ => True
  | _ + 1, .int _ => True
  | _ + 1, .str s => SeqAt.shaped (.str s) = true
  | _ + 1, _ => False
theorem cl_int {n : Nat} {i : Int} : cl (n + 1) (.int i) := trivial
theorem cl_ints {n : Nat} {ks : List Int} (h : ks.length ≤ lim) : cl (n + 2) (.tup (ks.map D.int)) := ⟨by rw [List.length_map]; exact h, fun d hd => by
  obtain ⟨i, _, rfl⟩ := List.mem_map.mp hd
  exact cl_int⟩
theorem cl_intsL {n : Nat} {ks : List Int} (h : ks.length ≤ lim) : cl (n + 2) (.lst (ks.map D.int)) := ⟨by rw [List.length_map]; exact h, fun d hd => by
  obtain ⟨i, _, rfl⟩ := List.mem_map.mp hd
  exact cl_int⟩
def W_l_same (n : Nat) : W3 := fun ds M Φ => ∃ x, ds = [x, x] ∧ cl n x ∧ Φ (.bl true) M
def w_l_same (W_l_same : W3) : WS := (sSeq (sIf (wTest (wOp wrIsN (wVar 1) (wC .non))) (sRet (wOp wrIsN (wVar 0) (wC .non))) sNext)
  (sSeq (sIf (wTest (wCB wrIsi (wCons (wVar 1) (wCons (wTup (wCons (wC (.ty "list")) (wCons (wC (.ty "tuple")) wNil))) wNil)))) (sSeq (sIf (wOr (wTest (wOp wrNe (wCB wrIsi (wCons (wVar 0) (wCons (wC (.ty "list")) wNil))) (wCB wrIsi (wCons (wVar 1) (wCons (wC (.ty "list")) wNil))))) (wTest (wOp wrNe (wCB wrIsi (wCons (wVar 0) (wCons (wC (.ty "tuple")) wNil))) (wCB wrIsi (wCons (wVar 1) (wCons (wC (.ty "tuple")) wNil)))))) (sRet (wC (.bl false))) sNext)
  (sRet (wAndV (wOp wrEq (wCB wrLen (wCons (wVar 0) wNil)) (wCB wrLen (wCons (wVar 1) wNil))) (wCB wrAll (wCons (wLc (wiZip (wCons (wVar 0) (wCons (wVar 1) wNil))) (wgTup 2 (wgCons (wgName 2) (wgCons (wgName 3) wgNil))) wYes (wCall W_l_same (wCons (wVar 2) (wCons (wVar 3) wNil))) [2, 3]) wNil))))) sNext)
  (sSeq (sIf (wOr (wTest (wOp wrNe (wCB wrIsi (wCons (wVar 1) (wCons (wC (.ty "bool")) wNil))) (wCB wrIsi (wCons (wVar 0) (wCons (wC (.ty "bool")) wNil))))) (wTest (wOp wrNe (wCB wrIsi (wCons (wVar 1) (wCons (wC (.ty "int")) wNil))) (wCB wrIsi (wCons (wVar 0) (wCons (wC (.ty "int")) wNil)))))) (sRet (wC (.bl false))) sNext)
  (sRet (wAndV (wOp wrEq (wCB wrIsi (wCons (wVar 1) (wCons (wC (.ty "str")) wNil))) (wCB wrIsi (wCons (wVar 0) (wCons (wC (.ty "str")) wNil)))) (wOp wrEq (wVar 0) (wVar 1)))))))
theorem W_same_go {n : Nat} {x : D} {M : Mem} {Φ : KD} (h : cl n x) (k : Φ (.bl true) M) : W_l_same n [x, x] M Φ := ⟨x, rfl, h, k⟩
theorem e_isi1 {M : Mem} {Φ : KD} {x : D} {t n : String} (h : tyN M x = some t) (hn : tyNames.contains n = true) : wrIsi [x, .ty n] M Φ = Φ (.bl (isiB t n)) M := by
  simp only [wrIsi, h, clsN, List.all_cons, List.all_nil, hn, Bool.and_true, List.any_cons, List.any_nil, Bool.or_false, true_and]
theorem e_isi2 {M : Mem} {Φ : KD} {x : D} {t n m : String} (h : tyN M x = some t) (hn : tyNames.contains n = true) (hm : tyNames.contains m = true) : wrIsi [x, .tup [.ty n, .ty m]] M Φ = Φ (.bl (isiB t n || isiB t m)) M := by
  simp only [wrIsi, h, clsN, clsN.tysD, Option.map, List.all_cons, List.all_nil, hn, hm, Bool.and_true, Bool.and_self, List.any_cons, List.any_nil, Bool.or_false, true_and]
theorem r_l_same : ∀ n ds M Φ, W_l_same (n + 1) ds M Φ → w_l_same (W_l_same n) (endsD Φ) (startD 4 ds) M := by
  intro n ds M Φ ⟨x, eds, hc, k⟩
  subst eds
  unfold w_l_same
  rw [start_2]
  have flat : ∀ (x : D) (t : String), tyN M x = some t → isN x = false → isiB t "list" = false → isiB t "tuple" = false → (∃ p, pyM M x = some p ∧ SeqAt.shaped p = true ∧ PyData.eqv p p = true) →
      (sSeq (sIf (wTest (wOp wrIsN (wVar 1) (wC .non))) (sRet (wOp wrIsN (wVar 0) (wC .non))) sNext)
      (sSeq (sIf (wTest (wCB wrIsi (wCons (wVar 1) (wCons (wTup (wCons (wC (.ty "list")) (wCons (wC (.ty "tuple")) wNil))) wNil)))) (sSeq (sIf (wOr (wTest (wOp wrNe (wCB wrIsi (wCons (wVar 0) (wCons (wC (.ty "list")) wNil))) (wCB wrIsi (wCons (wVar 1) (wCons (wC (.ty "list")) wNil))))) (wTest (wOp wrNe (wCB wrIsi (wCons (wVar 0) (wCons (wC (.ty "tuple")) wNil))) (wCB wrIsi (wCons (wVar 1) (wCons (wC (.ty "tuple")) wNil)))))) (sRet (wC (.bl false))) sNext)
      (sRet (wAndV (wOp wrEq (wCB wrLen (wCons (wVar 0) wNil)) (wCB wrLen (wCons (wVar 1) wNil))) (wCB wrAll (wCons (wLc (wiZip (wCons (wVar 0) (wCons (wVar 1) wNil))) (wgTup 2 (wgCons (wgName 2) (wgCons (wgName 3) wgNil))) wYes (wCall (W_l_same n) (wCons (wVar 2) (wCons (wVar 3) wNil))) [2, 3]) wNil))))) sNext)
      (sSeq (sIf (wOr (wTest (wOp wrNe (wCB wrIsi (wCons (wVar 1) (wCons (wC (.ty "bool")) wNil))) (wCB wrIsi (wCons (wVar 0) (wCons (wC (.ty "bool")) wNil))))) (wTest (wOp wrNe (wCB wrIsi (wCons (wVar 1) (wCons (wC (.ty "int")) wNil))) (wCB wrIsi (wCons (wVar 0) (wCons (wC (.ty "int")) wNil)))))) (sRet (wC (.bl false))) sNext)
      (sRet (wAndV (wOp wrEq (wCB wrIsi (wCons (wVar 1) (wCons (wC (.ty "str")) wNil))) (wCB wrIsi (wCons (wVar 0) (wCons (wC (.ty "str")) wNil)))) (wOp wrEq (wVar 0) (wVar 1))))))) (endsD Φ) [some x, some x, none, none] M := by
    intro x t ht hi hl hp ⟨p, h1, h2, h3⟩
    wp_walk using hi, e_isi2 ht (n := "list") (m := "tuple") (by decide) (by decide), hl, hp, Bool.or_false
    refine ⟨(show (2 : Nat) ≤ lim by decide), ?_⟩
    wp_walk using e_isi2 ht (n := "list") (m := "tuple") (by decide) (by decide), hl, hp, Bool.or_false, e_isi1 ht (n := "bool") (by decide), e_isi1 ht (n := "int") (by decide), e_isi1 ht (n := "str") (by decide), e_eqB, e_neB, beq_self_eq_true, wrEq_of h1 h1 h2 h2 h3
    exact k
  have deep : ∀ (x : D) (t : String) (ds : List D), tyN M x = some t → isN x = false → (isiB t "list" || isiB t "tuple") = true → (∀ d ∈ ds, cl n d) → ds.length ≤ lim → (∀ Φ : KD, wrLen [x] M Φ = Φ (.int ds.length) M) → (∀ ΦA : List D → Mem → Prop, kZip ΦA [x, x] M = ΦA (zipD ds ds) M) →
      (sSeq (sIf (wTest (wOp wrIsN (wVar 1) (wC .non))) (sRet (wOp wrIsN (wVar 0) (wC .non))) sNext)
      (sSeq (sIf (wTest (wCB wrIsi (wCons (wVar 1) (wCons (wTup (wCons (wC (.ty "list")) (wCons (wC (.ty "tuple")) wNil))) wNil)))) (sSeq (sIf (wOr (wTest (wOp wrNe (wCB wrIsi (wCons (wVar 0) (wCons (wC (.ty "list")) wNil))) (wCB wrIsi (wCons (wVar 1) (wCons (wC (.ty "list")) wNil))))) (wTest (wOp wrNe (wCB wrIsi (wCons (wVar 0) (wCons (wC (.ty "tuple")) wNil))) (wCB wrIsi (wCons (wVar 1) (wCons (wC (.ty "tuple")) wNil)))))) (sRet (wC (.bl false))) sNext)
      (sRet (wAndV (wOp wrEq (wCB wrLen (wCons (wVar 0) wNil)) (wCB wrLen (wCons (wVar 1) wNil))) (wCB wrAll (wCons (wLc (wiZip (wCons (wVar 0) (wCons (wVar 1) wNil))) (wgTup 2 (wgCons (wgName 2) (wgCons (wgName 3) wgNil))) wYes (wCall (W_l_same n) (wCons (wVar 2) (wCons (wVar 3) wNil))) [2, 3]) wNil))))) sNext)
      (sSeq (sIf (wOr (wTest (wOp wrNe (wCB wrIsi (wCons (wVar 1) (wCons (wC (.ty "bool")) wNil))) (wCB wrIsi (wCons (wVar 0) (wCons (wC (.ty "bool")) wNil))))) (wTest (wOp wrNe (wCB wrIsi (wCons (wVar 1) (wCons (wC (.ty "int")) wNil))) (wCB wrIsi (wCons (wVar 0) (wCons (wC (.ty "int")) wNil)))))) (sRet (wC (.bl false))) sNext)
      (sRet (wAndV (wOp wrEq (wCB wrIsi (wCons (wVar 1) (wCons (wC (.ty "str")) wNil))) (wCB wrIsi (wCons (wVar 0) (wCons (wC (.ty "str")) wNil)))) (wOp wrEq (wVar 0) (wVar 1))))))) (endsD Φ) [some x, some x, none, none] M := by
    intro x t ds ht hi hl hds hlen hL hZ
    wp_walk using hi, e_isi2 ht (n := "list") (m := "tuple") (by decide) (by decide), hl
    refine ⟨(show (2 : Nat) ≤ lim by decide), ?_⟩
    wp_walk using e_isi2 ht (n := "list") (m := "tuple") (by decide) (by decide), hl, e_isi1 ht (n := "list") (by decide), e_isi1 ht (n := "tuple") (by decide), e_eqB, e_neB, beq_self_eq_true, hL, e_eqI, decide_true, hZ
    refine ⟨by rw [zipD_len, Nat.min_self]; exact hlen, ?_⟩
    refine lcGo_map (fun _ => true) (fun _ => .bl true) _ _ (fun y hy Ψ acc h1 h2 => ?_) ?_
    · obtain ⟨i, hi⟩ := List.mem_iff_getElem?.mp hy
      obtain ⟨u, v, g1, g2, rfl⟩ := zipD_at hi
      rw [g1] at g2
      cases g2
      have h1 := h1 rfl
      walk_at "vl"
      refine ⟨rfl, trivial, ?_⟩
      exact ⟨u, rfl, hds u (List.mem_of_getElem? g1), h1⟩
    · have e : ([] : List D) ++ ((zipD ds ds).filter fun _ => true).map (fun _ => D.bl true) = (List.replicate (zipD ds ds).length true).map D.bl := by
        rw [List.nil_append, filter_all, List.map_replicate]
        rw [List.eq_replicate_iff]
        exact ⟨by rw [List.length_map], fun b hb => by obtain ⟨_, _, rfl⟩ := List.mem_map.mp hb; rfl⟩
      rw [e]
      wp_walk using e_allL
      have : ((List.replicate (zipD ds ds).length true).all id) = true := by rw [List.all_eq_true]; intro b hb; exact (List.mem_replicate.mp hb).2
      rw [this]
      exact k
  cases x with
  | non =>
    wp_walk using e_isN_non
    exact k
  | bl b => exact flat _ "bool" rfl rfl (by decide) (by decide) ⟨.bool b, rfl, rfl, by rw [PyData.eqv]; exact beq_self_eq_true b⟩
  | int i => exact flat _ "int" rfl rfl (by decide) (by decide) ⟨.int i, rfl, rfl, by rw [eqv_int]; exact decide_eq_true rfl⟩
  | str s => exact flat _ "str" rfl rfl (by decide) (by decide) ⟨.str s, rfl, hc, by rw [PyData.eqv]; exact beq_self_eq_true s⟩
  | tup ds => exact deep _ "tuple" ds rfl rfl (by decide) hc.2 hc.1 (fun _ => rfl) (fun _ => rfl)
  | lst ds => exact deep _ "list" ds rfl rfl (by decide) hc.2 hc.1 (fun _ => rfl) (fun _ => rfl)
  | fz ds => exact hc.elim
  | tn ns => exact hc.elim
  | ref a => exact hc.elim
  | ty n => exact hc.elim
end VL

/-! the program's shapes: arranged, mirror, spine_lengths -/
namespace VL
open PySem PySem.Spec PyProof.Rows L2 Tm
def W_arranged : Nat → W3
  | 0 => fun _ _ _ => False
  | n + 1 => fun ds M Φ => ∃ ks : List Int, (ds = [.lst (ks.map D.int)] ∨ ds = [.tup (ks.map D.int)]) ∧ (ks.length ≤ n ∧ n ≤ 1000) ∧ Φ (.tup ((arrN n ks).map D.int)) M
def w_arranged (W_arranged : W3) : WS := (sSeq (sIf (wTest (wOp wrEq (wCB wrLen (wCons (wVar 0) wNil)) (wC (.int 0)))) (sRet (wTup wNil)) sNext)
  (sSeq (sAsg (wVar 0) (wgStar 2 1 (wgCons (wgName 1) (wgCons (wgName 2) wgNil))))
  (sSeq (sAsg (wCall W_arranged (wCons (wLc (wiSeq (wVar 2)) (wgName 4) (wTest (wOp (wrI fun i j => .bl (decide (i < j))) (wVar 4) (wVar 1))) (wVar 4) [4]) wNil)) (wgName 3))
  (sRet (wOp wrAdd (wOp wrAdd (wTup (wCons (wVar 1) wNil)) (wVar 3)) (wCall W_arranged (wCons (wLc (wiSeq (wVar 2)) (wgName 4) (wTest (wOp (wrI fun i j => .bl (decide (j < i))) (wVar 4) (wVar 1))) (wVar 4) [4]) wNil)))))))
/-- a comprehension over whole numbers, by a test and a value -/
theorem lc_ints {g : WG} {tt : WT} {te : WE} {ρ : Sg} {k : List D → Mem → Prop} {M : Mem} {ks : List Int} (b : Int → Bool) (f : Int → Int)
    (hx : ∀ x ∈ ks, ∀ (Ψ : List D → Mem → Prop) acc, (b x = true → Ψ (acc ++ [.int (f x)]) M) → (b x = false → Ψ acc M) → g (.int x) ρ M (kLc1 tt te acc Ψ)) (h : k (((ks.filter b).map f).map D.int) M) : wLcGo g tt te ρ k (ks.map D.int) [] M := by
  suffices h' : ∀ (ks' : List Int) (acc : List D), (∀ x ∈ ks', x ∈ ks) → k (acc ++ ((ks'.filter b).map f).map D.int) M → wLcGo g tt te ρ k (ks'.map D.int) acc M from h' ks [] (fun _ h => h) h
  clear h
  intro ks'
  induction ks' with
  | nil => intro acc _ h; show k acc M; simpa using h
  | cons x r ih =>
    intro acc hm h
    refine hx x (hm x (List.mem_cons_self ..)) _ _ (fun hb => ?_) (fun hb => ?_)
    · refine ih _ (fun y hy => hm y (List.mem_cons_of_mem _ hy)) ?_
      rw [List.filter_cons, if_pos hb] at h
      rw [List.append_assoc]
      exact h
    · refine ih _ (fun y hy => hm y (List.mem_cons_of_mem _ hy)) ?_
      rw [List.filter_cons, if_neg (by rw [hb]; decide)] at h
      exact h
theorem starL {u : WGs} {ρ : Sg} {M : Mem} {P : Sg → Mem → Prop} {x : D} {xs : List D} : wgStar 2 1 u (.lst (x :: xs)) ρ M P = (xs.length + 1 ≤ 16384 ∧ u [x, .lst xs] ρ M P) := by
  simp [wgStar, seqM]
theorem starT {u : WGs} {ρ : Sg} {M : Mem} {P : Sg → Mem → Prop} {x : D} {xs : List D} : wgStar 2 1 u (.tup (x :: xs)) ρ M P = (xs.length + 1 ≤ 16384 ∧ u [x, .lst xs] ρ M P) := by
  simp [wgStar, seqM]
theorem r_arranged : ∀ n ds M Φ, W_arranged (n + 1) ds M Φ → w_arranged (W_arranged n) (endsD Φ) (startD 5 ds) M := by
  intro n ds M Φ ⟨ks, eds, ⟨hl, hn⟩, k⟩
  have go : ∀ d : D, (∀ Φ : KD, wrLen [d] M Φ = Φ (.int ks.length) M) → (∀ x xs, ks = x :: xs → ∀ (u : WGs) ρ P, wgStar 2 1 u d ρ M P = ((xs.map D.int).length + 1 ≤ 16384 ∧ u [.int x, .lst (xs.map D.int)] ρ M P)) → w_arranged (W_arranged n) (endsD Φ) (startD 5 [d]) M := by
    intro d hL hS
    unfold w_arranged
    rw [start_1]
    wp_walk using hL, e_eqI
    cases ks with
    | nil =>
      rw [show decide (((([] : List Int).length : Nat) : Int) = 0) = true from rfl]
      walk_at "vl"
      refine ⟨(show (0 : Nat) ≤ lim by decide), ?_⟩
      have e : arrN n [] = [] := by cases n <;> rfl
      rw [e] at k
      exact k
    | cons x xs =>
      cases n with
      | zero => simp at hl
      | succ m =>
      have hl1 : xs.length ≤ m := by simp at hl; omega
      rw [show decide ((((x :: xs).length : Nat) : Int) = 0) = false from decide_eq_false (by rw [List.length_cons]; omega)]
      wp_walk using hS x xs rfl
      refine ⟨by rw [List.length_map]; omega, ?_⟩
      refine ⟨trivial, by rw [List.length_map]; unfold lim; omega, ?_⟩
      have h1 := List.length_filter_le (fun y => decide (y < x)) xs
      have h2 := List.length_filter_le (fun y => decide (x < y)) xs
      refine lc_ints (fun y => decide (y < x)) id (fun y hy Ψ acc ht hf => ?_) ?_
      · walk_at "vl"
        by_cases c : y < x
        · rw [decide_eq_true c]
          walk_at "vl"
          exact ht (decide_eq_true c)
        · rw [decide_eq_false c]
          walk_at "vl"
          exact hf (decide_eq_false c)
      rw [List.map_id]
      walk_at "vl"
      refine ⟨_, .inl rfl, ⟨by omega, by omega⟩, ?_⟩
      walk_at "vl"
      have g1 := arrN_len m (xs.filter fun y => decide (y < x))
      have g2 := arrN_len m (xs.filter fun y => decide (x < y))
      refine ⟨(show (1 : Nat) ≤ lim by decide), ?_⟩
      refine ⟨by rw [List.length_map, List.length_singleton]; unfold lim; omega, ?_⟩
      refine ⟨by rw [List.length_map]; unfold lim; omega, ?_⟩
      refine lc_ints (fun y => decide (x < y)) id (fun y hy Ψ acc ht hf => ?_) ?_
      · walk_at "vl"
        by_cases c : x < y
        · rw [decide_eq_true c]
          walk_at "vl"
          exact ht (decide_eq_true c)
        · rw [decide_eq_false c]
          walk_at "vl"
          exact hf (decide_eq_false c)
      rw [List.map_id]
      walk_at "vl"
      refine ⟨_, .inl rfl, ⟨by omega, by omega⟩, ?_⟩
      walk_at "vl"
      refine ⟨by rw [List.length_append, List.length_map, List.length_map, List.length_singleton]; unfold lim; omega, ?_⟩
      rw [arrN, List.map_cons, List.map_append] at k
      exact k
  rcases eds with eds | eds
  · subst eds
    exact go _ (fun Φ => by rw [e_lenL, List.length_map]) fun x xs e u ρ P => by rw [e, List.map_cons, starL]
  · subst eds
    exact go _ (fun Φ => by rw [e_lenT, List.length_map]) fun x xs e u ρ P => by rw [e, List.map_cons, starT]
def W_mirror : W3 := fun ds M Φ => ∃ ks : List Int, ds = [.tup (ks.map D.int)] ∧ ks.length ≤ 60 ∧ Φ (.tup ((arrN 60 (ks.map fun x => -x)).map D.int)) M
def w_mirror : WS := (sRet (wCall (W_arranged 61) (wCons (wLc (wiSeq (wVar 0)) (wgName 1) wYes (wNeg (wVar 1)) [1]) wNil)))
theorem r_mirror : ∀ ds M Φ, W_mirror ds M Φ → w_mirror (endsD Φ) (startD 2 ds) M := by
  intro ds M Φ ⟨ks, eds, hl, k⟩
  subst eds
  unfold w_mirror
  rw [start_1]
  walk_at "vl"
  refine ⟨by rw [List.length_map]; unfold lim; omega, ?_⟩
  refine lc_ints (fun _ => true) (fun x => -x) (fun y hy Ψ acc ht hf => ?_) ?_
  · walk_at "vl"
    exact ht rfl
  rw [filter_all]
  walk_at "vl"
  exact ⟨_, .inl rfl, ⟨by rw [List.length_map]; exact hl, by decide⟩, k⟩
def W_spine_lengths : W3 := fun ds M Φ => ∃ t : Tr, ds = [.tup (t.pre.map D.int)] ∧ (t.bst ∧ t.size ≤ 1000) ∧ Φ (.tup [.int t.lsp, .int t.rsp]) M
def w_spine_lengths : WS := (sSeq (sAsg (wTup (wCons (wC (.int 0)) (wCons (wC (.int 0)) (wCons (wC .non) (wCons (wC .non) wNil))))) (wgTup 4 (wgCons (wgName 1) (wgCons (wgName 2) (wgCons (wgName 3) (wgCons (wgName 4) wgNil))))))
  (sSeq (sFor (wiSeq (wVar 0)) (wgName 5) (sSeq (sIf (wOr (wTest (wOp wrEq (wVar 1) (wC (.int 0)))) (wAnd (wTest (wOp wrNotN (wVar 3) (wC .non))) (wTest (wOp (wrI fun i j => .bl (decide (i < j))) (wVar 5) (wVar 3))))) (sPar 1 3 (wCons (wOp wrAdd (wVar 1) (wC (.int 1))) (wCons (wVar 5) wNil))) (sAsg (wC .non) (wgName 3)))
  (sIf (wOr (wTest (wOp wrIsN (wVar 4) (wC .non))) (wTest (wOp (wrI fun i j => .bl (decide (j < i))) (wVar 5) (wVar 4)))) (sPar 2 4 (wCons (wOp wrAdd (wVar 2) (wC (.int 1))) (wCons (wVar 5) wNil))) sNext)))
  (sRet (wTup (wCons (wVar 1) (wCons (wVar 2) wNil))))))
theorem r_spine_lengths : ∀ ds M Φ, W_spine_lengths ds M Φ → w_spine_lengths (endsD Φ) (startD 6 ds) M := by
  intro ds M Φ ⟨t, eds, ⟨hb, hz⟩, k⟩
  subst eds
  unfold w_spine_lengths
  rw [start_1]
  walk_at "vl"
  refine ⟨(show (4 : Nat) ≤ lim by decide), rfl, trivial, ?_⟩
  refine loop_ints (fun pre post ρ M2 => ∃ (l r : Nat) (lo hi : Option Int) (o5 : Option D), ρ = [some (.tup (t.pre.map D.int)), some (.int l), some (.int r), some (optD lo), some (optD hi), o5] ∧ M2 = M ∧ pre.foldl stL (0, none) = (l, lo) ∧ pre.foldl stR (0, none) = (r, hi)) ?_ ?_ ?_
  · exact ⟨0, 0, none, none, none, rfl, rfl, rfl, rfl⟩
  · rintro pre x post ρ M2 bk nx e ⟨l, r, lo, hi, o5, rfl, rfl, hL, hR⟩ _ hnx
    have second : ∀ (l' : Nat) (lo' : Option Int), stL (l, lo) x = (l', lo') → (sIf (wOr (wTest (wOp wrIsN (wVar 4) (wC .non))) (wTest (wOp (wrI fun i j => .bl (decide (j < i))) (wVar 5) (wVar 4)))) (sPar 2 4 (wCons (wOp wrAdd (wVar 2) (wC (.int 1))) (wCons (wVar 5) wNil))) sNext) ⟨nx, Φ, bk, nx⟩ [some (.tup (t.pre.map D.int)), some (.int l'), some (.int r), some (optD lo'), some (optD hi), some (.int x)] M2 := by
      intro l' lo' e'
      wp_walk using e_isN_opt
      cases hi with
      | none =>
        wp_walk using Option.isNone
        refine hnx _ _ ⟨l', r + 1, lo', some x, _, rfl, rfl, by rw [List.foldl_append, hL]; exact e', ?_⟩
        rw [List.foldl_append, hR]
        show stR (r, none) x = _
        unfold stR
        rw [if_pos (.inl rfl)]
      | some b =>
        wp_walk using Option.isNone, optD
        by_cases c : b < x
        · rw [decide_eq_true c]
          walk_at "vl"
          refine hnx _ _ ⟨l', r + 1, lo', some x, _, rfl, rfl, by rw [List.foldl_append, hL]; exact e', ?_⟩
          rw [List.foldl_append, hR]
          show stR (r, some b) x = _
          unfold stR
          rw [if_pos (.inr ⟨b, rfl, c⟩)]
        · rw [decide_eq_false c]
          walk_at "vl"
          refine hnx _ _ ⟨l', r, lo', some b, _, rfl, rfl, by rw [List.foldl_append, hL]; exact e', ?_⟩
          rw [List.foldl_append, hR]
          show stR (r, some b) x = _
          unfold stR
          rw [if_neg]
          rintro (e | ⟨b', e, h'⟩)
          · cases e
          · cases e; exact c h'
    wp_walk using e_eqI, e_isN_opt
    by_cases z : (l : Int) = 0
    · rw [decide_eq_true z]
      walk_at "vl"
      exact second (l + 1) (some x) (by unfold stL; rw [if_pos (.inl (by omega))])
    · rw [decide_eq_false z]
      wp_walk using e_isN_opt
      cases lo with
      | none =>
        wp_walk using Option.isNone
        refine second l none ?_
        unfold stL
        rw [if_neg]
        rintro (e | ⟨b', e, h'⟩)
        · exact z (by exact_mod_cast e)
        · cases e
      | some b =>
        wp_walk using Option.isNone, optD
        by_cases c : x < b
        · rw [decide_eq_true c]
          walk_at "vl"
          exact second (l + 1) (some x) (by unfold stL; rw [if_pos (.inr ⟨b, rfl, c⟩)])
        · rw [decide_eq_false c]
          walk_at "vl"
          refine second l none ?_
          unfold stL
          rw [if_neg]
          rintro (e | ⟨b', e, h'⟩)
          · exact z (by exact_mod_cast e)
          · cases e; exact c h'
  · rintro ρ M2 ⟨l, r, lo, hi, o5, rfl, rfl, hL, hR⟩
    walk_at "vl"
    refine ⟨(show (2 : Nat) ≤ lim by decide), ?_⟩
    have e1 := stL_whole hb
    have e2 := stR_tree (n := 0) (o := none) hb (fun b e => nomatch e)
    rw [hL] at e1
    rw [hR] at e2
    rw [Nat.zero_add] at e2
    simp only at e1 e2
    rw [← e1, ← e2] at k
    exact k
end VL

namespace Tm
/-! between two bounds -/
def loB : Option Int → Int → Bool
  | none, _ => true
  | some a, k => decide (a < k)
def hiB : Option Int → Int → Bool
  | none, _ => true
  | some b, k => decide (k < b)
def inB (lo hi : Option Int) (k : Int) : Bool := loB lo k && hiB hi k
def Lo (lo : Option Int) (k : Int) : Prop := ∀ a, lo = some a → a < k
def Hi (hi : Option Int) (k : Int) : Prop := ∀ b, hi = some b → k < b
theorem inB_iff {lo hi : Option Int} {k : Int} : inB lo hi k = true ↔ Lo lo k ∧ Hi hi k := by
  unfold inB loB hiB Lo Hi
  cases lo <;> cases hi <;> simp
theorem inB_all (k : Int) : inB none none k = true := rfl
def Tr.res (lo hi : Option Int) : Tr → Tr
  | .nil => .nil
  | .node l k r => match lo, hi with
    | none, none => .node l k r
    | some a, none => if a < k then .node (l.res (some a) none) k r else r.res (some a) none
    | none, some b => if k < b then .node l k (r.res none (some b)) else l.res none (some b)
    | some a, some b => if ¬ a < k then r.res (some a) (some b) else if ¬ k < b then l.res (some a) (some b) else .node (l.res (some a) (some b)) k (r.res (some a) (some b))
theorem filt_all {l : List Int} {p : Int → Bool} (h : ∀ x ∈ l, p x = true) : l.filter p = l := filter_true h
theorem filt_none {l : List Int} {p : Int → Bool} (h : ∀ x ∈ l, p x = false) : l.filter p = [] := filter_false h
/-- the keys between two bounds, in the shape's order, are a shape -/
theorem res_pre {lo hi : Option Int} : ∀ {t : Tr}, t.bst → t.pre.filter (inB lo hi) = (t.res lo hi).pre
  | .nil, _ => rfl
  | .node l k r, ⟨hl, hr, h1, h2⟩ => by
    have il := res_pre (lo := lo) (hi := hi) hl
    have ir := res_pre (lo := lo) (hi := hi) hr
    rw [Tr.pre, List.filter_cons, List.filter_append, il, ir]
    match lo, hi with
    | none, none =>
      rw [inB_all, if_pos rfl, ← il, ← ir, filt_all fun x _ => inB_all x, filt_all fun x _ => inB_all x]
      rfl
    | some a, none =>
      by_cases c : a < k
      · have e : inB (some a) none k = true := by simp [inB, loB, hiB, c]
        have er : r.pre.filter (inB (some a) none) = r.pre := filt_all fun x hx => by have := h2 x (has_pre.mp hx); simp [inB, loB, hiB]; omega
        rw [e, if_pos rfl, Tr.res, if_pos c, ← ir, er, Tr.pre]
      · have e : inB (some a) none k = false := by simp [inB, loB, hiB, c]
        have el : l.pre.filter (inB (some a) none) = [] := filt_none fun x hx => by have := h1 x (has_pre.mp hx); simp [inB, loB, hiB]; omega
        rw [e, Tr.res, if_neg c, ← il, el, List.nil_append]
        rfl
    | none, some b =>
      by_cases c : k < b
      · have e : inB none (some b) k = true := by simp [inB, loB, hiB, c]
        have el : l.pre.filter (inB none (some b)) = l.pre := filt_all fun x hx => by have := h1 x (has_pre.mp hx); simp [inB, loB, hiB]; omega
        rw [e, if_pos rfl, Tr.res, if_pos c, ← il, el, Tr.pre]
      · have e : inB none (some b) k = false := by simp [inB, loB, hiB, c]
        have er : r.pre.filter (inB none (some b)) = [] := filt_none fun x hx => by have := h2 x (has_pre.mp hx); simp [inB, loB, hiB]; omega
        rw [e, Tr.res, if_neg c, ← ir, er, List.append_nil]
        rfl
    | some a, some b =>
      by_cases c : a < k
      · by_cases d : k < b
        · have e : inB (some a) (some b) k = true := by simp [inB, loB, hiB, c, d]
          rw [e, if_pos rfl, Tr.res, if_neg (fun z => z c), if_neg (fun z => z d), Tr.pre]
        · have e : inB (some a) (some b) k = false := by simp [inB, loB, hiB, c, d]
          have er : r.pre.filter (inB (some a) (some b)) = [] := filt_none fun x hx => by have := h2 x (has_pre.mp hx); simp [inB, loB, hiB]; omega
          rw [e, Tr.res, if_neg (show ¬ ¬ a < k from fun z => z c), if_pos d, ← ir, er, List.append_nil]
          rfl
      · have e : inB (some a) (some b) k = false := by simp [inB, loB, hiB, c]
        have el : l.pre.filter (inB (some a) (some b)) = [] := filt_none fun x hx => by have := h1 x (has_pre.mp hx); simp [inB, loB, hiB]; omega
        rw [e, Tr.res, if_pos c, ← il, el, List.nil_append]
        rfl
theorem res_has {lo hi : Option Int} {t : Tr} (h : t.bst) {y : Int} : (t.res lo hi).has y ↔ t.has y ∧ inB lo hi y = true := by
  rw [← has_pre, ← res_pre h, List.mem_filter, has_pre]
theorem res_size {lo hi : Option Int} {t : Tr} (h : t.bst) : (t.res lo hi).size ≤ t.size := by
  rw [← len_pre, ← res_pre h, ← len_pre]; exact List.length_filter_le _ _
theorem res_bst {lo hi : Option Int} : ∀ {t : Tr}, t.bst → (t.res lo hi).bst
  | .nil, _ => trivial
  | .node l k r, ⟨hl, hr, h1, h2⟩ => by
    have il := res_bst (lo := lo) (hi := hi) hl
    have ir := res_bst (lo := lo) (hi := hi) hr
    match lo, hi with
    | none, none => exact ⟨hl, hr, h1, h2⟩
    | some a, none =>
      rw [Tr.res]
      split
      · exact ⟨il, hr, fun x hx => h1 x ((res_has hl).mp hx).1, h2⟩
      · exact ir
    | none, some b =>
      rw [Tr.res]
      split
      · exact ⟨hl, ir, h1, fun x hx => h2 x ((res_has hr).mp hx).1⟩
      · exact il
    | some a, some b =>
      rw [Tr.res]
      split
      · exact ir
      · split
        · exact il
        · exact ⟨il, ir, fun x hx => h1 x ((res_has hl).mp hx).1, fun x hx => h2 x ((res_has hr).mp hx).1⟩
theorem pre_ext {s t : Tr} (hs : s.bst) (ht : t.bst) (h : s.pre = t.pre) : s = t := pre_inj hs ht h
theorem res_all {lo hi : Option Int} {t : Tr} (h : t.bst) (ha : ∀ y, t.has y → inB lo hi y = true) : t.res lo hi = t :=
  pre_inj (res_bst h) h (by rw [← res_pre h]; exact filt_all fun x hx => ha x (has_pre.mp hx))
theorem pre_nil {t : Tr} (h : t.pre = []) : t = .nil := by cases t with | nil => rfl | node l k r => cases h
theorem res_none {lo hi : Option Int} {t : Tr} (h : t.bst) (ha : ∀ y, t.has y → inB lo hi y = false) : t.res lo hi = .nil :=
  pre_nil (by rw [← res_pre h]; exact filt_none fun x hx => ha x (has_pre.mp hx))
/-! a touch: the key on top -/
def rsd (x : Int) (ks : List Int) : List Int := x :: (ks.filter (inB none (some x)) ++ ks.filter (inB (some x) none))
def Tr.tch (x : Int) (t : Tr) : Tr := .node (t.res none (some x)) x (t.res (some x) none)
theorem tch_pre {x : Int} {t : Tr} (h : t.bst) : rsd x t.pre = (t.tch x).pre := by rw [rsd, res_pre h, res_pre h]; rfl
theorem tch_bst {x : Int} {t : Tr} (h : t.bst) : (t.tch x).bst := ⟨res_bst h, res_bst h, fun y hy => by simpa [inB, loB, hiB] using ((res_has h).mp hy).2, fun y hy => by simpa [inB, loB, hiB] using ((res_has h).mp hy).2⟩
theorem tch_has {x y : Int} {t : Tr} (h : t.bst) (hx : t.has x) : (t.tch x).has y ↔ t.has y := by
  unfold Tr.tch
  rw [Tr.has, res_has h, res_has h]
  simp only [inB, loB, hiB, Bool.true_and, Bool.and_true, decide_eq_true_eq]
  constructor
  · rintro (h | h | h)
    · exact h.1
    · exact h ▸ hx
    · exact h.1
  · intro hy
    rcases Int.lt_trichotomy y x with c | c | c
    · exact .inl ⟨hy, c⟩
    · exact .inr (.inl c)
    · exact .inr (.inr ⟨hy, c⟩)
theorem len_of_asc {s t : Tr} (hs : s.bst) (ht : t.bst) (h : ∀ y, s.has y ↔ t.has y) : s.ino = t.ino := asc_ext (ino_asc hs) (ino_asc ht) fun x => by rw [has_ino, has_ino]; exact h x
theorem tch_ino {x : Int} {t : Tr} (h : t.bst) (hx : t.has x) : (t.tch x).ino = t.ino := len_of_asc (tch_bst h) h fun y => tch_has h hx
theorem tch_size {x : Int} {t : Tr} (h : t.bst) (hx : t.has x) : (t.tch x).size = t.size := by rw [← len_ino, tch_ino h hx, len_ino]
/-! the search -/
def Tr.path (x : Int) : Tr → List Int
  | .nil => []
  | .node l k r => if x = k then [k] else k :: (if x < k then l.path x else r.path x)
theorem path_len {x : Int} : ∀ {t : Tr}, (t.path x).length ≤ t.size
  | .nil => Nat.le_refl _
  | .node l k r => by
    have h1 := path_len (x := x) (t := l)
    have h2 := path_len (x := x) (t := r)
    unfold Tr.path
    rw [Tr.size]
    split
    · rw [List.length_singleton]; omega
    · rw [List.length_cons]; split <;> omega
theorem path_pos {x : Int} {t : Tr} (h : t.has x) : 0 < (t.path x).length := by
  cases t with
  | nil => exact h.elim
  | node l k r => unfold Tr.path; split <;> simp
/-! the mirror of a piece -/
def ng : Option Int → Option Int
  | none => none
  | some a => some (-a)
theorem inB_ng (lo hi : Option Int) (x : Int) : inB (ng hi) (ng lo) x = inB lo hi (-x) := by
  cases lo <;> cases hi <;> simp [inB, loB, hiB, ng]
  · omega
  · omega
  · rw [Bool.and_comm]; congr 1 <;> (rw [Bool.eq_iff_iff]; simp; omega)
theorem ino_ext {s t : Tr} : s.mir.mir = s := mir_mir s
theorem mir_res (lo hi : Option Int) : ∀ {t : Tr}, t.bst → (t.res lo hi).mir = t.mir.res (ng hi) (ng lo)
  | .nil, _ => rfl
  | .node l k r, ⟨hl, hr, h1, h2⟩ => by
    have il := mir_res lo hi hl
    have ir := mir_res lo hi hr
    match lo, hi with
    | none, none => rfl
    | some a, none =>
      have er : r.mir.res none (some (-a)) = r.mir.res none (some (-a)) := rfl
      by_cases c : a < k
      · rw [Tr.res, if_pos c, Tr.mir, Tr.mir, il]
        show _ = (Tr.node r.mir (-k) l.mir).res none (some (-a))
        rw [Tr.res, if_pos (by omega)]
        rfl
      · rw [Tr.res, if_neg c, ir]
        show _ = (Tr.node r.mir (-k) l.mir).res none (some (-a))
        rw [Tr.res, if_neg (by omega)]
        rfl
    | none, some b =>
      by_cases c : k < b
      · rw [Tr.res, if_pos c, Tr.mir, Tr.mir, ir]
        show _ = (Tr.node r.mir (-k) l.mir).res (some (-b)) none
        rw [Tr.res, if_pos (by omega)]
        rfl
      · rw [Tr.res, if_neg c, il]
        show _ = (Tr.node r.mir (-k) l.mir).res (some (-b)) none
        rw [Tr.res, if_neg (by omega)]
        rfl
    | some a, some b =>
      show _ = (Tr.node r.mir (-k) l.mir).res (some (-b)) (some (-a))
      by_cases c : a < k
      · by_cases d : k < b
        · rw [Tr.res, if_neg (fun z => z c), if_neg (fun z => z d), Tr.res, if_neg (fun z => z (by omega)), if_neg (fun z => z (by omega)), Tr.mir, il, ir]
          rfl
        · rw [Tr.res, if_neg (fun z => z c), if_pos d, Tr.res, if_pos (by omega), il]
          rfl
      · by_cases d : k < b
        · rw [Tr.res, if_pos c, Tr.res, if_neg (fun z => z (by omega)), if_pos (by omega), ir]
          rfl
        · have e1 : ∀ y, r.has y → inB (some a) (some b) y = false := fun y hy => by have := h2 y hy; simp [inB, loB, hiB]; omega
          have e2 : ∀ y, l.mir.has y → inB (some (-b)) (some (-a)) y = false := fun y hy => by have := h1 _ (mir_has.mp hy); simp [inB, loB, hiB]; omega
          rw [Tr.res, if_pos c, Tr.res, if_pos (by omega), res_none hr e1, res_none (mir_bst hl) e2]
          rfl
theorem mir_tch {x : Int} {t : Tr} (h : t.bst) : (t.tch x).mir = t.mir.tch (-x) := by
  unfold Tr.tch
  rw [Tr.mir, mir_res _ _ h, mir_res _ _ h]
  rfl
/-! a key removed: g is what is left of t without x -/
def Rmv (x : Int) (t g : Tr) : Prop := (t.res none (some x) = .nil ∧ g = t.res (some x) none) ∨ ∃ m, (t.res none (some x)).has m ∧ (∀ y, (t.res none (some x)).has y → y ≤ m) ∧ g = .node ((t.res none (some x)).res none (some m)) m (t.res (some x) none)
theorem inB_lo {x y : Int} : inB (some x) none y = true ↔ x < y := by simp [inB, loB, hiB]
theorem inB_hi {x y : Int} : inB none (some x) y = true ↔ y < x := by simp [inB, loB, hiB]
theorem Rmv.bst {x : Int} {t g : Tr} (h : Rmv x t g) (b : t.bst) : g.bst := by
  rcases h with ⟨_, rfl⟩ | ⟨m, hm, hl, rfl⟩
  · exact res_bst b
  · have hA := res_bst (lo := none) (hi := some x) b
    refine ⟨res_bst hA, res_bst b, fun y hy => inB_hi.mp ((res_has hA).mp hy).2, fun y hy => ?_⟩
    have h1 := inB_lo.mp ((res_has b).mp hy).2
    have h2 := inB_hi.mp ((res_has b).mp hm).2
    omega
theorem Rmv.has {x : Int} {t g : Tr} (h : Rmv x t g) (b : t.bst) {y : Int} : g.has y ↔ t.has y ∧ y ≠ x := by
  rcases h with ⟨h0, rfl⟩ | ⟨m, hm, hl, rfl⟩
  · rw [res_has b, inB_lo]
    constructor
    · rintro ⟨h, c⟩; exact ⟨h, by omega⟩
    · rintro ⟨h, c⟩
      refine ⟨h, ?_⟩
      rcases Int.lt_or_le y x with d | d
      · have : (t.res none (some x)).has y := (res_has b).mpr ⟨h, inB_hi.mpr d⟩
        rw [h0] at this; exact this.elim
      · omega
  · have hA := res_bst (lo := none) (hi := some x) b
    rw [Tr.has, res_has hA, res_has b, res_has b, inB_hi, inB_hi, inB_lo]
    have hm' := (res_has b).mp hm
    have hmx := inB_hi.mp hm'.2
    constructor
    · rintro (⟨⟨h, c⟩, d⟩ | h | ⟨h, c⟩)
      · exact ⟨h, by omega⟩
      · subst h; exact ⟨hm'.1, by omega⟩
      · exact ⟨h, by omega⟩
    · rintro ⟨h, c⟩
      rcases Int.lt_or_le y x with d | d
      · have hy := hl y ((res_has b).mpr ⟨h, inB_hi.mpr d⟩)
        by_cases e : y = m
        · exact .inr (.inl e)
        · exact .inl ⟨⟨h, d⟩, by omega⟩
      · exact .inr (.inr ⟨h, by omega⟩)
theorem Rmv.right {x : Int} {t g : Tr} (h : Rmv x t g) (b : t.bst) : g.res (some x) none = t.res (some x) none := by
  have hB := res_bst (lo := some x) (hi := none) b
  have e : (t.res (some x) none).res (some x) none = t.res (some x) none := res_all hB fun y hy => ((res_has b).mp hy).2
  rcases h with ⟨_, rfl⟩ | ⟨m, hm, hl, rfl⟩
  · exact e
  · have hmx := inB_hi.mp ((res_has b).mp hm).2
    rw [Tr.res, if_neg (by omega), e]
/-- touched a second time: the greatest of the smaller keys on top, x below it to the right -/
theorem tch_twice {x m : Int} {t : Tr} (b : t.bst) (hm : (t.res none (some x)).has m) (hl : ∀ y, (t.res none (some x)).has y → y ≤ m) :
    (t.tch x).tch m = .node ((t.res none (some x)).res none (some m)) m (.node .nil x (t.res (some x) none)) := by
  have hA := res_bst (lo := none) (hi := some x) b
  have hB := res_bst (lo := some x) (hi := none) b
  have hmx := inB_hi.mp ((res_has b).mp hm).2
  have e1 : (t.tch x).res none (some m) = (t.res none (some x)).res none (some m) := by
    show (Tr.node (t.res none (some x)) x (t.res (some x) none)).res none (some m) = _
    rw [Tr.res, if_neg (by omega)]
  have e2 : (t.tch x).res (some m) none = .node .nil x (t.res (some x) none) := by
    show (Tr.node (t.res none (some x)) x (t.res (some x) none)).res (some m) none = _
    rw [Tr.res, if_pos hmx, res_none hA fun y hy => ?_]
    have := hl y hy
    cases e : inB (some m) none y with
    | false => rfl
    | true => have := inB_lo.mp e; omega
  rw [Tr.tch, e1, e2]
end Tm

namespace Tm
/-! what stands above a key -/
def Tr.anc (x : Int) (t : Tr) : List Int := (t.path x).dropLast.reverse
theorem path_root {t : Tr} {k : Int} (h : t.root = some k) : t.path k = [k] := by
  cases t with
  | nil => cases h
  | node l c r => cases h; unfold Tr.path; rw [if_pos rfl]
theorem path_ne {x : Int} {t : Tr} (h : t.has x) : t.path x ≠ [] := fun e => by have := path_pos h; rw [e] at this; cases this
/-- the way to x but its end is the way to x's parent -/
theorem path_par {x : Int} : ∀ {t : Tr} {p0 : Option Int}, t.bst → t.has x → (t.root = some x ∧ t.par x p0 = p0) ∨ ∃ p, t.par x p0 = some p ∧ t.has p ∧ (t.path x).dropLast = t.path p ∧ p ≠ x
  | .nil, _, _, h => h.elim
  | .node l k r, p0, ⟨hl, hr, h1, h2⟩, h => by
    by_cases e : x = k
    · subst e
      left
      exact ⟨rfl, by rw [Tr.par, if_pos rfl]⟩
    · right
      by_cases c : x < k
      · have hx : l.has x := by
          rcases h with h | h | h
          · exact h
          · exact absurd h e
          · have := h2 x h; omega
        rw [Tr.par, if_neg e, if_pos c]
        have ep : (Tr.node l k r).path x = k :: l.path x := by rw [Tr.path, if_neg e, if_pos c]
        rcases path_par (p0 := some k) hl hx with ⟨g1, g2⟩ | ⟨p, g1, g2, g3, g4⟩
        · refine ⟨k, g2, .inr (.inl rfl), ?_, fun z => e z.symm⟩
          rw [ep, path_root g1, Tr.path, if_pos rfl]
          rfl
        · have := h1 p g2
          refine ⟨p, g1, .inl g2, ?_, g4⟩
          rw [ep, List.dropLast_cons_of_ne_nil (path_ne hx), g3, Tr.path, if_neg (by omega), if_pos this]
      · have hx : r.has x := by
          rcases h with h | h | h
          · have := h1 x h; omega
          · exact absurd h e
          · exact h
        rw [Tr.par, if_neg e, if_neg c]
        have ep : (Tr.node l k r).path x = k :: r.path x := by rw [Tr.path, if_neg e, if_neg c]
        rcases path_par (p0 := some k) hr hx with ⟨g1, g2⟩ | ⟨p, g1, g2, g3, g4⟩
        · refine ⟨k, g2, .inr (.inl rfl), ?_, fun z => e z.symm⟩
          rw [ep, path_root g1, Tr.path, if_pos rfl]
          rfl
        · have := h2 p g2
          refine ⟨p, g1, .inr (.inr g2), ?_, g4⟩
          rw [ep, List.dropLast_cons_of_ne_nil (path_ne hx), g3, Tr.path, if_neg (by omega), if_neg (by omega)]
theorem path_last {x : Int} : ∀ {t : Tr}, t.bst → t.has x → ∃ l, t.path x = l ++ [x]
  | .nil, _, h => h.elim
  | .node l k r, ⟨hl, hr, h1, h2⟩, h => by
    by_cases e : x = k
    · subst e; exact ⟨[], by rw [Tr.path, if_pos rfl]; rfl⟩
    · by_cases c : x < k
      · have hx : l.has x := by
          rcases h with h | h | h
          · exact h
          · exact absurd h e
          · have := h2 x h; omega
        obtain ⟨m, hm⟩ := path_last hl hx
        exact ⟨k :: m, by rw [Tr.path, if_neg e, if_pos c, hm]; rfl⟩
      · have hx : r.has x := by
          rcases h with h | h | h
          · have := h1 x h; omega
          · exact absurd h e
          · exact h
        obtain ⟨m, hm⟩ := path_last hr hx
        exact ⟨k :: m, by rw [Tr.path, if_neg e, if_neg c, hm]; rfl⟩
theorem anc_root {x : Int} {t : Tr} (h : t.root = some x) : t.anc x = [] := by unfold Tr.anc; rw [path_root h]; rfl
theorem anc_par {x p : Int} {t : Tr} (b : t.bst) (h : t.has x) (hp : t.par x none = some p) : t.has p ∧ t.anc x = p :: t.anc p := by
  rcases path_par (p0 := none) b h with ⟨_, g⟩ | ⟨q, g1, g2, g3, _⟩
  · rw [hp] at g; cases g
  · rw [hp] at g1
    cases g1
    refine ⟨g2, ?_⟩
    obtain ⟨m, hm⟩ := path_last b g2
    unfold Tr.anc
    rw [g3, hm, List.dropLast_concat, List.reverse_append]
    rfl
theorem par_root {x : Int} {t : Tr} (b : t.bst) (h : t.has x) (hp : t.par x none = none) : t.anc x = [] := by
  rcases path_par (p0 := none) b h with ⟨g, _⟩ | ⟨q, g1, _⟩
  · exact anc_root g
  · rw [hp] at g1; cases g1
theorem anc_len {x : Int} {t : Tr} : (t.anc x).length = (t.path x).length - 1 := by unfold Tr.anc; rw [List.length_reverse, List.length_dropLast]
/-! orders by which the parents come first -/
def HeapOrd (d : Int → Nat) : Tr → Prop
  | .nil => True
  | .node l k r => (∀ y, l.has y → d k < d y) ∧ (∀ y, r.has y → d k < d y) ∧ HeapOrd d l ∧ HeapOrd d r
theorem heap_res {d : Int → Nat} {lo hi : Option Int} : ∀ {t : Tr}, t.bst → HeapOrd d t → HeapOrd d (t.res lo hi)
  | .nil, _, _ => trivial
  | .node l k r, ⟨hl, hr, h1, h2⟩, ⟨g1, g2, g3, g4⟩ => by
    have il := heap_res (lo := lo) (hi := hi) hl g3
    have ir := heap_res (lo := lo) (hi := hi) hr g4
    match lo, hi with
    | none, none => exact ⟨g1, g2, g3, g4⟩
    | some a, none =>
      rw [Tr.res]; split
      · exact ⟨fun y hy => g1 y ((res_has hl).mp hy).1, g2, il, g4⟩
      · exact ir
    | none, some b =>
      rw [Tr.res]; split
      · exact ⟨g1, fun y hy => g2 y ((res_has hr).mp hy).1, g3, ir⟩
      · exact il
    | some a, some b =>
      rw [Tr.res]; split
      · exact ir
      · split
        · exact il
        · exact ⟨fun y hy => g1 y ((res_has hl).mp hy).1, fun y hy => g2 y ((res_has hr).mp hy).1, il, ir⟩
theorem heap_path : ∀ {t : Tr} {d : Int → Nat} {c : Nat}, t.bst → (∀ y, t.has y → d y + 1 = c + (t.path y).length) → HeapOrd d t
  | .nil, _, _, _, _ => trivial
  | .node l k r, d, c, ⟨hl, hr, h1, h2⟩, h => by
    have hk := h k (.inr (.inl rfl))
    rw [Tr.path, if_pos rfl, List.length_singleton] at hk
    have el : ∀ y, l.has y → d y + 1 = c + 1 + (l.path y).length := fun y hy => by
      have := h y (.inl hy)
      have c1 := h1 y hy
      rw [Tr.path, if_neg (by omega), if_pos c1, List.length_cons] at this
      omega
    have er : ∀ y, r.has y → d y + 1 = c + 1 + (r.path y).length := fun y hy => by
      have := h y (.inr (.inr hy))
      have c1 := h2 y hy
      rw [Tr.path, if_neg (by omega), if_neg (by omega), List.length_cons] at this
      omega
    refine ⟨fun y hy => ?_, fun y hy => ?_, heap_path hl el, heap_path hr er⟩
    · have := el y hy; have := path_pos hy; omega
    · have := er y hy; have := path_pos hy; omega
theorem heap_anc {t : Tr} (b : t.bst) : HeapOrd (fun x => (t.anc x).length) t := heap_path (c := 0) b fun y hy => by
  have := path_pos hy
  show (t.anc y).length + 1 = _
  rw [anc_len]; omega
/-- an order of a shape's keys by which the parents come first makes that shape -/
theorem bld_heap {d : Int → Nat} : ∀ {s : Tr} {o : List Int}, s.bst → HeapOrd d s → o.Nodup → (∀ x, x ∈ o ↔ s.has x) → o.Pairwise (fun a b => d a ≤ d b) → bld o = s
  | .nil, o, _, _, _, hm, _ => by
    cases o with
    | nil => rfl
    | cons x o => exact ((hm x).mp (List.mem_cons_self ..)).elim
  | .node l k r, o, ⟨hl, hr, h1, h2⟩, ⟨g1, g2, g3, g4⟩, hn, hm, hp => by
    cases o with
    | nil => exact nomatch ((hm k).mpr (.inr (.inl rfl)))
    | cons x o =>
      rw [List.nodup_cons] at hn
      rw [List.pairwise_cons] at hp
      have ex : x = k := by
        have hk := (hm k).mpr (.inr (.inl rfl))
        rcases List.mem_cons.mp hk with e | hk
        · exact e.symm
        · have a := hp.1 k hk
          rcases (hm x).mp (List.mem_cons_self ..) with h | h | h
          · have := g1 x h; omega
          · exact h
          · have := g2 x h; omega
      subst ex
      rw [bld_cons hn.1]
      have ml : ∀ y, y ∈ o.filter (fun y => decide (y < x)) ↔ l.has y := fun y => by
        rw [List.mem_filter, decide_eq_true_eq]
        constructor
        · rintro ⟨h, c⟩
          rcases (hm y).mp (List.mem_cons_of_mem _ h) with h | h | h
          · exact h
          · omega
          · have := h2 y h; omega
        · intro h
          have c := h1 y h
          refine ⟨?_, c⟩
          rcases List.mem_cons.mp ((hm y).mpr (.inl h)) with e | e
          · omega
          · exact e
      have mr : ∀ y, y ∈ o.filter (fun y => decide (x < y)) ↔ r.has y := fun y => by
        rw [List.mem_filter, decide_eq_true_eq]
        constructor
        · rintro ⟨h, c⟩
          rcases (hm y).mp (List.mem_cons_of_mem _ h) with h | h | h
          · have := h1 y h; omega
          · omega
          · exact h
        · intro h
          have c := h2 y h
          refine ⟨?_, c⟩
          rcases List.mem_cons.mp ((hm y).mpr (.inr (.inr h))) with e | e
          · omega
          · exact e
      rw [bld_heap hl g3 (hn.2.filter _) ml (hp.2.filter _), bld_heap hr g4 (hn.2.filter _) mr (hp.2.filter _)]
end Tm

/-! max and sorted of tuples of whole numbers -/
namespace VL
variable {S₀ : W0}
open PySem PySem.Spec PyProof.Rows L2
section
variable {prog : Program} {w : World} {A : Around} {E : Value → Shared → Prop} {s : Shared}
theorem sorted_intsT {l : Addr} {vs : List Value} {ns : List Int} {Q : Value → Shared → Prop} (hl : IsTup s.heap l vs.toArray) (hI : IntsAre vs ns) (h64 : vs.length < 64)
    (h : ∀ (h' h1 : Heap) (out : Array Value) (ns' : List Int) (e : Nat), (∀ b o, s.heap.get? b = some o → h'.get? b = some o) → (∀ b o, h'.get? b = some o → h1.get? b = some o) → h1.get? h'.objs.size = some (seqObj "list" out e) → IntsAre out.toList ns' → ns'.Perm ns → ns'.Pairwise (· ≤ ·) → Q (.ref h'.objs.size) { s with heap := h1 }) :
    wpAny (model prog w) A (call (.builtin "sorted") [.ref l]) Q E s := by
  obtain ⟨o, ho, hc, n, hd⟩ := hl
  refine Calls.call_function_entry kind_sorted plain_sorted entry_sorted (args_sorted1 _) ?_; unfold Builtin.«sorted»; refine wpAny_bind (m := checkCount "sorted" 1 1 _) (wpAny_pure ?_)
  refine wpAny_bind (wpAny_collect_seq l (.inr rfl) ho hc hd (fun h' hk => ?_) (by rw [List.size_toArray]; exact Nat.le_of_lt (Nat.lt_trans h64 (by rw [sizeLine_eq]; decide))))
  rw [show vs.toArray.toList = vs from rfl]; refine wpAny_bind (wpAny_newList ?_)
  have hoL : (h'.push (seqObj "list" vs.toArray 0)).get? h'.objs.size = some (seqObj "list" vs.toArray 0) := Heap.get?_push_size _ rfl
  show wpAny _ _ _ _ _ { s with heap := h'.push (seqObj "list" vs.toArray 0) }
  refine wpAny_bind (wpAny_holding (wpAny_call_entry slot_list_sort ⟨_, hoL, rfl⟩ entry_list_sort (list_sort_tree hoL hI h64 fun out ns' a1 a2 a3 => ⟨_, rfl, wpAny_pure ⟨_, rfl, ?_⟩⟩) (args_list_sort _)))
  obtain ⟨e, he⟩ := sortedHeap_at (out := out) hoL
  refine h h' _ out ns' e hk (fun b o hb => ?_) he a1 a2 a3
  have hlt := Heap.lt_size hb
  rw [sortedHeap_old (Nat.ne_of_lt hlt) (by rw [size_push']; exact Nat.lt_succ_of_lt hlt), Heap.get?_push_ne _ _ _ (Nat.ne_of_lt hlt)]
  exact hb
theorem maxOf_ints : ∀ (xs : List Int) (x : Int), PySem.W.maxOf x xs ∈ x :: xs ∧ ∀ y ∈ x :: xs, y ≤ PySem.W.maxOf x xs
  | [], x => ⟨List.mem_cons_self .., fun y hy => by rw [List.mem_singleton.mp hy]; exact Int.le_refl _⟩
  | z :: xs, x => by
    have e : PySem.W.maxOf x (z :: xs) = PySem.W.maxOf (if x < z then z else x) xs := by
      show List.foldl _ _ xs = List.foldl _ _ xs
      congr 1
      show (if decide (x < z) = true then z else x) = _
      by_cases c : x < z <;> simp [c]
    obtain ⟨h1, h2⟩ := maxOf_ints xs (if x < z then z else x)
    rw [e]
    have h0 := h2 _ (List.mem_cons_self ..)
    refine ⟨?_, fun y hy => ?_⟩
    · rcases List.mem_cons.mp h1 with h | h
      · rw [h]
        split
        · exact List.mem_cons_of_mem _ (List.mem_cons_self ..)
        · exact List.mem_cons_self ..
      · exact List.mem_cons_of_mem _ (List.mem_cons_of_mem _ h)
    · rcases List.mem_cons.mp hy with h | h
      · rw [h]
        refine Int.le_trans ?_ h0
        split <;> omega
      · rcases List.mem_cons.mp h with h | h
        · rw [h]
          refine Int.le_trans ?_ h0
          split <;> omega
        · exact h2 y (List.mem_cons_of_mem _ h)
end
section
variable {X : Cx}
def rSeqI (K : PySem.W.Frag) (vs : List V) (H : Hp) (ns : List Int) : Prop := ∃ a, vs = [V.ref a] ∧ SqT K H a (ns.map V.int)
def rSortedTu (K : PySem.W.Frag) : List V → Hp → VK → Prop := fun vs H Q => ∃ ns, rSeqI K vs H ns ∧ ns.length < 64 ∧ ∀ (ns' : List Int) (p : Addr), ns'.Perm ns → ns'.Pairwise (· ≤ ·) → H p = none → Q (.ref p) (upd H p (.lst (ns'.map V.int)))
theorem cr_sortedTu : CallR X (.builtin "sorted") (rSortedTu X.K) := by
  intro pins s σ H vs us Q I r h
  obtain ⟨ns, ⟨a, rfl, hs⟩, h64, q⟩ := h
  obtain ⟨its, rv, hl, hz⟩ := I.tuple hs
  rw [Vals.ref1 r]
  have hi := rv.ints
  refine sorted_intsT hl hi (by rw [hi.length]; exact h64) fun h' h1 out ns' e k1 k2 he e1 e2 e3 => ?_
  have hlen : (ns'.map V.int).length ≤ sizeLine := by rw [List.length_map, e2.length_eq]; exact small64 h64
  have I1 : Inv X pins σ H { s with heap := h' } := I.kept (t' := s.toks) k1
  exact ⟨.ref _, upd H h'.objs.size (.lst (ns'.map V.int)), I1.laid (t' := s.toks) k2 (Nat.le_refl _) ⟨hlen, out.toList, e, vals_of_ints e1, he⟩, rfl, q ns' _ e2 e3 (I1.hok.fresh (Nat.le_refl _))⟩
def rMaxTu (K : PySem.W.Frag) : List V → Hp → VK → Prop := fun vs H Q => ∃ ns, rSeqI K vs H ns ∧ 0 < ns.length ∧ ∀ m, m ∈ ns → (∀ y, y ∈ ns → y ≤ m) → Q (.int m) H
theorem cr_maxTu (hc : X.calm = true) (hu : X.A.units + 1 < cLine) : CallR X (.builtin "max") (rMaxTu X.K) := by
  intro pins s σ H vs us Q I r h
  obtain ⟨ns, ⟨a, rfl, hs⟩, hne, q⟩ := h
  obtain ⟨its, rv, hl, hz⟩ := I.tuple hs
  rw [Vals.ref1 r]
  have hi := rv.ints
  cases ns with
  | nil => simp at hne
  | cons x xs =>
    refine PySem.W.max_tuple_datum (α := Int) (I.ok.hd hc) hl (x := x) (xs := xs) (PySem.W.HoldAll.of_ints hi) hu fun i v h' tk _ hv hk => ?_
    obtain ⟨as, hv⟩ := hv
    obtain ⟨h1, h2⟩ := maxOf_ints xs x
    cases hv with
    | int n t => exact ⟨.int _, H, I.kept hk, ⟨_, rfl⟩, q _ h1 h2⟩
/-- whole numbers of a list or a tuple -/
def intsA (M : Mem) (ds : List D) : Option (List Int) := ((one ds).bind (seqM M)).bind intsD
theorem intsA_some {K : PySem.W.Frag} {Hf : Hp} {M : Mem} {H : Hp} (W : Wd K S₀ Hf M H) {ds : List D} {ns : List Int} {vs : List V} (i : IsDs K Hf ds vs) (h : intsA M ds = some ns) : ∃ a, vs = [.ref a] ∧ (SqL K H a (ns.map V.int) ∨ SqT K H a (ns.map V.int)) := by
  unfold intsA at h
  cases e : one ds with
  | none => rw [e] at h; cases h
  | some x =>
    rw [e] at h
    cases e2 : seqM M x with
    | none => simp [e2] at h
    | some es =>
      simp [e2] at h
      obtain ⟨v, rfl, i1⟩ := one_some i e
      obtain ⟨a, xs, rfl, h1, h2⟩ := seqM_some W i1 e2
      rw [intsD_eq h] at h2
      rw [h2.ints] at h1
      exact ⟨a, rfl, h1⟩
def wrMaxA : WC := fun ds M Φ => match intsA M ds with | some ns => 0 < ns.length ∧ ∀ m, m ∈ ns → (∀ y, y ∈ ns → y ≤ m) → Φ (.int m) M | none => False
theorem lk_maxA {K : PySem.W.Frag} : LkC K (fun vs H Q => rMax K vs H Q ∨ rMaxTu K vs H Q) wrMaxA := by
  intro S₀ Hf M H ds vs Φ Q W i h k
  unfold wrMaxA at h
  split at h
  · rename_i ns e
    obtain ⟨a, rfl, h1 | h1⟩ := intsA_some W i e
    · exact .inl ⟨a, ns, rfl, h1, h.1, fun m q1 q2 => k.go W (h.2 m q1 q2) (isD_int.mpr rfl)⟩
    · exact .inr ⟨ns, ⟨a, rfl, h1⟩, h.1, fun m q1 q2 => k.go W (h.2 m q1 q2) (isD_int.mpr rfl)⟩
  · exact h.elim
def wrSortedA : WC := fun ds M Φ => match intsA M ds with | some ns => ns.length < 64 ∧ ∀ ns' : List Int, ns'.Perm ns → ns'.Pairwise (· ≤ ·) → Φ (.lst (ns'.map D.int)) M | none => False
theorem lk_sortedA {K : PySem.W.Frag} : LkC K (fun vs H Q => rSorted K vs H Q ∨ rSortedTu K vs H Q) wrSortedA := by
  intro S₀ Hf M H ds vs Φ Q W i h k
  unfold wrSortedA at h
  split at h
  · rename_i ns e
    obtain ⟨a, rfl, h1 | h1⟩ := intsA_some W i e
    · refine .inl ⟨a, ns, rfl, h1, h.1, fun ns' p q1 q2 hp => ?_⟩
      obtain ⟨w, s, i⟩ := W.newLst hp (IsDs.of_ints ns')
      exact k _ _ _ _ _ (h.2 ns' q1 q2) w s i
    · refine .inr ⟨ns, ⟨a, rfl, h1⟩, h.1, fun ns' p q1 q2 hp => ?_⟩
      obtain ⟨w, s, i⟩ := W.newLst hp (IsDs.of_ints ns')
      exact k _ _ _ _ _ (h.2 ns' q1 q2) w s i
  · exact h.elim
variable {e : Expr} {wa : WA} {p pos : Pos}
theorem ve_maxA (hc : X.calm = true) (hu : X.A.units + 1 < cLine) (hg : Gl X "max") (hm : X.mg "max" = none) (ha : VA X S₀ [e] wa) (he : starEach [e] X.env = (false, eval e X.env) :: starEach [] X.env := by rfl) : VE X S₀ (.Call (.Name "max" p) [e] [] pos) (wCB wrMaxA wa) :=
  ve_callB (CallR.or (cr_max hc) (cr_maxTu hc hu)) lk_maxA hg hm (by decide +kernel) ha (he := he)
theorem ve_sortedA (hg : Gl X "sorted") (hm : X.mg "sorted" = none) (ha : VA X S₀ [e] wa) (he : starEach [e] X.env = (false, eval e X.env) :: starEach [] X.env := by rfl) : VE X S₀ (.Call (.Name "sorted" p) [e] [] pos) (wCB wrSortedA wa) :=
  ve_callB (CallR.or cr_sorted cr_sortedTu) lk_sortedA hg hm (by decide +kernel) ha (he := he)
variable {M : Mem} {Φ : KD} {ns : List Int} {a : Addr}
theorem e_maxAL : wrMaxA [.lst (ns.map D.int)] M Φ = (0 < ns.length ∧ ∀ m, m ∈ ns → (∀ y, y ∈ ns → y ≤ m) → Φ (.int m) M) := by simp only [wrMaxA, intsA, one, Option.bind, seqM, intsD_map]
theorem e_maxAT : wrMaxA [.tup (ns.map D.int)] M Φ = (0 < ns.length ∧ ∀ m, m ∈ ns → (∀ y, y ∈ ns → y ≤ m) → Φ (.int m) M) := by simp only [wrMaxA, intsA, one, Option.bind, seqM, intsD_map]
theorem e_sortedAL : wrSortedA [.lst (ns.map D.int)] M Φ = (ns.length < 64 ∧ ∀ ns' : List Int, ns'.Perm ns → ns'.Pairwise (· ≤ ·) → Φ (.lst (ns'.map D.int)) M) := by simp only [wrSortedA, intsA, one, Option.bind, seqM, intsD_map]
theorem e_sortedAT : wrSortedA [.tup (ns.map D.int)] M Φ = (ns.length < 64 ∧ ∀ ns' : List Int, ns'.Perm ns → ns'.Pairwise (· ≤ ·) → Φ (.lst (ns'.map D.int)) M) := by simp only [wrSortedA, intsA, one, Option.bind, seqM, intsD_map]
end
section
variable {X : Cx} {k : Nat} {f : Addr} {fd : FuncData} {ps : List Str} {Wf : W3} {x : Str} {p pos : Pos} {e : Expr} {es : List Expr} {wa : WA}
theorem ve_callN {n m : Nat} {ks : List Str} {kws : List Keyword} {wk : WA} {g : List Value → List Value → List Value} {gV : List V → List V → List V} {gD : List D → List D → List D} (F : FnOk X.prog X.w X.K X.mg X.base CX0 k f fd ps (spW X.K Wf)) (hr : Room k X.A) (hg : Gl X x) (hm : X.mg x = some (.ref f)) (hk : PySem.W.keepIn X.K (.ref f) = true)
    (hb : KBn X.K fd ps n ks g gV) (hgD : ∀ Hf ds zs vs us, IsDs X.K Hf ds vs → IsDs X.K Hf zs us → IsDs X.K Hf (gD ds zs) (gV vs us)) (ha : VA X S₀ (e :: es) wa) (hkw : VKw X S₀ kws wk) (hm2 : ks.length = m := by rfl) (hall : (backToKw pos (keywordEach kws X.env)).all (·.1.isSome) = true := by rfl) (hks : (backToKw pos (keywordEach kws X.env)).filterMap (·.1) = ks := by rfl)
    (hdb : (x == ("__debug__" : Str)) = false := by decide) (he : starEach (e :: es) X.env = (false, eval e X.env) :: starEach es X.env := by rfl)
    (hpl : ((backTo pos (starEach (e :: es) X.env)).any (·.1) || (backToKw pos (keywordEach kws X.env)).any (·.1.isNone)) = false := by rfl) :
    VE X S₀ (.Call (.Name x p) (e :: es) kws pos) (wCallK n m Wf gD wa wk) := by
  subst hm2
  exact ve_callK F hr hg hm hk hb hgD ha hkw hall hks hdb he hpl
end
end VL

/-! sorted of pairs of whole numbers; calls with keywords alone -/
namespace VL
variable {S₀ : W0}
open PySem PySem.Spec PyProof.Rows L2
def lexLe (p q : Int × Int) : Prop := p.1 < q.1 ∨ p.1 = q.1 ∧ p.2 ≤ q.2
def PrAt (K : PySem.W.Frag) (H : Hp) (x : V) (p : Int × Int) : Prop := ∃ t, x = .ref t ∧ SqT K H t [.int p.1, .int p.2]
def rSortedQ (K : PySem.W.Frag) : List V → Hp → VK → Prop := fun vs H Q => ∃ (a : Addr) (zs : List (V × (Int × Int))), vs = [V.ref a] ∧ SqL K H a (zs.map (·.1)) ∧ (∀ z ∈ zs, PrAt K H z.1 z.2) ∧
  ∀ (ys : List (V × (Int × Int))) p, ys.Perm zs → (ys.map (·.2)).Pairwise lexLe → H p = none → Q (.ref p) (upd H p (.lst (ys.map (·.1))))
section
variable {X : Cx}
open Classical in
noncomputable def kOf (K : PySem.W.Frag) (H : Hp) (x : V) : Int × Int := if h : ∃ p, PrAt K H x p then h.choose else (0, 0)
theorem cr_sortedQ : CallR X (.builtin "sorted") (rSortedQ X.K) := by
  intro pins s σ H vs us Q I r h
  obtain ⟨a, zs, rfl, hs, hx, q⟩ := h
  obtain ⟨its, rv, hl, hz⟩ := I.list hs
  obtain ⟨u, rfl, ru⟩ := vals1 r; obtain rfl : u = Value.ref a := ru
  have hk : ∀ z ∈ zs, kOf X.K H z.1 = z.2 := fun z hz => by
    have hp : ∃ p, PrAt X.K H z.1 p := ⟨_, hx z hz⟩
    unfold kOf
    rw [dif_pos hp]
    obtain ⟨t, e1, h1⟩ := hp.choose_spec
    obtain ⟨t', e2, h2⟩ := hx z hz
    rw [e1] at e2
    cases e2
    have := I.tuple_inj h1 h2
    simp at this
    exact Prod.ext this.1 this.2
  have hzs : zs.map (fun z => (z.1, kOf X.K H z.1)) = zs := by
    have : ∀ z ∈ zs, (fun z : V × (Int × Int) => (z.1, kOf X.K H z.1)) z = id z := fun z hz => by
      show (z.1, kOf X.K H z.1) = z
      rw [hk z hz]
    rw [List.map_congr_left this, List.map_id]
  have hall : ∀ x ∈ zs.map (·.1), ∃ t, x = V.ref t ∧ SqT X.K H t [.int (kOf X.K H x).1, .int (kOf X.K H x).2] := fun x hm => by
    obtain ⟨z, hz, rfl⟩ := List.mem_map.mp hm
    obtain ⟨t, e, ht⟩ := hx z hz
    exact ⟨t, e, by rw [hk z hz]; exact ht⟩
  obtain ⟨e1, e2⟩ := refs_back rv fun x m => (hall x m).imp fun t h => h.1
  refine SrtO.sorted_pairsO (k := fun u => kOf X.K H (backV u)) hl.isList (by rw [← rv.length]; exact hz) (fun v hv => ?_) fun h' d out h1 h2 kp hd hn => ?_
  · obtain ⟨t, rfl⟩ := e2 v hv
    obtain ⟨t', e, ht⟩ := hall (V.ref t) (by rw [e1]; exact List.mem_map.mpr ⟨_, hv, rfl⟩)
    cases e
    obtain ⟨its2, r2, ⟨o, ho, hc, n, hd⟩, _⟩ := I.tuple ht
    obtain ⟨u1, u2, rfl, ⟨t1, rfl⟩, ⟨t2, rfl⟩⟩ := vals2 r2
    exact ⟨t, o, t1, t2, n, rfl, ho, hc, hd⟩
  · have h3 : ∀ u ∈ out, ∃ a, u = Value.ref a := fun u hu => e2 u (h2.perm.mem_iff.mp hu)
    obtain ⟨n, hn⟩ := hn
    have hb : SrtO.Stb (ltP (kOf X.K H)) (out.map backV) (zs.map (·.1)) := by rw [e1]; exact SrtO.Stb.map (ltP_swo (kOf X.K H)) backV h2
    have hsr : SrtO.Srtd (ltP (kOf X.K H)) (out.map backV) := SrtO.srtd_map h1
    have hp : ((out.map backV).map fun x => (x, kOf X.K H x)).Perm zs := by
      have := hb.perm.map fun x => (x, kOf X.K H x)
      have e : (zs.map (·.1)).map (fun x => (x, kOf X.K H x)) = zs := (List.map_map ..).trans hzs
      rw [e] at this
      exact this
    have ef : ((out.map backV).map fun x => (x, kOf X.K H x)).map (·.1) = out.map backV := by rw [List.map_map]; exact (List.map_congr_left fun _ _ => rfl).trans (List.map_id _)
    refine ⟨.ref d, upd H d (.lst (out.map backV)), I.laid (t' := s.toks) kp hd ⟨?_, out, n, vals_back h3, hn⟩, rfl, ?_⟩
    · rw [hb.len]; exact hz
    · have := q _ d hp ?_ (I.hok.fresh hd)
      · rw [ef] at this; exact this
      · rw [List.map_map, List.pairwise_map]
        refine List.Pairwise.imp (fun {x y} h => ?_) hsr
        have := SrtO.lexB_no.mp h
        unfold lexLe
        show (kOf X.K H x).1 < (kOf X.K H y).1 ∨ (kOf X.K H x).1 = (kOf X.K H y).1 ∧ (kOf X.K H x).2 ≤ (kOf X.K H y).2
        omega
end
def prD (p : Int × Int) : D := .tup [.int p.1, .int p.2]
def prsD : List D → Option (List (Int × Int))
  | [] => some []
  | .tup [.int i, .int j] :: r => (prsD r).map ((i, j) :: ·)
  | _ => none
theorem prsD_map : ∀ ps : List (Int × Int), prsD (ps.map prD) = some ps
  | [] => rfl
  | (i, j) :: ps => by
    show (prsD (ps.map prD)).map _ = _
    rw [prsD_map ps]; rfl
theorem prsD_eq : ∀ {ds : List D} {ps : List (Int × Int)}, prsD ds = some ps → ds = ps.map prD
  | [], ps, h => by cases h; rfl
  | d :: r, ps, h => by
    unfold prsD at h
    split at h
    · contradiction
    · rename_i i j r' e
      cases e
      cases e2 : prsD r with
      | none => rw [e2] at h; cases h
      | some qs => rw [e2] at h; cases h; rw [prsD_eq e2]; rfl
    · cases h
def wrSortedQ : WC := fun ds M Φ => match (lst1 M ds).bind prsD with | some ps => ∀ qs : List (Int × Int), qs.Perm ps → qs.Pairwise lexLe → Φ (.lst (qs.map prD)) M | none => False
theorem zip_of {K : PySem.W.Frag} {Hf : Hp} : ∀ {ps : List (Int × Int)} {xs : List V}, IsDs K Hf (ps.map prD) xs → ∃ zs : List (V × (Int × Int)), zs.map (·.1) = xs ∧ zs.map (·.2) = ps ∧ ∀ z ∈ zs, IsD K Hf (prD z.2) z.1
  | [], xs, h => ⟨[], (isDs_nil_inv h).symm, rfl, fun _ hz => nomatch hz⟩
  | p :: ps, xs, h => by
    obtain ⟨v, r, rfl, h1, h2⟩ := isDs_cons_inv h
    obtain ⟨zs, e1, e2, e3⟩ := zip_of h2
    refine ⟨(v, p) :: zs, by rw [List.map_cons, e1], by rw [List.map_cons, e2], fun z hz => ?_⟩
    rcases List.mem_cons.mp hz with e | hz
    · subst e; exact h1
    · exact e3 z hz
theorem isDs_of {K : PySem.W.Frag} {Hf : Hp} : ∀ {zs : List (V × (Int × Int))}, (∀ z ∈ zs, IsD K Hf (prD z.2) z.1) → IsDs K Hf ((zs.map (·.2)).map prD) (zs.map (·.1))
  | [], _ => isDs_nil
  | z :: zs, h => isDs_cons (h z (List.mem_cons_self ..)) (isDs_of fun y hy => h y (List.mem_cons_of_mem _ hy))
theorem lk_sortedQ {K : PySem.W.Frag} : LkC K (rSortedQ K) wrSortedQ := by
  intro S₀ Hf M H ds vs Φ Q W i h k
  unfold wrSortedQ at h
  split at h
  · rename_i ps e
    cases e1 : lst1 M ds with
    | none => rw [e1] at e; cases e
    | some es =>
      rw [e1] at e
      have e : prsD es = some ps := e
      obtain ⟨a, xs, rfl, h1, h2⟩ := lst1_some W i e1
      rw [prsD_eq e] at h2
      obtain ⟨zs, rfl, rfl, h3⟩ := zip_of h2
      refine ⟨a, zs, rfl, h1, fun z hz => ?_, fun ys p hp hs hn => ?_⟩
      · obtain ⟨t, us, e1, h4, h5⟩ := isD_tup.mp (h3 z hz)
        obtain ⟨v1, r1, rfl, g1, h6⟩ := isDs_cons_inv h5
        obtain ⟨v2, r2, rfl, g2, h7⟩ := isDs_cons_inv h6
        rw [isDs_nil_inv h7, isD_int.mp g1, isD_int.mp g2] at h4
        exact ⟨t, e1, ex_t W.fro h4.sq⟩
      · obtain ⟨w, s, i⟩ := W.newLst hn (isDs_of (zs := ys) fun z hz => h3 z (hp.mem_iff.mp hz))
        exact k _ _ _ _ _ (h (ys.map (·.2)) (hp.map _) hs) w s i
  · exact h.elim
section
variable {X : Cx} {e : Expr} {wa : WA} {p pos : Pos}
theorem ve_sortedP (hg : Gl X "sorted") (hm : X.mg "sorted" = none) (ha : VA X S₀ [e] wa) (he : starEach [e] X.env = (false, eval e X.env) :: starEach [] X.env := by rfl) : VE X S₀ (.Call (.Name "sorted" p) [e] [] pos) (wCB wrSortedQ wa) :=
  ve_callB cr_sortedQ lk_sortedQ hg hm (by decide +kernel) ha (he := he)
theorem e_sortedQ {M : Mem} {Φ : KD} {ps : List (Int × Int)} : wrSortedQ [.lst (ps.map prD)] M Φ = ∀ qs : List (Int × Int), qs.Perm ps → qs.Pairwise lexLe → Φ (.lst (qs.map prD)) M := by simp only [wrSortedQ, lst1, one, Option.bind, lstF, prsD_map]
end
section
variable {X : Cx} {k : Nat} {f : Addr} {fd : FuncData} {ps : List Str} {Wf : W3} {x : Str} {p pos : Pos}
/-- f(k = v, ..), keywords alone -/
theorem ve_callN0 {m : Nat} {ks : List Str} {kws : List Keyword} {wk : WA} {g : List Value → List Value → List Value} {gV : List V → List V → List V} {gD : List D → List D → List D} (F : FnOk X.prog X.w X.K X.mg X.base CX0 k f fd ps (spW X.K Wf)) (hr : Room k X.A) (hg : Gl X x) (hm : X.mg x = some (.ref f)) (hk : PySem.W.keepIn X.K (.ref f) = true)
    (hb : KBn X.K fd ps 0 ks g gV) (hgD : ∀ Hf ds zs vs us, IsDs X.K Hf ds vs → IsDs X.K Hf zs us → IsDs X.K Hf (gD ds zs) (gV vs us)) (hkw : VKw X S₀ kws wk) (hm2 : ks.length = m := by rfl) (hall : (backToKw pos (keywordEach kws X.env)).all (·.1.isSome) = true := by rfl) (hks : (backToKw pos (keywordEach kws X.env)).filterMap (·.1) = ks := by rfl)
    (hdb : (x == ("__debug__" : Str)) = false := by decide) (hpl : ((backTo pos (starEach [] X.env)).any (·.1) || (backToKw pos (keywordEach kws X.env)).any (·.1.isNone)) = false := by rfl) :
    VE X S₀ (.Call (.Name x p) [] kws pos) (wCallK 0 m Wf gD wNil wk) := by
  subst hm2
  refine ⟨fun pins s σ H Q I ⟨Hf, ρ, M, Φ, W, e, h, kn⟩ => wpAny_Call_Name_kw (ld_glob I hg hm (PySem.W.callWith_KW0 (h₀ := X.base) I.ok.mod.kin hk hall ?_ hpl) hdb)⟩
  have hq : liftA X.K S₀ wk σ H fun zs H2 => zs.length = ks.length ∧ spW X.K Wf (gV [] zs) H2 Q (fun _ _ _ => False) := by
    refine ⟨Hf, ρ, M, _, W, e, h, fun zz M2 us Hf2 H2 h2 W2 s2 i2 => ?_⟩
    exact ⟨by rw [← i2.len]; exact h2.1.2, Hf2, M2, _, Φ, W2.toWr, hgD _ _ _ _ _ isDs_nil i2, h2.2, (kn.at s2).raw W2⟩
  refine thn (hkw.run pos pins s σ H _ I hq) fun ws s2 ⟨zs, H2, I2, rz, l2, q2⟩ => ⟨I2.kIn, ?_⟩
  rw [hks]; exact run_fnN (us := []) (vs := []) F hr hb pass0 I2 .nil rz rfl l2 q2
end
end VL

/-! what stands above a key, by the law's own tree -/
namespace VL
open PySem PySem.Spec PyProof.Rows L2 Tm
/-- a dict, locked or not -/
theorem dk_kept {M M' : Mem} {a : Addr} {kvs : List (Key × D)} (h : dkM M (.ref a) = some kvs) (k : Kept M M') : dkM M' (.ref a) = some kvs := by
  simp only [dkM] at h ⊢
  cases e : M a with
  | none => rw [e] at h; cases h
  | some o => rw [e] at h; rw [k _ _ e]; exact h
theorem dk_seq {M : Mem} {a : Addr} {kvs : List (Key × D)} (h : dkM M (.ref a) = some kvs) : seqM M (.ref a) = none := by
  simp only [dkM] at h
  simp only [seqM]
  cases e : M a with
  | none => rfl
  | some o => rw [e] at h; cases o <;> first | rfl | cases h
theorem e_inK {M : Mem} {Φ : KD} {a : Addr} {kvs : List (Key × D)} {n : Int} (h : dkM M (.ref a) = some kvs) : wrIn false (.int n) (.ref a) M Φ = Φ (.bl (look kvs (.inl n)).isSome) M := by simp only [wrIn, dk_seq h, h, keyD, Bool.false_eq_true, if_false]
theorem e_ixK {M : Mem} {Φ : KD} {a : Addr} {kvs : List (Key × D)} {n : Int} (h : dkM M (.ref a) = some kvs) : wrIx (.ref a) (.int n) M Φ = match look kvs (.inl n) with | some d => Φ d M | none => False := by simp only [wrIx, dk_seq h, h, keyD]; try rfl
/-- the law's own tree, what stands above what; that dict may be locked -/
structure UpTree (M : Mem) (A : TA) (t : Tr) : Prop where
  m : M A.m = some (.dK (rowD (optD t.root) A))
  u : ∃ ps, dkM M (.ref A.u) = some (ikv ps) ∧ Im ps (fun x => t.par x none) ∧ ps.length ≤ t.size
theorem UpTree.kept {M M' : Mem} {A : TA} {t : Tr} (h : UpTree M A t) (k : Kept M M') : UpTree M' A t := ⟨k _ _ h.m, by obtain ⟨ps, h1, h2⟩ := h.u; exact ⟨ps, dk_kept h1 k, h2⟩⟩
theorem TreeAt.up {M : Mem} {A : TA} {t : Tr} (h : TreeAt M A t) : UpTree M A t := ⟨h.m, by obtain ⟨ps, h1, h2⟩ := h.u; exact ⟨ps, by simp only [dkM, h1], h2⟩⟩
instance {M : Mem} {A : TA} {t : Tr} : Coe (TreeAt M A t) (UpTree M A t) := ⟨TreeAt.up⟩
def W_l_above : W3 := fun ds M Φ => ∃ A t x, ds = [.ref (TA.m A), .int x] ∧ UpTree M A t ∧ (t.bst ∧ t.has x ∧ t.size ≤ 1000) ∧ ∀ M', Kept M M' → Φ (.lst ((t.anc x).map D.int)) M'
def w_l_above : WS := (sSeq (sAsg (wLstM wNil) (wgName 2))
  (sSeq (sWhile (wTest (wOp (wrIn false) (wVar 1) (wOp wrIx (wVar 0) (wC (.str "up"))))) (sSeq (sAsg (wOp wrIx (wOp wrIx (wVar 0) (wC (.str "up"))) (wVar 1)) (wgName 1))
  (sDrop (wBM wrAppend (wVar 2) (wCons (wVar 1) wNil)))))
  (sRetF (wVar 2))))
theorem r_l_above : ∀ ds M Φ, W_l_above ds M Φ → w_l_above (endsD Φ) (startD 3 ds) M := by
  intro ds M Φ ⟨A, t, x, eds, T, ⟨hb, hx, hz⟩, k⟩
  subst eds
  unfold w_l_above
  rw [start_2]
  walk_at "vl"
  refine ⟨(show (0 : Nat) ≤ lim by decide), fun p hp => ?_⟩
  refine ⟨fun m ρ M2 => ∃ (c : Int) (acc : List Int), ρ = [some (.ref A.m), some (.int c), some (.ref p)] ∧ M2 p = some (.lst (acc.map D.int)) ∧ t.has c ∧ acc ++ t.anc c = t.anc x ∧ Kept M M2 ∧ m = (t.anc c).length,
    ⟨_, x, [], rfl, put_same, hx, rfl, (Kept.refl M).new hp _, rfl⟩, ?_⟩
  rintro m ρ M2 ⟨c, acc, rfl, hM, hc, ha, hk, rfl⟩
  have T2 := T.kept hk
  obtain ⟨pu, u1, u2, u3⟩ := T2.u
  have hlen := congrArg List.length ha
  rw [List.length_append] at hlen
  have hpl : (t.anc x).length ≤ 1000 := by rw [anc_len]; have := path_len (x := x) (t := t); omega
  wp_walk using e_tUp T2.m, e_inK u1, look_ikv
  have hu := u2.get c
  cases hp1 : t.par c none with
  | none =>
    rw [hu, hp1]
    wp_walk using Option.map, Option.isSome, e_fz hM
    rw [par_root hb hc hp1, List.append_nil] at ha
    rw [ha]
    exact k _ (hk.gone hp)
  | some q =>
    rw [hu, hp1]
    obtain ⟨g1, g2⟩ := anc_par hb hc hp1
    rw [g2, List.length_cons] at hlen
    wp_walk using Option.map, Option.isSome, e_tUp T2.m, e_ixK u1, look_ikv, hu, hp1, e_bm1 hM, e_append hM
    refine ⟨by rw [List.length_map]; unfold lim; omega, ?_⟩
    refine ⟨(t.anc q).length, by rw [g2, List.length_cons]; omega, q, acc ++ [q], rfl, by rw [put_same, List.map_append]; rfl, g1, ?_, hk.new hp _, rfl⟩
    rw [← ha, g2, List.append_assoc]
    rfl
end VL

namespace Tm
/-! the first key between two bounds -/
def fi (lo hi : Option Int) (l : List Int) : Option Int := (l.filter (inB lo hi)).head?
theorem fi_cons (lo hi : Option Int) (x : Int) (l : List Int) : fi lo hi (x :: l) = if inB lo hi x = true then some x else fi lo hi l := by
  unfold fi
  rw [List.filter_cons]
  split <;> rfl
theorem fi_rsd {lo hi : Option Int} {x : Int} {ks : List Int} : fi lo hi (rsd x ks) = if inB lo hi x = true then some x else fi lo hi ks := by
  unfold rsd
  rw [fi_cons]
  split
  · rfl
  · rename_i h
    have h : inB lo hi x = false := by cases e : inB lo hi x with | false => rfl | true => exact absurd e h
    have hn : ¬ (Lo lo x ∧ Hi hi x) := fun z => by rw [inB_iff.mpr z] at h; cases h
    unfold fi
    rw [List.filter_append, List.filter_filter, List.filter_filter]
    by_cases c : Lo lo x
    · have d : ¬ Hi hi x := fun z => hn ⟨c, z⟩
      have e1 : ∀ y, (inB lo hi y && inB none (some x) y) = inB lo hi y := fun y => by
        cases e : inB lo hi y with
        | false => rfl
        | true =>
          have hy := (inB_iff.mp e).2
          rw [Bool.true_and]
          refine inB_hi.mpr ?_
          cases hi with
          | none => exact absurd (fun b hb => nomatch hb) d
          | some b =>
            have := hy b rfl
            have : ¬ x < b := fun z => d fun b' hb => by cases hb; exact z
            omega
      have e2 : ks.filter (fun y => inB lo hi y && inB (some x) none y) = [] := filt_none fun y _ => by
        rw [← e1 y]
        cases e : inB none (some x) y with
        | false => simp
        | true =>
          have := inB_hi.mp e
          have : inB (some x) none y = false := by
            cases e' : inB (some x) none y with
            | false => rfl
            | true => have := inB_lo.mp e'; omega
          rw [this]; simp
      rw [e2, List.append_nil, List.filter_congr fun y _ => e1 y]
    · have e1 : ∀ y, (inB lo hi y && inB (some x) none y) = inB lo hi y := fun y => by
        cases e : inB lo hi y with
        | false => rfl
        | true =>
          have hy := (inB_iff.mp e).1
          rw [Bool.true_and]
          refine inB_lo.mpr ?_
          cases lo with
          | none => exact absurd (fun b hb => nomatch hb) c
          | some b =>
            have := hy b rfl
            have : ¬ b < x := fun z => c fun b' hb => by cases hb; exact z
            omega
      have e2 : ks.filter (fun y => inB lo hi y && inB none (some x) y) = [] := filt_none fun y _ => by
        rw [← e1 y]
        cases e : inB (some x) none y with
        | false => simp
        | true =>
          have := inB_lo.mp e
          have : inB none (some x) y = false := by
            cases e' : inB none (some x) y with
            | false => rfl
            | true => have := inB_hi.mp e'; omega
          rw [this]; simp
      rw [e2, List.nil_append, List.filter_congr fun y _ => e1 y]
/-- both bounds -/
def loMax : Option Int → Option Int → Option Int
  | none, b => b
  | a, none => a
  | some a, some b => some (if a < b then b else a)
def hiMin : Option Int → Option Int → Option Int
  | none, b => b
  | a, none => a
  | some a, some b => some (if a < b then a else b)
theorem inB_both (lo hi lo' hi' : Option Int) (y : Int) : (inB lo hi y && inB lo' hi' y) = inB (loMax lo lo') (hiMin hi hi') y := by
  rw [Bool.eq_iff_iff, Bool.and_eq_true, inB_iff, inB_iff, inB_iff]
  unfold Lo Hi loMax hiMin
  constructor
  · rintro ⟨⟨a, b⟩, c, d⟩
    refine ⟨?_, ?_⟩
    · cases lo <;> cases lo' <;> intro z hz <;> simp at hz a c ⊢ <;> (try subst hz) <;> (try split) <;> omega
    · cases hi <;> cases hi' <;> intro z hz <;> simp at hz b d ⊢ <;> (try subst hz) <;> (try split) <;> omega
  · rintro ⟨a, b⟩
    refine ⟨⟨?_, ?_⟩, ?_, ?_⟩
    · intro z hz; subst hz; cases lo' with
      | none => exact a z rfl
      | some w => have := a _ rfl; split at this <;> omega
    · intro z hz; subst hz; cases hi' with
      | none => exact b z rfl
      | some w => have := b _ rfl; split at this <;> omega
    · intro z hz; subst hz; cases lo with
      | none => exact a z rfl
      | some w => have := a _ rfl; split at this <;> omega
    · intro z hz; subst hz; cases hi with
      | none => exact b z rfl
      | some w => have := b _ rfl; split at this <;> omega
theorem fi_filter (lo hi lo' hi' : Option Int) (l : List Int) : fi lo hi (l.filter (inB lo' hi')) = fi (loMax lo lo') (hiMin hi hi') l := by
  unfold fi
  rw [List.filter_filter, List.filter_congr fun y _ => inB_both lo hi lo' hi' y]
theorem fi_all (l : List Int) : fi none none l = l.head? := by unfold fi; rw [filt_all fun x _ => inB_all x]
/-- a shape is known by its firsts -/
theorem fi_ext : ∀ (n : Nat) {s t : Tr}, s.size ≤ n → s.bst → t.bst → (∀ lo hi, fi lo hi s.pre = fi lo hi t.pre) → s = t
  | n, .nil, t, _, _, _, h => by
    have := h none none
    rw [fi_all, fi_all] at this
    cases t with
    | nil => rfl
    | node l k r => cases this
  | 0, .node l k r, _, hz, _, _, _ => by rw [Tr.size] at hz; omega
  | n + 1, .node l k r, t, hz, hs, ht, h => by
    have h0 := h none none
    rw [fi_all, fi_all] at h0
    cases t with
    | nil => cases h0
    | node l' k' r' =>
      have : k = k' := by simpa [Tr.pre] using h0
      subst this
      rw [Tr.size] at hz
      have el : l.pre = (Tr.node l k r).pre.filter (inB none (some k)) := by
        rw [res_pre hs, Tr.res, if_neg (Int.lt_irrefl k), res_all hs.1 fun y hy => inB_hi.mpr (hs.2.2.1 y hy)]
      have el' : l'.pre = (Tr.node l' k r').pre.filter (inB none (some k)) := by
        rw [res_pre ht, Tr.res, if_neg (Int.lt_irrefl k), res_all ht.1 fun y hy => inB_hi.mpr (ht.2.2.1 y hy)]
      have er : r.pre = (Tr.node l k r).pre.filter (inB (some k) none) := by
        rw [res_pre hs, Tr.res, if_neg (Int.lt_irrefl k), res_all hs.2.1 fun y hy => inB_lo.mpr (hs.2.2.2 y hy)]
      have er' : r'.pre = (Tr.node l' k r').pre.filter (inB (some k) none) := by
        rw [res_pre ht, Tr.res, if_neg (Int.lt_irrefl k), res_all ht.2.1 fun y hy => inB_lo.mpr (ht.2.2.2 y hy)]
      rw [fi_ext n (s := l) (t := l') (by omega) hs.1 ht.1 fun lo hi => by rw [el, el', fi_filter, fi_filter, h],
        fi_ext n (s := r) (t := r') (by omega) hs.2.1 ht.2.1 fun lo hi => by rw [er, er', fi_filter, fi_filter, h]]
end Tm
namespace Tm
theorem fi_mem {lo hi : Option Int} {l : List Int} {x : Int} (h : fi lo hi l = some x) : x ∈ l ∧ inB lo hi x = true := List.mem_filter.mp (List.mem_of_mem_head? h)
theorem anc_cons {x y k : Int} {l r : Tr} (hb : (Tr.node l k r).bst) (hy : (Tr.node l k r).has y) : x ∈ (Tr.node l k r).anc y ↔ y ≠ k ∧ (x = k ∨ (y < k ∧ x ∈ l.anc y) ∨ (k < y ∧ x ∈ r.anc y)) := by
  unfold Tr.anc
  rw [List.mem_reverse, Tr.path]
  by_cases e : y = k
  · rw [if_pos e]
    simp [e]
  · rw [if_neg e]
    by_cases c : y < k
    · have hl : l.has y := by
        rcases hy with h | h | h
        · exact h
        · exact absurd h e
        · have := hb.2.2.2 y h; omega
      rw [if_pos c, List.dropLast_cons_of_ne_nil (path_ne hl), List.mem_cons, List.mem_reverse, List.mem_reverse]
      have : ¬ k < y := by omega
      simp [e, c, this]
    · have hr : r.has y := by
        rcases hy with h | h | h
        · have := hb.2.2.1 y h; omega
        · exact absurd h e
        · exact h
      rw [if_neg c, List.dropLast_cons_of_ne_nil (path_ne hr), List.mem_cons, List.mem_reverse, List.mem_reverse]
      have : k < y := by omega
      simp [e, c, this]
theorem path_sub {x y : Int} : ∀ {t : Tr}, x ∈ t.path y → t.has x
  | .nil, h => nomatch h
  | .node l k r, h => by
    rw [Tr.path] at h
    split at h
    · exact .inr (.inl (List.mem_singleton.mp h))
    · rcases List.mem_cons.mp h with h | h
      · exact .inr (.inl h)
      · split at h
        · exact .inl (path_sub h)
        · exact .inr (.inr (path_sub h))
/-- x stands above y if it is the first of the keys from the one to the other -/
theorem anc_fi {x y a b : Int} : ∀ {t : Tr}, t.bst → t.has x → t.has y → x ≠ y → (a = min x y) → (b = max x y) → (x ∈ t.anc y ↔ fi (some (a - 1)) (some (b + 1)) t.pre = some x)
  | .nil, _, h, _, _, _, _ => h.elim
  | .node l k r, hb, hx, hy, hn, ea, eb => by
    rw [anc_cons hb hy, Tr.pre, fi_cons]
    have iB : ∀ z, inB (some (a - 1)) (some (b + 1)) z = true ↔ a ≤ z ∧ z ≤ b := fun z => by
      rw [inB_iff]; unfold Lo Hi
      constructor
      · rintro ⟨h1, h2⟩; have := h1 _ rfl; have := h2 _ rfl; omega
      · rintro ⟨h1, h2⟩; exact ⟨fun w hw => by cases hw; omega, fun w hw => by cases hw; omega⟩
    by_cases c : inB (some (a - 1)) (some (b + 1)) k = true
    · rw [if_pos c]
      have c' := (iB k).mp c
      constructor
      · rintro ⟨h1, h2 | ⟨h2, h3⟩ | ⟨h2, h3⟩⟩
        · rw [h2]
        · have := hb.2.2.1 x (path_sub (List.dropLast_subset _ (List.mem_reverse.mp h3)))
          omega
        · have := hb.2.2.2 x (path_sub (List.dropLast_subset _ (List.mem_reverse.mp h3)))
          omega
      · intro h
        cases h
        exact ⟨fun z => hn z.symm, .inl rfl⟩
    · rw [if_neg c]
      have c' : ¬ (a ≤ k ∧ k ≤ b) := fun z => c ((iB k).mpr z)
      have fapp : fi (some (a - 1)) (some (b + 1)) (l.pre ++ r.pre) = if b < k then fi (some (a - 1)) (some (b + 1)) l.pre else fi (some (a - 1)) (some (b + 1)) r.pre := by
        unfold fi
        rw [List.filter_append]
        split
        · rename_i hk
          rw [filt_none (l := r.pre) fun z hz => ?_, List.append_nil]
          have := hb.2.2.2 z (has_pre.mp hz)
          cases e : inB (some (a - 1)) (some (b + 1)) z with
          | false => rfl
          | true => have := (iB z).mp e; omega
        · rename_i hk
          rw [filt_none (l := l.pre) fun z hz => ?_, List.nil_append]
          have := hb.2.2.1 z (has_pre.mp hz)
          cases e : inB (some (a - 1)) (some (b + 1)) z with
          | false => rfl
          | true => have := (iB z).mp e; omega
      rw [fapp]
      by_cases d : b < k
      · rw [if_pos d]
        have hxl : l.has x := by
          rcases hx with h | h | h
          · exact h
          · omega
          · have := hb.2.2.2 x h; omega
        have hyl : l.has y := by
          rcases hy with h | h | h
          · exact h
          · omega
          · have := hb.2.2.2 y h; omega
        rw [← anc_fi hb.1 hxl hyl hn ea eb]
        constructor
        · rintro ⟨h1, h2 | ⟨h2, h3⟩ | ⟨h2, h3⟩⟩
          · omega
          · exact h3
          · omega
        · intro h; exact ⟨by omega, .inr (.inl ⟨by omega, h⟩)⟩
      · rw [if_neg d]
        have hxr : r.has x := by
          rcases hx with h | h | h
          · have := hb.2.2.1 x h; omega
          · omega
          · exact h
        have hyr : r.has y := by
          rcases hy with h | h | h
          · have := hb.2.2.1 y h; omega
          · omega
          · exact h
        rw [← anc_fi hb.2.1 hxr hyr hn ea eb]
        constructor
        · rintro ⟨h1, h2 | ⟨h2, h3⟩ | ⟨h2, h3⟩⟩
          · omega
          · omega
          · exact h3
        · intro h; exact ⟨by omega, .inr (.inr ⟨by omega, h⟩)⟩
/-! touch behind touch -/
def Tr.tchs (L : List Int) (t : Tr) : Tr := L.foldl (fun (t : Tr) x => t.tch x) t
theorem tchs_bst : ∀ {L : List Int} {t : Tr}, t.bst → (t.tchs L).bst
  | [], _, h => h
  | x :: L, t, h => tchs_bst (L := L) (t := t.tch x) (tch_bst h)
theorem tchs_has {y : Int} : ∀ {L : List Int} {t : Tr}, t.bst → (∀ x ∈ L, t.has x) → ((t.tchs L).has y ↔ t.has y)
  | [], _, _, _ => Iff.rfl
  | x :: L, t, h, hL => by
    have hx := hL x (List.mem_cons_self ..)
    show ((t.tch x).tchs L).has y ↔ _
    rw [tchs_has (tch_bst h) fun z hz => (tch_has h hx).mpr (hL z (List.mem_cons_of_mem _ hz)), tch_has h hx]
theorem fi_tchs {lo hi : Option Int} : ∀ {L : List Int} {t : Tr}, t.bst → fi lo hi (t.tchs L).pre = (L.reverse.find? (inB lo hi)).or (fi lo hi t.pre)
  | [], _, _ => rfl
  | x :: L, t, h => by
    show fi lo hi ((t.tch x).tchs L).pre = _
    rw [fi_tchs (tch_bst h), ← tch_pre h, fi_rsd, List.reverse_cons, List.find?_append]
    cases e : List.find? (inB lo hi) L.reverse with
    | some z => rfl
    | none =>
      show (if inB lo hi x = true then some x else _) = _
      rw [List.find?_cons]
      cases e2 : inB lo hi x with
      | true => rfl
      | false => rfl
/-- the same last touches, the same shape -/
theorem tchs_ext {A B : List Int} {t : Tr} (h : t.bst) (e : ∀ p : Int → Bool, A.reverse.find? p = B.reverse.find? p) : t.tchs A = t.tchs B :=
  fi_ext _ (Nat.le_refl _) (tchs_bst h) (tchs_bst h) fun lo hi => by rw [fi_tchs h, fi_tchs h, e]
/-- what comes again later may go -/
theorem find_drop {pre picks W : List Int} {p : Int → Bool} (h : ∀ x ∈ picks, x ∈ W) : (pre ++ (picks ++ W)).reverse.find? p = (pre ++ W).reverse.find? p := by
  rw [List.reverse_append, List.reverse_append, List.reverse_append, List.find?_append, List.find?_append, List.find?_append]
  cases e : W.reverse.find? p with
  | some z => rfl
  | none =>
    have : picks.reverse.find? p = none := by
      rw [List.find?_eq_none] at e ⊢
      intro x hx
      exact e x (List.mem_reverse.mpr (h x (List.mem_reverse.mp hx)))
    rw [this]
    rfl
/-- only the first time -/
def dd : List Int → List Int → List Int
  | acc, [] => acc
  | acc, x :: l => if x ∈ acc then dd acc l else dd (acc ++ [x]) l
theorem dd_find {p : Int → Bool} : ∀ (l acc : List Int), (dd acc l).find? p = (acc ++ l).find? p
  | [], acc => by rw [dd, List.append_nil]
  | x :: l, acc => by
    rw [dd]
    split
    · rename_i h
      rw [dd_find l acc, List.find?_append, List.find?_append, List.find?_cons]
      cases e : acc.find? p with
      | some z => rfl
      | none =>
        have : p x = false := by
          have := List.find?_eq_none.mp e x h
          simpa using this
        rw [this]
    · rw [dd_find l (acc ++ [x]), List.append_assoc]
      rfl
theorem dd_mem {x : Int} : ∀ (l acc : List Int), x ∈ dd acc l ↔ x ∈ acc ∨ x ∈ l
  | [], acc => by rw [dd]; simp
  | y :: l, acc => by
    rw [dd]
    split
    · rename_i hya
      rw [dd_mem l acc, List.mem_cons]
      constructor
      · rintro (h | h)
        · exact .inl h
        · exact .inr (.inr h)
      · rintro (h | h | h)
        · exact .inl h
        · subst h; exact .inl hya
        · exact .inr h
    · rw [dd_mem l (acc ++ [y]), List.mem_append, List.mem_singleton, List.mem_cons]
      constructor
      · rintro ((h | h) | h)
        · exact .inl h
        · exact .inr (.inl h)
        · exact .inr (.inr h)
      · rintro (h | h | h)
        · exact .inl (.inl h)
        · exact .inl (.inr h)
        · exact .inr h
end Tm

/-! rotations -/
namespace Tm
theorem par_in {p z : Int} : ∀ {t : Tr} {q : Option Int}, t.par p q = some z → q = some z ∨ t.has z
  | .nil, q, h => by cases h
  | .node l k r, q, h => by
    rw [Tr.par] at h
    split at h
    · exact .inl h
    · split at h
      · rcases par_in h with e | e
        · cases e; exact .inr (.inr (.inl rfl))
        · exact .inr (.inl e)
      · rcases par_in h with e | e
        · cases e; exact .inr (.inr (.inl rfl))
        · exact .inr (.inr (.inr e))
theorem par_out {p k : Int} {t : Tr} (hb : t.bst) (hk : ¬ t.has k) (hp : t.has p) : t.par p (some k) = some k ↔ t.root = some p := by
  cases t with
  | nil => exact hp.elim
  | node l c r =>
    have hc : c ≠ k := fun e => hk (.inr (.inl e.symm))
    rw [Tr.par, Tr.root]
    by_cases e : p = c
    · rw [if_pos e, e]; simp
    · rw [if_neg e]
      constructor
      · intro h
        split at h
        · rcases par_in h with g | g
          · cases g; exact absurd rfl hc
          · exact absurd (.inl g) hk
        · rcases par_in h with g | g
          · cases g; exact absurd rfl hc
          · exact absurd (.inr (.inr g)) hk
      · intro h; cases h; exact absurd rfl e
def rpl (x p : Int) (s' : Tr) : Tr → Tr
  | .nil => .nil
  | .node l k r => if k = p then s' else if x < k then .node (rpl x p s' l) k r else .node l k (rpl x p s' r)
section
variable {x p : Int} {s s' : Tr}
structure RepOk (x p : Int) (s s' t : Tr) : Prop where
  bst : (rpl x p s' t).bst
  has : ∀ y, (rpl x p s' t).has y ↔ t.has y
  root : (rpl x p s' t).root = if t.root = some p then s'.root else t.root
theorem pne {l r : Tr} {k : Int} (hb : (Tr.node l k r).bst) (hp : l.has p ∨ r.has p) : k ≠ p := by
  rcases hp with h | h
  · have := hb.2.2.1 p h; omega
  · have := hb.2.2.2 p h; omega
theorem repl_here {t : Tr} (rt : t.root = some p) : rpl x p s' t = s' := by
  cases t with
  | nil => cases rt
  | node l k r => cases rt; rw [rpl, if_pos rfl]
theorem repl_ok {t : Tr} (h : Pth x s t) (rt : s.root = some p) (sm : ∀ y, s'.has y ↔ s.has y) (sb : s'.bst) (hb : t.bst) : RepOk x p s s' t := by
  induction h with
  | here =>
    have e : rpl x p s' s = s' := repl_here rt
    exact ⟨by rw [e]; exact sb, fun y => by rw [e]; exact sm y, by rw [e, if_pos rt]⟩
  | @left l r k h c ih =>
    obtain ⟨i1, i2, i3⟩ := ih hb.1
    have hp : l.has p := h.sub.has (root_has rt)
    have np := pne hb (.inl hp)
    have e : rpl x p s' (Tr.node l k r) = .node (rpl x p s' l) k r := by rw [rpl, if_neg np, if_pos c]
    refine ⟨?_, fun y => ?_, ?_⟩
    · rw [e]; exact ⟨i1, hb.2.1, fun y hy => hb.2.2.1 y ((i2 y).mp hy), hb.2.2.2⟩
    · rw [e, Tr.has, Tr.has, i2]
    · rw [e, Tr.root, Tr.root, if_neg (fun z => np (Option.some.inj z))]
  | @right l r k h c ih =>
    obtain ⟨i1, i2, i3⟩ := ih hb.2.1
    have hp : r.has p := h.sub.has (root_has rt)
    have np := pne hb (.inr hp)
    have e : rpl x p s' (Tr.node l k r) = .node l k (rpl x p s' r) := by rw [rpl, if_neg np, if_neg c]
    refine ⟨?_, fun y => ?_, ?_⟩
    · rw [e]; exact ⟨hb.1, i1, hb.2.2.1, fun y hy => hb.2.2.2 y ((i2 y).mp hy)⟩
    · rw [e, Tr.has, Tr.has, i2]
    · rw [e, Tr.root, Tr.root, if_neg (fun z => np (Option.some.inj z))]
open Classical in
/-- children in the changed tree; hx: x is no key that hangs over -/
theorem repl_lc {t : Tr} (h : Pth x s t) (rt : s.root = some p) (sm : ∀ y, s'.has y ↔ s.has y) (sb : s'.bst) (hb : t.bst) (y : Int) : ∀ q : Option Int, (∀ k, q = some k → ¬ t.has k) → t.has y →
    (rpl x p s' t).lc y = if s.has y then s'.lc y else if t.par p q = some y ∧ x < y then s'.root else t.lc y := by
  induction h with
  | here => intro q hq hy; rw [repl_here rt, if_pos hy]
  | @left l r k h c ih =>
    intro q hq hy
    have hp : l.has p := h.sub.has (root_has rt)
    have pk : p < k := hb.2.2.1 p hp
    have np := pne hb (.inl hp)
    have nk : ¬ l.has k := fun z => absurd (hb.2.2.1 k z) (Int.lt_irrefl k)
    have nsk : ¬ s.has k := fun z => nk (h.sub.has z)
    have e : rpl x p s' (Tr.node l k r) = .node (rpl x p s' l) k r := by rw [rpl, if_neg np, if_pos c]
    have ep : (Tr.node l k r).par p q = l.par p (some k) := by rw [Tr.par, if_neg (fun z => np z.symm), if_pos pk]
    rw [e, ep, Tr.lc, Tr.lc]
    by_cases e1 : y = k
    · subst e1
      rw [if_pos rfl, if_pos rfl, if_neg nsk, (repl_ok h rt sm sb hb.1).root]
      have := par_out hb.1 nk hp
      by_cases g : l.root = some p
      · rw [if_pos g, if_pos ⟨this.mpr g, c⟩]
      · rw [if_neg g, if_neg fun z => g (this.mp z.1)]
    · rw [if_neg e1, if_neg e1]
      by_cases e2 : y < k
      · rw [if_pos e2, if_pos e2]
        have hyl : l.has y := by
          rcases hy with g | g | g
          · exact g
          · exact absurd g e1
          · have := hb.2.2.2 y g; omega
        exact ih hb.1 (some k) (fun k' z => by cases z; exact nk) hyl
      · rw [if_neg e2, if_neg e2, if_neg fun z => e2 (hb.2.2.1 y (h.sub.has z)), if_neg fun z => ?_]
        rcases par_in z.1 with g | g
        · cases g; exact e1 rfl
        · exact e2 (hb.2.2.1 y g)
  | @right l r k h c ih =>
    intro q hq hy
    have hp : r.has p := h.sub.has (root_has rt)
    have pk : k < p := hb.2.2.2 p hp
    have np := pne hb (.inr hp)
    have nk : ¬ r.has k := fun z => absurd (hb.2.2.2 k z) (Int.lt_irrefl k)
    have nsk : ¬ s.has k := fun z => nk (h.sub.has z)
    have e : rpl x p s' (Tr.node l k r) = .node l k (rpl x p s' r) := by rw [rpl, if_neg np, if_neg c]
    have ep : (Tr.node l k r).par p q = r.par p (some k) := by rw [Tr.par, if_neg (fun z => np z.symm), if_neg (Int.not_lt.mpr (Int.le_of_lt pk))]
    rw [e, ep, Tr.lc, Tr.lc]
    by_cases e1 : y = k
    · subst e1
      rw [if_pos rfl, if_pos rfl, if_neg nsk, if_neg fun z => c z.2]
    · rw [if_neg e1, if_neg e1]
      by_cases e2 : y < k
      · rw [if_pos e2, if_pos e2, if_neg fun z => ?_, if_neg fun z => ?_]
        · rcases par_in z.1 with g | g
          · cases g; exact e1 rfl
          · have := hb.2.2.2 y g; omega
        · have := hb.2.2.2 y (h.sub.has z); omega
      · rw [if_neg e2, if_neg e2]
        have hyr : r.has y := by
          rcases hy with g | g | g
          · exact absurd (hb.2.2.1 y g) e2
          · exact absurd g e1
          · exact g
        exact ih hb.2.1 (some k) (fun k' z => by cases z; exact nk) hyr
open Classical in
theorem repl_rc {t : Tr} (h : Pth x s t) (rt : s.root = some p) (sm : ∀ y, s'.has y ↔ s.has y) (sb : s'.bst) (hb : t.bst) (y : Int) : ∀ q : Option Int, (∀ k, q = some k → ¬ t.has k) → t.has y →
    (rpl x p s' t).rc y = if s.has y then s'.rc y else if t.par p q = some y ∧ ¬ x < y then s'.root else t.rc y := by
  induction h with
  | here => intro q hq hy; rw [repl_here rt, if_pos hy]
  | @left l r k h c ih =>
    intro q hq hy
    have hp : l.has p := h.sub.has (root_has rt)
    have pk : p < k := hb.2.2.1 p hp
    have np := pne hb (.inl hp)
    have nk : ¬ l.has k := fun z => absurd (hb.2.2.1 k z) (Int.lt_irrefl k)
    have nsk : ¬ s.has k := fun z => nk (h.sub.has z)
    have e : rpl x p s' (Tr.node l k r) = .node (rpl x p s' l) k r := by rw [rpl, if_neg np, if_pos c]
    have ep : (Tr.node l k r).par p q = l.par p (some k) := by rw [Tr.par, if_neg (fun z => np z.symm), if_pos pk]
    rw [e, ep, Tr.rc, Tr.rc]
    by_cases e1 : y = k
    · subst e1
      rw [if_pos rfl, if_pos rfl, if_neg nsk, if_neg fun z => z.2 c]
    · rw [if_neg e1, if_neg e1]
      by_cases e2 : y < k
      · rw [if_pos e2, if_pos e2]
        have hyl : l.has y := by
          rcases hy with g | g | g
          · exact g
          · exact absurd g e1
          · have := hb.2.2.2 y g; omega
        exact ih hb.1 (some k) (fun k' z => by cases z; exact nk) hyl
      · rw [if_neg e2, if_neg e2, if_neg fun z => e2 (hb.2.2.1 y (h.sub.has z)), if_neg fun z => ?_]
        rcases par_in z.1 with g | g
        · cases g; exact e1 rfl
        · exact e2 (hb.2.2.1 y g)
  | @right l r k h c ih =>
    intro q hq hy
    have hp : r.has p := h.sub.has (root_has rt)
    have pk : k < p := hb.2.2.2 p hp
    have np := pne hb (.inr hp)
    have nk : ¬ r.has k := fun z => absurd (hb.2.2.2 k z) (Int.lt_irrefl k)
    have nsk : ¬ s.has k := fun z => nk (h.sub.has z)
    have e : rpl x p s' (Tr.node l k r) = .node l k (rpl x p s' r) := by rw [rpl, if_neg np, if_neg c]
    have ep : (Tr.node l k r).par p q = r.par p (some k) := by rw [Tr.par, if_neg (fun z => np z.symm), if_neg (Int.not_lt.mpr (Int.le_of_lt pk))]
    rw [e, ep, Tr.rc, Tr.rc]
    by_cases e1 : y = k
    · subst e1
      rw [if_pos rfl, if_pos rfl, if_neg nsk, (repl_ok h rt sm sb hb.2.1).root]
      have := par_out hb.2.1 nk hp
      by_cases g : r.root = some p
      · rw [if_pos g, if_pos ⟨this.mpr g, c⟩]
      · rw [if_neg g, if_neg fun z => g (this.mp z.1)]
    · rw [if_neg e1, if_neg e1]
      by_cases e2 : y < k
      · rw [if_pos e2, if_pos e2, if_neg fun z => ?_, if_neg fun z => ?_]
        · rcases par_in z.1 with g | g
          · cases g; exact e1 rfl
          · have := hb.2.2.2 y g; omega
        · have := hb.2.2.2 y (h.sub.has z); omega
      · rw [if_neg e2, if_neg e2]
        have hyr : r.has y := by
          rcases hy with g | g | g
          · exact absurd (hb.2.2.1 y g) e2
          · exact absurd g e1
          · exact g
        exact ih hb.2.1 (some k) (fun k' z => by cases z; exact nk) hyr
open Classical in
theorem repl_par {t : Tr} (h : Pth x s t) (rt : s.root = some p) (hb : t.bst) (y : Int) : ∀ q : Option Int, t.has y →
    (rpl x p s' t).par y q = if s.has y then s'.par y (t.par p q) else t.par y q := by
  induction h with
  | here =>
    intro q hy
    rw [repl_here rt, if_pos hy]
    cases s with
    | nil => cases rt
    | node l k r => cases rt; rw [show (Tr.node l p r).par p q = q by rw [Tr.par, if_pos rfl]]
  | @left l r k h c ih =>
    intro q hy
    have hp : l.has p := h.sub.has (root_has rt)
    have pk : p < k := hb.2.2.1 p hp
    have np := pne hb (.inl hp)
    have nsk : ¬ s.has k := fun z => absurd (hb.2.2.1 k (h.sub.has z)) (Int.lt_irrefl k)
    have e : rpl x p s' (Tr.node l k r) = .node (rpl x p s' l) k r := by rw [rpl, if_neg np, if_pos c]
    have ep : (Tr.node l k r).par p q = l.par p (some k) := by rw [Tr.par, if_neg (fun z => np z.symm), if_pos pk]
    rw [e, ep, Tr.par, Tr.par]
    by_cases e1 : y = k
    · subst e1; rw [if_pos rfl, if_neg nsk, if_pos rfl]
    · rw [if_neg e1, if_neg e1]
      by_cases e2 : y < k
      · rw [if_pos e2, if_pos e2]
        have hyl : l.has y := by
          rcases hy with g | g | g
          · exact g
          · exact absurd g e1
          · have := hb.2.2.2 y g; omega
        exact ih hb.1 (some k) hyl
      · rw [if_neg e2, if_neg e2, if_neg fun z => e2 (hb.2.2.1 y (h.sub.has z))]
  | @right l r k h c ih =>
    intro q hy
    have hp : r.has p := h.sub.has (root_has rt)
    have pk : k < p := hb.2.2.2 p hp
    have np := pne hb (.inr hp)
    have nsk : ¬ s.has k := fun z => absurd (hb.2.2.2 k (h.sub.has z)) (Int.lt_irrefl k)
    have e : rpl x p s' (Tr.node l k r) = .node l k (rpl x p s' r) := by rw [rpl, if_neg np, if_neg c]
    have ep : (Tr.node l k r).par p q = r.par p (some k) := by rw [Tr.par, if_neg (fun z => np z.symm), if_neg (Int.not_lt.mpr (Int.le_of_lt pk))]
    rw [e, ep, Tr.par, Tr.par]
    by_cases e1 : y = k
    · subst e1; rw [if_pos rfl, if_neg nsk, if_pos rfl]
    · rw [if_neg e1, if_neg e1]
      by_cases e2 : y < k
      · rw [if_pos e2, if_pos e2, if_neg fun z => ?_]
        have := hb.2.2.2 y (h.sub.has z); omega
      · rw [if_neg e2, if_neg e2]
        have hyr : r.has y := by
          rcases hy with g | g | g
          · exact absurd (hb.2.2.1 y g) e2
          · exact absurd g e1
          · exact g
        exact ih hb.2.1 (some k) hyr
theorem repl_res {t : Tr} (h : Pth x s t) (rt : s.root = some p) (hb : t.bst) (h1 : s'.res none (some x) = s.res none (some x)) (h2 : s'.res (some x) none = s.res (some x) none) :
    (rpl x p s' t).res none (some x) = t.res none (some x) ∧ (rpl x p s' t).res (some x) none = t.res (some x) none := by
  induction h with
  | here => rw [repl_here rt]; exact ⟨h1, h2⟩
  | @left l r k h c ih =>
    have np := pne hb (.inl (h.sub.has (root_has rt)))
    have e : rpl x p s' (Tr.node l k r) = .node (rpl x p s' l) k r := by rw [rpl, if_neg np, if_pos c]
    obtain ⟨i1, i2⟩ := ih hb.1
    have n : ¬ k < x := by omega
    rw [e]
    simp only [Tr.res, if_neg n, if_pos c, i1, i2]
    exact ⟨trivial, trivial⟩
  | @right l r k h c ih =>
    have np := pne hb (.inr (h.sub.has (root_has rt)))
    have e : rpl x p s' (Tr.node l k r) = .node l k (rpl x p s' r) := by rw [rpl, if_neg np, if_neg c]
    obtain ⟨i1, i2⟩ := ih hb.2.1
    rw [e]
    simp only [Tr.res, if_neg c, i1, i2]
    exact ⟨trivial, trivial⟩
theorem repl_path {t : Tr} (h : Pth x s t) (rt : s.root = some p) (hb : t.bst) (hx : s.has x) (h1 : (s'.path x).length + 1 = (s.path x).length) :
    ((rpl x p s' t).path x).length + 1 = (t.path x).length := by
  induction h with
  | here => rw [repl_here rt]; exact h1
  | @left l r k h c ih =>
    have np := pne hb (.inl (h.sub.has (root_has rt)))
    have e : rpl x p s' (Tr.node l k r) = .node (rpl x p s' l) k r := by rw [rpl, if_neg np, if_pos c]
    have n : x ≠ k := by omega
    rw [e, Tr.path, Tr.path, if_neg n, if_neg n, if_pos c, if_pos c, List.length_cons, List.length_cons, ih hb.1]
  | @right l r k h c ih =>
    have np := pne hb (.inr (h.sub.has (root_has rt)))
    have e : rpl x p s' (Tr.node l k r) = .node l k (rpl x p s' r) := by rw [rpl, if_neg np, if_neg c]
    have n : x ≠ k := by have := hb.2.2.2 x (h.sub.has hx); omega
    rw [e, Tr.path, Tr.path, if_neg n, if_neg n, if_neg c, if_neg c, List.length_cons, List.length_cons, ih hb.2.1]
end
/-- where x's parent stands -/
theorem par_pth {x p : Int} : ∀ {t : Tr} {q : Option Int}, t.bst → t.has x → t.root ≠ some x → t.par x q = some p → ∃ a b c, (x < p ∧ Pth x (.node (.node a x b) p c) t) ∨ (p < x ∧ Pth x (.node a p (.node b x c)) t)
  | .nil, q, hb, hx, _, _ => hx.elim
  | .node l k r, q, hb, hx, hr, hp => by
    have nk : x ≠ k := fun e => hr (by rw [e]; rfl)
    rw [Tr.par, if_neg nk] at hp
    by_cases c : x < k
    · rw [if_pos c] at hp
      have hxl : l.has x := by
        rcases hx with g | g | g
        · exact g
        · exact absurd g nk
        · have := hb.2.2.2 x g; omega
      by_cases g : l.root = some x
      · cases l with
        | nil => cases g
        | node a y b =>
          cases g
          rw [Tr.par, if_pos rfl] at hp
          cases hp
          exact ⟨a, b, r, .inl ⟨c, .here⟩⟩
      · obtain ⟨a, b, d, h⟩ := par_pth hb.1 hxl g hp
        exact ⟨a, b, d, h.imp (fun z => ⟨z.1, .left z.2 c⟩) fun z => ⟨z.1, .left z.2 c⟩⟩
    · rw [if_neg c] at hp
      have hxr : r.has x := by
        rcases hx with g | g | g
        · exact absurd (hb.2.2.1 x g) c
        · exact absurd g nk
        · exact g
      by_cases g : r.root = some x
      · cases r with
        | nil => cases g
        | node a y b =>
          cases g
          rw [Tr.par, if_pos rfl] at hp
          cases hp
          exact ⟨l, a, b, .inr ⟨by omega, .here⟩⟩
      · obtain ⟨a, b, d, h⟩ := par_pth hb.2.1 hxr g hp
        exact ⟨a, b, d, h.imp (fun z => ⟨z.1, .right z.2 c⟩) fun z => ⟨z.1, .right z.2 c⟩⟩
def ud (f : Int → Option Int) (k : Int) (v : Option Int) : Int → Option Int := fun y => if y = k then v else f y
def uc (f : Int → Option Int) (o : Option Int) (p : Int) : Int → Option Int := match o with
  | none => f
  | some c => ud f c (some p)
theorem rpl_self {x p : Int} {s t : Tr} (h : Pth x s t) (rt : s.root = some p) (hb : t.bst) : rpl x p s t = t := by
  induction h with
  | here => exact repl_here rt
  | @left l r k h c ih => rw [rpl, if_neg (pne hb (.inl (h.sub.has (root_has rt)))), if_pos c, ih hb.1]
  | @right l r k h c ih => rw [rpl, if_neg (pne hb (.inr (h.sub.has (root_has rt)))), if_neg c, ih hb.2.1]
/-- what stands above s is not in s -/
theorem far_out {x p z : Int} {s t : Tr} (h : Pth x s t) (rt : s.root = some p) (hb : t.bst) : ∀ q : Option Int, (∀ k, q = some k → ¬ t.has k) → t.par p q = some z → ¬ s.has z := by
  induction h with
  | here =>
    intro q hq e
    refine hq z ?_
    cases s with
    | nil => cases rt
    | node l k r => cases rt; rw [Tr.par, if_pos rfl] at e; exact e
  | @left l r k h c ih =>
    intro q hq e
    have hp : l.has p := h.sub.has (root_has rt)
    have pk : p < k := hb.2.2.1 p hp
    rw [Tr.par, if_neg (Int.ne_of_lt pk), if_pos pk] at e
    exact ih hb.1 _ (fun k' w => by cases w; exact fun g => absurd (hb.2.2.1 k g) (Int.lt_irrefl k)) e
  | @right l r k h c ih =>
    intro q hq e
    have hp : r.has p := h.sub.has (root_has rt)
    have pk : k < p := hb.2.2.2 p hp
    rw [Tr.par, if_neg (Int.ne_of_gt pk), if_neg (Int.not_lt.mpr (Int.le_of_lt pk))] at e
    exact ih hb.2.1 _ (fun k' w => by cases w; exact fun g => absurd (hb.2.2.2 k g) (Int.lt_irrefl k)) e
theorem par_q {y : Int} {t : Tr} (q q' : Option Int) (hy : t.has y) : t.par y q' = if t.root = some y then q' else t.par y q := by
  cases t with
  | nil => exact hy.elim
  | node l k r =>
    rw [Tr.par, Tr.par, Tr.root]
    by_cases e : y = k
    · rw [if_pos e, if_pos (by rw [e])]
    · rw [if_neg e, if_neg fun z => e (Option.some.inj z).symm, if_neg e]
/-- what stands after a rotation of x with its parent p -/
structure Rotd (x : Int) (t t' : Tr) : Prop where
  bst : t'.bst
  has : ∀ y, t'.has y ↔ t.has y
  tch : t'.tch x = t.tch x
  path : (t'.path x).length + 1 = (t.path x).length
/-- the functions of a tree after a rotation -/
structure RotF (x p : Int) (t t' : Tr) (f g : Int → Option Int) (c : Option Int) : Prop where
  d : Rotd x t t'
  lc : ∀ y, t'.lc y = if t.par p none = some y ∧ x < y then some x else f y
  rc : ∀ y, t'.rc y = if t.par p none = some y ∧ ¬ x < y then some x else g y
  par : ∀ y, t'.par y none = ud (ud (uc (fun y => t.par y none) c p) p (some x)) x (t.par p none) y
  root : t'.root = match t.par p none with | none => some x | some _ => t.root
section
variable {x p : Int} {s s' t : Tr}
theorem ps_in (h : Pth x s t) (rt : s.root = some p) : t.has p := h.sub.has (root_has rt)
theorem has_rc {y z : Int} : ∀ {t : Tr}, t.rc y = some z → t.has z
  | .nil, h => by cases h
  | .node l k r, h => by
    rw [Tr.rc] at h
    split at h
    · exact .inr (.inr (root_has h))
    · split at h
      · exact .inl (has_rc h)
      · exact .inr (.inr (has_rc h))
theorem has_lc {y z : Int} : ∀ {t : Tr}, t.lc y = some z → t.has z
  | .nil, h => by cases h
  | .node l k r, h => by
    rw [Tr.lc] at h
    split at h
    · exact .inl (root_has h)
    · split at h
      · exact .inl (has_lc h)
      · exact .inr (.inr (has_lc h))
theorem root_par {q : Option Int} (hb : t.bst) (hp : t.has p) (hq : ∀ k, q = some k → ¬ t.has k) : t.root = some p ↔ t.par p q = q := by
  cases t with
  | nil => exact hp.elim
  | node l k r =>
    rw [Tr.par, Tr.root]
    by_cases e : p = k
    · rw [if_pos e, e]; simp
    · rw [if_neg e]
      refine ⟨fun z => absurd (Option.some.inj z).symm e, fun z => ?_⟩
      by_cases c : p < k
      · rw [if_pos c] at z
        have hl : l.has p := by
          rcases hp with g | g | g
          · exact g
          · exact absurd g e
          · have := hb.2.2.2 p g; omega
        cases hz : l.par p (some k) with
        | none =>
          rcases path_par (p0 := some k) hb.1 hl with ⟨_, w⟩ | ⟨w, w1, _⟩
          · rw [hz] at w; cases w
          · rw [hz] at w1; cases w1
        | some w =>
          rw [hz] at z
          exact absurd (by rcases par_in hz with g | g; · cases g; exact .inr (.inl rfl)
                           · exact .inl g) (hq w z.symm)
      · rw [if_neg c] at z
        have hl : r.has p := by
          rcases hp with g | g | g
          · exact absurd (hb.2.2.1 p g) c
          · exact absurd g e
          · exact g
        cases hz : r.par p (some k) with
        | none =>
          rcases path_par (p0 := some k) hb.2.1 hl with ⟨_, w⟩ | ⟨w, w1, _⟩
          · rw [hz] at w; cases w
          · rw [hz] at w1; cases w1
        | some w =>
          rw [hz] at z
          exact absurd (by rcases par_in hz with g | g; · cases g; exact .inr (.inl rfl)
                           · exact .inr (.inr g)) (hq w z.symm)
open Classical in
/-- what is right on s and s' is right on the whole -/
theorem rot_of {f g : Int → Option Int} {c : Option Int} (h : Pth x s t) (hb : t.bst) (rt : s.root = some p) (rt' : s'.root = some x) (sm : ∀ y, s'.has y ↔ s.has y) (sb : s'.bst) (hx : s.has x)
    (h1 : s'.res none (some x) = s.res none (some x)) (h2 : s'.res (some x) none = s.res (some x) none) (hp : (s'.path x).length + 1 = (s.path x).length)
    (kl : ∀ y, s.has y → s'.lc y = f y) (kr : ∀ y, s.has y → s'.rc y = g y) (ku : ∀ y q, s.has y → s'.par y q = ud (ud (uc (fun y => s.par y q) c p) p (some x)) x q y)
    (ol : ∀ y, ¬ s.has y → f y = t.lc y) (or' : ∀ y, ¬ s.has y → g y = t.rc y) (oc : ∀ k, c = some k → s.has k) : RotF x p t (rpl x p s' t) f g c := by
  obtain ⟨b1, b2, b3⟩ := repl_ok h rt sm sb hb
  obtain ⟨r1, r2⟩ := repl_res h rt hb h1 h2
  have tp := ps_in h rt
  have nq : ∀ k, (none : Option Int) = some k → ¬ t.has k := fun k e => nomatch e
  have fo : ∀ z, t.par p none = some z → ¬ s.has z := fun z => far_out h rt hb none nq
  have ft : ∀ z, t.par p none = some z → t.has z := fun z e => (par_in e).elim (fun w => nomatch w) id
  have sp : s.has p := root_has rt
  refine ⟨⟨b1, b2, by unfold Tr.tch; rw [r1, r2], repl_path h rt hb hx hp⟩, fun y => ?_, fun y => ?_, fun y => ?_, ?_⟩
  · by_cases hy : t.has y
    · rw [repl_lc h rt sm sb hb y none nq hy]
      by_cases hs : s.has y
      · rw [if_pos hs, if_neg fun e => fo y e.1 hs, kl y hs]
      · rw [if_neg hs, rt', ol y hs]
    · rw [lc_none fun e => hy ((b2 y).mp e), if_neg fun e => hy (ft y e.1), ol y fun e => hy (h.sub.has e), lc_none hy]
  · by_cases hy : t.has y
    · rw [repl_rc h rt sm sb hb y none nq hy]
      by_cases hs : s.has y
      · rw [if_pos hs, if_neg fun e => fo y e.1 hs, kr y hs]
      · rw [if_neg hs, rt', or' y hs]
    · rw [rc_none fun e => hy ((b2 y).mp e), if_neg fun e => hy (ft y e.1), or' y fun e => hy (h.sub.has e), rc_none hy]
  · by_cases hy : t.has y
    · rw [repl_par h rt hb y none hy]
      by_cases hs : s.has y
      · rw [if_pos hs, ku y _ hs]
        have e1 : t.par y none = s.par y (t.par p none) := by
          have := repl_par (s' := s) h rt hb y none hy
          rw [rpl_self h rt hb, if_pos hs] at this
          exact this
        unfold ud
        by_cases a1 : y = x
        · rw [if_pos a1, if_pos a1]
        · rw [if_neg a1, if_neg a1]
          by_cases a2 : y = p
          · rw [if_pos a2, if_pos a2]
          · rw [if_neg a2, if_neg a2]
            cases c with
            | none => exact e1.symm
            | some k =>
              unfold uc ud
              by_cases a3 : y = k
              · show (if y = k then _ else _) = if y = k then _ else _
                rw [if_pos a3, if_pos a3]
              · show (if y = k then _ else _) = if y = k then _ else _
                rw [if_neg a3, if_neg a3]; exact e1.symm
      · rw [if_neg hs]
        unfold ud
        rw [if_neg fun e => hs (by rw [e]; exact hx), if_neg fun e => hs (by rw [e]; exact sp)]
        cases c with
        | none => rfl
        | some k =>
          unfold uc ud
          show _ = if y = k then _ else _
          rw [if_neg fun e => hs (by rw [e]; exact oc k rfl)]
    · rw [par_none fun e => hy ((b2 y).mp e)]
      have hs : ¬ s.has y := fun e => hy (h.sub.has e)
      unfold ud
      rw [if_neg fun e => hs (by rw [e]; exact hx), if_neg fun e => hs (by rw [e]; exact sp)]
      cases c with
      | none => exact (par_none hy).symm
      | some k =>
        unfold uc ud
        show _ = if y = k then _ else _
        rw [if_neg fun e => hs (by rw [e]; exact oc k rfl)]
        exact (par_none hy).symm
  · rw [b3, rt']
    have := root_par hb tp nq
    cases hf : t.par p none with
    | none => rw [if_pos (this.mpr hf)]
    | some z => rw [if_neg fun e => by rw [this.mp e] at hf; cases hf]
theorem sub_lc {y : Int} (h : Pth x s t) (rt : s.root = some p) (hb : t.bst) (hy : s.has y) : t.lc y = s.lc y := by
  classical
  have := repl_lc h rt (fun y => Iff.rfl) (h.sub.bst hb) hb y none (fun k e => nomatch e) (h.sub.has hy)
  rw [rpl_self h rt hb, if_pos hy] at this
  exact this
theorem sub_rc {y : Int} (h : Pth x s t) (rt : s.root = some p) (hb : t.bst) (hy : s.has y) : t.rc y = s.rc y := by
  classical
  have := repl_rc h rt (fun y => Iff.rfl) (h.sub.bst hb) hb y none (fun k e => nomatch e) (h.sub.has hy)
  rw [rpl_self h rt hb, if_pos hy] at this
  exact this
end
theorem ud_ne {f : Int → Option Int} {k y : Int} {v : Option Int} (h : y ≠ k) : ud f k v y = f y := if_neg h
theorem ud_same {f : Int → Option Int} {k : Int} {v : Option Int} : ud f k v k = v := if_pos rfl
theorem uc_ne {f : Int → Option Int} {o : Option Int} {p y : Int} (h : o ≠ some y) : uc f o p y = f y := by
  cases o with
  | none => rfl
  | some c => exact ud_ne fun e => h (by rw [e])
theorem uc_same {f : Int → Option Int} {p y : Int} : uc f (some y) p y = some p := ud_same
theorem rotL {x p : Int} {a b c t : Tr} (hb : t.bst) (h : Pth x (.node (.node a x b) p c) t) (lt : x < p) :
    RotF x p t (rpl x p (.node a x (.node b p c)) t) (ud t.lc p (t.rc x)) (ud t.rc x (some p)) (t.rc x) := by
  have sb := h.sub.bst hb
  obtain ⟨⟨ba, bb, a1, b1⟩, bc, c1, c2⟩ := sb
  have hsx : (Tr.node (.node a x b) p c).has x := .inl (.inr (.inl rfl))
  have erc : t.rc x = b.root := by
    rw [sub_rc h rfl hb hsx, Tr.rc, if_neg (Int.ne_of_lt lt), if_pos lt, Tr.rc, if_pos rfl]
  have bp : ∀ y, b.has y → y < p := fun y hy => c1 y (.inr (.inr hy))
  rw [erc]
  refine rot_of h hb rfl rfl (fun y => ?_) ⟨ba, ⟨bb, bc, bp, c2⟩, a1, fun y hy => ?_⟩ hsx ?_ ?_ ?_ (fun y hs => ?_) (fun y hs => ?_) (fun y q hs => ?_) (fun y hs => ?_) (fun y hs => ?_) (fun k e => .inl (.inr (.inr (root_has e))))
  · simp only [Tr.has]
    constructor
    · rintro (h | h | h | h | h)
      · exact .inl (.inl h)
      · exact .inl (.inr (.inl h))
      · exact .inl (.inr (.inr h))
      · exact .inr (.inl h)
      · exact .inr (.inr h)
    · rintro ((h | h | h) | h | h)
      · exact .inl h
      · exact .inr (.inl h)
      · exact .inr (.inr (.inl h))
      · exact .inr (.inr (.inr (.inl h)))
      · exact .inr (.inr (.inr (.inr h)))
  · rcases hy with g | g | g
    · exact b1 y g
    · rw [g]; exact lt
    · exact Int.lt_trans lt (c2 y g)
  · simp only [Tr.res, if_neg (Int.lt_irrefl x), if_neg (Int.not_lt.mpr (Int.le_of_lt lt))]
  · simp only [Tr.res, if_neg (Int.lt_irrefl x), if_pos lt]
  · simp only [Tr.path, if_pos, if_neg (Int.ne_of_lt lt), if_pos lt]; rfl
  · by_cases e : y = p
    · subst e
      rw [ud_same]
      simp only [Tr.lc, if_neg (Int.ne_of_gt lt), if_neg (Int.not_lt.mpr (Int.le_of_lt lt)), if_pos]
    · rw [ud_ne e, sub_lc h rfl hb hs]
      simp only [Tr.lc, if_neg e]
      by_cases e1 : y = x
      · subst e1; simp only [if_pos lt, if_pos]
      · by_cases e2 : y < x
        · simp only [if_neg e1, if_pos e2, if_pos (Int.lt_trans e2 lt)]
        · simp only [if_neg e1, if_neg e2]
  · by_cases e : y = x
    · subst e
      rw [ud_same]
      simp only [Tr.rc, if_pos]; rfl
    · rw [ud_ne e, sub_rc h rfl hb hs]
      simp only [Tr.rc, if_neg e]
      by_cases e2 : y < x
      · simp only [if_pos e2, if_pos (Int.lt_trans e2 lt), if_neg (Int.ne_of_lt (Int.lt_trans e2 lt))]
      · simp only [if_neg e2]
  · by_cases e : y = x
    · subst e
      rw [ud_same]
      simp only [Tr.par, if_pos]
    · rw [ud_ne e]
      by_cases e1 : y = p
      · subst e1
        rw [ud_same]
        simp only [Tr.par, if_neg (Int.ne_of_gt lt), if_neg (Int.not_lt.mpr (Int.le_of_lt lt)), if_pos]
      · rw [ud_ne e1]
        by_cases e2 : y < x
        · rw [uc_ne fun w => by have := b1 y (root_has w); omega]
          simp only [Tr.par, if_neg e, if_neg e1, if_pos e2, if_pos (Int.lt_trans e2 lt)]
        · by_cases e3 : y < p
          · have hby : b.has y := by
              rcases hs with (g | g | g) | g | g
              · exact absurd (a1 y g) e2
              · exact absurd g e
              · exact g
              · exact absurd g e1
              · have := c2 y g; omega
            simp only [Tr.par, if_neg e, if_neg e1, if_neg e2, if_pos e3]
            rw [par_q (some x) (some p) hby]
            by_cases e4 : b.root = some y
            · rw [if_pos e4, e4, uc_same]
            · rw [if_neg e4, uc_ne e4]
              simp only [if_neg e, if_neg e1, if_neg e2, if_pos e3]
          · rw [uc_ne fun w => by have := bp y (root_has w); omega]
            simp only [Tr.par, if_neg e, if_neg e1, if_neg e2, if_neg e3]
  · exact ud_ne fun e => hs (.inr (.inl e))
  · exact ud_ne fun e => hs (by rw [e]; exact hsx)
theorem rotR {x p : Int} {a b c t : Tr} (hb : t.bst) (h : Pth x (.node a p (.node b x c)) t) (lt : p < x) :
    RotF x p t (rpl x p (.node (.node a p b) x c) t) (ud t.lc x (some p)) (ud t.rc p (t.lc x)) (t.lc x) := by
  have sb := h.sub.bst hb
  obtain ⟨ba, ⟨bb, bc, b1, c1⟩, a1, c2⟩ := sb
  have hsx : (Tr.node a p (.node b x c)).has x := .inr (.inr (.inr (.inl rfl)))
  have nxp : ¬ x < p := Int.not_lt.mpr (Int.le_of_lt lt)
  have nep : x ≠ p := Int.ne_of_gt lt
  have elc : t.lc x = b.root := by
    rw [sub_lc h rfl hb hsx, Tr.lc, if_neg nep, if_neg nxp, Tr.lc, if_pos rfl]
  have bp : ∀ y, b.has y → p < y := fun y hy => c2 y (.inl hy)
  rw [elc]
  refine rot_of h hb rfl rfl (fun y => ?_) ⟨⟨ba, bb, a1, bp⟩, bc, fun y hy => ?_, c1⟩ hsx ?_ ?_ ?_ (fun y hs => ?_) (fun y hs => ?_) (fun y q hs => ?_) (fun y hs => ?_) (fun y hs => ?_) (fun k e => .inr (.inr (.inl (root_has e))))
  · simp only [Tr.has]
    constructor
    · rintro ((h | h | h) | h | h)
      · exact .inl h
      · exact .inr (.inl h)
      · exact .inr (.inr (.inl h))
      · exact .inr (.inr (.inr (.inl h)))
      · exact .inr (.inr (.inr (.inr h)))
    · rintro (h | h | h | h | h)
      · exact .inl (.inl h)
      · exact .inl (.inr (.inl h))
      · exact .inl (.inr (.inr h))
      · exact .inr (.inl h)
      · exact .inr (.inr h)
  · rcases hy with g | g | g
    · exact Int.lt_trans (a1 y g) lt
    · rw [g]; exact lt
    · exact b1 y g
  · simp only [Tr.res, if_neg (Int.lt_irrefl x), if_pos lt]
  · simp only [Tr.res, if_neg (Int.lt_irrefl x), if_neg nxp]
  · simp only [Tr.path, if_pos, if_neg nep, if_neg nxp]; rfl
  · by_cases e : y = x
    · subst e
      rw [ud_same]
      simp only [Tr.lc, if_pos]; rfl
    · rw [ud_ne e, sub_lc h rfl hb hs]
      simp only [Tr.lc, if_neg e]
      by_cases e2 : y < x
      · simp only [if_pos e2]
      · have e3 : ¬ y < p := by omega
        simp only [if_neg e2, if_neg e3, if_neg (show y ≠ p by omega)]
  · by_cases e : y = p
    · subst e
      rw [ud_same]
      simp only [Tr.rc, if_neg nep.symm, if_pos lt, if_pos]
    · rw [ud_ne e, sub_rc h rfl hb hs]
      simp only [Tr.rc, if_neg e]
      by_cases e1 : y = x
      · subst e1; simp only [if_neg nxp, if_pos]
      · by_cases e2 : y < x
        · simp only [if_neg e1, if_pos e2]
        · simp only [if_neg e1, if_neg e2, if_neg (show ¬ y < p by omega)]
  · by_cases e : y = x
    · subst e
      rw [ud_same]
      simp only [Tr.par, if_pos]
    · rw [ud_ne e]
      by_cases e1 : y = p
      · subst e1
        rw [ud_same]
        simp only [Tr.par, if_neg nep.symm, if_pos lt, if_pos]
      · rw [ud_ne e1]
        by_cases e3 : y < p
        · rw [uc_ne fun w => by have := bp y (root_has w); omega]
          simp only [Tr.par, if_neg e, if_neg e1, if_pos e3, if_pos (Int.lt_trans e3 lt)]
        · by_cases e2 : y < x
          · have hby : b.has y := by
              rcases hs with g | g | (g | g | g)
              · exact absurd (a1 y g) e3
              · exact absurd g e1
              · exact g
              · exact absurd g e
              · have := c1 y g; omega
            simp only [Tr.par, if_neg e, if_neg e1, if_neg e3, if_pos e2]
            rw [par_q (some x) (some p) hby]
            by_cases e4 : b.root = some y
            · rw [if_pos e4, e4, uc_same]
            · rw [if_neg e4, uc_ne e4]
              simp only [if_neg e, if_neg e1, if_neg e3, if_pos e2]
          · rw [uc_ne fun w => by have := b1 y (root_has w); omega]
            simp only [Tr.par, if_neg e, if_neg e1, if_neg e2, if_neg e3]
  · exact ud_ne fun e => hs (by rw [e]; exact hsx)
  · exact ud_ne fun e => hs (.inr (.inl e))
/-- which tree a rotation leaves -/
def RotE (x p : Int) (t t' : Tr) : Prop := ∃ a b c, (x < p ∧ Pth x (.node (.node a x b) p c) t ∧ t' = rpl x p (.node a x (.node b p c)) t) ∨ (p < x ∧ Pth x (.node a p (.node b x c)) t ∧ t' = rpl x p (.node (.node a p b) x c) t)
/-- a rotation: what it leaves -/
theorem rot {x p : Int} {t : Tr} (hb : t.bst) (hx : t.has x) (hp : t.par x none = some p) :
    ∃ t', RotE x p t t' ∧ ((x < p ∧ RotF x p t t' (ud t.lc p (t.rc x)) (ud t.rc x (some p)) (t.rc x)) ∨ (p < x ∧ RotF x p t t' (ud t.lc x (some p)) (ud t.rc p (t.lc x)) (t.lc x))) := by
  have hr : t.root ≠ some x := fun e => by
    have := (root_par (q := none) hb hx (fun k e => nomatch e)).mp e
    rw [this] at hp; cases hp
  obtain ⟨a, b, c, h | h⟩ := par_pth hb hx hr hp
  · exact ⟨_, ⟨a, b, c, .inl ⟨h.1, h.2, rfl⟩⟩, .inl ⟨h.1, rotL hb h.2 h.1⟩⟩
  · exact ⟨_, ⟨a, b, c, .inr ⟨h.1, h.2, rfl⟩⟩, .inr ⟨h.1, rotR hb h.2 h.1⟩⟩
/-- at the root a touch does nothing -/
theorem tch_root {x : Int} {t : Tr} (hb : t.bst) (h : t.root = some x) : t.tch x = t := by
  cases t with
  | nil => cases h
  | node l k r =>
    cases h
    unfold Tr.tch
    rw [Tr.res, Tr.res]
    simp only [if_neg (Int.lt_irrefl x)]
    rw [res_all hb.1 fun y hy => inB_hi.mpr (hb.2.2.1 y hy), res_all hb.2.1 fun y hy => inB_lo.mpr (hb.2.2.2 y hy)]
theorem par_some {x : Int} {t : Tr} (hb : t.bst) (hx : t.has x) (hr : t.root ≠ some x) : ∃ p, t.par x none = some p ∧ t.has p := by
  cases h : t.par x none with
  | none => exact absurd ((root_par (q := none) hb hx (fun k e => nomatch e)).mpr h) hr
  | some p => exact ⟨p, rfl, (par_in h).elim (fun e => nomatch e) id⟩
end Tm

/-! the law's own rotations -/
namespace VL
open PySem PySem.Spec PyProof.Rows L2 Tm
section
variable {ps : List (Int × Int)} {f g u : Int → Option Int} {M : Mem} {Φ : KD} {a : Addr}
theorem Im.some {k : Int} (h : Im ps f) (hk : f k ≠ none) (v : Int) : ∃ qs, putKD (ikv ps) (.inl k) (.int v) = ikv qs ∧ Im qs (ud f k (Option.some v)) ∧ qs.length = ps.length := by
  have hm : k ∈ ps.map (·.1) := by
    cases e : ig ps k with
    | none => rw [h.get] at e; exact absurd e hk
    | some w => exact List.mem_map.mpr ⟨_, ig_some e, rfl⟩
  have ha : (ikv ps).any (fun kv => decide (kv.1 = Sum.inl k)) = true := by
    obtain ⟨q, hq, e⟩ := List.mem_map.mp hm
    rw [List.any_eq_true]
    exact ⟨_, List.mem_map.mpr ⟨q, hq, rfl⟩, decide_eq_true (by rw [e])⟩
  refine ⟨ps.map fun q => if q.1 = k then (q.1, v) else q, ?_, ⟨?_, fun y => ?_⟩, List.length_map _⟩
  · unfold putKD
    rw [if_pos ha]
    unfold ikv
    rw [List.map_map, List.map_map]
    refine List.map_congr_left fun q _ => ?_
    by_cases e : q.1 = k
    · simp [e]
    · simp [e]
  · have : (ps.map fun q => if q.1 = k then (q.1, v) else q).map (·.1) = ps.map (·.1) := by
      rw [List.map_map]
      refine List.map_congr_left fun q _ => ?_
      show (if q.1 = k then (q.1, v) else q).1 = q.1
      split <;> rfl
    rw [this]; exact h.nd
  · have key : ∀ ps : List (Int × Int), ig (ps.map fun q => if q.1 = k then (q.1, v) else q) y = if y = k then (ig ps y).map (fun _ => v) else ig ps y := by
      intro ps
      induction ps with
      | nil => rw [List.map_nil, ig_nil]; split <;> rfl
      | cons q ps ih =>
        obtain ⟨a, b⟩ := q
        rw [List.map_cons]
        by_cases e : a = k
        · subst e
          rw [if_pos rfl, ig_cons, ig_cons, ih]
          by_cases e1 : a = y
          · rw [if_pos e1, if_pos e1, if_pos e1.symm]; rfl
          · rw [if_neg e1, if_neg e1]
        · rw [if_neg e, ig_cons, ig_cons, ih]
          by_cases e1 : a = y
          · rw [if_pos e1, if_pos e1, if_neg fun z => e (e1.trans z)]
          · rw [if_neg e1, if_neg e1]
    rw [key, h.get]
    unfold ud
    by_cases e : y = k
    · rw [if_pos e, if_pos e, e]
      cases e1 : f k with
      | none => exact absurd e1 hk
      | some w => rfl
    · rw [if_neg e, if_neg e]
/-- a key set, new or old -/
theorem Im.set (h : Im ps f) (k v : Int) : ∃ qs, putKD (ikv ps) (.inl k) (.int v) = ikv qs ∧ Im qs (ud f k (Option.some v)) ∧ qs.length ≤ ps.length + 1 := by
  by_cases hk : f k = none
  · exact ⟨_, put_new (by rw [h.get]; exact hk) v, h.new hk v, by rw [List.length_append]; exact Nat.le_refl _⟩
  · obtain ⟨qs, h1, h2, h3⟩ := h.some hk v
    exact ⟨qs, h1, h2, by omega⟩
theorem Im.drop (h : Im ps f) (k : Int) : ∃ qs, dropKD (ikv ps) (.inl k) = ikv qs ∧ Im qs (ud f k none) ∧ qs.length ≤ ps.length := by
  refine ⟨ps.filter fun q => decide (q.1 ≠ k), ?_, ⟨?_, fun y => ?_⟩, List.length_filter_le _ _⟩
  · unfold dropKD ikv
    rw [List.filter_map]
    congr 1
    refine List.filter_congr fun (q : Int × Int) _ => ?_
    show decide ((Sum.inl q.1 : Key) ≠ Sum.inl k) = decide (q.1 ≠ k)
    by_cases e : q.1 = k
    · simp [e]
    · have : (Sum.inl q.1 : Key) ≠ Sum.inl k := fun z => e (Sum.inl.inj z)
      rw [decide_eq_true e, decide_eq_true this]
  · exact List.Nodup.sublist ((List.filter_sublist (p := fun (q : Int × Int) => decide (q.1 ≠ k))).map _) h.nd
  · have key : ∀ ps : List (Int × Int), ig (ps.filter fun q => decide (q.1 ≠ k)) y = if y = k then none else ig ps y := by
      intro ps
      induction ps with
      | nil => rw [List.filter_nil, ig_nil]; split <;> rfl
      | cons q ps ih =>
        obtain ⟨a, b⟩ := q
        by_cases e : a = k
        · subst e
          rw [List.filter_cons_of_neg (by simp), ih, ig_cons]
          by_cases e1 : y = a
          · rw [if_pos e1, if_pos e1]
          · rw [if_neg e1, if_neg e1, if_neg fun z => e1 z.symm]
        · rw [List.filter_cons_of_pos (by simpa using e), ig_cons, ih, ig_cons]
          by_cases e1 : a = y
          · rw [if_pos e1, if_pos e1, if_neg fun z => e (e1.trans z)]
          · rw [if_neg e1, if_neg e1]
    rw [key, h.get]; rfl
/-- no more pairs than keys of the tree -/
theorem Im.size {t : Tr} (h : Im ps f) (ht : ∀ k, f k ≠ none → t.has k) : ps.length ≤ t.size := by
  have := len_le_of_sub (m := t.ino) h.nd fun x hx => by
    obtain ⟨q, hq, rfl⟩ := List.mem_map.mp hx
    refine has_ino.mpr (ht q.1 ?_)
    rw [← h.get, ig_mem h.nd (v := q.2) hq]
    exact fun e => nomatch e
  rw [List.length_map, len_ino] at this
  exact this
theorem e_popD {wo we : WE} {ρ : Sg} : wPopD wo we ρ M Φ = wo ρ M (kPopD1 we ρ Φ) := rfl
theorem e_popD1 {we : WE} {ρ : Sg} (h : M a = some (.dK (ikv ps))) : kPopD1 we ρ Φ (.ref a) M = we ρ M (kPopD2 (.ref a) Φ) := by simp only [kPopD1, dkM, h, Option.isSome, true_and]
theorem e_popD2 {k v : Int} (h : M a = some (.dK (ikv ps))) (hk : ig ps k = some v) : kPopD2 (.ref a) Φ (.int k) M = Φ (.int v) (put M a (.dK (dropKD (ikv ps) (.inl k)))) := by
  simp only [kPopD2, h, keyD, look_ikv, hk, Option.map]
end
structure MAt (M : Mem) (A : TA) (o : D) (f g u : Int → Option Int) (n : Nat) : Prop where
  m : M A.m = some (.dK (rowD o A))
  l : ImAt M A.l f n
  r : ImAt M A.r g n
  u : ImAt M A.u u n
  ml : A.m ≠ A.l
  mr : A.m ≠ A.r
  mu : A.m ≠ A.u
  lr : A.l ≠ A.r
  lu : A.l ≠ A.u
  ru : A.r ≠ A.u
theorem TreeAt.mat {M : Mem} {A : TA} {t : Tr} (h : TreeAt M A t) : MAt M A (optD t.root) t.lc t.rc (fun x => t.par x none) t.size := ⟨h.m, h.l, h.r, h.u, h.ml, h.mr, h.mu, h.lr, h.lu, h.ru⟩
/-- all but the tree's own four stands -/
def Rst (A : TA) (M M' : Mem) : Prop := ∀ a o, a ≠ A.m → a ≠ A.l → a ≠ A.r → a ≠ A.u → M a = some o → M' a = some o
theorem Rst.refl {A : TA} {M : Mem} : Rst A M M := fun _ _ _ _ _ _ h => h
theorem Rst.trans {A : TA} {M M1 M2 : Mem} (h : Rst A M M1) (g : Rst A M1 M2) : Rst A M M2 := fun a o q1 q2 q3 q4 q5 => g a o q1 q2 q3 q4 (h a o q1 q2 q3 q4 q5)
theorem Rst.put {A : TA} {M M1 : Mem} (h : Rst A M M1) {p : Addr} {o : MO} (hp : p = A.m ∨ p = A.l ∨ p = A.r ∨ p = A.u) : Rst A M (put M1 p o) := fun a u q1 q2 q3 q4 q5 => by
  rw [put_ne]
  · exact h a u q1 q2 q3 q4 q5
  · rcases hp with e | e | e | e <;> subst e <;> assumption
theorem Rst.kept {A : TA} {M M1 M2 : Mem} (h : Rst A M1 M2) (k : Kept M M1) (f : Fr M A) : Kept M M2 := fun a o e => h a o (ne_mem e f.m) (ne_mem e f.l) (ne_mem e f.r) (ne_mem e f.u) (k a o e)
theorem ImAt.congr {M : Mem} {a : Addr} {f g : Int → Option Int} {n : Nat} (h : ImAt M a f n) (e : ∀ k, f k = g k) : ImAt M a g n := by
  obtain ⟨ps, h1, h2, h3⟩ := h; exact ⟨ps, h1, h2.congr e, h3⟩
theorem ImAt.fit {M : Mem} {a : Addr} {f g : Int → Option Int} {n : Nat} {t : Tr} (h : ImAt M a f n) (e : ∀ k, f k = g k) (ht : ∀ k, g k ≠ none → t.has k) : ImAt M a g t.size := by
  obtain ⟨ps, h1, h2, h3⟩ := h; exact ⟨ps, h1, h2.congr e, (h2.congr e).size ht⟩
section
variable {M : Mem} {A : TA} {o : D} {f g u : Int → Option Int} {n : Nat}
theorem MAt.setL (h : MAt M A o f g u n) (k v : Int) : ∃ ps, M A.l = some (.dK ps) ∧ ps.length ≤ n ∧ MAt (put M A.l (.dK (putKD ps (.inl k) (.int v)))) A o (ud f k (some v)) g u (n + 1) := by
  obtain ⟨ps, h1, h2, h3⟩ := h.l
  obtain ⟨qs, e, i, l⟩ := h2.set k v
  refine ⟨_, h1, by rw [ikv_len]; exact h3, ?_, ⟨qs, by rw [e]; exact put_same, i, by omega⟩, ?_, ?_, h.ml, h.mr, h.mu, h.lr, h.lu, h.ru⟩
  · rw [put_ne h.ml]; exact h.m
  · exact (h.r.le (Nat.le_succ n)).ne h.lr.symm
  · exact (h.u.le (Nat.le_succ n)).ne h.lu.symm
theorem MAt.setR (h : MAt M A o f g u n) (k v : Int) : ∃ ps, M A.r = some (.dK ps) ∧ ps.length ≤ n ∧ MAt (put M A.r (.dK (putKD ps (.inl k) (.int v)))) A o f (ud g k (some v)) u (n + 1) := by
  obtain ⟨ps, h1, h2, h3⟩ := h.r
  obtain ⟨qs, e, i, l⟩ := h2.set k v
  refine ⟨_, h1, by rw [ikv_len]; exact h3, ?_, ?_, ⟨qs, by rw [e]; exact put_same, i, by omega⟩, ?_, h.ml, h.mr, h.mu, h.lr, h.lu, h.ru⟩
  · rw [put_ne h.mr]; exact h.m
  · exact (h.l.le (Nat.le_succ n)).ne h.lr
  · exact (h.u.le (Nat.le_succ n)).ne h.ru.symm
theorem MAt.setU (h : MAt M A o f g u n) (k v : Int) : ∃ ps, M A.u = some (.dK ps) ∧ ps.length ≤ n ∧ MAt (put M A.u (.dK (putKD ps (.inl k) (.int v)))) A o f g (ud u k (some v)) (n + 1) := by
  obtain ⟨ps, h1, h2, h3⟩ := h.u
  obtain ⟨qs, e, i, l⟩ := h2.set k v
  refine ⟨_, h1, by rw [ikv_len]; exact h3, ?_, ?_, ?_, ⟨qs, by rw [e]; exact put_same, i, by omega⟩, h.ml, h.mr, h.mu, h.lr, h.lu, h.ru⟩
  · rw [put_ne h.mu]; exact h.m
  · exact (h.l.le (Nat.le_succ n)).ne h.lu
  · exact (h.r.le (Nat.le_succ n)).ne h.ru
theorem MAt.dropL (h : MAt M A o f g u n) {ps : List (Int × Int)} (h1 : M A.l = some (.dK (ikv ps))) (h2 : Im ps f) (h3 : ps.length ≤ n) (k : Int) : MAt (put M A.l (.dK (dropKD (ikv ps) (.inl k)))) A o (ud f k none) g u n := by
  obtain ⟨qs, e, i, l⟩ := h2.drop k
  refine ⟨?_, ⟨qs, by rw [e]; exact put_same, i, by omega⟩, ?_, ?_, h.ml, h.mr, h.mu, h.lr, h.lu, h.ru⟩
  · rw [put_ne h.ml]; exact h.m
  · exact h.r.ne h.lr.symm
  · exact h.u.ne h.lu.symm
theorem MAt.dropR (h : MAt M A o f g u n) {ps : List (Int × Int)} (h1 : M A.r = some (.dK (ikv ps))) (h2 : Im ps g) (h3 : ps.length ≤ n) (k : Int) : MAt (put M A.r (.dK (dropKD (ikv ps) (.inl k)))) A o f (ud g k none) u n := by
  obtain ⟨qs, e, i, l⟩ := h2.drop k
  refine ⟨?_, ?_, ⟨qs, by rw [e]; exact put_same, i, by omega⟩, ?_, h.ml, h.mr, h.mu, h.lr, h.lu, h.ru⟩
  · rw [put_ne h.mr]; exact h.m
  · exact h.l.ne h.lr
  · exact h.u.ne h.ru.symm
theorem MAt.dropU (h : MAt M A o f g u n) {ps : List (Int × Int)} (h1 : M A.u = some (.dK (ikv ps))) (h2 : Im ps u) (h3 : ps.length ≤ n) (k : Int) : MAt (put M A.u (.dK (dropKD (ikv ps) (.inl k)))) A o f g (ud u k none) n := by
  obtain ⟨qs, e, i, l⟩ := h2.drop k
  refine ⟨?_, ?_, ?_, ⟨qs, by rw [e]; exact put_same, i, by omega⟩, h.ml, h.mr, h.mu, h.lr, h.lu, h.ru⟩
  · rw [put_ne h.mu]; exact h.m
  · exact h.l.ne h.lu
  · exact h.r.ne h.ru
theorem MAt.setRoot (h : MAt M A o f g u n) (x : D) : MAt (put M A.m (.dK (rowD x A))) A x f g u n :=
  ⟨put_same, h.l.ne h.ml.symm, h.r.ne h.mr.symm, h.u.ne h.mu.symm, h.ml, h.mr, h.mu, h.lr, h.lu, h.ru⟩
theorem MAt.mono {m : Nat} (h : MAt M A o f g u n) (e : n ≤ m) : MAt M A o f g u m := ⟨h.m, h.l.le e, h.r.le e, h.u.le e, h.ml, h.mr, h.mu, h.lr, h.lu, h.ru⟩
theorem MAt.eq {f' g' u' : Int → Option Int} (h : MAt M A o f g u n) (e1 : ∀ k, f k = f' k) (e2 : ∀ k, g k = g' k) (e3 : ∀ k, u k = u' k) : MAt M A o f' g' u' n := ⟨h.m, h.l.congr e1, h.r.congr e2, h.u.congr e3, h.ml, h.mr, h.mu, h.lr, h.lu, h.ru⟩
end
theorem ud_id {f : Int → Option Int} {k : Int} {v : Option Int} (h : f k = v) (y : Int) : f y = ud f k v y := by
  unfold ud; split
  · rename_i e; rw [e, h]
  · rfl
theorem start_4' {x y z w : D} : startD 4 [x, y, z, w] = [some x, some y, some z, some w] := rfl
def sd (s : Bool) : Str := bif s then "left" else "right"
/-! _law_hang -/
def W_l_hang : W3 := fun ds M Φ => ∃ A o f g u n s p c, ds = [.ref (TA.m A), .str (sd s), .int p, optD c] ∧ MAt M A o f g u n ∧ n < 100000 ∧ ∀ M', MAt M' A o (bif s then ud f p c else f) (bif s then g else ud g p c) (uc u c p) (n + 2) → Rst A M M' → Φ .non M'
def w_l_hang : WS := (sIf (wTest (wOp wrIsN (wVar 3) (wC .non))) (sIf (wTest (wOp (wrIn false) (wVar 2) (wOp wrIx (wVar 0) (wVar 1)))) (sDrop (wPopD (wOp wrIx (wVar 0) (wVar 1)) (wVar 2))) sNext) (sSeq (sAsg (wVar 3) (wgSub (wOp wrIx (wVar 0) (wVar 1)) (wVar 2)))
  (sAsg (wVar 2) (wgSub (wOp wrIx (wVar 0) (wC (.str "up"))) (wVar 3)))))
theorem r_l_hang : ∀ ds M Φ, W_l_hang ds M Φ → w_l_hang (endsD Φ) (startD 4 ds) M := by
  intro ds M Φ ⟨A, o, f, g, u, n, s, p, c, eds, T, hn, k⟩
  subst eds
  unfold w_l_hang
  rw [start_4']
  cases c with
  | none =>
    cases s with
    | true =>
      obtain ⟨ps, h1, h2, h3⟩ := T.l
      wp_walk using optD, sd, cond_true, e_tLeft T.m, e_inI h1, look_ikv
      cases hk : ig ps p with
      | none =>
        wp_walk using Option.map, Option.isSome
        exact k M ((T.mono (Nat.le_add_right ..)).eq (ud_id (by rw [← h2.get]; exact hk)) (fun _ => rfl) fun _ => rfl) .refl
      | some v =>
        wp_walk using Option.map, Option.isSome, e_popD, e_tLeft T.m, e_popD1 h1, e_popD2 h1 hk
        exact k _ ((T.dropL h1 h2 h3 p).mono (Nat.le_add_right ..)) (Rst.refl.put (.inr (.inl rfl)))
    | false =>
      obtain ⟨ps, h1, h2, h3⟩ := T.r
      wp_walk using optD, sd, cond_false, e_tRight T.m, e_inI h1, look_ikv
      cases hk : ig ps p with
      | none =>
        wp_walk using Option.map, Option.isSome
        exact k M ((T.mono (Nat.le_add_right ..)).eq (fun _ => rfl) (ud_id (by rw [← h2.get]; exact hk)) fun _ => rfl) .refl
      | some v =>
        wp_walk using Option.map, Option.isSome, e_popD, e_tRight T.m, e_popD1 h1, e_popD2 h1 hk
        exact k _ ((T.dropR h1 h2 h3 p).mono (Nat.le_add_right ..)) (Rst.refl.put (.inr (.inr (.inl rfl))))
  | some c =>
    have lm : 100000 + 2 < lim := by decide
    cases s with
    | true =>
      obtain ⟨ps, h1, h2, T2⟩ := T.setL p c
      obtain ⟨qs, g1, g2, T3⟩ := T2.setU c p
      wp_walk using optD, sd, cond_true, e_tLeft T.m, e_gsub2I h1
      refine ⟨by omega, ?_⟩
      wp_walk using e_tUp T2.m, e_gsub2I g1
      refine ⟨by omega, ?_⟩
      exact k _ T3 ((Rst.refl.put (.inr (.inl rfl))).put (.inr (.inr (.inr rfl))))
    | false =>
      obtain ⟨ps, h1, h2, T2⟩ := T.setR p c
      obtain ⟨qs, g1, g2, T3⟩ := T2.setU c p
      wp_walk using optD, sd, cond_false, e_tRight T.m, e_gsub2I h1
      refine ⟨by omega, ?_⟩
      wp_walk using e_tUp T2.m, e_gsub2I g1
      refine ⟨by omega, ?_⟩
      exact k _ T3 ((Rst.refl.put (.inr (.inr (.inl rfl)))).put (.inr (.inr (.inr rfl))))
/-! _law_rotate -/
theorem e_eqS {M : Mem} {Φ : KD} {s t : Str} (h1 : SeqAt.shaped (.str s) = true) (h2 : SeqAt.shaped (.str t) = true) : wrEq (.str s) (.str t) M Φ = Φ (.bl (decide (s = t))) M := wrEq_of rfl rfl h1 h2 (by rw [PyData.eqv]; rfl)
theorem sh_left : SeqAt.shaped (.str "left") = true := by decide +kernel
theorem sh_right : SeqAt.shaped (.str "right") = true := by decide +kernel
theorem opt_get (o : Option Int) : (o.map D.int).getD .non = optD o := by cases o <;> rfl
theorem e_get3I {M : Mem} {Φ : KD} {ps : List (Int × Int)} {f : Int → Option Int} {a : Addr} {n : Int} (h : M a = some (.dK (ikv ps))) (i : Im ps f) : kGet3 (.ref a) (.int n) Φ .non M = Φ (optD (f n)) M := by
  rw [e_get3 h, look_ikv, i.get, opt_get]
theorem e_ixIm {M : Mem} {Φ : KD} {ps : List (Int × Int)} {f : Int → Option Int} {a : Addr} {n v : Int} (h : M a = some (.dK (ikv ps))) (i : Im ps f) (hv : f n = some v) : wrIx (.ref a) (.int n) M Φ = Φ (.int v) M := by
  rw [e_ixDi h, look_ikv, i.get, hv]; rfl
theorem dec_ll : decide (("left" : Str) = "left") = true := by decide +kernel
theorem dec_rl : decide (("right" : Str) = "left") = false := by decide +kernel
theorem e_eqLL {M : Mem} {Φ : KD} : wrEq (.str "left") (.str "left") M Φ = Φ (.bl true) M := by rw [e_eqS sh_left sh_left, dec_ll]
theorem e_eqRL {M : Mem} {Φ : KD} : wrEq (.str "right") (.str "left") M Φ = Φ (.bl false) M := by rw [e_eqS sh_right sh_left, dec_rl]
theorem ud_hg {f : Int → Option Int} {z x y : Int} : (if some z = some y ∧ x < y then some x else f y) = if x < z then ud f z (some x) y else f y := by
  by_cases c : x < z
  · rw [if_pos c]
    unfold ud
    by_cases e : y = z
    · rw [if_pos e, if_pos ⟨by rw [e], by rw [e]; exact c⟩]
    · rw [if_neg e, if_neg fun w => e (Option.some.inj w.1).symm]
  · rw [if_neg c, if_neg fun w => c (by rw [Option.some.inj w.1]; exact w.2)]
theorem ud_hg' {f : Int → Option Int} {z x y : Int} : (if some z = some y ∧ ¬ x < y then some x else f y) = if x < z then f y else ud f z (some x) y := by
  by_cases c : x < z
  · rw [if_pos c, if_neg fun w => w.2 (by rw [← Option.some.inj w.1]; exact c)]
  · rw [if_neg c]
    unfold ud
    by_cases e : y = z
    · rw [if_pos e, if_pos ⟨by rw [e], by rw [e]; exact c⟩]
    · rw [if_neg e, if_neg fun w => e (Option.some.inj w.1).symm]
theorem MAt.tree {M : Mem} {A : TA} {o : D} {f g u : Int → Option Int} {n : Nat} {t : Tr} (h : MAt M A o f g u n) (e0 : o = optD t.root) (e1 : ∀ k, f k = t.lc k) (e2 : ∀ k, g k = t.rc k) (e3 : ∀ k, u k = t.par k none) : TreeAt M A t :=
  ⟨by rw [← e0]; exact h.m, h.l.fit e1 fun k hk => Classical.byContradiction fun c => hk (lc_none c), h.r.fit e2 fun k hk => Classical.byContradiction fun c => hk (rc_none c), h.u.fit e3 fun k hk => Classical.byContradiction fun c => hk (par_none c), h.ml, h.mr, h.mu, h.lr, h.lu, h.ru⟩
def W_l_rotate : W3 := fun ds M Φ => ∃ A t x p, ds = [.ref (TA.m A), .int x] ∧ TreeAt M A t ∧ (t.bst ∧ t.has x ∧ t.par x none = some p ∧ t.size ≤ 1000) ∧ ∀ t' M', Rotd x t t' → RotE x p t t' → TreeAt M' A t' → Rst A M M' → Φ .non M'
def w_l_rotate : WS := (sSeq (sAsg (wOp wrIx (wOp wrIx (wVar 0) (wC (.str "up"))) (wVar 1)) (wgName 2))
  (sSeq (sAsg (wGet (wOp wrIx (wVar 0) (wC (.str "up"))) (wVar 2) (wC .non)) (wgName 3))
  (sSeq (sAsg (wIfE (wTest (wOp (wrI fun i j => .bl (decide (i < j))) (wVar 1) (wVar 2))) (wC (.str "left")) (wC (.str "right"))) (wgName 4))
  (sSeq (sAsg (wIfE (wTest (wOp wrEq (wVar 4) (wC (.str "left")))) (wC (.str "right")) (wC (.str "left"))) (wgName 5))
  (sSeq (sDrop (wCall W_l_hang (wCons (wVar 0) (wCons (wVar 4) (wCons (wVar 2) (wCons (wGet (wOp wrIx (wVar 0) (wVar 5)) (wVar 1) (wC .non)) wNil))))))
  (sSeq (sDrop (wCall W_l_hang (wCons (wVar 0) (wCons (wVar 5) (wCons (wVar 1) (wCons (wVar 2) wNil))))))
  (sIf (wTest (wOp wrIsN (wVar 3) (wC .non))) (sSeq (sAsg (wVar 1) (wgSub (wVar 0) (wC (.str "root"))))
  (sDrop (wPopD (wOp wrIx (wVar 0) (wC (.str "up"))) (wVar 1)))) (sDrop (wCall W_l_hang (wCons (wVar 0) (wCons (wIfE (wTest (wOp (wrI fun i j => .bl (decide (i < j))) (wVar 1) (wVar 3))) (wC (.str "left")) (wC (.str "right"))) (wCons (wVar 3) (wCons (wVar 1) wNil)))))))))))))
theorem r_l_rotate : ∀ ds M Φ, W_l_rotate ds M Φ → w_l_rotate (endsD Φ) (startD 6 ds) M := by
  intro ds M Φ ⟨A, t, x, p, eds, T, ⟨hb, hx, hp, hz⟩, k⟩
  subst eds
  obtain ⟨t', RE, R⟩ := rot hb hx hp
  have T0 := T.mat
  obtain ⟨pu, u1, u2, u3⟩ := T.u
  obtain ⟨pl, l1, l2, l3⟩ := T.l
  obtain ⟨pr, r1, r2, r3⟩ := T.r
  unfold w_l_rotate
  rw [start_2]
  wp_walk using e_tUp T.m, e_ixIm u1 u2 hp, e_get1 u1, e_get3I u1 u2
  have fin : ∀ (f g : Int → Option Int) (c : Option Int) (M1 : Mem) (n : Nat) (d4 d5 : D), n < 90000 → MAt M1 A (optD t.root) f g (ud (uc (fun y => t.par y none) c p) p (some x)) n → RotF x p t t' f g c → Rst A M M1 →
      sIf (wTest (wOp wrIsN (wVar 3) (wC .non))) (sSeq (sAsg (wVar 1) (wgSub (wVar 0) (wC (.str "root"))))
        (sDrop (wPopD (wOp wrIx (wVar 0) (wC (.str "up"))) (wVar 1)))) (sDrop (wCall W_l_hang (wCons (wVar 0) (wCons (wIfE (wTest (wOp (wrI fun i j => .bl (decide (i < j))) (wVar 1) (wVar 3))) (wC (.str "left")) (wC (.str "right"))) (wCons (wVar 3) (wCons (wVar 1) wNil)))))) (endsD Φ)
        [some (.ref A.m), some (.int x), some (.int p), some (optD (t.par p none)), some d4, some d5] M1 := by
    intro f g c M1 n d4 d5 hn T1 R hr
    cases hf : t.par p none with
    | none =>
      wp_walk using optD, e_tSetRoot T1.m
      have T2 := T1.setRoot (.int x)
      obtain ⟨qs, g1, g2, g3⟩ := T2.u
      have hxp : x ≠ p := fun e => by rw [← e, hp] at hf; cases hf
      have hv : ∃ v, ig qs x = some v := by
        rw [g2.get, ud_ne hxp]
        cases c with
        | none => exact ⟨p, hp⟩
        | some c => unfold uc; unfold ud; show ∃ v, (if x = c then _ else _) = some v; split; exact ⟨_, rfl⟩; exact ⟨p, hp⟩
      obtain ⟨v, hv⟩ := hv
      wp_walk using look_up, e_popD, e_tUp T2.m, e_popD1 g1, e_popD2 g1 hv
      have T3 := T2.dropU g1 g2 g3 x
      refine k t' _ R.d RE (T3.tree ?_ (fun y => ?_) (fun y => ?_) fun y => ?_) ((hr.put (.inl rfl)).put (.inr (.inr (.inr rfl))))
      · rw [R.root, hf]; rfl
      · rw [R.lc, hf, if_neg fun e => nomatch e.1]
      · rw [R.rc, hf, if_neg fun e => nomatch e.1]
      · rw [R.par, hf]
    | some z =>
      have hroot : optD t.root = optD t'.root := by rw [R.root, hf]
      by_cases c1 : x < z
      · wp_walk using optD, decide_eq_true c1
        refine ⟨A, _, _, _, _, n, true, z, some x, rfl, T1, by omega, fun M2 T2 h2 => ?_⟩
        wp_walk using optD
        refine k t' _ R.d RE (T2.tree hroot (fun y => ?_) (fun y => ?_) fun y => ?_) (hr.trans h2)
        · rw [R.lc, hf, ud_hg, if_pos c1]; rfl
        · rw [R.rc, hf, ud_hg', if_pos c1]; rfl
        · rw [R.par, hf]; rfl
      · wp_walk using optD, decide_eq_false c1
        refine ⟨A, _, _, _, _, n, false, z, some x, rfl, T1, by omega, fun M2 T2 h2 => ?_⟩
        wp_walk using optD
        refine k t' _ R.d RE (T2.tree hroot (fun y => ?_) (fun y => ?_) fun y => ?_) (hr.trans h2)
        · rw [R.lc, hf, ud_hg, if_neg c1]; rfl
        · rw [R.rc, hf, ud_hg', if_neg c1]; rfl
        · rw [R.par, hf]; rfl
  rcases R with ⟨c, R⟩ | ⟨c, R⟩
  · wp_walk using decide_eq_true c, e_eqLL, e_tRight T.m, e_get1 r1, e_get3I r1 r2
    refine ⟨A, _, _, _, _, _, true, p, t.rc x, rfl, T0, by omega, fun M1 T1 h1 => ?_⟩
    walk_at "vl"
    refine ⟨A, _, _, _, _, _, false, x, some p, rfl, T1, by omega, fun M2 T2 h2 => ?_⟩
    walk_at "vl"
    exact fin _ _ _ M2 _ _ _ (by omega) T2 R (h1.trans h2)
  · have c' : ¬ x < p := Int.not_lt.mpr (Int.le_of_lt c)
    wp_walk using decide_eq_false c', e_eqRL, e_tLeft T.m, e_get1 l1, e_get3I l1 l2
    refine ⟨A, _, _, _, _, _, false, p, t.lc x, rfl, T0, by omega, fun M1 T1 h1 => ?_⟩
    walk_at "vl"
    refine ⟨A, _, _, _, _, _, true, x, some p, rfl, T1, by omega, fun M2 T2 h2 => ?_⟩
    walk_at "vl"
    exact fin _ _ _ M2 _ _ _ (by omega) T2 R (h1.trans h2)
/-! _law_touch -/
def W_l_touch : W3 := fun ds M Φ => ∃ A t x, ds = [.ref (TA.m A), .int x] ∧ TreeAt M A t ∧ (t.bst ∧ t.has x ∧ t.size ≤ 1000) ∧ ∀ M', TreeAt M' A (t.tch x) → Rst A M M' → Φ (.int (t.anc x).length) M'
def w_l_touch : WS := (sSeq (sAsg (wC (.int 0)) (wgName 2))
  (sSeq (sWhile (wTest (wOp wrNe (wOp wrIx (wVar 0) (wC (.str "root"))) (wVar 1))) (sSeq (sDrop (wCall W_l_rotate (wCons (wVar 0) (wCons (wVar 1) wNil))))
  (sAsg (wOp wrAdd (wVar 2) (wC (.int 1))) (wgName 2))))
  (sRet (wVar 2))))
theorem rotd_size {x : Int} {t t' : Tr} (h : Rotd x t t') (hb : t.bst) : t'.size = t.size := by rw [← len_ino, len_of_asc h.bst hb h.has, len_ino]
theorem r_l_touch : ∀ ds M Φ, W_l_touch ds M Φ → w_l_touch (endsD Φ) (startD 3 ds) M := by
  intro ds M Φ ⟨A, t, x, eds, T, ⟨hb, hx, hz⟩, k⟩
  subst eds
  unfold w_l_touch
  rw [start_2]
  walk_at "vl"
  refine ⟨fun m ρ M2 => ∃ (n : Nat) (t2 : Tr), ρ = [some (.ref A.m), some (.int x), some (.int n)] ∧ TreeAt M2 A t2 ∧ t2.bst ∧ (∀ y, t2.has y ↔ t.has y) ∧ t2.size = t.size ∧ t2.tch x = t.tch x ∧ n + (t2.path x).length = (t.path x).length ∧ Rst A M M2 ∧ m = (t2.path x).length,
    ⟨_, 0, t, rfl, T, hb, fun _ => Iff.rfl, rfl, rfl, Nat.zero_add _, .refl, rfl⟩, ?_⟩
  rintro m ρ M2 ⟨n, t2, rfl, T2, hb2, hh, hs, ht, hl, hr, rfl⟩
  have hx2 := (hh x).mpr hx
  cases hroot : t2.root with
  | none => cases t2 with
    | nil => exact hx2.elim
    | node l c r => cases hroot
  | some c =>
    wp_walk using e_tRoot T2.m, hroot, optD
    by_cases e : c = x
    · subst e
      wp_walk using decide_true
      have e1 := path_root hroot
      rw [e1, List.length_singleton] at hl
      rw [tch_root hb2 hroot] at ht
      have : (n : Int) = ((t.anc c).length : Int) := by rw [anc_len]; omega
      rw [this]
      exact k M2 (by rw [← ht]; exact T2) hr
    · obtain ⟨p, p1, p2⟩ := par_some hb2 hx2 (by rw [hroot]; exact fun z => e (Option.some.inj z))
      wp_walk using decide_eq_false e
      refine ⟨A, t2, x, p, rfl, T2, ⟨hb2, hx2, p1, by omega⟩, fun t3 M3 R _ T3 h3 => ?_⟩
      walk_at "vl"
      have := R.path
      exact ⟨(t3.path x).length, by omega, n + 1, t3, rfl, T3, R.bst, fun y => (R.has y).trans (hh y), (rotd_size R hb2).trans hs, R.tch.trans ht, by omega, hr.trans h3, rfl⟩
end VL

/-! list.index of whole numbers; a pair whose second is a list that freezes -/
namespace VL
variable {S₀ : W0}
open PySem PySem.Spec PyProof.Rows L2
def wrIndex : WM := fun x ds M Φ => match (lstF M x).bind intsD, ds with
  | some ns, [.int y] => ∃ j : Nat, ns[j]? = some y ∧ (∀ (m : Nat) z, m < j → ns[m]? = some z → z ≠ y) ∧ Φ (.int j) M
  | _, _ => False
theorem flat_vs : ∀ ns : List Int, (ns.map V.int).all flatV = true
  | [] => rfl
  | n :: ns => by rw [List.map_cons, List.all_cons, flat_vs ns]; rfl
theorem lk_index {K : PySem.W.Frag} : LkM K (rIndex K) wrIndex := by
  intro S₀ Hf M H x v ds vs Φ Q W ix i h k
  unfold wrIndex at h
  split at h
  · rename_i ns y e
    cases e1 : lstF M x with
    | none => rw [e1] at e; cases e
    | some es =>
      rw [e1] at e
      obtain ⟨a, xs, rfl, h1, h2⟩ := lstF_some W ix e1
      rw [intsD_eq e] at h2
      rw [h2.ints] at h1
      obtain ⟨u, r, rfl, g1, g2⟩ := isDs_cons_inv i
      rw [isDs_nil_inv g2, isD_int.mp g1]
      obtain ⟨j, q1, q2, q3⟩ := h
      refine ⟨a, _, .int y, j, .int y, rfl, rfl, h1, rfl, flat_vs ns, by rw [List.getElem?_map, q1]; rfl, ?_, fun m z' hm hz => ?_, k.go W q3 (isD_int.mpr rfl)⟩
      · simp [eqV]
      · rw [List.getElem?_map] at hz
        cases e3 : ns[m]? with
        | none => rw [e3] at hz; cases hz
        | some z =>
          rw [e3] at hz
          cases hz
          have := q2 m z hm e3
          simp [eqV, this]
  · exact h.elim
section
variable {X : Cx} {o e : Expr} {wo we : WE} {wa : WA} {apos cpos pos : Pos}
theorem ve_index (ho : VE X S₀ o wo) (ha : VA X S₀ [e] wa) (hbase : attributeBase o "index" X.env (eval o X.env) = eval o X.env := by rfl)
    (hfew : ((backTo cpos (starEach [e] X.env)).all (fun x => !x.1) && (backToKw cpos (keywordEach [] X.env)).all (fun x => x.1.isSome)
      && decide (([e] : List Expr).length + ([] : List Keyword).length + (if ([] : List Keyword).isEmpty then 0 else 1) < 30)) = true := by rfl)
    (hline : (apos.endLine == cpos.line) = true := by rfl) (hs : starEach [e] X.env = (false, eval e X.env) :: starEach [] X.env := by rfl) :
    VE X S₀ (.Call (.Attribute o "index" apos) [e] [] cpos) (wBM wrIndex wo wa) :=
  ve_bm PySem.F.slot_list_index PySem.F.type_list_index mt_index lk_index ho ha hbase hfew hline hs
/-- return (x, l): the list l freezes -/
def kFz2 (Φ : KD) : KD := fun d M => match d with
  | .tup [x, y] => match memL M y with | some (a, ds) => Φ (.tup [x, .lst ds]) (del M a) | none => Φ d M
  | _ => Φ d M
def sRetP (w : WE) : WS := fun D ρ M => w ρ M (kFz2 D.rt)
theorem vs_retP (he : VE X S₀ e we) : VS X S₀ (.Return (some e) pos) (sRetP we) := PS.imp (ps_ret he) fun D σ H ⟨Hf, ρ, M, De, W, e, h, k⟩ => ⟨Hf, ρ, M, _, W, e, h, fun d M1 v Hf1 H1 h1 W1 s1 i1 => by
  unfold kFz2 at h1
  split at h1
  · rename_i x y
    split at h1
    · rename_i a ds e1
      obtain ⟨t, us, rfl, h2, h3⟩ := isD_tup.mp i1
      obtain ⟨v1, r1, rfl, g1, h4⟩ := isDs_cons_inv h3
      obtain ⟨v2, r2, rfl, g2, h5⟩ := isDs_cons_inv h4
      obtain ⟨hm, rfl, xs, _, _⟩ := memL_some W1 g2 e1
      rw [isDs_nil_inv h5] at h2
      obtain ⟨Hf2, W2, s2, i2⟩ := W1.freeze hm
      exact k.rt _ _ _ _ _ h1 W2 (s1.trans s2) (isD_tup.mpr ⟨t, _, rfl, h2.up s2.ex, isDs_cons (IsD.mono s2.ex _ _ g1) (isDs_cons i2 isDs_nil)⟩)
    · exact k.rt _ _ _ _ _ h1 W1 s1 i1
  · exact k.rt _ _ _ _ _ h1 W1 s1 i1⟩
end
theorem e_retP {De : WN} {ρ : Sg} {M : Mem} {we : WE} : sRetP we De ρ M = we ρ M (kFz2 De.rt) := rfl
theorem e_fz2 {Φ : KD} {M : Mem} {x : D} {a : Addr} {ds : List D} (h : M a = some (.lst ds)) : kFz2 Φ (.tup [x, .ref a]) M = Φ (.tup [x, .lst ds]) (del M a) := by simp only [kFz2, memL, h]
theorem e_indexL {M : Mem} {Φ : KD} {ns : List Int} {y : Int} : wrIndex (.lst (ns.map D.int)) [.int y] M Φ = ∃ j : Nat, ns[j]? = some y ∧ (∀ (m : Nat) z, m < j → ns[m]? = some z → z ≠ y) ∧ Φ (.int j) M := by simp only [wrIndex, lstF, Option.bind, intsD_map]
end VL

/-! exceptions of the program: classes over any built-in one whose __init__ stores fields -/
namespace XL
open PySem PySem.Spec PyProof.Rows L2
open Builtin.ObjectAttr (storeInOwnDict ownDictForStores)
/-- an own exception class with an __init__ of its own at fI -/
structure XCls (K : PySem.W.Frag) (C fI : Addr) : Prop where
  base : ∃ (B newId initId : String) (bmB : List Value), ExcBaseFacts B newId initId bmB ∧ StoreFacts B bmB "object.__setattr__" "object" ∧ PySem.W.excInitIn K C bmB newId = true ∧ PySem.W.excOver K C bmB = true
  dct : PySem.W.hasDictIn K C = true
  sa : PySem.W.findIn K (.ref C) "__setattr__" = some (some (.builtin "object.__setattr__"))
  exC : PySem.W.subIn K (.ref C) (.type "BaseException") = some true
  tyC : PySem.W.typeIn K (.ref C) = some (.type "type")
  kC : PySem.W.keepIn K (.ref C) = true
  iC : PySem.W.findIn K (.ref C) "__init__" = some (some (.ref fI))
  tI : PySem.W.typeIn K (.ref fI) = some (.type "function")
theorem taker0 {K : PySem.W.Frag} {C : Addr} {f : Str} (n : PySem.W.findIn K (.ref C) f = some none) : PySem.W.takerIn K C f = some none := by unfold PySem.W.takerIn; rw [n]; rfl
section
variable {X : Cx} {pins : List (Addr × Obj)} {σ : L2.St} {H : Hp} {s : Shared} {a C dx fI : Addr} {f : Str} {y : V} {u : Value} {fs : List (Str × V)} {Q : Unit → Shared → Prop} {E : Value → Shared → Prop} {A : Around}
theorem upd_comm {H : Hp} {p q : Addr} {o u : HO} (h : p ≠ q) : upd (upd H p o) q u = upd (upd H q u) p o := by
  funext b
  by_cases e : b = q
  · subst e; rw [upd_same, upd_ne (Ne.symm h), upd_same]
  · by_cases e' : b = p
    · subst e'; rw [upd_ne e, upd_same, upd_same]
    · rw [upd_ne e, upd_ne e', upd_ne e', upd_ne e]
/-- one object changes (to ob) and one is laid: the change alone is a write, the rest a laying -/
theorem inv_pair {o1 o2 : HO} {ob0 ob : Obj} {h' : Heap} {tk : Nat} (I : Inv X pins σ H s) (mu : Mut (H a)) (g0 : s.heap.get? a = some ob0) (nf : ob.isFreed = false) (new : s.heap.objs.size ≤ dx) (old : ∀ b o, b ≠ a → s.heap.get? b = some o → h'.get? b = some o)
    (ga : h'.get? a = some ob) (w2 : ∀ h1 : Heap, h1.get? a = some ob → ObjOk X.prog X.w (upd H a o2) h1 a o2) (w1 : ∀ H1 : Hp, ObjOk X.prog X.w H1 h' dx o1) : Inv X pins σ (upd (upd H dx o1) a o2) { s with heap := h', toks := tk } := by
  have ne : dx ≠ a := fun z => absurd (Heap.lt_size g0) (by rw [← z]; exact Nat.not_lt.mpr new)
  have mid : (s.heap.update a fun _ => ob).get? a = some ob := Heap.get?_update_self _ g0 nf
  have J : Inv X pins σ (upd H a o2) { s with heap := s.heap.update a fun _ => ob, toks := tk } :=
    I.write mu (.inl rfl) (fun b o hb e => (Heap.get?_update_other s.heap (fun _ => ob) (Ne.symm hb)).trans e) ⟨ob, mid⟩ (w2 _ mid)
  rw [upd_comm ne]
  refine J.laid (t' := tk) (fun b o e => ?_) (by show (s.heap.update a fun _ => ob).objs.size ≤ dx; rw [Heap.size_update]; exact new) (w1 _)
  by_cases hb : b = a
  · subst hb; exact ga.trans (mid.symm.trans e)
  · exact old b o hb ((Heap.get?_update_other s.heap (fun _ => ob) (Ne.symm hb)).symm.trans e)
/-- a store upon such an exception goes past its classes, to its own dict -/
theorem xst_road {ox : Obj} {od : Option Obj} (T : XCls X.K C fI) (I : Inv X pins σ H s) (at_a : PySem.W.InstAt s.heap a ox C od) (hno : PySem.W.findIn X.K (.ref C) f = some none)
    (h : ∀ b cd, PySem.W.Looks (model X.prog X.w) s.heap (classData C) cd → cd.hasDict = true → wpAny (model X.prog X.w) A.in1 (storeInOwnDict (.ref a) (.ref C) (.str f s.toks) f u b) (fun fin s' => ∃ v, fin = .done (.ret v) ∧ Q () s') (fun _ _ => False) { s with toks := s.toks + 1 }) :
    wpAny (model X.prog X.w) A (setAttr (.ref a) f u) Q E s := by
  obtain ⟨_, _, _, _, _, SF, _, ov⟩ := T.base
  obtain ⟨cd, kc, dd⟩ := PySem.W.any_some T.dct
  refine PySem.W.set_plain I.kIn at_a T.sa (PySem.W.osa_openX SF I.kIn at_a ov (taker0 hno) fun b => ?_)
  refine wpAny_mono (h b cd (PySem.W.looks_clsIn I.kIn kc) dd) (fun fin s' z => ?_) fun _ _ z => z.elim
  obtain ⟨v, rfl, q⟩ := z
  exact q
theorem xst_new (T : XCls X.K C fI) (I : Inv X pins σ H s) (e : H a = some (exo a C none)) (hno : PySem.W.findIn X.K (.ref C) f = some none) (ry : RelV y u)
    (h : ∀ dx s', H dx = none → dx ≠ a → Inv X pins σ (upd (upd H dx (exd dx [(f, y)])) a (exo a C (some dx))) s' → Q () s') : wpAny (model X.prog X.w) A (setAttr (.ref a) f u) Q E s := by
  obtain ⟨t1, ga⟩ := exo_at I.hok e
  obtain ⟨hp, g, d, t, os⟩ := s
  have far : a ≠ hp.objs.size := Nat.ne_of_lt (Heap.lt_size ga)
  refine xst_road T I (od := none) ⟨ga, rfl, rfl, trivial⟩ hno fun b cd look dd => ?_
  obtain ⟨nm, bs, mro, ns, qn, hdc, sn, sb, ab, col, del⟩ := cd
  cases dd
  unfold storeInOwnDict ownDictForStores
  repeat (first | with_reducible refine PySem.HandSPX.store_in_new ?_ ?_ | with_reducible refine wpAny_loadPart_at ga ?_ | with_reducible refine look.at ?_ | wp_step)
  · exact ⟨_, #[], _, (Heap.get?_update_other _ _ far).trans (Heap.get?_push_at rfl rfl), rfl, fun _ z => absurd z (by simp), fun _ => rfl⟩
  · rintro h' tk' ns' ⟨_, same⟩
    have pushed : ∀ b o, hp.get? b = some o → (hp.push { cls := .type "dict", data := .dict #[] }).get? b = some o := fun b o z => Heap.get?_push_of_some _ z
    refine ⟨_, rfl, h hp.objs.size _ (I.hok.fresh (Nat.le_refl _)) far.symm (inv_pair (tk := tk') I (by rw [e]; exact True.intro) ga rfl (Nat.le_refl _) (fun b o nb z => ?_) ((same a far).trans (Heap.get?_update_self _ (pushed a _ ga) rfl)) (fun _ z => exo_ok z) fun _ => exd_ok ns' (relO_put (fs := []) ry fun _ => trivial))⟩
    exact (same b (Nat.ne_of_lt (Heap.lt_size z))).trans ((Heap.get?_update_other _ _ (Ne.symm nb)).trans (pushed b o z))
theorem xst_old (T : XCls X.K C fI) (I : Inv X pins σ H s) (e : H a = some (exo a C (some dx))) (ed : H dx = some (exd dx fs)) (hl : fs.length ≤ 900) (hno : PySem.W.findIn X.K (.ref C) f = some none) (ry : RelV y u)
    (h : ∀ s', Inv X pins σ (upd H dx (exd dx ((f, y) :: fs))) s' → Q () s') : wpAny (model X.prog X.w) A (setAttr (.ref a) f u) Q E s := by
  obtain ⟨t1, ga⟩ := exo_at I.hok e
  obtain ⟨mA, ns, rel⟩ := exd_at I.hok ed
  obtain ⟨oD, _, _, gd, _, _⟩ := ns.count (within_of rel)
  obtain ⟨hp, g, d, t, os⟩ := s
  refine xst_road T I (od := some oD) ⟨ga, rfl, rfl, gd⟩ hno fun b cd look dd => ?_
  obtain ⟨nm, bs, mro, nsC, qn, hdc, sn, sb, ab, col, del⟩ := cd
  cases dd
  unfold storeInOwnDict ownDictForStores
  repeat (first | with_reducible refine PySem.OEX.store_in_old ns (within_of rel) (by rw [List.length_map]; omega) ?_ | with_reducible refine wpAny_loadPart_at ga ?_ | with_reducible refine look.at ?_ | wp_step)
  rintro h' tk' ns' ⟨_, same⟩
  obtain ⟨o', _, _, g', _⟩ := id ns'
  exact ⟨_, rfl, h _ (I.write (t' := tk') (by rw [ed]; exact True.intro) (.inl rfl) (fun b o nb z => (same b nb).trans z) ⟨o', g'⟩ (exd_ok ns' (relO_put ry rel)))⟩
end
/-- self.f as a target, self an exception that is being made -/
def gOst (K : PySem.W.Frag) (f : Str) (to : TE) : TG := fun v σ H Q => to σ H fun x H2 => ∃ a C fI : Addr, x = .ref a ∧ XCls K C fI ∧ PySem.W.findIn K (.ref C) f = some none ∧
  ((H2 a = some (exo a C none) ∧ ∀ dx, H2 dx = none → dx ≠ a → Q σ (upd (upd H2 dx (exd dx [(f, v)])) a (exo a C (some dx)))) ∨
    ∃ (dx : Addr) (fs : List (Str × V)), H2 a = some (exo a C (some dx)) ∧ H2 dx = some (exd dx fs) ∧ fs.length ≤ 900 ∧ Q σ (upd H2 dx (exd dx ((f, v) :: fs))))
theorem pg_ost {X : Cx} {o : Expr} {to : TE} {f : Str} {pos : Pos} (ho : PE X o to)
    (hb : ∀ v, assign (.Attribute o f pos) X.env v = (do let ov ← holding [v] (eval o X.env); standAt pos.atName; holding [v, ov] (setAttr ov f v); release [v, ov] []) := by intro _; rfl) : PG X (.Attribute o f pos) (gOst X.K f to) := by
  refine ⟨fun pins s σ H v u Q I ru h => ?_⟩
  rw [hb u]
  refine wpAny_bind (wpAny_holding (thn (ho.run pins s σ H _ I h) fun ov s1 ⟨x, H1, I1, r1, a, C, fI, ex, T, hno, q⟩ => ?_))
  subst ex
  obtain rfl : ov = Value.ref a := r1
  have done : ∀ s2 H2, Inv X pins σ H2 s2 → Q σ H2 → wpAny (model X.prog X.w) X.A (release [u, .ref a] []) (fun _ s' => ∃ σ' H', Inv X pins σ' H' s' ∧ Q σ' H') X.xe s2 := fun s2 H2 J q => wpAny_release ⟨σ, H2, J, q⟩
  refine wpAny_bind (wpAny_standAt (wpAny_bind (wpAny_holding ?_)))
  rcases q with ⟨ea, q⟩ | ⟨dx, fs, ea, ed, hl, q⟩
  · exact xst_new T I1 ea hno ru fun dx s' n ne J => done _ _ J (q dx n ne)
  · exact xst_old T I1 ea ed hl hno ru fun s' J => done _ _ J q
/-- what C(us) lays ahead of its __init__: the tuple of the arguments (not tracked), the exception -/
theorem xborn {X : Cx} {pins : List (Addr × Obj)} {σ : L2.St} {H : Hp} {hp : Heap} {g : Array GenState} {d : Drawn} {t : Nat} {os : OsState} (I : Inv X pins σ H ⟨hp, g, d, t, os⟩) (C : Addr) (us : List Value) :
    Inv X pins σ (upd H (hp.objs.size + 1) (exo (hp.objs.size + 1) C none)) ⟨(hp.push (PySem.W.kdv_tup us)).push (PySem.HandSPX.excO C hp.objs.size), g, d, t, os⟩ := by
  have one : Inv X pins σ H ⟨hp.push (PySem.W.kdv_tup us), g, d, t, os⟩ := I.kept (t' := t) fun b o e => Heap.get?_push_of_some _ e
  have there : ((hp.push (PySem.W.kdv_tup us)).push (PySem.HandSPX.excO C hp.objs.size)).get? (hp.objs.size + 1) = some (PySem.HandSPX.excO C hp.objs.size) := by heap_get
  exact one.laid (t' := t) (fun b o e => Heap.get?_push_of_some _ e) (by show (hp.push _).objs.size ≤ _; simp [Heap.push]) (exo_ok there)
/-- C(us) by C's own __init__ that keeps sp -/
theorem make_x {X : Cx} {CX : CXT} {C fI : Addr} {k : Nat} {fd : FuncData} {ps : List Str} {sp : Sp} {ds : List Value} {dvs vs : List V} {us : List Value} {pins : List (Addr × Obj)} {σ : L2.St} {H1 : Hp} {Q : XK} {s1 : Shared} (T : XCls X.K C fI)
    (F1 : FnOk X.prog X.w X.K X.mg X.base CX k fI fd ps sp) (hr : Room (k + 1) X.A) (hb : Binds X.K fd ps ds) (hd : Vals dvs ds) (hx : Passes CX X (fun _ _ _ => False)) (I1 : Inv X pins σ H1 s1) (r1 : Vals vs us) (hz : vs.length ≤ 1000)
    (q1 : ∀ a, H1 a = none → sp (.ref a :: (vs ++ dvs)) (upd H1 a (exo a C none)) (fun v H2 => v = .non ∧ ∃ (d : Addr) (fs : List (Str × V)), H2 a = some (exo a C (some d)) ∧ H2 d = some (exd d fs) ∧ H1 d = none ∧ Q (.ref C) (some d) (upd (del H2 a) d (.xd fs))) (fun _ _ _ => False)) :
    wpAny (model X.prog X.w) X.A (call (.ref C) us) (L2N.MkP X pins σ Q) X.xe s1 := by
  obtain ⟨_, _, _, _, FB, _, shape, _⟩ := T.base
  obtain ⟨_, _, _, _, _, _, _, _, _, _, _, _, _, _, _, _, gC, rest⟩ := PySem.W.excInit_of I1.kIn shape
  obtain ⟨hp, g, dr, tk, os⟩ := s1
  have le : hp.objs.size ≤ hp.objs.size + 1 := Nat.le_succ _
  have J := xborn I1 C us
  have told := q1 _ (I1.hok.fresh le)
  have args : Vals (V.ref (hp.objs.size + 1) :: (vs ++ dvs)) (Value.ref (hp.objs.size + 1) :: (us ++ ds)) := .cons rfl (r1.append hd)
  have bound := hb _ (Value.ref (hp.objs.size + 1) :: us) J.kIn (by have := args.length; rw [F1.len _ _ _ _ told] at this; exact this.symm)
  have inits := F1.run _ X.stack _ _ _ _ _ _ _ (hr.make C us []) (J.env0.make C us []) bound args told
  refine wpAny_call (PySem.HandSPX.call_own FB rest gC (PySem.W.looks_findIn I1.kIn T.iC) (fun self => PySem.W.bind_fn I1.kIn self T.tI) (by rw [← r1.length, sizeLine_eq]; omega) (codeAny_mono inits ?_))
  rintro (er | fl) ⟨h2, g2, d2, t2, os2'⟩ back
  · exact hx pins σ _ _ er _ J back
  · cases fl <;> first | exact False.elim back | skip
    obtain ⟨_, H2, os2, bare2, un2, hok2, rv, rfl, d, fs, ea, ed, hd1, q2⟩ := back
    obtain ⟨t0, G, J2, kG, ge, hoe, na⟩ := mk_end0 (d2 := d2) (t2 := t2) I1 le (fun b o z => Heap.get?_push_of_some _ (Heap.get?_push_of_some _ z)) un2 hok2 os2 bare2 ea ed hd1
    exact ⟨rv, _, _, _, ⟨G, g2, d2, t2, os2'⟩, _, .ref C, some d, rfl, J2, kG, ge, hoe, ⟨rfl, rfl, fun vs hv => by cases hv; rfl⟩, rfl, rfl, na, rfl, bare2, raises_own T.exC T.tyC, q2⟩
section
variable {X : Cx} {CX : CXT} {x : Str} {C fI : Addr} {k : Nat} {fd : FuncData} {ps : List Str} {sp : Sp} {ds : List Value} {dvs : List V} {e : Expr} {es : List Expr} {ta : TA} {p pos : Pos}
theorem pmk_x (T : XCls X.K C fI) (F1 : FnOk X.prog X.w X.K X.mg X.base CX k fI fd ps sp) (hr : Room (k + 1) X.A) (hb : Binds X.K fd ps ds) (hd : Vals dvs ds) (hx : Passes CX X (fun _ _ _ => False)) (hg : Gl X x) (hm : X.mg x = some (.ref C)) (ha : PA X (e :: es) ta)
    (hdb : (x == ("__debug__" : Str)) = false := by decide) (he : starEach (e :: es) X.env = (false, eval e X.env) :: starEach es X.env := by rfl) (hpl : (backTo pos (starEach es X.env)).any (·.1) = false := by rfl) :
    L2N.PMk X (.Call (.Name x p) (e :: es) [] pos) (tMkO C sp dvs ta) := fun pins s σ H Q I h =>
  wpAny_Call_Name_kw (ld_glob I hg hm (PySem.W.callWith_K (h₀ := X.base) I.ok.mod.kin T.kC (thn (ha.run pos pins s σ H _ I h) fun us s1 ⟨vs, H1, I1, r1, hz, q1⟩ => ⟨I1.kIn, make_x T F1 hr hb hd hx I1 r1 hz q1⟩) he hpl) hdb)
theorem pmk_x0 (T : XCls X.K C fI) (F1 : FnOk X.prog X.w X.K X.mg X.base CX k fI fd ps sp) (hr : Room (k + 1) X.A) (hb : Binds X.K fd ps ds) (hd : Vals dvs ds) (hx : Passes CX X (fun _ _ _ => False)) (hg : Gl X x) (hm : X.mg x = some (.ref C)) 
    (hdb : (x == ("__debug__" : Str)) = false := by decide) : L2N.PMk X (.Call (.Name x p) [] [] pos) (tMkO C sp dvs tNil) := fun pins s σ H Q I h =>
  wpAny_Call_Name_kw (ld_glob I hg hm (PySem.W.callWith_K0 I.kIn T.kC (make_x (us := []) (vs := []) T F1 hr hb hd hx I .nil h.1 h.2)) hdb)
end
/-! ### the __init__ of such a class: self.tag, self.f = (text, x) -/
/-- the fields of an exception with such a tag -/
def fieldOf (tag : Str) : Option Str := ([("BadKey", "key"), ("DuplicateKey", "key"), ("AtRoot", "key"), ("Overlap", "key"), ("KeysDiffer", "key"), ("BadWeight", "key"), ("NoKey", "key"), ("BadShape", "pos"), ("BadStep", "pos"), ("BadCost", "pos"), ("Contradiction", "pos"), ("ParseError", "pos"),
  ("TooManyKeys", "limit"), ("TooLong", "limit"), ("TooManyTrees", "limit"), ("TooManyWatches", "limit"), ("BadName", "name"), ("NameTaken", "name"), ("SameName", "name"), ("NoTree", "name"), ("BadSize", "size"), ("BadCommand", "word"), ("NoWatch", "number")] : List (Str × Str)).lookup tag
def xfs (tag : Str) (v : V) : List (Str × V) := match fieldOf tag with
  | some f => [(f, v), ("tag", .str tag)]
  | none => [("tag", .str tag)]
/-- what is known of the class of that name -/
structure XKnown (K : PySem.W.Frag) (tag : Str) (C fI : Addr) : Prop extends XCls K C fI where
  tg : PySem.W.findIn K (.ref C) "tag" = some none
  fld : ∀ f, fieldOf tag = some f → PySem.W.findIn K (.ref C) f = some none
  rd : XfC K C
def spInit (K : PySem.W.Frag) (tag : Str) (C fI : Addr) : Sp := fun vs H Q _ => XKnown K tag C fI ∧ ∃ a x, H a = some (exo a C none) ∧ ((vs = [.ref a, x] ∧ (fieldOf tag).isSome = true) ∨ (vs = [.ref a] ∧ fieldOf tag = none)) ∧
  ∀ d H2, H d = none → d ≠ a → H2 a = some (exo a C (some d)) → H2 d = some (exd d (xfs tag x)) → (∀ b o, H b = some o → b ≠ a → H2 b = some o) → Q .non H2
section
variable {P : Program} {w : World} {K : PySem.W.Frag} {mg : Str → Option Value} {base : Heap}
/-- def __init__(self, f): self.tag, self.f = (tag, f) -/
theorem init2 {tag fl qual : Str} {C fI : Addr} {st : Stmt} {fd : FuncData} (F : Fun K "__init__" qual st fI fd) (S : FnScope ["self", fl] ["self", fl] (defScope st)) (hf : fieldOf tag = some fl)
    (h : ∀ (cdv : Value) (A : Around) (outer : List Env) (s : Shared) (H : Hp) (E : XK), PSs (cxOf CX0 P w K mg base ["self", fl] qual (defScope st) fI cdv A outer s H E).nox (defBody st)
      (tAsg (tTup (tCons (tC (.str tag)) (tCons (tVar 1) tNil))) (gTup K 2 (gCons (gOst K "tag" (tVar 0)) (gCons (gOst K fl (tVar 0)) gNil))))) : FnOk P w K mg base CX0 1 fI fd ["self", fl] (spInit K tag C fI) := by
  refine F.ok S (fun vs H Q E ⟨_, a, x, _, hv, _⟩ => ?_) (fun cdv A outer s H vs Q E hr ⟨T, a, x, ha, hv, q⟩ => ⟨_, h cdv A outer s H E, ?_⟩)
  · rcases hv with ⟨rfl, _⟩ | ⟨_, h0⟩
    · rfl
    · rw [hf] at h0; cases h0
  · obtain ⟨rfl, _⟩ | ⟨_, h0⟩ := hv
    · refine ⟨x, rfl, show _ ≤ _ by rw [sizeLine_eq]; show 2 ≤ _; omega, fun p hp => ?_⟩
      have hpa : p ≠ a := fun z => by subst z; rw [hp] at ha; cases ha
      refine ⟨p, _, rfl, .inl (.inl upd_same), rfl, _, _, rfl, .ref a, rfl, a, C, fI, rfl, T.toXCls, T.tg, .inl ⟨by rw [upd_ne hpa.symm]; exact ha, fun d hd hda => ?_⟩⟩
      have hdp : d ≠ p := fun z => by subst z; rw [upd_same] at hd; cases hd
      have hd0 : H d = none := by rw [upd_ne hdp] at hd; exact hd
      refine ⟨_, _, rfl, .ref a, rfl, a, C, fI, rfl, T.toXCls, T.fld _ hf, .inr ⟨d, [("tag", V.str tag)], upd_same, by rw [upd_ne hda, upd_same], (show 1 ≤ 900 by decide), rfl, ?_⟩⟩
      refine q d _ hd0 hda (by rw [upd_ne hda.symm, upd_same]) ?_ fun b o hb hba => ?_
      · rw [upd_same]; unfold xfs; rw [hf]
      · have hbd : b ≠ d := fun z => by subst z; rw [hd0] at hb; cases hb
        have hbp : b ≠ p := fun z => by subst z; rw [hp] at hb; cases hb
        rw [upd_ne hbd, upd_ne hba, upd_ne hbd, upd_ne hbp]; exact hb
    · rw [hf] at h0; cases h0
/-- def __init__(self): self.tag = tag -/
theorem init1 {tag qual : Str} {C fI : Addr} {st : Stmt} {fd : FuncData} (F : Fun K "__init__" qual st fI fd) (S : FnScope ["self"] ["self"] (defScope st)) (hf : fieldOf tag = none)
    (h : ∀ (cdv : Value) (A : Around) (outer : List Env) (s : Shared) (H : Hp) (E : XK), PSs (cxOf CX0 P w K mg base ["self"] qual (defScope st) fI cdv A outer s H E).nox (defBody st)
      (tAsg (tC (.str tag)) (gOst K "tag" (tVar 0)))) : FnOk P w K mg base CX0 1 fI fd ["self"] (spInit K tag C fI) := by
  refine F.ok S (fun vs H Q E ⟨_, a, x, _, hv, _⟩ => ?_) (fun cdv A outer s H vs Q E hr ⟨T, a, x, ha, hv, q⟩ => ⟨_, h cdv A outer s H E, ?_⟩)
  · rcases hv with ⟨_, h0⟩ | ⟨rfl, _⟩
    · rw [hf] at h0; cases h0
    · rfl
  · obtain ⟨_, h0⟩ | ⟨rfl, _⟩ := hv
    · rw [hf] at h0; cases h0
    · refine ⟨.ref a, rfl, a, C, fI, rfl, T.toXCls, T.tg, .inl ⟨ha, fun d hd hda => ?_⟩⟩
      refine q d _ hd hda upd_same ?_ fun b o hb hba => ?_
      · rw [upd_ne hda, upd_same]; unfold xfs; rw [hf]
      · have hbd : b ≠ d := fun z => by subst z; rw [hd] at hb; cases hb
        rw [upd_ne hba, upd_ne hbd]; exact hb
end
/-- what is behind the making: the exception stands for its dict alone -/
def tMkX (C : Addr) (tag : Str) (ta : TA) : L2.St → Hp → XK → Prop := fun σ H Q => ta σ H fun vs H1 => ∃ x, ((vs = [x] ∧ (fieldOf tag).isSome = true) ∨ (vs = [] ∧ fieldOf tag = none)) ∧ ∀ d H3, H1 d = none → H3 d = some (.xd (xfs tag x)) → (∀ b o, H1 b = some o → H3 b = some o) → Q (.ref C) (some d) H3
theorem mkx_of {K : PySem.W.Frag} {C fI : Addr} {tag : Str} {ta : TA} (T : XKnown K tag C fI) (hta : ∀ σ H Q Q', (∀ vs H1, Q vs H1 → Q' vs H1) → ta σ H Q → ta σ H Q') {σ : L2.St} {H : Hp} {Q : XK} (h : tMkX C tag ta σ H Q) : tMkO C (spInit K tag C fI) [] ta σ H Q := by
  refine hta σ H _ _ (fun vs H1 ⟨x, hv, q⟩ => ⟨?_, fun a ha => ⟨T, a, x, upd_same, ?_, fun d H2 hd hda h1 h2 h3 => ⟨rfl, d, _, h1, h2, ?_, ?_⟩⟩⟩) h
  · rcases hv with ⟨rfl, _⟩ | ⟨rfl, _⟩
    · exact (show 1 ≤ 1000 by decide)
    · exact (show 0 ≤ 1000 by decide)
  · rcases hv with ⟨rfl, h1⟩ | ⟨rfl, h1⟩
    · exact .inl ⟨rfl, h1⟩
    · exact .inr ⟨rfl, h1⟩
  · rw [upd_ne hda] at hd; exact hd
  · have hd1 : H1 d = none := by rw [upd_ne hda] at hd; exact hd
    refine q d _ hd1 upd_same fun b o hb => ?_
    have hba : b ≠ a := fun z => by subst z; rw [ha] at hb; cases hb
    have hbd : b ≠ d := fun z => by subst z; rw [hd1] at hb; cases hb
    rw [upd_ne hbd, del_ne hba]
    exact h3 b o (by rw [upd_ne hba]; exact hb) hba
end XL

/-! readings of defs that may raise -/
namespace VL
open PySem PySem.Spec PyProof.Rows L2 XL
variable {S₀ : W0}
/-- what is wanted of an exception: its tag, its field, the memory -/
abbrev XC := Str → D → Mem → Prop
abbrev W4 := List D → Mem → KD → XC → Prop
def KnX (K : PySem.W.Frag) (mg : Str → Option Value) (S₀ : W0) (Ψ : XC) (E : XK) : Prop := ∀ tag x C M' v d Hf' H', mg tag = some (.ref C) → Ψ tag x M' → Wd K S₀ Hf' M' H' → Hf' d = some (.xd (xfs tag v)) → IsD K Hf' x v → E (.ref C) (some d) H'
def spX (K : PySem.W.Frag) (mg : Str → Option Value) (Wf : W4) : Sp := fun vs H Q E => ∃ Hf M ds Φ Ψ, Wr K Hf M H ∧ IsDs K Hf ds vs ∧ Wf ds M Φ Ψ ∧ Knr K Hf M H Φ Q ∧ KnX K mg ⟨Hf, M, H⟩ Ψ E
theorem KnX.at {K : PySem.W.Frag} {mg : Str → Option Value} {Ψ : XC} {E : XK} {Hf : Hp} {M : Mem} {H : Hp} (k : KnX K mg S₀ Ψ E) (W : Wd K S₀ Hf M H) : KnX K mg ⟨Hf, M, H⟩ Ψ E := fun tag x C M' v d Hf' H' hm p W' hd i => k tag x C M' v d Hf' H' hm p ⟨W'.toWr, W.st.trans W'.st⟩ hd i
theorem liftA_imp {K : PySem.W.Frag} {w : WA} : ∀ (σ : L2.St) (H : Hp) (Q Q' : List V → Hp → Prop), (∀ vs H1, Q vs H1 → Q' vs H1) → liftA K S₀ w σ H Q → liftA K S₀ w σ H Q' :=
  fun σ H Q Q' i ⟨Hf, ρ, M, Φ, W, e, h, k⟩ => ⟨Hf, ρ, M, Φ, W, e, h, fun d M' v Hf' H' p W' s' i' => i _ _ (k d M' v Hf' H' p W' s' i')⟩
theorem PMk.imp {X : Cx} {e : Expr} {t t' : L2.St → Hp → XK → Prop} (h : L2N.PMk X e t) (i : ∀ σ H Q, t' σ H Q → t σ H Q) : L2N.PMk X e t' := fun pins s σ H Q I q => h pins s σ H Q I (i σ H Q q)
/-- raise C(..), C named by its tag -/
def kRaise (tag : Str) (Ψ : XC) : List D → Mem → Prop := fun ds M' => ∃ x, ((ds = [x] ∧ (fieldOf tag).isSome = true) ∨ (ds = [] ∧ x = D.non ∧ fieldOf tag = none)) ∧ Ψ tag x M'
def sRaise (tag : Str) (Ψ : XC) (wa : WA) : WS := fun _ ρ M => wa ρ M (kRaise tag Ψ)
theorem lift_raise {K : PySem.W.Frag} {mg : Str → Option Value} {tag : Str} {Ψ : XC} {E : XK} {C : Addr} {wa : WA} {De : Ends} {σ : L2.St} {H : Hp} (hX : KnX K mg S₀ Ψ E) (hm : mg tag = some (.ref C)) (h : liftS K S₀ (sRaise tag Ψ wa) De σ H) : tMkX C tag (liftA K S₀ wa) σ H (fun cls d H' => E cls d H') := by
  obtain ⟨Hf, ρ, M, D, W, e, h, k⟩ := h
  refine ⟨Hf, ρ, M, _, W, e, h, fun ds M1 vs Hf1 H1 h1 W1 s1 i1 => ?_⟩
  obtain ⟨x, hx, hp⟩ := h1
  have fin : ∀ (v : V), IsD K Hf1 x v → ∀ d H3, H1 d = none → H3 d = some (.xd (xfs tag v)) → (∀ b o, H1 b = some o → H3 b = some o) → E (.ref C) (some d) H3 := by
    intro v iv d H3 hd h3 hk
    have hfd := W1.fresh_f hd
    have hmd := W1.fresh_m hd
    have e := Ex.new (o := .xd (xfs tag v)) hfd
    refine hX tag x C M1 v d (upd Hf1 d (.xd (xfs tag v))) H3 hm hp ⟨⟨fun a o q => ?_, fun a m q => ?_⟩, W1.st.trans ⟨e, fun a o q1 q2 q3 => ?_⟩⟩ upd_same (IsD.mono e _ _ iv)
    · by_cases n : a = d
      · subst n; rw [upd_same] at q; rw [h3]; exact q
      · rw [upd_ne n] at q; exact hk a o (W1.fro a o q)
    · have n : a ≠ d := fun z => by subst z; rw [hmd] at q; cases q
      obtain ⟨q1, o, q2, q3⟩ := W1.mem a m q
      exact ⟨by rw [upd_ne n]; exact q1, o, hk a o q2, q3.mono e⟩
    · have n : a ≠ d := fun z => by subst z; rw [hd] at q1; cases q1
      exact ⟨hk a o q1, by rw [upd_ne n]; exact q2, q3⟩
  rcases hx with ⟨rfl, hs⟩ | ⟨rfl, rfl, hs⟩
  · obtain ⟨v, r, rfl, q1, q2⟩ := isDs_cons_inv i1
    rw [isDs_nil_inv q2]
    exact ⟨v, .inl ⟨rfl, hs⟩, fin v q1⟩
  · rw [isDs_nil_inv i1]
    exact ⟨.non, .inr ⟨rfl, hs⟩, fin .non (isD_non.mpr rfl)⟩
section
variable {X : Cx} {tag : Str} {Ψ : XC} {E : XK} {C fI : Addr} {fd : FuncData} {ps : List Str} {e : Expr} {es : List Expr} {wa : WA} {p pos pos2 : Pos}
theorem vs_raise (hc : X.calm = true) (hX : KnX X.K X.mg S₀ Ψ E) (tk : L2N.Takes X (fun cls d _ H => E cls d H)) (T : XKnown X.K tag C fI) (F1 : FnOk X.prog X.w X.K X.mg X.base CX0 1 fI fd ps (spInit X.K tag C fI)) (hr : Room 2 X.A) (hb : Binds X.K fd ps [])
    (hg : Gl X tag) (hm : X.mg tag = some (.ref C)) (ha : VA X S₀ (e :: es) wa) (hdb : (tag == ("__debug__" : Str)) = false := by decide) (he : starEach (e :: es) X.env = (false, eval e X.env) :: starEach es X.env := by rfl) (hpl : (backTo pos (starEach es X.env)).any (·.1) = false := by rfl) :
    VS X S₀ (.Raise (some (.Call (.Name tag p) (e :: es) [] pos)) none pos2) (sRaise tag Ψ wa) :=
  PS.imp (L2N.ps_raise hc tk (PMk.imp (pmk_x (dvs := []) T.toXCls F1 hr hb .nil pass0 hg hm ha hdb he hpl) fun σ H Q h => mkx_of T liftA_imp h)) fun D σ H h => lift_raise hX hm h
theorem vs_raise0 (hc : X.calm = true) (hX : KnX X.K X.mg S₀ Ψ E) (tk : L2N.Takes X (fun cls d _ H => E cls d H)) (T : XKnown X.K tag C fI) (F1 : FnOk X.prog X.w X.K X.mg X.base CX0 1 fI fd ps (spInit X.K tag C fI)) (hr : Room 2 X.A) (hb : Binds X.K fd ps [])
    (hg : Gl X tag) (hm : X.mg tag = some (.ref C)) (hdb : (tag == ("__debug__" : Str)) = false := by decide) : VS X S₀ (.Raise (some (.Call (.Name tag p) [] [] pos)) none pos2) (sRaise tag Ψ wNil) :=
  PS.imp (L2N.ps_raise hc tk (PMk.imp (t' := tMkX C tag tNil) (pmk_x0 (dvs := []) T.toXCls F1 hr hb .nil pass0 hg hm hdb) fun σ H Q h => mkx_of (ta := tNil) T (fun σ H Q Q' i q => i _ _ q) h)) fun D σ H h => by
    have := lift_raise (wa := wNil) hX hm h
    obtain ⟨Hf, ρ, M, Φ, W, e, h1, k1⟩ := this
    exact k1 _ _ _ _ _ h1 W Stp.refl isDs_nil
end
/-! ### defs that may raise, their calls -/
section
variable {P : Program} {w : World} {K : PySem.W.Frag} {mg : Str → Option Value} {base : Heap}
theorem okXN {x qual : Str} {st : Stmt} {f : Addr} {fd : FuncData} {N ps : List Str} {k : Nat} {sp : Sp} (F : Fun K x qual st f fd) (S : FnScope N ps (defScope st)) (len : ∀ vs H Q E, sp vs H Q E → vs.length = ps.length) (hb : ∀ (cdv : Value) (A : Around) (outer : List Env) (s : Shared) (H : Hp) (vs : List V) (Q : VK) (E : XK), Room k (A.deeper (envOfC qual (defScope st) s.heap.objs.size f cdv)) → sp vs H Q E →
      ∃ t, PSs (cxOf (L2N.CX P w) P w K mg base N qual (defScope st) f cdv A outer s H E) (defBody st) t ∧ t { nx := fun _ H' => Q .non H', rt := Q } (start N vs) H) : FnOk P w K mg base (L2N.CX P w) (k + 1) f fd ps sp := by
  obtain ⟨oc, od, kV, doc, pm, an, cdv, ct, osl, rfl, lk, hcd⟩ := F.ex; exact fn_of lk hcd S len fun A outer s H vs Q E hr hsp => hb cdv A outer s H vs Q E hr hsp
theorem fnX {x qual : Str} {st : Stmt} {f : Addr} {fd : FuncData} {N ps : List Str} {k : Nat} {Wf : W4} (F : Fun K x qual st f fd) (S : FnScope N ps (defScope st)) (len : ∀ ds M Φ Ψ, Wf ds M Φ Ψ → ds.length = ps.length)
    (h : ∀ (cdv : Value) (A : Around) (outer : List Env) (s : Shared) (H : Hp) (E : XK), Room k (A.deeper (envOfC qual (defScope st) s.heap.objs.size f cdv)) → ∀ (S₀ : W0) (Ψ : XC), KnX K mg S₀ Ψ E →
      ∃ w', VSs (cxOf (L2N.CX P w) P w K mg base N qual (defScope st) f cdv A outer s H E) S₀ (defBody st) w' ∧ ∀ ds M Φ, Wf ds M Φ Ψ → w' (endsD Φ) (startD N.length ds) M) : FnOk P w K mg base (L2N.CX P w) (k + 1) f fd ps (spX K mg Wf) := by
  refine okXN F S (fun vs H Q E ⟨Hf, M, ds, Φ, Ψ, _, i, hw, _⟩ => by rw [← i.len]; exact len ds M Φ Ψ hw) (fun cdv A outer s H vs Q E hr ⟨Hf, M, ds, Φ, Ψ, W, i, hw, kn, kx⟩ => ?_)
  have kn := kn.of
  obtain ⟨w', hv, hw'⟩ := h cdv A outer s H E hr ⟨Hf, M, H⟩ Ψ kx
  refine ⟨_, hv, Hf, startD N.length ds, M, endsD Φ, W.begin, ?_, hw' ds M Φ hw, ⟨fun ρ' M' σ' Hf' H' p W' s' e' => kn _ _ _ _ _ p W' s' (isD_non.mpr rfl), kn, (fun ρ' M' σ' Hf' H' p W' s' e' => (p : False).elim), (fun ρ' M' σ' Hf' H' p W' s' e' => (p : False).elim)⟩⟩
  have e := env_start (K := K) (Hf := Hf) (N.length - ds.length) i
  unfold startD
  rw [show start N vs = vs.map some ++ List.replicate (N.length - vs.length) none from rfl, ← i.len]
  exact e
theorem fnXD {x qual : Str} {params : Arguments} {body : List Stmt} {scope : Scope} {dvs : List V} {kws : List (Str × V)} {f : Addr} {fd : FuncData} {N ps : List Str} {k : Nat} {Wf : W4} (F : FunD K x qual params body scope dvs kws f fd) (S : FnScope N ps scope) (len : ∀ ds M Φ Ψ, Wf ds M Φ Ψ → ds.length = ps.length)
    (h : ∀ (cdv : Value) (A : Around) (outer : List Env) (s : Shared) (H : Hp) (E : XK), Room k (A.deeper (envOfC qual scope s.heap.objs.size f cdv)) → ∀ (S₀ : W0) (Ψ : XC), KnX K mg S₀ Ψ E →
      ∃ w', VSs (cxOf (L2N.CX P w) P w K mg base N qual scope f cdv A outer s H E) S₀ body w' ∧ ∀ ds M Φ, Wf ds M Φ Ψ → w' (endsD Φ) (startD N.length ds) M) : FnOk P w K mg base (L2N.CX P w) (k + 1) f fd ps (spX K mg Wf) := by
  refine F.ok S (fun vs H Q E ⟨Hf, M, ds, Φ, Ψ, _, i, hw, _⟩ => by rw [← i.len]; exact len ds M Φ Ψ hw) (fun cdv A outer s H vs Q E hr ⟨Hf, M, ds, Φ, Ψ, W, i, hw, kn, kx⟩ => ?_)
  have kn := kn.of
  obtain ⟨w', hv, hw'⟩ := h cdv A outer s H E hr ⟨Hf, M, H⟩ Ψ kx
  refine ⟨_, hv, Hf, startD N.length ds, M, endsD Φ, W.begin, ?_, hw' ds M Φ hw, ⟨fun ρ' M' σ' Hf' H' p W' s' e' => kn _ _ _ _ _ p W' s' (isD_non.mpr rfl), kn, (fun ρ' M' σ' Hf' H' p W' s' e' => (p : False).elim), (fun ρ' M' σ' Hf' H' p W' s' e' => (p : False).elim)⟩⟩
  have e := env_start (K := K) (Hf := Hf) (N.length - ds.length) i
  unfold startD
  rw [show start N vs = vs.map some ++ List.replicate (N.length - vs.length) none from rfl, ← i.len]
  exact e
/-- where it raises nothing -/
abbrev noX : XC := fun _ _ _ => False
abbrev qt (Wf : W4) : W3 := fun ds M Φ => Wf ds M Φ noX
theorem ok_quiet {k : Nat} {f : Addr} {fd : FuncData} {ps : List Str} {Wf : W4} (F : FnOk P w K mg base (L2N.CX P w) k f fd ps (spX K mg Wf)) : FnOk P w K mg base CX0 k f fd ps (spW K (qt Wf)) := by
  have up : ∀ vs H Q E, spW K (qt Wf) vs H Q E → spX K mg Wf vs H Q (fun _ _ _ => False) := fun vs H Q E ⟨Hf, M, ds, Φ, W, i, hw, kn⟩ => ⟨Hf, M, ds, Φ, noX, W, i, hw, kn, fun _ _ _ _ _ _ _ _ _ p _ _ _ => p⟩
  refine ⟨fun vs H Q E h => F.len vs H Q _ (up vs H Q E h), fun A outer s H args us vs Q E hr e0 hb r h => ?_⟩
  refine codeAny_mono (F.run A outer s H args us vs Q (fun _ _ _ => False) hr e0 hb r (up vs H Q E h)) fun r s' q => ?_
  cases r with
  | error e =>
    obtain ⟨_, _, _, _, _, _, _, _, _, _, _, _, z⟩ := q
    exact z.elim
  | ok fl => cases fl <;> exact q
end
def kCallX (Wf : W4) (Ψ : XC) (Φ : KD) : List D → Mem → Prop := fun ds M => Wf ds M Φ Ψ
def wCallX (Wf : W4) (Ψ : XC) (wa : WA) : WE := fun ρ M Φ => wa ρ M (kCallX Wf Ψ Φ)
section
variable {X : Cx} {k : Nat} {f : Addr} {fd : FuncData} {ps : List Str} {Wf : W4} {Ψ : XC} {E : XK} {x : Str} {p pos : Pos} {e : Expr} {es : List Expr} {wa : WA} {dvs : List V} {ds : List Value}
theorem ve_callX (hX : KnX X.K X.mg S₀ Ψ E) (tk : L2N.Takes X (fun cls d _ H => E cls d H)) (F : FnOk X.prog X.w X.K X.mg X.base (L2N.CX X.prog X.w) k f fd ps (spX X.K X.mg Wf)) (hr : Room k X.A) (hg : Gl X x) (hm : X.mg x = some (.ref f)) (hk : PySem.W.keepIn X.K (.ref f) = true) (hb : Binds X.K fd ps [])
    (ha : VA X S₀ (e :: es) wa) (hdb : (x == ("__debug__" : Str)) = false := by decide) (he : starEach (e :: es) X.env = (false, eval e X.env) :: starEach es X.env := by rfl) (hpl : (backTo pos (starEach es X.env)).any (·.1) = false := by rfl) :
    VE X S₀ (.Call (.Name x p) (e :: es) [] pos) (wCallX Wf Ψ wa) :=
  PE.imp (pe_call F hr hg hm hk hb .nil (L2N.passes_call tk fun _ _ _ _ h => h) ha hdb he hpl) fun σ H Q ⟨Hf, ρ, M, Φ, W, e, h, k⟩ =>
    ⟨Hf, ρ, M, _, W, e, h, fun dd M1 vs Hf1 H1 h1 W1 s1 i1 => ⟨Hf1, M1, dd, Φ, Ψ, W1.toWr, by rw [List.append_nil]; exact i1, h1, (k.at s1).raw W1, hX.at W1⟩⟩
def kCallXD (Wf : W4) (Ψ : XC) (dds : List D) (Φ : KD) : List D → Mem → Prop := fun ds M => Wf (ds ++ dds) M Φ Ψ
def wCallXD (Wf : W4) (Ψ : XC) (dds : List D) (wa : WA) : WE := fun ρ M Φ => wa ρ M (kCallXD Wf Ψ dds Φ)
theorem ve_callXD {dds : List D} (hX : KnX X.K X.mg S₀ Ψ E) (tk : L2N.Takes X (fun cls d _ H => E cls d H)) (F : FnOk X.prog X.w X.K X.mg X.base (L2N.CX X.prog X.w) k f fd ps (spX X.K X.mg Wf)) (hr : Room k X.A) (hg : Gl X x) (hm : X.mg x = some (.ref f)) (hk : PySem.W.keepIn X.K (.ref f) = true) (hb : Binds X.K fd ps ds) (hd : Vals dvs ds) (hdd : ∀ Hf, IsDs X.K Hf dds dvs)
    (ha : VA X S₀ (e :: es) wa) (hdb : (x == ("__debug__" : Str)) = false := by decide) (he : starEach (e :: es) X.env = (false, eval e X.env) :: starEach es X.env := by rfl) (hpl : (backTo pos (starEach es X.env)).any (·.1) = false := by rfl) :
    VE X S₀ (.Call (.Name x p) (e :: es) [] pos) (wCallXD Wf Ψ dds wa) :=
  PE.imp (pe_call F hr hg hm hk hb hd (L2N.passes_call tk fun _ _ _ _ h => h) ha hdb he hpl) fun σ H Q ⟨Hf, ρ, M, Φ, W, e, h, k⟩ =>
    ⟨Hf, ρ, M, _, W, e, h, fun dd M1 vs Hf1 H1 h1 W1 s1 i1 => ⟨Hf1, M1, dd ++ dds, Φ, Ψ, W1.toWr, i1.app (hdd _), h1, (k.at s1).raw W1, hX.at W1⟩⟩
def kCallXK2 (n m : Nat) (Wf : W4) (Ψ : XC) (gD : List D → List D → List D) (ds : List D) (Φ : KD) : List D → Mem → Prop := fun zs M => (ds.length = n ∧ zs.length = m) ∧ Wf (gD ds zs) M Φ Ψ
def kCallXK1 (n m : Nat) (Wf : W4) (Ψ : XC) (gD : List D → List D → List D) (wk : WA) (ρ : Sg) (Φ : KD) : List D → Mem → Prop := fun ds M => wk ρ M (kCallXK2 n m Wf Ψ gD ds Φ)
def wCallXK (n m : Nat) (Wf : W4) (Ψ : XC) (gD : List D → List D → List D) (wa wk : WA) : WE := fun ρ M Φ => wa ρ M (kCallXK1 n m Wf Ψ gD wk ρ Φ)
theorem ve_callXK {n m : Nat} {ks : List Str} {kws : List Keyword} {wk : WA} {g : List Value → List Value → List Value} {gV : List V → List V → List V} {gD : List D → List D → List D} (hX : KnX X.K X.mg S₀ Ψ E) (tk : L2N.Takes X (fun cls d _ H => E cls d H)) (F : FnOk X.prog X.w X.K X.mg X.base (L2N.CX X.prog X.w) k f fd ps (spX X.K X.mg Wf)) (hr : Room k X.A) (hg : Gl X x) (hm : X.mg x = some (.ref f)) (hk : PySem.W.keepIn X.K (.ref f) = true)
    (hb : KBn X.K fd ps n ks g gV) (hgD : ∀ Hf ds zs vs us, IsDs X.K Hf ds vs → IsDs X.K Hf zs us → IsDs X.K Hf (gD ds zs) (gV vs us)) (ha : VA X S₀ (e :: es) wa) (hkw : VKw X S₀ kws wk) (hm2 : ks.length = m := by rfl) (hall : (backToKw pos (keywordEach kws X.env)).all (·.1.isSome) = true := by rfl) (hks : (backToKw pos (keywordEach kws X.env)).filterMap (·.1) = ks := by rfl)
    (hdb : (x == ("__debug__" : Str)) = false := by decide) (he : starEach (e :: es) X.env = (false, eval e X.env) :: starEach es X.env := by rfl)
    (hpl : ((backTo pos (starEach (e :: es) X.env)).any (·.1) || (backToKw pos (keywordEach kws X.env)).any (·.1.isNone)) = false := by rfl) :
    VE X S₀ (.Call (.Name x p) (e :: es) kws pos) (wCallXK n m Wf Ψ gD wa wk) := by
  subst hm2
  refine PE.imp (pe_callN F hr hg hm hk hb (L2N.passes_call tk fun _ _ _ _ h => h) ha hkw hall hks hdb he hpl) fun σ H Q ⟨Hf, ρ, M, Φ, W, e, h, k⟩ => ?_
  refine ⟨Hf, ρ, M, _, W, e, h, fun dd M1 vs Hf1 H1 h1 W1 s1 i1 => ?_⟩
  refine ⟨Hf1, ρ, M1, _, W1, e.mono s1.ex, h1, fun zz M2 us Hf2 H2 h2 W2 s2 i2 => ?_⟩
  exact ⟨by rw [← i1.len]; exact h2.1.1, by rw [← i2.len]; exact h2.1.2, Hf2, M2, _, Φ, Ψ, W2.toWr, hgD _ _ _ _ _ (IsDs.mono s2.ex _ _ i1) i2, h2.2, (k.at (s1.trans s2)).raw W2, hX.at W2⟩
theorem ve_callXK0 {m : Nat} {ks : List Str} {kws : List Keyword} {wk : WA} {g : List Value → List Value → List Value} {gV : List V → List V → List V} {gD : List D → List D → List D} (hX : KnX X.K X.mg S₀ Ψ E) (tk : L2N.Takes X (fun cls d _ H => E cls d H)) (F : FnOk X.prog X.w X.K X.mg X.base (L2N.CX X.prog X.w) k f fd ps (spX X.K X.mg Wf)) (hr : Room k X.A) (hg : Gl X x) (hm : X.mg x = some (.ref f)) (hk : PySem.W.keepIn X.K (.ref f) = true)
    (hb : KBn X.K fd ps 0 ks g gV) (hgD : ∀ Hf ds zs vs us, IsDs X.K Hf ds vs → IsDs X.K Hf zs us → IsDs X.K Hf (gD ds zs) (gV vs us)) (hkw : VKw X S₀ kws wk) (hm2 : ks.length = m := by rfl) (hall : (backToKw pos (keywordEach kws X.env)).all (·.1.isSome) = true := by rfl) (hks : (backToKw pos (keywordEach kws X.env)).filterMap (·.1) = ks := by rfl)
    (hdb : (x == ("__debug__" : Str)) = false := by decide) (hpl : ((backTo pos (starEach [] X.env)).any (·.1) || (backToKw pos (keywordEach kws X.env)).any (·.1.isNone)) = false := by rfl) :
    VE X S₀ (.Call (.Name x p) [] kws pos) (wCallXK 0 m Wf Ψ gD wNil wk) := by
  subst hm2
  refine ⟨fun pins s σ H Q I ⟨Hf, ρ, M, Φ, W, e, h, kn⟩ => wpAny_Call_Name_kw (ld_glob I hg hm (PySem.W.callWith_KW0 (h₀ := X.base) I.ok.mod.kin hk hall ?_ hpl) hdb)⟩
  have hq : liftA X.K S₀ wk σ H fun zs H2 => zs.length = ks.length ∧ spX X.K X.mg Wf (gV [] zs) H2 Q E := by
    refine ⟨Hf, ρ, M, _, W, e, h, fun zz M2 us Hf2 H2 h2 W2 s2 i2 => ?_⟩
    exact ⟨by rw [← i2.len]; exact h2.1.2, Hf2, M2, _, Φ, Ψ, W2.toWr, hgD _ _ _ _ _ isDs_nil i2, h2.2, (kn.at s2).raw W2, hX.at W2⟩
  refine thn (hkw.run pos pins s σ H _ I hq) fun ws s2 ⟨zs, H2, I2, rz, l2, q2⟩ => ⟨I2.kIn, ?_⟩
  rw [hks]; exact run_fnN (us := []) (vs := []) F hr hb (L2N.passes_call tk fun _ _ _ _ h => h) I2 .nil rz rfl l2 q2
end
section
variable {ρ : Sg} {M : Mem} {Φ : KD} {Ψ : XC} {Wf : W4} {wa wk : WA} {ds es dds : List D} {n m : Nat} {g : List D → List D → List D} {De : WN} {tag : Str}
theorem e_callX : wCallX Wf Ψ wa ρ M Φ = wa ρ M (kCallX Wf Ψ Φ) := rfl
theorem e_callXk : kCallX Wf Ψ Φ ds M = Wf ds M Φ Ψ := rfl
theorem e_callXD : wCallXD Wf Ψ dds wa ρ M Φ = wa ρ M (kCallXD Wf Ψ dds Φ) := rfl
theorem e_callXDk : kCallXD Wf Ψ dds Φ ds M = Wf (ds ++ dds) M Φ Ψ := rfl
theorem e_callXK : wCallXK n m Wf Ψ g wa wk ρ M Φ = wa ρ M (kCallXK1 n m Wf Ψ g wk ρ Φ) := rfl
theorem e_callXK1 : kCallXK1 n m Wf Ψ g wk ρ Φ ds M = wk ρ M (kCallXK2 n m Wf Ψ g ds Φ) := rfl
theorem e_callXK2 : kCallXK2 n m Wf Ψ g ds Φ es M = ((ds.length = n ∧ es.length = m) ∧ Wf (g ds es) M Φ Ψ) := rfl
theorem e_raise : sRaise tag Ψ wa De ρ M = wa ρ M (kRaise tag Ψ) := rfl
end
end VL

/-! in an except suite: two names at once, a field, a call of a def; a try with two clauses -/
namespace XL
open PySem PySem.Spec PyProof.Rows L2 HotX
section
variable {prog : Program} {w : World} {A : Around} {E : Value → Shared → Prop} {s : Shared}
/-- while x1 is handled: a StopIteration is made and raised, nothing that stood is touched -/
theorem stop_hot {α : Type} {x1 : Addr} {R : Value → Shared → Prop} (hot : HotAt A x1 s.heap)
    (h : ∀ a h', (∀ b o, s.heap.get? b = some o → h'.get? b = some o) → Shared.TypeIs { s with heap := h' } (.ref a) "StopIteration" → R (.ref a) { s with heap := h' }) {Q : α → Shared → Prop} :
    wpAny (model prog w) A (newExc (.type "StopIteration") [] >>= fun e => (raiseNew e : Sem α)) Q R s := by
  obtain ⟨hh, o1, vs1, g1, f1, c1⟩ := hot
  simp only [newExc, newTuple]
  refine wpAny_bind (wpAny_bind (wpAny_newObj_type (wpAny_bind (m := firstArgMember _ _) (wpAny_of_eq (a := Value.none) (by first | rfl | (simp only [firstArgMember]; rfl)) (wpAny_newObj_type ?_ (by size_fits)))) (by size_fits)))
  have g2 := Heap.get?_push_of_some { cls := .type "tuple", data := .seq (([] : List Value).toArray) } g1
  refine raiseNew_hot ⟨hh, o1, vs1, Heap.get?_push_of_some _ g2, f1, c1⟩ (Nat.ne_of_lt (Heap.lt_size g2)) (Heap.get?_push_size _ rfl) rfl (by first | (simp; done) | (simp; omega)) (h _ _ (fun b o e => ?_) ⟨_, Heap.get?_update_self _ (Heap.get?_push_size _ rfl) rfl, rfl⟩)
  have e2 := Heap.get?_push_of_some { cls := .type "tuple", data := .seq (([] : List Value).toArray) } e
  exact (Heap.get?_update_other _ _ (Nat.ne_of_gt (Heap.lt_size e2))).trans (Heap.get?_push_of_some _ e2)
/-- the walk over a tuple ends, x1 being handled -/
theorem tupEndHot {it t x1 : Addr} {i : Nat} {items : Array Value} {Q : Option Value → Shared → Prop} (hot : HotAt A x1 s.heap) (hne : x1 ≠ it) (hit : IsTupIter s.heap it t i) (ht : IsTup s.heap t items) (hx : items[i]? = none) (hQ : ∀ h', Heap.ExtBut it s.heap h' → Q none { s with heap := h' }) :
    wpAny (model prog w) A (pyNext (.ref it)) Q E s := by
  obtain ⟨oi, gi, _, di⟩ := id hit
  obtain ⟨ot, gt, _, n, dt⟩ := id ht
  have body : ∀ R : Value → Shared → Prop, (∀ a h', Heap.ExtBut it s.heap h' → Shared.TypeIs { s with heap := h' } (.ref a) "StopIteration" → R (.ref a) { s with heap := h' }) →
      wpAny (model prog w) A (callSpecial? (.ref it) "__next__") (fun _ _ => False) R s := fun R hR => by
    refine wpAny_callSpecial?_slot (name := Str.ofString "__next__") hit.typeIs slot_tupleiter_next (wpAny_call_entry slot_tupleiter_next hit.typeIs entry_tupleiter_next ?_ (args_tupleiter_next _))
    repeat (any_goals (first | assumption | with_reducible refine wpAny_field gi di rfl ?_ | with_reducible refine wpAny_seqItems gt dt ?_ | wp_step))
    rw [dt]
    refine wpAny_pure ?_
    simp only [Int.toNat_natCast, hx]
    refine wpAny_bind (wpAny_rule (wpAny_bind (wpAny_setField gi di (by simp) ?_)))
    obtain ⟨hh, o1, vs1, g1, f1, c1⟩ := hot
    have past : ∀ b o, b ≠ it → s.heap.get? b = some o → (s.heap.update it (Obj.mapFields fun x => x.setIfInBounds 0 Value.none)).get? b = some o := fun b o nb e => (Heap.get?_update_other _ _ (Ne.symm nb)).trans e
    exact stop_hot (A := A.in1) (s := { s with heap := s.heap.update it (Obj.mapFields fun x => x.setIfInBounds 0 Value.none) }) (x1 := x1) ⟨hh, o1, vs1, past _ _ hne g1, f1, c1⟩ fun a h' k ty => hR a h' (fun b o nb e => k b o (past b o nb e)) ty
  unfold pyNext
  refine wpAny_bind (wpAny_attempt (wpAny_mono (body _ fun a h' k ty => ?_) (fun _ _ z => z.elim) fun _ _ z => z))
  exact wpAny_bind (wpAny_isInstance (T := "StopIteration") (b := true) ty isSubtype_stop (wpAny_pure (hQ h' k)))
theorem unpackHot {t x1 : Addr} {items : Array Value} {Q : List Value → Shared → Prop} (hot : HotAt A x1 s.heap) (ht : IsTup s.heap t items) (hQ : ∀ h', Heap.ExtBut s.heap.objs.size s.heap h' → Q items.toList { s with heap := h' }) : wpAny (model prog w) A (unpackItems (.ref t) items.size none) Q E s := by
  have apart : t ≠ s.heap.objs.size := Nat.ne_of_lt ht.lt
  obtain ⟨hh, o1, vs1, g1, f1, c1⟩ := hot
  have far : x1 ≠ s.heap.objs.size := Nat.ne_of_lt (Heap.lt_size g1)
  have all : ∀ R : Option Value → Shared → Prop, (∀ h', Heap.ExtBut s.heap.objs.size s.heap h' → R none { s with heap := h' }) → ∀ h1, IsTupIter h1 s.heap.objs.size t items.size → Heap.SameBut s.heap.objs.size (s.heap.push { cls := .type "tuple_iterator", data := .fields #[.ref t, .int 0 0] }) h1 →
      wpAny (model prog w) A (pyNext (.ref s.heap.objs.size)) R E { s with heap := h1 } := fun R hR h1 hit same => by
    have up : ∀ b o, b ≠ s.heap.objs.size → s.heap.get? b = some o → h1.get? b = some o := fun b o nb e => same.extBut b o nb (Heap.get?_push_of_some _ e)
    exact tupEndHot ⟨hh, o1, vs1, up _ _ far g1, f1, c1⟩ far hit ((ht.push _).extBut same.extBut apart) (by simp) fun h2 k => hR h2 fun b o nb e => k b o nb (up b o nb e)
  unfold unpackItems notIterableAtAll
  refine wpAny_bind (wpAny_bind (wpAny_specialOf ht.typeIs slot_tuple_iter.lookup (wpAny_pure ?_)))
  simp only [Bool.false_eq_true, if_false]
  refine wpAny_bind (wpAny_holding (iter_tuple ht (wpAny_bind (wpAny_holding (draw_tuple apart items.size 0 _ _ ⟨_, Heap.get?_push_size _ rfl, rfl, rfl⟩ (ht.push _) (Nat.le_of_eq (Nat.zero_add _)) fun h1 hit same => ?_)))))
  have whole : List.take items.size (List.drop 0 items.toList) = items.toList := by simp [List.take_of_length_le]
  rw [whole, if_neg (by simp)]
  refine wpAny_bind (wpAny_holding (all _ (fun h' k => ?_) h1 (by rw [Nat.zero_add] at hit; exact hit) same))
  simp only [Option.isSome_none, Bool.false_eq_true, if_false]
  exact wpAny_pure (hQ h' k)
end
section
variable {X : Cx} {pins : List (Addr × Obj)} {σ : L2.St} {H : Hp} {s : Shared}
/-- two names are stored, the later one first -/
theorem two_stores {i j : Nat} {x y : Str} {v w : V} {a b : Value} {Q : Flow → Shared → Prop} {E : Value → Shared → Prop} (I : Inv X pins σ H s) (hN : X.N.Nodup) (hi : X.N[i]? = some x) (hj : X.N[j]? = some y) (ne : i ≠ j) (hx : X.env.scope.names.lookup x = some .local) (hy : X.env.scope.names.lookup y = some .local)
    (ra : RelV v a) (rb : RelV w b) (h : ∀ s', Inv X pins ((σ.set i (some v)).set j (some w)) H s' → Q .next s') :
    wpAny (model X.prog X.w) X.A (assignInOrder [(bindName X.env y ·), (bindName X.env x ·)] [b, a] >>= fun _ => pure Flow.next) Q E s := by
  have last : ∀ s1, Inv X pins (σ.set j (some w)) H s1 → wpAny (model X.prog X.w) X.A (assignInOrder [(bindName X.env x ·)] [a]) (fun _ s2 => wpAny (model X.prog X.w) X.A (pure Flow.next) Q E s2) E s1 := fun s1 J =>
    assignInOrder_cons (wpAny_bindName (store_ok J hN hi (.inl hx) ra (fun s2 J2 => assignInOrder_nil (wpAny_pure (h s2 (by rw [List.set_comm _ _ ne]; exact J2)))) (.inr hx)))
  exact wpAny_bind (assignInOrder_cons (wpAny_bindName (store_ok I hN hj (.inl hy) rb last (.inr hy))))
open L2H in
/-- a, b = x, y in an except suite -/
theorem ps_parHot {i j : Nat} {x y : Str} {a b : Expr} {ta : TA} {px py pt pos : Pos} {kt k2 pt2} (hc : HotC X) (hN : X.N.Nodup) (hi : X.N[i]? = some x) (hj : X.N[j]? = some y) (hij : i ≠ j) (hx : X.env.scope.names.lookup x = some .local) (hy : X.env.scope.names.lookup y = some .local) (ha : PA X [a, b] ta)
    (hw : swappedStores [.Tuple [.Name x px, .Name y py] kt pt] (.Tuple [a, b] k2 pt2) X.env = pure (some [x, y])) (hs : swapsWithSole [.Tuple [.Name x px, .Name y py] kt pt] (.Tuple [a, b] k2 pt2) pos.line X.env = pure false := by rfl) : PS X (.Assign [.Tuple [.Name x px, .Name y py] kt pt] (.Tuple [a, b] k2 pt2) pos) (tPar i j ta) := by
  constructor
  intro pins s σ H D I h
  have behind : ∀ us s1, (∃ vs H1, Inv X pins σ H1 s1 ∧ Vals vs us ∧ ∃ v w, vs = [v, w] ∧ D.nx ((σ.set i (some v)).set j (some w)) H1) → ∃ u1 u2, us = [u1, u2] ∧ ∀ h', (∀ b o, s1.heap.get? b = some o → h'.get? b = some o) →
      wpAny (model X.prog X.w) X.A (assignInOrder [(bindName X.env y ·), (bindName X.env x ·)] [u2, u1] >>= fun _ => pure Flow.next) (SP X pins D) X.xe { s1 with heap := h' } := by
    rintro us s1 ⟨_, H1, J, r, v, w, rfl, q⟩
    obtain ⟨u1, rest, rfl, r1, r2⟩ : ∃ u1 rest, us = u1 :: rest ∧ RelV v u1 ∧ Vals [w] rest := by cases r with | cons p q => exact ⟨_, _, rfl, p, q⟩
    obtain ⟨u2, rfl, r3⟩ := r2.one
    exact ⟨u1, u2, rfl, fun h' k => two_stores (J.kept (t' := s1.toks) k) hN hi hj hij hx hy r1 r3 fun s' J' => ⟨_, H1, J', q⟩⟩
  rw [exec_Assign_arm]
  refine wpAny_bind (wpAny_standAt ?_); rw [hs]
  refine wpAny_bind (wpAny_pure ?_); rw [if_neg (by decide)]
  refine wpAny_bind (Tuple_ (thn (ha.run _ pins s σ H _ I h) fun us s1 z => ?_))
  obtain ⟨u1, u2, rfl, fin⟩ := behind us s1 z
  obtain ⟨_, H1, J, _⟩ := z
  refine wpAny_newObj_type ?_ (show 2 ≤ sizeLine by decide)
  have laid : ∀ b o, s1.heap.get? b = some o → (s1.heap.push { cls := .type "tuple", data := .seq [u1, u2].toArray }).get? b = some o := fun b o e => Heap.get?_push_of_some _ e
  obtain ⟨x1, hot⟩ := hc.at (J.kept (t' := s1.toks) laid)
  rw [hw]; refine wpAny_bind (wpAny_pure ?_)
  show wpAny (model X.prog X.w) X.A (do rule "assign.swapped-stores"; let items ← unpackItems (.ref s1.heap.objs.size) 2 none; assignInOrder [(bindName X.env y ·), (bindName X.env x ·)] items.reverse; pure Flow.next) _ _ _
  exact wpAny_bind (wpAny_rule (wpAny_bind (unpackHot (items := #[u1, u2]) hot (IsTup.new s1.heap _) fun h' k => fin h' fun b o e => k b o (Nat.ne_of_lt (Heap.lt_size (laid b o e))) (laid b o e))))
end
open L2H in
/-- the code of a def, run while the exception of p is handled: its body told with p pinned -/
theorem hot_runs {P : Program} {w : World} {K : PySem.W.Frag} {mg : Str → Option Value} {base : Heap} {p : Addr × Obj} {x qual : Str} {st : Stmt} {f : Addr} {fd : FuncData} {N ps : List Str} {k : Nat} {A : Around} {outer : List Env} {s : Shared} {H : Hp} {us : List Value} {vs : List V} {Q : VK} (F : Fun K x qual st f fd) (S : FnScope N ps (defScope st))
    (b : BindsTo s fd ⟨us, []⟩ (ps.zip us)) (pin : PinOk outer H s p) (e0 : Env0 P w K mg base A outer s H) (hr : RoomH (k + 1) A) (len : vs.length = ps.length) (r : Vals vs us)
    (hbody : ∀ cdv : Value, RoomH k (A.deeper (envOfC qual (defScope st) s.heap.objs.size f cdv)) → ∃ t, PSs (cxH CX0 P w K mg base N qual (defScope st) f cdv A outer s H (fun _ _ _ => False) p) (defBody st) t ∧ t { nx := fun _ H' => Q .non H', rt := Q } (L2.start N vs) H) :
    codeAny (model P w) A (.call (.ref f) ⟨us, []⟩) (CR CX0 outer P w H s Q (fun _ _ _ => False)) s := by
  obtain ⟨_, _, _, _, _, _, cdv, _, _, rfl, at_f, code⟩ := F.ex
  have kin : K.In s.heap := e0.mod.kin.keeps fun b o e => (e0.bs b o e).1
  refine codeAny_call_function hr.depth (kin _ _ at_f) rfl S.co S.gen rfl (PySem.W.codeRec_of kin code) (b _ _ _ _ (wpAny_newFunctionEnv_cells S.kind (fun y hy => (S.par y.1 (List.of_mem_zip hy).1).imp_right fun c => ⟨c, PySem.W.cellsFrom_some _ _ _ (.inl c)⟩) fun env he s2 x => ?_))
  subst he
  refine ⟨(e0.mod.nolimit.keeps fun b o e => (e0.bs b o e).1).keeps x.toInCall.keep, codeAny_func ?_⟩
  obtain ⟨t, told, q⟩ := hbody cdv (hr.deeper _)
  refine wpAny_mono (told.run [] s2 (L2.start N vs) H _ (inv_startH S pin e0 len r x) q) (fun fl s' fin => ?_) fun _ _ z => z
  cases fl
  case ret u => obtain ⟨v, _, H', J, rv, q⟩ := fin; exact ⟨v, H', J.os, J.bare, J.base, J.hok, rv, q⟩
  case next => obtain ⟨_, H', J, q⟩ := fin; exact ⟨V.non, H', J.os, J.bare, J.base, J.hok, rfl, q⟩
  all_goals (obtain ⟨_, _, _, no⟩ := fin; exact no.elim)
open L2H in
/-- x(e, ..) in an except suite: a def that raises nothing, its body told with the exception pinned -/
theorem pe_callHot {X : Cx} {p : Addr × Obj} {x qual : Str} {st : Stmt} {f : Addr} {fd : FuncData} {N ps : List Str} {k : Nat} {sp : Sp} {e : Expr} {es : List Expr} {ta : TA} {q pos : Pos} (F : Fun X.K x qual st f fd) (S : FnScope N ps (defScope st)) (len : ∀ vs H Q E, sp vs H Q E → vs.length = ps.length) (hb : Binds X.K fd ps [])
    (hot : Hot1 X.A p) (hp : p ∈ X.pn) (hr : RoomH (k + 1) X.A) (hg : Gl X x) (hm : X.mg x = some (.ref f)) (ha : PA X (e :: es) ta)
    (hbody : ∀ (cdv : Value) (A : Around) (outer : List Env) (s : Shared) (H : Hp) (vs : List V) (Q : VK), RoomH k (A.deeper (envOfC qual (defScope st) s.heap.objs.size f cdv)) → sp vs H Q (fun _ _ _ => False) → ∃ t, PSs (cxH CX0 X.prog X.w X.K X.mg X.base N qual (defScope st) f cdv A outer s H (fun _ _ _ => False) p) (defBody st) t ∧ t { nx := fun _ H' => Q .non H', rt := Q } (L2.start N vs) H)
    (hdb : (x == ("__debug__" : Str)) = false := by decide) (he : starEach (e :: es) X.env = (false, eval e X.env) :: starEach es X.env := by rfl) (hpl : (backTo pos (starEach es X.env)).any (·.1) = false := by rfl) :
    PE X (.Call (.Name x q) (e :: es) [] pos) (fun σ H Q => ta σ H fun vs H1 => sp vs H1 Q (fun _ _ _ => False)) := by
  constructor
  intro pins s σ H Q I h
  refine wpAny_Call_Name_kw (ld_glob I hg hm (PySem.W.callWith_K (h₀ := X.base) I.ok.mod.kin F.kp (thn (ha.run pos pins s σ H _ I h) ?_) he hpl) hdb)
  rintro us s1 ⟨vs, H1, J, r, told⟩
  have same := len _ _ _ _ told
  have b := hb s1 us J.kIn (by rw [List.append_nil, ← r.length]; exact same)
  rw [List.append_nil] at b
  obtain ⟨g, free, noLocals, noFrame, cell⟩ := J.pin p (List.mem_append_left _ hp)
  have pin : PinOk X.stack H1 s1 p := ⟨g, free, fun m => (List.mem_cons.mp (J.stkSub p.1 m)).elim noLocals noFrame, cell⟩
  refine ⟨J.kIn, wpAny_call (codeAny_mono (hot_runs F S b pin J.env0 hr same r fun cdv room => hbody cdv X.A X.stack s1 H1 vs Q room told) ?_)⟩
  rintro (_ | fl) s' back
  · exact False.elim back
  · cases fl <;> first | exact J.after back | exact False.elim back
/-- what two clauses wish of an exception: (c1, c2) as n, then c3 as n -/
def wTwo (K : PySem.W.Frag) (C1 C2 C3 : Addr) (i : Nat) (ts1 ts2 : Addr → Value → Option Addr → TS) (D : Ends) : WX := fun cls d σ H =>
  ∃ b, PySem.W.exmAny K cls [.ref C1, .ref C2] = some b ∧ (b = false → PySem.W.exmOne K cls (.ref C3) = some true) ∧
    ∀ a, H a = none → (if b then ts1 else ts2) a cls d { nx := fun σ' H' => D.nx (σ'.set i none) H', rt := D.rt, bk := fun σ' H' => D.bk (σ'.set i none) H', ct := fun σ' H' => D.ct (σ'.set i none) H' } (σ.set i (some (.ref a))) H
theorem flying_push {B h : Heap} {l : List Env} {a : Addr} {Z : Obj → Prop} {o : Obj} (f : HandSPX.FlyingZ B l a Z h) : HandSPX.FlyingZ B l a Z (h.push o) := by
  obtain ⟨h1, h2, h3, oe, vs, T, oT, ts, q1, q2, q3, q4, q5, q6, q7, q8, q9⟩ := f
  exact ⟨fun b u e => Heap.get?_push_of_some _ (h1 b u e), h2, Heap.FunFrames.of_keeps (fun b u e _ => ⟨u, Heap.get?_push_of_some _ e, rfl⟩) h3, oe, vs, T, oT, ts, Heap.get?_push_of_some _ q1, q2, q3, q4, q5, q6, Heap.get?_push_of_some _ q7, q8, q9⟩
/-- an exception that is caught: its object, out of the reach of what is tracked and of the frames -/
structure Caught (X : Cx) (pins : List (Addr × Obj)) (σ : L2.St) (H : Hp) (a : Addr) (cls : Value) (d : Option Addr) (s : Shared) : Prop where
  inv : Inv X pins σ H s
  obj : ∃ (oe : Obj) (vs : Array Value), s.heap.get? a = some oe ∧ L2N.Zn cls d oe ∧ oe.data = .fields vs
  untracked : H a = none
  noLocals : a ≠ X.env.locals
  noFrame : a ∉ X.fs
section
variable {X : Cx} {pins : List (Addr × Obj)} {σ : L2.St} {H : Hp} {s : Shared} {a : Addr} {cls : Value} {d : Option Addr} {B : Heap}
theorem Caught.of (I : Inv X pins σ H s) (na : H a = none) (hf : X.env.frame = some X.env.locals) (fl : HandSPX.FlyingZ B (X.env :: X.outer) a (L2N.Zn cls d) s.heap) : Caught X pins σ H a cls d s := by
  obtain ⟨oe, vs, g, z, dt⟩ := fl.there
  have apart : a ∉ frs (X.env :: X.outer) := fun m => by
    obtain ⟨_, o', g', notFields⟩ := fl.2.2.1.mem m
    cases g.symm.trans g'
    exact notFields _ dt
  refine ⟨I, ⟨oe, vs, g, z, dt⟩, na, fun e => apart ?_, fun m => apart ?_⟩
  · exact List.mem_filterMap.mpr ⟨X.env, List.mem_cons_self, by rw [hf, e]⟩
  · obtain ⟨env, me, fe⟩ := List.mem_filterMap.mp m
    exact List.mem_filterMap.mpr ⟨env, List.mem_cons_of_mem _ me, fe⟩
theorem Caught.suite (c : Caught X pins σ H a cls d s) : ∃ oe, L2N.Zn cls d oe ∧ (∃ vs, oe.data = .fields vs) ∧ Inv (X.suite a ((a, oe) :: (X.pn ++ pins))) [] σ H s := by
  obtain ⟨oe, vs, g, z, dt⟩ := c.obj
  exact ⟨oe, z, ⟨vs, dt⟩, c.inv.suite g dt c.untracked c.noLocals c.noFrame⟩
theorem Caught.typ (c : Caught X pins σ H a cls d s) : PySem.W.Looks (model X.prog X.w) s.heap (typeOf (.ref a)) cls := by
  obtain ⟨oe, vs, g, z, dt⟩ := c.obj
  exact fun A Q E s' k q => wpAny_typeOf_ref (k _ _ g) (by rw [z.1]; exact q)
/-- the ends of a suite whose name goes behind it -/
abbrev behind (D : Ends) (i : Nat) : Ends := { nx := fun σ H => D.nx (σ.set i none) H, rt := D.rt, bk := fun σ H => D.bk (σ.set i none) H, ct := fun σ H => D.ct (σ.set i none) H }
/-- a suite of an except clause with a name: stored, run, gone -/
theorem suite_as {n : Str} {i : Nat} {b : Stmt} {su : List Stmt} {pp : Pos} {ts : TS} {D : Ends} {E1 E2 E3 : Value → Shared → Prop} (hf : X.env.frame = some X.env.locals) (hN : X.N.Nodup) (hi : X.N[i]? = some n) (hln : X.env.kindOf n = some .local) (na : H a = none)
    (fl : HandSPX.FlyingZ B (X.env :: X.outer) a (L2N.Zn cls d) s.heap) (back : ∀ s' : Shared, HandSPX.FlyingZ B (X.env :: X.outer) a (L2N.Zn cls d) s'.heap → s.heap.UpToSlots s'.heap → s'.os = s.os → s'.gens = s.gens → Inv X pins σ H s')
    (hsu : ∀ oe, L2N.Zn cls d oe → (∃ vs, oe.data = .fields vs) → PSs (X.suite a ((a, oe) :: (X.pn ++ pins))) (b :: su) ts) (h : ts (behind D i) (σ.set i (some (.ref a))) H) :
    wpAny (model X.prog X.w) (X.A.mark (some (.ref a))) (setFlight (.ref a) none) (fun _ s1 => wpAny (model X.prog X.w) (X.A.mark (some (.ref a))) (storeName X.env n (.ref a)) (fun _ s2 => wpAny (model X.prog X.w) (X.A.mark (some (.ref a))) (execs (b :: su) X.env)
      (fun f s3 => wpAny (model X.prog X.w) X.A (do bindName X.env n .none; unbindBehindTheSuite X.env n pp) (fun _ s4 => SP X pins D f s4) X.xe s3) E3 s2) E2 s1) E1 s := by
  refine HandSPX.lands_againZ fl fun h4 fl4 up4 => ?_
  have J := back { s with heap := h4 } fl4 up4 rfl rfl
  obtain ⟨oe, z, hd, S⟩ := (Caught.of J na hf fl4).suite
  refine store_ok (X := X.suite a ((a, oe) :: (X.pn ++ pins))) (v := .ref a) S hN hi (.inl hln) rfl (fun s5 S5 => wpAny_mono ((hsu oe z hd).run [] s5 _ H _ S5 h) (fun f s6 end6 => ?_) fun _ _ no => no.elim) (.inr hln)
  have gone : ∀ {σ6 : L2.St} {H6 : Hp} {R : Shared → Prop}, Inv (X.suite a ((a, oe) :: (X.pn ++ pins))) [] σ6 H6 s6 → (∀ s7, Inv X pins (σ6.set i none) H6 s7 → R s7) → wpAny (model X.prog X.w) X.A (do bindName X.env n .none; unbindBehindTheSuite X.env n pp) (fun _ s7 => R s7) X.xe s6 :=
    fun S6 hR => gone_ok (S6.unsuite J.ok) hN hi hln hR
  cases f
  case ret u => obtain ⟨v, _, H6, S6, r, q⟩ := end6; exact gone S6 fun _ J7 => ⟨v, _, H6, J7, r, q⟩
  all_goals (obtain ⟨_, H6, S6, q⟩ := end6; exact gone S6 fun _ J7 => ⟨_, H6, J7, q⟩)
end
section
variable {X : Cx} {x1 x2 x3 n : Str} {C1 C2 C3 : Addr} {i : Nat} {body su1 su2 : List Stmt} {b1 b2 : Stmt} {np1 np2 np3 tp pos pos1 pos2 : Pos} {k : _} {tb : WX → TS} {ts1 ts2 : Addr → Value → Option Addr → TS}
theorem ps_try2 (hs : X.stack = X.env :: X.outer) (hf : X.env.frame = some X.env.locals) (hN : X.N.Nodup) (hi : X.N[i]? = some n) (hln : X.env.kindOf n = some .local) (g1 : Gl X x1) (m1 : X.mg x1 = some (.ref C1)) (g2 : Gl X x2) (m2 : X.mg x2 = some (.ref C2)) (g3 : Gl X x3) (m3 : X.mg x3 = some (.ref C3))
    (hb : ∀ (W : WX) (pn : List (Addr × Obj)) (xe : Value → Shared → Prop), L2N.Takes (X.tr pn xe) W → PSs (X.tr pn xe) body (tb W))
    (hsu : ∀ (a : Addr) (oe : Obj) (cls : Value) (d : Option Addr) (pn : List (Addr × Obj)), L2N.Zn cls d oe → (∃ vs, oe.data = .fields vs) → PSs (X.suite a ((a, oe) :: pn)) (b1 :: su1) (ts1 a cls d) ∧ PSs (X.suite a ((a, oe) :: pn)) (b2 :: su2) (ts2 a cls d))
    (d1 : (x1 == ("__debug__" : Str)) = false := by decide) (d2 : (x2 == ("__debug__" : Str)) = false := by decide) (d3 : (x3 == ("__debug__" : Str)) = false := by decide) :
    PS X (.Try body [.ExceptHandler (some (.Tuple [.Name x1 np1, .Name x2 np2] k tp)) (some n) (b1 :: su1) pos1, .ExceptHandler (some (.Name x3 np3)) (some n) (b2 :: su2) pos2] [] [] pos) (fun D σ H => tb (wTwo X.K C1 C2 C3 i ts1 ts2 D) D σ H) := by
  constructor
  intro pins s σ H D I h
  have frames : X.A.frames = some (X.env :: X.outer) := by rw [I.ok.frames, hs]
  -- the clauses, the exception having landed
  have clauses : ∀ (sI s' : Shared) (B : Heap) (pins' : List (Addr × Obj)) (a : Addr) (cls : Value) (d : Option Addr) (σ' : L2.St) (H' : Hp), (∀ s2 : Shared, HandSPX.FlyingZ B (X.env :: X.outer) a (L2N.Zn cls d) s2.heap → s'.heap.UpToSlots s2.heap → s2.os = s'.os → s2.gens = s'.gens → Inv X pins σ' H' s2) →
      H' a = none → HandSPX.FlyingZ B (X.env :: X.outer) a (L2N.Zn cls d) s'.heap → wTwo X.K C1 C2 C3 i ts1 ts2 D cls d σ' H' →
      wpAny (model X.prog X.w) X.A (handleBy (.ref a) X.env [.ExceptHandler (some (.Tuple [.Name x1 np1, .Name x2 np2] k tp)) (some n) (b1 :: su1) pos1, .ExceptHandler (some (.Name x3 np3)) (some n) (b2 :: su2) pos2]) (SP X pins D) X.xe s' := by
    rintro sI s' B pins' a cls d σ' H' back na fl ⟨b, two, three, told⟩
    have S := (Caught.of (back s' fl (Heap.UpToSlots.of_keeps fun _ _ e => e) rfl rfl) na hf fl)
    obtain ⟨oe, z, hd, SI⟩ := S.suite
    refine wpAny_handleBy_cons (codeAny_handlers_test ?_) (by intro q; cases q)
    refine Tuple_ (Calls.spliced_cons (ld_glob SI g1 m1 (Calls.spliced_cons (ld_glob SI g2 m2 (Calls.spliced_nil (wpAny_newObj_type ?_ (show 2 ≤ sizeLine by decide))) d2)) d1))
    let two' : Obj := { cls := .type "tuple", data := .seq [Value.ref C1, .ref C2].toArray }
    have grown : s'.heap.UpToSlots (s'.heap.push two') := Heap.UpToSlots.of_keeps fun _ _ e => Heap.get?_push_of_some _ e
    have fl2 : HandSPX.FlyingZ B (X.env :: X.outer) a (L2N.Zn cls d) (s'.heap.push two') := flying_push fl
    have S2 := Caught.of (back { s' with heap := s'.heap.push two' } fl2 grown rfl rfl) na hf fl2
    have run : ∀ {bs : Stmt} {ss : List Stmt} {pp : Pos} {ts : Addr → Value → Option Addr → TS} {E1 E2 E3 : Value → Shared → Prop}, (∀ oe, L2N.Zn cls d oe → (∃ vs, oe.data = .fields vs) → PSs (X.suite a ((a, oe) :: (X.pn ++ pins))) (bs :: ss) (ts a cls d)) → ts a cls d (behind D i) (σ'.set i (some (.ref a))) H' → _ :=
      fun {bs ss pp ts E1 E2 E3} p q => suite_as (n := n) (i := i) (pp := pp) (D := D) (E1 := E1) (E2 := E2) (E3 := E3) (b := bs) (su := ss) (ts := ts a cls d) (s := { s' with heap := s'.heap.push two' }) hf hN hi hln na fl2 (fun s3 f u o g => back s3 f (grown.trans u) o g) p q
    refine (PySem.W.exm_tup2 S2.inv.kIn S2.typ (Heap.get?_push_size _ rfl) two).here ?_
    cases b with
    | true => exact codeAny_handlers_suite_as (run (fun oe z hd => (hsu a oe cls d _ z hd).1) (told a na))
    | false =>
      obtain ⟨_, _, _, SI2⟩ := S2.suite
      exact wpAny_handleBy_cons (codeAny_handlers_test (ld_glob SI2 g3 m3 ((PySem.W.exm_one S2.inv.kIn S2.typ (three rfl)).here (codeAny_handlers_suite_as (run (fun oe z hd => (hsu a oe cls d _ z hd).2) (told a na)))) d3)) (by intro q; cases q)
  have takes : L2N.Takes (X.tr (X.pn ++ pins) (fun e s1 => wpAny (model X.prog X.w) X.A (noteFrame e X.env) (fun _ s2 => wpAny (model X.prog X.w) X.A (setFlight e none) (fun _ s3 => wpAny (model X.prog X.w) X.A (handleBy e X.env [.ExceptHandler (some (.Tuple [.Name x1 np1, .Name x2 np2] k tp)) (some n) (b1 :: su1) pos1, .ExceptHandler (some (.Name x3 np3)) (some n) (b2 :: su2) pos2]) (SP X pins D) X.xe s3) X.xe s2) X.xe s1)) (wTwo X.K C1 C2 C3 i ts1 ts2 D) := by
    rintro u s' ⟨a, B, sI, pins', σ', H', cls, d, rfl, J, nb, up, sky, na, os, ag, w⟩
    have J' : Inv X pins σ' H' sI := J.ofTry I.ok
    refine L2N.Sky.land L2N.Zn.steady frames hf (by rw [← hs]; exact sky) fun h3 fl3 up3 => ?_
    exact clauses sI { s' with heap := h3 } B pins' a cls d σ' H' (fun s2 f u o g => J'.landed nb f.1 ((up.trans up3).trans u) (o.trans os) (by rw [g]; exact ag)) na fl3 w
  refine wpAny_Try_except (wpAny_mono ((hb _ _ _ takes).run [] s σ H D (I.toTry _) h) (fun f s1 end1 => ?_) fun _ _ z => z)
  cases f
  case ret u => obtain ⟨v, σ', H', J, r, q⟩ := end1; exact ⟨v, σ', H', J.ofTry I.ok, r, q⟩
  case next => obtain ⟨σ', H', J, q⟩ := end1; exact wpAny_execs_nil ⟨σ', H', J.ofTry I.ok, q⟩
  all_goals (obtain ⟨σ', H', J, q⟩ := end1; exact ⟨σ', H', J.ofTry I.ok, q⟩)
end
end XL

/-! lambdas: made, called from a later frame -/
namespace XL
open PySem PySem.Spec PyProof.Rows L2 LamX
section
variable {X : Cx} {pins : List (Addr × Obj)} {σ : L2.St} {H : Hp} {s : Shared}
abbrev lname (X : Cx) : Str := X.env.qual ++ "<lambda>"
/-- how the heap is behind the making: as before, or the table is longer by a code object -/
def Made (H H1 : Hp) (P : Addr) (ps : Array Value) (q : Str) (c' : Addr) : Prop := H1 c' = some (CodeO c' q) ∧ ((H1 = H ∧ ∃ pos : Pos, codeAmong pos ps.toList = some (.ref c')) ∨ ∃ ps' : Array Value, H c' = none ∧ H1 = upd (upd H P (.tbl ps')) c' (CodeO c' q) ∧ TriplesOk ps'.toList ∧ ∀ pos cv, codeAmong pos ps'.toList = some cv → codeAmong pos ps.toList = some cv ∨ cv = .ref c')
/-- a table's own rows and one more -/
theorem tab_more {H : Hp} {P c' : Addr} {ps : Array Value} {q : Str} {pos : Pos} (ht : TriplesOk ps.toList) (nC : H c' = none) : Made H (upd (upd H P (.tbl (ps ++ #[rawInt pos.line, rawInt pos.col, .ref c']))) c' (CodeO c' q)) P ps q c' := by
  have rows : (ps ++ #[rawInt pos.line, rawInt pos.col, .ref c']).toList = ps.toList ++ [rawInt pos.line, rawInt pos.col, .ref c'] := by simp
  refine ⟨upd_same, .inr ⟨_, nC, rfl, ?_, fun pos' cv hcv => ?_⟩⟩
  · rw [rows]; exact PySem.TriplesOk_snoc _ _ _ _ ht
  · rw [rows] at hcv; exact among_app _ ht hcv
/-- an address behind the heap is no frame's -/
theorem no_frame (I : Inv X pins σ H s) {f : Addr} (hf : s.heap.objs.size ≤ f) : f ∉ frs X.stack := fun z => by
  rcases List.mem_cons.mp (I.stkSub _ z) with rfl | e
  · exact absurd (Nat.lt_of_lt_of_le I.lt hf) (Nat.lt_irrefl _)
  · exact I.nofs hf e
theorem lam_mk {c P : Addr} {ps : Array Value} {params : Arguments} {body : Expr} {scope : Scope} {pos : Pos} {E : Value → Shared → Prop} {Q : Value → Shared → Prop} (I : Inv X pins σ H s) (TB : TabB X.base X.mg c P) (hcode : X.env.code = .ref c)
    (hP : H P = some (.tbl ps)) (ht : TriplesOk ps.toList) (ha : ∀ (pos : Pos) (cv : Value), codeAmong pos ps.toList = some cv → ∃ c, cv = .ref c ∧ H c = some (CodeO c (lname X))) (hdef : defaultsOf params X.env = ([], [])) (hfree : ∀ y ∈ scope.names, y.2 = .free → ∃ c, X.env.cells.lookup y.1 = some c)
    (h : ∀ (f c' : Addr) (pm ctv : Value) (H1 : Hp) (s' : Shared), Inv X pins σ H1 s' → Made H H1 P ps (lname X) c' → s'.heap.get? f = some (PySem.W.kla_obj "<lambda>" (lname X) params body scope (cloFrom X.env.cells scope.names []) pm c' ctv) → H1 f = none → f ∉ frs X.stack → Q (.ref f) s') :
    wpAny (model X.prog X.w) X.A (eval (.Lambda params body scope pos) X.env) Q E s := by
  have tabAt : s.heap.get? P = some { cls := .none, data := .fields ps } := I.hok P _ hP
  have glob := I.mod.glob.keeps I.bk
  have blts : s.heap.BuiltinsAt X.mg P := TB.bm.keeps I.bk
  -- the new function f, the heap having grown to h1 with the abstract heap H1
  have fin : ∀ (c' : Addr) (ctv : Value) (h1 : Heap) (H1 : Hp) (tk : Tok), s.heap.objs.size ≤ h1.objs.size → Inv X pins σ H1 { s with heap := h1, toks := tk } → Made H H1 P ps (lname X) c' →
      Q (.ref h1.objs.size) { s with heap := h1.push (PySem.W.kla_obj "<lambda>" (lname X) params body scope (cloFrom X.env.cells scope.names []) ((X.mg "__name__").getD .none) c' ctv), toks := tk } := fun c' ctv h1 H1 tk le J md =>
    h _ c' _ ctv H1 _ (J.kept (t' := tk) fun b o e => Heap.get?_push_of_some _ e) md (Heap.get?_push_size _ rfl) (J.hok.fresh (Nat.le_refl _)) (no_frame I le)
  refine PySem.W.kla_eval hdef ?_
  rcases found : codeAmong pos ps.toList with _ | cv
  · refine PySem.W.kla_makeFunction (closure_ok hfree) I.ok.glob glob hcode (TB.code.keeps I.bk) tabAt ht found TB.gP blts fun c' ctv h1 tk kept ge lt rec1 tab1 => ?_
    obtain ⟨_, oc, vs, t, e2, g, d, v⟩ := rec1
    cases e2
    exact fin c' ctv h1 _ tk (Nat.le_trans ge (Nat.le_of_lt lt)) (inv_table (t' := tk) (q := lname X) I hP kept tab1 ge ⟨oc, vs, t, g, d, v⟩) (tab_more ht (I.hok.fresh ge))
  · obtain ⟨c', rfl, known⟩ := ha pos cv found
    refine PySem.W.kla_makeFunctionHit (closure_ok hfree) I.ok.glob glob hcode (TB.code.keeps I.bk) tabAt ht found blts fun ctv h1 tk kept le => ?_
    exact fin c' ctv h1 H tk le (I.kept (t' := tk) kept) ⟨known, .inl ⟨rfl, pos, found⟩⟩
/-- the context of a lambda's body that may raise -/
abbrev lamN (X : Cx) (A : Around) (outer : List Env) (s : Shared) (H : Hp) (E : XK) (scope : Scope) (f c' : Addr) : Cx :=
  (lamCx X A outer s H E scope f c').wish (fun e s' => wpAny (model X.prog X.w) (A.deeper (lamEnv X scope s.heap.objs.size f c')) (leaving (lamEnv X scope s.heap.objs.size f c') e) (fun _ s'' => L2N.CX X.prog X.w outer H s E e s'') (fun e' s'' => L2N.CX X.prog X.w outer H s E e' s'') s')
theorem lamN_takes {A : Around} {outer : List Env} {E : XK} {scope : Scope} {f c' : Addr} : L2N.Takes (lamN X A outer s H E scope f c') (fun cls d _ H => E cls d H) := L2N.takes_of rfl rfl rfl rfl
/-- the code of a lambda that was made at (σ, H, s), run at (HY, s1) in the surroundings AY -/
theorem lam_runs {f c' : Addr} {pm ctv : Value} {params : Arguments} {body : Expr} {scope : Scope} {k : Nat} {tb : XK → TE} {AY : Around} {oY : List Env} {s1 : Shared} {HY : Hp} {Q : VK} {EY : XK} (I : Inv X pins σ H s) (L : LamS X.env.scope scope)
    (at_f : s1.heap.get? f = some (PySem.W.kla_obj "<lambda>" (lname X) params body scope (cloFrom X.env.cells scope.names []) pm c' ctv)) (at_c : ∃ (oc : Obj) (vs : Array Value) (t : Tok), s1.heap.get? c' = some oc ∧ oc.data = .fields vs ∧ vs[1]? = some (.str (lname X) t))
    (hbind : bindArgs (PySem.W.kla_fn "<lambda>" (lname X) params body scope (cloFrom X.env.cells scope.names []) pm (.ref c') ctv) ⟨[], []⟩ = pure []) (un : Un (frs X.stack) [] H HY s.heap s1.heap) (e0 : Env0 X.prog X.w X.K X.mg X.base AY oY s1 HY) (hr : Room (k + 1) AY)
    (hbody : ∀ (A : Around) (outer : List Env) (s : Shared) (H : Hp) (E : XK), Room k (A.deeper (lamEnv X scope s.heap.objs.size f c')) → PE (lamN X A outer s H E scope f c') body (tb E)) (ht : tb EY σ HY Q) :
    codeAny (model X.prog X.w) AY (.call (.ref f) ⟨[], []⟩) (CR (L2N.CX X.prog X.w) oY X.prog X.w HY s1 Q EY) s1 := by
  obtain ⟨oc, vs, t, g, d, v⟩ := at_c
  have lim : s1.heap.NoLimit := e0.mod.nolimit.keeps fun b o e => (e0.bs b o e).1
  refine PySem.W.kla_callFunE hr.depth at_f rfl L.co L.gen rfl ⟨c', oc, vs, t, rfl, g, d, v⟩ ?_
  rw [hbind]
  refine wpAny_pure (wpAny_newFunctionEnv (fun y hy => (L.own y hy).2) (fun _ hy => nomatch hy) (fun h1 ns sb => ⟨lim.fresh _ sb, ?_⟩) L.kind)
  show codeAny _ _ (.expr body (lamEnv X scope s1.heap.objs.size f c')) _ _
  refine PySem.W.kla_codeExpr ?_
  have up : ∀ b o, s1.heap.get? b = some o → h1.get? b = some o := fun b o e => sb.extBut b o (Nat.ne_of_lt (Heap.lt_size e)) (Heap.get?_push_of_some _ e)
  have J0 := lam_start2 (E := EY) (tk := s1.toks + ([] : List (Str × Value)).length) (f := f) (c' := c') I L e0 hr.hd un ns up
  have J : Inv (lamN X AY oY s1 HY EY scope f c') [] σ HY { s1 with heap := h1, toks := s1.toks + ([] : List (Str × Value)).length } := J0.wish _
  refine wpAny_mono ((hbody _ oY s1 HY EY (hr.deeper _)).run [] _ σ HY Q J ht) (fun u s' z => ?_) fun _ _ z => z
  obtain ⟨x, H', J', r, q⟩ := z
  exact ⟨x, H', J'.os, J'.bare, J'.base, J'.hok, r, q⟩
/-- x() in a later frame Z: x holds a lambda made at (σ, H, s) -/
theorem pe_actN {CXg : CXT} {Eg : XK} {Ng : List Str} {qg : Str} {sg : Scope} {g f c' : Addr} {cdg pm ctv : Value} {params : Arguments} {body : Expr} {scope : Scope} {k i : Nat} {a : Str} {pn : List (Addr × Obj)} {xe : Value → Shared → Prop} {W : WX} {tb : XK → TE} {p1 p2 : Pos} {AZ : Around} {oZ : List Env} {sZ : Shared} {H0 : Hp}
    (I : Inv X pins σ H s) (L : LamS X.env.scope scope) (hf : s.heap.get? f = some (PySem.W.kla_obj "<lambda>" (lname X) params body scope (cloFrom X.env.cells scope.names []) pm c' ctv)) (hfn : H f = none) (hfr : f ∉ frs X.stack)
    (hbind : bindArgs (PySem.W.kla_fn "<lambda>" (lname X) params body scope (cloFrom X.env.cells scope.names []) pm (.ref c') ctv) ⟨[], []⟩ = pure [])
    (hun : ∀ pinsZ σZ HZ s1, Inv ((cxOf CXg X.prog X.w X.K X.mg X.base Ng qg sg g cdg AZ oZ sZ H0 Eg).tr pn xe) pinsZ σZ HZ s1 → Un (frs X.stack) [] H HZ s.heap s1.heap)
    (tk : L2N.Takes ((cxOf CXg X.prog X.w X.K X.mg X.base Ng qg sg g cdg AZ oZ sZ H0 Eg).tr pn xe) W) (hr : Room (k + 1) (AZ.deeper (envOfC qg sg sZ.heap.objs.size g cdg)))
    (hbody : ∀ (A : Around) (outer : List Env) (s : Shared) (H : Hp) (E : XK), Room k (A.deeper (lamEnv X scope s.heap.objs.size f c')) → PE (lamN X A outer s H E scope f c') body (tb E))
    (hN : Ng[i]? = some a) (hv : Vis sg a) (hd : (a == ("__debug__" : Str)) = false := by decide) (hcd : (a == ("__classdict__" : Str)) = false := by decide) :
    PE ((cxOf CXg X.prog X.w X.K X.mg X.base Ng qg sg g cdg AZ oZ sZ H0 Eg).tr pn xe) (.Call (.Name a p1) [] [] p2)
      (fun σZ HZ Q => σZ[i]? = some (some (.ref f)) ∧ HZ c' = some (CodeO c' (lname X)) ∧ tb (fun cls d H' => W cls d σZ H') σ HZ Q) := by
  constructor
  rintro pinsZ s0 σZ HZ Q IZ ⟨hs, hc, ht⟩
  have name := (pe_var (X := (cxOf CXg X.prog X.w X.K X.mg X.base Ng qg sg g cdg AZ oZ sZ H0 Eg).tr pn xe) (pos := p1) (i := i) hN hv hd hcd).run pinsZ s0 σZ HZ (fun v H1 => v = .ref f ∧ H1 = HZ) IZ ⟨.ref f, hs, rfl, rfl⟩
  refine wpAny_Call_Name_kw (thn name fun u s1 ⟨v, H1, I1, r1, ev, eH⟩ => ?_)
  subst ev eH
  cases r1
  have un := hun _ _ _ _ I1
  have at_f := un.keep f _ hf hfn hfr fun z => nomatch z
  have runs := lam_runs (X := X) (EY := fun cls d H' => W cls d σZ H') I L at_f (I1.hok c' _ hc).1 hbind un I1.env0 hr hbody ht
  refine PySem.W.callWith_F0 ⟨_, _, _, _, at_f⟩ (wpAny_call (codeAny_mono runs fun r s' back => ?_))
  rcases r with e | fl
  · exact tk e s' (L2N.XE.of_call I1 (fun _ _ _ z => z) back)
  · cases fl <;> first | exact I1.after back | exact False.elim back
end
end XL

/-! the law's outcome(lambda: ..) -/
namespace XL
open PySem PySem.Spec PyProof.Rows L2 LamX
/-- err.f, what must be known of the class told in the reading -/
def tXq (K : PySem.W.Frag) (a : Addr) (cls : Value) (d : Option Addr) (f : Str) (te : TE) : TE := fun σ H Q => te σ H fun x H1 => x = .ref a ∧ ∃ (C dd : Addr) (fs : List (Str × V)) (v : V), cls = .ref C ∧ XfC K C ∧ PySem.W.findIn K (.ref C) f = some none ∧ d = some dd ∧ H1 dd = some (.xd fs) ∧ fs.lookup f = some v ∧ Q v H1
/-- the dict of an exception holds what its fields say -/
theorem xd_holds {P : Program} {w : World} {h : Heap} {H : Hp} {dd : Addr} {fs : List (Str × V)} {n : Str} {v : V} (ok : HOk P w H h) (hd : H dd = some (.xd fs)) (l : fs.lookup n = some v) : ∃ od u, h.get? dd = some od ∧ PySem.W.lookIn n od = some (some u) ∧ RelV v u := by
  obtain ⟨mA, ns, rel⟩ : ObjOk P w H h dd (.xd fs) := ok dd _ hd
  obtain ⟨od, g, look⟩ := lookIn_ns ns
  have r := rel n
  rw [l] at r
  obtain ⟨u, e, ru⟩ := RelO.some_of r
  exact ⟨od, u, g, by rw [look, e], ru⟩
theorem pe_xq {X : Cx} {a : Addr} {oe : Obj} {cls : Value} {d : Option Addr} {e : Expr} {te : TE} {pos : Pos} {n : Str} (hz : Zc cls d oe) (hf : ∃ vs, oe.data = .fields vs) (hp : (a, oe) ∈ X.pn) (he : PE X e te) (hb : attributeBase e n X.env (eval e X.env) = eval e X.env := by rfl) : PE X (.Attribute e n pos) (tXq X.K a cls d n te) := by
  constructor
  intro pins s σ H Q I h
  refine attr_of hb (thn (he.run pins s σ H _ I h) ?_)
  rintro w s1 ⟨_, H1, J, rw', rfl, C, dd, fs, v, rfl, T, hno, rfl, at_d, l, q⟩
  cases rw'
  obtain ⟨od, u, g, look, ru⟩ := xd_holds J.hok at_d l
  have plain : PySem.W.notCls oe = true := by obtain ⟨vs, e⟩ := hf; unfold PySem.W.notCls; rw [e]
  have inst : PySem.W.InstAt s1.heap a oe C (some od) := ⟨(J.pin (a, oe) (List.mem_append_left _ hp)).1, hz.1, plain, by rw [hz.2]; exact g⟩
  exact HandSPX.exc_get J.kIn inst T.ga T.gg T.exC (PySem.W.findObj_own T.hdC hno rfl look) (handed_of ru) ⟨v, H1, J.tok _, ru, q⟩
def tOut (K : PySem.W.Frag) (C1 C2 C3 : Addr) (te : WX → TE) (tF : Addr → Value → Option Addr → TE) : TS :=
  tSeq (tAsg (tTup (tCons (tC .non) (tCons (tC (.str "")) (tCons (tC .non) tNil)))) (gTup K 3 (gCons (gName 1) (gCons (gName 2) (gCons (gName 3) gNil)))))
  (tSeq (fun D σ H => (tAsg (te (wTwo K C1 C2 C3 4 (fun a cls d => tPar 2 3 (tCons (tXq K a cls d "tag" (tVar 4)) (tCons (tF a cls d) tNil))) (fun a cls d => tAsg (tXq K a cls d "tag" (tVar 4)) (gName 2)) D)) (gName 1)) D σ H)
  (tRet (tTup (tCons (tVar 1) (tCons (tVar 2) (tCons (tVar 3) tNil))))))
/-- what is known of a class that is raised, for the clauses -/
structure XMatch (K : PySem.W.Frag) (tag : Str) (C C1 C2 C3 : Addr) : Prop where
  any : PySem.W.exmAny K (.ref C) [.ref C1, .ref C2] = some (fieldOf tag).isSome
  one : fieldOf tag = none → PySem.W.exmOne K (.ref C) (.ref C3) = some true
  rd : XfC K C
  tg : PySem.W.findIn K (.ref C) "tag" = some none
theorem xfs_tag (tag : Str) (v : V) : (xfs tag v).lookup ("tag" : Str) = some (V.str tag) := by
  unfold xfs
  cases h : fieldOf tag with
  | none => rfl
  | some f =>
    have hf : (("tag" : Str) == f) = false := by
      unfold fieldOf at h
      have : f ∈ (["key", "pos", "limit", "name", "size", "word", "number"] : List Str) := by
        have := List.mem_of_elem_eq_true (a := f) (as := (([("BadKey", "key"), ("DuplicateKey", "key"), ("AtRoot", "key"), ("Overlap", "key"), ("KeysDiffer", "key"), ("BadWeight", "key"), ("NoKey", "key"), ("BadShape", "pos"), ("BadStep", "pos"), ("BadCost", "pos"), ("Contradiction", "pos"), ("ParseError", "pos"),
          ("TooManyKeys", "limit"), ("TooLong", "limit"), ("TooManyTrees", "limit"), ("TooManyWatches", "limit"), ("BadName", "name"), ("NameTaken", "name"), ("SameName", "name"), ("NoTree", "name"), ("BadSize", "size"), ("BadCommand", "word"), ("NoWatch", "number")] : List (Str × Str)).map (·.2))) ?_
        · simpa using this
        · rw [List.elem_iff]
          exact List.mem_map.mpr ⟨_, mem_of_lookup h, rfl⟩
      simp only [List.mem_cons, List.not_mem_nil, or_false] at this
      rcases this with rfl | rfl | rfl | rfl | rfl | rfl | rfl <;> decide +kernel
    show List.lookup _ [(f, v), ("tag", V.str tag)] = _
    simp only [List.lookup, hf]
    rfl
theorem out_runs {K : PySem.W.Frag} {C1 C2 C3 f c' : Addr} {q : Str} {te : WX → TE} {tF : Addr → Value → Option Addr → TE} {tb : XK → Hp → VK → Prop} {H1 : Hp} {Q : VK} {nx : L2.St → Hp → Prop}
    (hte : ∀ (W : WX) σZ HZ Q, σZ[0]? = some (some (.ref f)) → HZ c' = some (CodeO c' q) → tb (fun cls d H' => W cls d σZ H') HZ Q → te W σZ HZ Q)
    (hF : ∀ a cls d σ H (Q Q' : VK), (∀ v H, Q v H → Q' v H) → tF a cls d σ H Q → tF a cls d σ H Q')
    (hmono : ∀ (E E' : XK) (H : Hp) (Q Q' : VK), (∀ c d H, E c d H → E' c d H) → (∀ v H, Q v H → Q' v H) → tb E H Q → tb E' H Q') (hc : H1 c' = some (CodeO c' q))
    (hyp : ∀ p, H1 p = none → tb (fun cls d H' => ∃ (C dd : Addr) (tag : Str) (v : V), cls = .ref C ∧ d = some dd ∧ H' dd = some (.xd (xfs tag v)) ∧ XMatch K tag C C1 C2 C3 ∧
        (fieldOf tag = none → ∀ p', H' p' = none → Q (.ref p') (upd H' p' (.tup [.non, .str tag, .non]))) ∧
        ((fieldOf tag).isSome = true → ∀ a σZ, σZ[4]? = some (some (.ref a)) → H' a = none → tF a cls d σZ H' (fun u H2 => ∀ p', H2 p' = none → Q (.ref p') (upd H2 p' (.tup [.non, .str tag, u])))))
      (upd H1 p (.tup [.non, .str "", .non])) (fun v H' => ∀ p', H' p' = none → Q (.ref p') (upd H' p' (.tup [v, .str "", .non])))) :
    tOut K C1 C2 C3 te tF { nx := nx, rt := Q } (L2.start ["_law_ask", "_law_answer", "_law_tag", "_law_field_here", "_law_e"] [.ref f]) H1 := by
  refine ⟨(show 3 ≤ sizeLine by decide), fun p hp => ⟨p, _, rfl, .inl (.inl upd_same), rfl, _, _, rfl, _, _, rfl, _, _, rfl, rfl, ?_⟩⟩
  have np : c' ≠ p := fun z => by rw [z, hp] at hc; cases hc
  refine hte _ _ _ _ rfl (by rw [upd_ne np]; exact hc) (hmono _ _ _ _ _ ?_ ?_ (hyp p hp))
  · rintro cls d H' ⟨C, dd, tag, v, rfl, rfl, hd, hm, h0, h1⟩
    refine ⟨_, hm.any, fun hb => hm.one (by cases e : fieldOf tag with | none => rfl | some f => rw [e] at hb; cases hb), fun a ha => ?_⟩
    cases e : fieldOf tag with
    | none =>
      refine ⟨.ref a, rfl, rfl, C, dd, _, .str tag, rfl, hm.rd, hm.tg, rfl, hd, xfs_tag tag v, ?_⟩
      exact ⟨.non, rfl, .str tag, rfl, .non, rfl, (show 3 ≤ sizeLine by decide), h0 e⟩
    | some f =>
      refine ⟨.ref a, rfl, rfl, C, dd, _, .str tag, rfl, hm.rd, hm.tg, rfl, hd, xfs_tag tag v, hF _ _ _ _ _ _ _ (fun u H2 hq => ?_) (h1 (by rw [e]; rfl) a _ rfl ha)⟩
      exact ⟨.str tag, u, rfl, .non, rfl, .str tag, rfl, u, rfl, (show 3 ≤ sizeLine by decide), hq⟩
  · exact fun v H' hq => ⟨v, rfl, .str "", rfl, .non, rfl, (show 3 ≤ sizeLine by decide), hq⟩
/-! ### the same over data -/
open VL
/-- an exception that is handled, pinned: its class, its dict, its fields as data -/
structure XFld (K : PySem.W.Frag) (S₁ : W0) (p : Addr × Obj) (C dd : Addr) (tag : Str) (x : VL.D) : Prop where
  hz : Zc (.ref C) (some dd) p.2
  hf : ∃ vs, p.2.data = .fields vs
  rd : XfC K C
  tg : PySem.W.findIn K (.ref C) "tag" = some none
  fld : ∀ f, fieldOf tag = some f → PySem.W.findIn K (.ref C) f = some none
  val : ∃ v, S₁.Hf dd = some (.xd (xfs tag v)) ∧ VL.IsD K S₁.Hf x v
def kXa (a : Addr) (y : VL.D) (ok : Prop) (Φ : KD) : KD := fun z M => z = .ref a ∧ ok ∧ Φ y M
def wXa (a : Addr) (y : VL.D) (ok : Prop) (we : WE) : WE := fun ρ M Φ => we ρ M (kXa a y ok Φ)
section
variable {X : Cx} {S₁ : W0} {p : Addr × Obj} {C dd : Addr} {tag n : Str} {x : VL.D} {e : Expr} {we : WE} {pos : Pos}
theorem ve_xaT (k : XFld X.K S₁ p C dd tag x) (hp : p ∈ X.pn) (he : VE X S₁ e we) (hb : attributeBase e "tag" X.env (eval e X.env) = eval e X.env := by rfl) : VE X S₁ (.Attribute e "tag" pos) (wXa p.1 (.str tag) True we) :=
  PE.imp (pe_xq k.hz k.hf hp he hb) fun σ H Q ⟨Hf, ρ, M, Φ, W, e, h, kn⟩ => by
    refine ⟨Hf, ρ, M, _, W, e, h, fun z M1 v Hf1 H1 ⟨h1, _, h2⟩ W1 s1 i1 => ?_⟩
    obtain ⟨v0, q1, q2⟩ := k.val
    subst h1
    exact ⟨isD_ref.mp i1, C, dd, _, _, rfl, k.rd, k.tg, rfl, W1.fro _ _ (W1.st.ex _ _ q1), xfs_tag _ _, kn _ _ _ _ _ h2 W1 s1 (isD_str.mpr rfl)⟩
theorem ve_xaF (k : XFld X.K S₁ p C dd tag x) (hp : p ∈ X.pn) (he : VE X S₁ e we) (hb : attributeBase e n X.env (eval e X.env) = eval e X.env := by rfl) : VE X S₁ (.Attribute e n pos) (wXa p.1 x (fieldOf tag = some n) we) :=
  PE.imp (pe_xq k.hz k.hf hp he hb) fun σ H Q ⟨Hf, ρ, M, Φ, W, e, h, kn⟩ => by
    refine ⟨Hf, ρ, M, _, W, e, h, fun z M1 v Hf1 H1 ⟨h1, hok, h2⟩ W1 s1 i1 => ?_⟩
    obtain ⟨v0, q1, q2⟩ := k.val
    subst h1
    refine ⟨isD_ref.mp i1, C, dd, _, v0, rfl, k.rd, k.fld n hok, rfl, W1.fro _ _ (W1.st.ex _ _ q1), ?_, kn _ _ _ _ _ h2 W1 s1 (IsD.mono (W1.st.ex) _ _ q2)⟩
    unfold xfs; rw [hok]; simp [List.lookup]
end
theorem e_xa {a : Addr} {y : VL.D} {ok : Prop} {we : WE} {ρ : Sg} {M : Mem} {Φ : KD} : wXa a y ok we ρ M Φ = we ρ M (kXa a y ok Φ) := rfl
theorem e_xak {a : Addr} {y z : VL.D} {ok : Prop} {M : Mem} {Φ : KD} : kXa a y ok Φ z M = (z = .ref a ∧ ok ∧ Φ y M) := rfl
end XL

/-! outcome(lambda: ..) read over data -/
namespace XL
open PySem PySem.Spec PyProof.Rows L2 LamX VL
abbrev NO : List Str := ["_law_ask", "_law_answer", "_law_tag", "_law_field_here", "_law_e"]
def spF (K : PySem.W.Frag) (a : Addr) (cls : Value) (d : Option Addr) : Sp := fun vs H Q _ => vs = [V.ref a] ∧ ∃ (Hf : Hp) (M : Mem) (C dd : Addr) (tag : Str) (x : VL.D) (v : V), cls = .ref C ∧ d = some dd ∧ XfC K C ∧ PySem.W.findIn K (.ref C) "tag" = some none ∧ (∀ f, fieldOf tag = some f → PySem.W.findIn K (.ref C) f = some none) ∧
  Hf dd = some (.xd (xfs tag v)) ∧ VL.IsD K Hf x v ∧ (fieldOf tag).isSome = true ∧ Wr K Hf M H ∧ Knr K Hf M H (fun y M' => y = x ∧ M' = M) Q
def tFld (K : PySem.W.Frag) (a : Addr) (cls : Value) (d : Option Addr) : TE := fun σ H Q => (tCons (tVar 4) tNil) σ H fun vs H1 => spF K a cls d vs H1 Q (fun _ _ _ => False)
theorem hu_ofH {A : Around} {k : Nat} (hr : L2H.RoomH k A) : A.units + 1 < cLine := by have := hr.un; omega
theorem hu64H {A : Around} {k : Nat} (hr : L2H.RoomH k A) : A.units + 64 < cLine := by have := hr.un; omega
/-- the law's outcome and field, as they stand in the text -/
structure OutFacts (P : Program) (w : World) (K : PySem.W.Frag) (mg : Str → Option Value) (base : Heap) (tl : List Str) where
  (C1 C2 C3 gO gF : Addr) (fdO fdF : FuncData) (stO stF : Stmt)
  FO : Fun K "_law_outcome" "_law_outcome" stO gO fdO
  SO : FnScope NO ["_law_ask"] (defScope stO)
  bO : L2.Binds K fdO ["_law_ask"] []
  mO : mg "_law_outcome" = some (.ref gO)
  FF : Fun K "_law_field" "_law_field" stF gF fdF
  SF : FnScope ["_law_e"] ["_law_e"] (defScope stF)
  bF : L2.Binds K fdF ["_law_e"] []
  mF : mg "_law_field" = some (.ref gF)
  glF : (defScope stO).names.lookup ("_law_field" : Str) = some NameKind.globalImplicit
  viE : Vis (defScope stO) "_law_e"
  shape : ∀ (cdv : Value) (A : Around) (outer : List Env) (s : Shared) (H : Hp) (te : WX → TE) (tF : Addr → Value → Option Addr → TE),
    (∀ (W : WX) (pn : List (Addr × Obj)) (xe : Value → Shared → Prop) (p1 p2 : Pos), L2N.Takes ((cxOf CX0 P w K mg base NO "_law_outcome" (defScope stO) gO cdv A outer s H (fun _ _ _ => False)).tr pn xe) W → PE ((cxOf CX0 P w K mg base NO "_law_outcome" (defScope stO) gO cdv A outer s H (fun _ _ _ => False)).tr pn xe) (.Call (.Name "_law_ask" p1) [] [] p2) (te W)) →
    (∀ (a : Addr) (oe : Obj) (cls : Value) (d : Option Addr) (pn : List (Addr × Obj)) (p1 p2 p3 : Pos), L2N.Zn cls d oe → (∃ vs, oe.data = .fields vs) → PE ((cxOf CX0 P w K mg base NO "_law_outcome" (defScope stO) gO cdv A outer s H (fun _ _ _ => False)).nox.suite a ((a, oe) :: pn)) (.Call (.Name "_law_field" p1) [.Name "_law_e" p2] [] p3) (tF a cls d)) →
    PSs (cxOf CX0 P w K mg base NO "_law_outcome" (defScope stO) gO cdv A outer s H (fun _ _ _ => False)).nox (defBody stO) (tOut K C1 C2 C3 te tF)
  fld : ∀ (cdv : Value) (A : Around) (outer : List Env) (s : Shared) (H : Hp) (p : Addr × Obj) (C dd : Addr) (tag : Str) (x : VL.D) (S₁ : W0), L2H.RoomH 0 (A.deeper (envOfC "_law_field" (defScope stF) s.heap.objs.size gF cdv)) → XFld K S₁ p C dd tag x → ∃ w', VSs (L2H.cxH CX0 P w K mg base ["_law_e"] "_law_field" (defScope stF) gF cdv A outer s H (fun _ _ _ => False) p) S₁ (defBody stF) w' ∧
    ∀ (Φ : KD) M, (fieldOf tag).isSome = true → Φ x M → w' (endsD Φ) [some (.ref p.1)] M
  kn : ∀ tag ∈ tl, ∀ C, mg tag = some (.ref C) → (∃ fI, XKnown K tag C fI) ∧ XMatch K tag C C1 C2 C3
/-- the answer, or the tag and the field -/
def kOutN (Φ : KD) : KD := fun d M => Φ (.tup [d, .str "", .non]) M
def kOutX (tl : List Str) (Φ : KD) : XC := fun tag x M => tag ∈ tl ∧ Φ (.tup [.non, .str tag, if (fieldOf tag).isSome then x else .non]) M
def wOut (P : Addr) (q : Str) (tl : List Str) (wb : XC → WE) : WE := fun ρ M Φ => M P = some (.tab q) ∧ wb (kOutX tl Φ) ρ M (kOutN Φ)
theorem made_wd {K : PySem.W.Frag} {S₀ : W0} {Hf : Hp} {M : Mem} {H H1 : Hp} {P c' : Addr} {ps : Array Value} {q : Str} (W : Wd K S₀ Hf M H) (hM : M P = some (.tab q)) (hP : H P = some (.tbl ps)) (ha : ∀ (pos : Pos) (cv : Value), codeAmong pos ps.toList = some cv → ∃ c, cv = .ref c ∧ Hf c = some (CodeO c q)) (m : Made H H1 P ps q c') :
    ∃ Hf1, Wd K S₀ Hf1 M H1 ∧ Stp Hf M H Hf1 M H1 ∧ Hf1 c' = some (CodeO c' q) := by
  obtain ⟨hc', ⟨rfl, pos0, hpos⟩ | ⟨ps', hn, rfl, ht, hcs⟩⟩ := m
  · obtain ⟨c, e1, e2⟩ := ha pos0 _ hpos; cases e1; exact ⟨Hf, W, Stp.refl, e2⟩
  · have hfc := W.fresh_f hn
    have hmc := W.fresh_m hn
    have hfP : Hf P = none := (W.mem P _ hM).1
    have nPc : P ≠ c' := fun z => by subst z; rw [hmc] at hM; cases hM
    have e := Ex.new (o := CodeO c' q) hfc
    have s1 : Stp Hf M H (upd Hf c' (CodeO c' q)) M (upd (upd H P (.tbl ps')) c' (CodeO c' q)) := ⟨e, fun a o q1 q2 q3 => by
      have n1 : a ≠ c' := fun z => by subst z; rw [hn] at q1; cases q1
      have n2 : a ≠ P := fun z => by subst z; rw [hM] at q3; cases q3
      exact ⟨by rw [upd_ne n1, upd_ne n2]; exact q1, by rw [upd_ne n1]; exact q2, q3⟩⟩
    refine ⟨upd Hf c' (CodeO c' q), ⟨⟨fun a o z => ?_, fun a mo z => ?_⟩, W.st.trans s1⟩, s1, upd_same⟩
    · by_cases n : a = c'
      · subst n; rw [upd_same] at z ⊢; exact z
      · rw [upd_ne n] at z ⊢
        have n2 : a ≠ P := fun y => by subst y; rw [hfP] at z; cases z
        rw [upd_ne n2]; exact W.fro a o z
    · have n : a ≠ c' := fun y => by subst y; rw [hmc] at z; cases z
      obtain ⟨q1, o, q2, q3⟩ := W.mem a mo z
      by_cases n2 : a = P
      · subst n2
        rw [hM] at z; cases z
        refine ⟨by rw [upd_ne n]; exact q1, .tbl ps', by rw [upd_ne n, upd_same], ps', rfl, ht, fun pos cv hcv => ?_⟩
        rcases hcs pos cv hcv with h | h
        · obtain ⟨c, e1, e2⟩ := ha pos cv h
          exact ⟨c, e1, e c _ e2⟩
        · exact ⟨c', h, upd_same⟩
      · exact ⟨by rw [upd_ne n]; exact q1, o, by rw [upd_ne n, upd_ne n2]; exact q2, q3.mono e⟩
theorem wd_extra {K : PySem.W.Frag} {S₀ : W0} {Hf : Hp} {M : Mem} {H : Hp} {p : Addr} {o : HO} (W : Wd K S₀ Hf M H) (h : H p = none) : Wd K S₀ Hf M (upd H p o) ∧ Stp Hf M H Hf M (upd H p o) := by
  have s1 : Stp Hf M H Hf M (upd H p o) := ⟨Ex.refl _, fun a u q1 q2 q3 => by
    have n : a ≠ p := fun z => by subst z; rw [h] at q1; cases q1
    exact ⟨by rw [upd_ne n]; exact q1, q2, q3⟩⟩
  refine ⟨⟨⟨fun a u z => ?_, fun a m z => ?_⟩, W.st.trans s1⟩, s1⟩
  · have n : a ≠ p := fun y => by subst y; rw [W.fresh_f h] at z; cases z
    rw [upd_ne n]; exact W.fro a u z
  · have n : a ≠ p := fun y => by subst y; rw [W.fresh_m h] at z; cases z
    obtain ⟨q1, u, q2, q3⟩ := W.mem a m z
    exact ⟨q1, u, by rw [upd_ne n]; exact q2, q3⟩
theorem tfld_mono {K : PySem.W.Frag} (a : Addr) (cls : Value) (d : Option Addr) (σ : L2.St) (H : Hp) (Q Q' : VK) (h : ∀ v H, Q v H → Q' v H) (t : tFld K a cls d σ H Q) : tFld K a cls d σ H Q' := by
  obtain ⟨v, hv, ev, Hf, M, C, dd, tag, x, u, e1, e2, e3, e4, e5, e6, e7, e8, e9, e10⟩ := t
  exact ⟨v, hv, ev, Hf, M, C, dd, tag, x, u, e1, e2, e3, e4, e5, e6, e7, e8, e9, fun y M' w Hf' H' p W s i => h _ _ (e10 y M' w Hf' H' p W s i)⟩
theorem un_trans {fs1 fs2 : List Addr} {H H2 H3 : Hp} {h h2 h3 : Heap} {L : Addr} (u1 : Un fs1 [] H H2 h h2) (u2 : Un fs2 [] H2 H3 h2 h3) (e : fs2 = L :: fs1) (hL : h.get? L = none) : Un fs1 [] H H3 h h3 := by
  subst e
  have n0 : ∀ b : Addr, b ∉ ([] : List Addr) := fun b z => nomatch z
  refine ⟨fun b o q n hb hx => ?_, fun b o q n hb hx => ?_, fun b o q n hx => ?_, fun b o q hx => ?_, fun b xs q => u2.tups b xs (u1.tups b xs q), fun b o xs q => u2.frzs b o xs (u1.frzs b o xs q), fun b ps q => ?_⟩
  · have hbL : b ≠ L := fun z => by subst z; rw [hL] at q; cases q
    exact u2.keep b o (u1.keep b o q n hb hx) (u1.free b o q n hx) (fun z => by rcases List.mem_cons.mp z with z | z; exact hbL z; exact hb z) hx
  · obtain ⟨sl, e1⟩ := u1.slot b o q n hb hx
    obtain ⟨sl2, e2⟩ := u2.slot b _ e1 (u1.free b o q n hx) (List.mem_cons_of_mem _ hb) hx
    exact ⟨sl2, e2⟩
  · obtain ⟨o', e1⟩ := u1.there b o q hx
    exact u2.free b o' e1 (u1.free b o q n hx) hx
  · obtain ⟨o', e1⟩ := u1.there b o q hx
    exact u2.there b o' e1 hx
  · obtain ⟨m1, e1⟩ := u1.tbls b ps q
    obtain ⟨m2, e2⟩ := u2.tbls b _ e1
    exact ⟨m1 ++ m2, by rw [e2, Array.append_assoc]⟩
section
variable {X : Cx} {S₀ : W0} {tl : List Str} {c P : Addr} {params : Arguments} {body : Expr} {scope : Scope} {lpos p pos : Pos} {wb : XC → WE} {k : Nat}
/-- outcome(f), f a lambda that was made at (σ, H1, s'), called from the frames oY -/
theorem out_call (O : OutFacts X.prog X.w X.K X.mg X.base tl) {pins : List (Addr × Obj)} {σ : L2.St} {H1 HY Hf1 : Hp} {s' sY : Shared} {f c' : Addr} {pm' ctv : Value} {ρ : Sg} {M : Mem} {Φ : KD} {Q : VK} {AY : Around} {oY : List Env} (I1 : Inv X pins σ H1 s') (L : LamS X.env.scope scope)
    (hf : s'.heap.get? f = some (PySem.W.kla_obj "<lambda>" (lname X) params body scope (cloFrom X.env.cells scope.names []) pm' c' ctv)) (hfn : H1 f = none) (hfr : f ∉ frs X.stack)
    (hbind : ∀ (q : Str) (cl : List (Str × Addr)) (pm cv ctv : Value), bindArgs (PySem.W.kla_fn "<lambda>" q params body scope cl pm cv ctv) ⟨[], []⟩ = pure [])
    (hB : ∀ (A : Around) (outer : List Env) (s : Shared) (H : Hp) (E : XK) (f c' : Addr), Room k (A.deeper (lamEnv X scope s.heap.objs.size f c')) → ∀ (S₂ : W0) (Ψ : XC), KnX X.K X.mg S₂ Ψ E → VE (lamN X A outer s H E scope f c') S₂ body (wb Ψ))
    (e0 : Env0 X.prog X.w X.K X.mg X.base AY oY sY HY) (hun : ∀ HZ h, Un (frs oY) [] HY HZ sY.heap h → Un (frs X.stack) [] H1 HZ s'.heap h) (hr : Room (k + 2) AY)
    (W1 : Wd X.K S₀ Hf1 M HY) (hc : Hf1 c' = some (CodeO c' (lname X))) (e : EnvOk X.K Hf1 σ ρ) (hb : wb (kOutX tl Φ) ρ M (kOutN Φ)) (kn : Knt X.K S₀ Hf1 M HY Φ Q) :
    codeAny (model X.prog X.w) AY (.call (.ref O.gO) ⟨[.ref f], []⟩) (CR CX0 oY X.prog X.w HY sY Q (fun _ _ _ => False)) sY := by
  obtain ⟨oc, od, kV, doc, pm, an, cdv, ct, osl, efd, lk, hcd⟩ := O.FO.ex
  have hbo := O.bO
  rw [efd] at lk hbo
  have hin : X.K.In sY.heap := e0.mod.kin.keeps fun b o z => (e0.bs b o z).1
  let tb : XK → Hp → VK → Prop := fun E HZ Q => ∃ S₂ Ψ, KnX X.K X.mg S₂ Ψ E ∧ liftE X.K S₂ (wb Ψ) σ HZ Q
  have mono : ∀ (E E' : XK) (H : Hp) (Q Q' : VK), (∀ c d H, E c d H → E' c d H) → (∀ v H, Q v H → Q' v H) → tb E H Q → tb E' H Q' := fun E E' H Q Q' i1 i2 ⟨S₂, Ψ, kx, Hf, ρ, M, Φ, W, e, h, k⟩ =>
    ⟨S₂, Ψ, fun tag x C M' v d Hf' H' hm p W' hd i => i1 _ _ _ (kx tag x C M' v d Hf' H' hm p W' hd i), Hf, ρ, M, Φ, W, e, h, fun d M' v Hf' H' p W' s' i' => i2 _ _ (k d M' v Hf' H' p W' s' i')⟩
  have hvis : Vis (defScope O.stO) "_law_ask" := by
    rcases O.SO.par "_law_ask" (List.mem_cons_self ..) with h | h
    · exact .inl h
    · exact .inr (.inl h)
  refine run_ofS (CX := CX0) (N := NO) (ps := ["_law_ask"]) (us := [.ref f]) (vs := [.ref f]) lk hcd O.SO hr e0 (by have := hbo sY [.ref f] hin rfl; simpa using this) (.cons rfl .nil) rfl fun hr' => ?_
  have hsh := O.shape cdv AY oY sY HY (fun W σZ HZ Q => σZ[0]? = some (some (.ref f)) ∧ HZ c' = some (CodeO c' (lname X)) ∧ tb (fun cls d H' => W cls d σZ H') HZ Q) (tFld X.K)
    (fun W pn xe p1 p2 tk => pe_actN (i := 0) (tb := fun E σ H Q => ∃ S₂ Ψ, KnX X.K X.mg S₂ Ψ E ∧ liftE X.K S₂ (wb Ψ) σ H Q) I1 L hf hfn hfr (hbind _ _ _ _ _) (fun _ _ _ _ IZ => hun _ _ IZ.base) tk hr' (fun A outer s H E hr2 => ⟨fun pins s2 σ2 H2 Q2 I2 ⟨S₂, Ψ, kx, hl⟩ => (hB A outer s H E f c' hr2 S₂ Ψ kx).run pins s2 σ2 H2 Q2 I2 hl⟩) rfl hvis)
    (fun a oe cls d pn p1 p2 p3 hz hf => ?_)
  · refine ⟨_, hsh.nox, out_runs (tb := tb) (fun W σZ HZ Q h1 h2 h3 => ⟨h1, h2, h3⟩) (fun a cls d σ H Q Q' h t => tfld_mono a cls d σ H Q Q' h t) mono (W1.fro _ _ hc) fun p0 hp0 => ?_⟩
    obtain ⟨W2, s2⟩ := wd_extra (o := .tup [.non, .str "", .non]) W1 hp0
    refine ⟨⟨Hf1, M, upd HY p0 (.tup [.non, .str "", .non])⟩, kOutX tl Φ, fun tag x C M' v d Hf' H' hm hp W' hd i => ?_, Hf1, ρ, M, kOutN Φ, W2.toWr.begin, e, hb, fun d M' v Hf' H' hp W' s' i' p' hp' => ?_⟩
    · obtain ⟨hmem, hp⟩ := hp
      obtain ⟨⟨fI, kw⟩, xm⟩ := O.kn tag hmem C hm
      have W3 : Wd X.K S₀ Hf' M' H' := ⟨W'.toWr, W2.st.trans W'.st⟩
      have sw : Stp Hf1 M HY Hf' M' H' := s2.trans W'.st
      refine ⟨C, d, tag, v, rfl, rfl, W'.fro _ _ hd, xm, fun h0 p' hp' => ?_, fun hs a σZ hσ hna => ?_⟩
      · rw [h0] at hp
        obtain ⟨w, st, id⟩ := W3.newTup hp' (isDs_cons (isD_non.mpr rfl) (isDs_cons (isD_str.mpr rfl) (isDs_cons (isD_non.mpr rfl) isDs_nil)))
        exact kn _ _ _ _ _ hp w (sw.trans st) id
      · rw [if_pos hs] at hp
        refine ⟨_, hσ, rfl, Hf', M', C, d, tag, x, v, rfl, rfl, xm.rd, xm.tg, kw.fld, hd, i, hs, W'.toWr, fun y M'' u Hf'' H'' ⟨ey, eM⟩ W4 s4 i4 p' hp' => ?_⟩
        subst ey eM
        have W5 : Wd X.K S₀ Hf'' M'' H'' := ⟨W4, W3.st.trans s4⟩
        obtain ⟨w, st, id⟩ := W5.newTup hp' (isDs_cons (isD_non.mpr rfl) (isDs_cons (isD_str.mpr rfl) (isDs_cons i4 isDs_nil)))
        exact kn _ _ _ _ _ hp w ((sw.trans s4).trans st) id
    · have W3 : Wd X.K S₀ Hf' M' H' := ⟨W'.toWr, W2.st.trans W'.st⟩
      obtain ⟨w, st, id⟩ := W3.newTup hp' (isDs_cons i' (isDs_cons (isD_str.mpr rfl) (isDs_cons (isD_non.mpr rfl) isDs_nil)))
      exact kn _ _ _ _ _ hp w ((s2.trans W'.st).trans st) id
  · refine pe_callHot (p := (a, oe)) (sp := spF X.K a cls d) (ta := tCons (tVar 4) tNil) (k := 0) O.FF O.SF (fun vs H Q E h => by obtain ⟨rfl, _⟩ := h; rfl) O.bF ⟨rfl, by obtain ⟨vs, hv⟩ := hf; exact ⟨vs, hv, hz.2.2 vs hv⟩⟩ (List.mem_cons_self ..) (have r1 : Room 1 (AY.deeper (envOfC "_law_outcome" (defScope O.stO) sY.heap.objs.size O.gO cdv)) := hr'.mono (by omega); ⟨r1.dp, r1.un⟩) O.glF O.mF (pa_cons (pe_var (i := 4) rfl O.viE) pa_nil) fun cdv2 A2 outer2 s2 H2 vs Q2 hr2 hsp => ?_
    obtain ⟨rfl, Hf2, M2, C, dd, tag, x, v, rfl, rfl, rd, tg, fld, hd, i, hs, W2, kn2⟩ := hsp
    obtain ⟨w', hv, hw⟩ := O.fld cdv2 A2 outer2 s2 H2 (a, oe) C dd tag x ⟨Hf2, M2, H2⟩ hr2 ⟨⟨hz.1, hz.2.1⟩, hf, rd, tg, fld, v, hd, i⟩
    have kn3 := kn2.of
    refine ⟨_, hv, Hf2, [some (.ref a)], M2, endsD (fun y M' => y = x ∧ M' = M2), W2.begin, ?_, hw _ _ hs ⟨rfl, rfl⟩, ⟨fun ρ' M' σ' Hf' H' p W' s' e' => kn3 _ _ _ _ _ p W' s' (isD_non.mpr rfl), kn3, (fun ρ' M' σ' Hf' H' p W' s' e' => (p : False).elim), (fun ρ' M' σ' Hf' H' p W' s' e' => (p : False).elim)⟩⟩
    exact env_start (K := X.K) (Hf := Hf2) 0 (isDs_cons (isD_ref.mpr rfl) isDs_nil)
theorem ve_out (O : OutFacts X.prog X.w X.K X.mg X.base tl) (hg : Gl X "_law_outcome") (TB : TabB X.base X.mg c P) (hcode : X.env.code = .ref c) (hr : Room (k + 2) X.A) (L : LamS X.env.scope scope) (hdef : defaultsOf params X.env = ([], []))
    (hbind : ∀ (q : Str) (cl : List (Str × Addr)) (pm cv ctv : Value), bindArgs (PySem.W.kla_fn "<lambda>" q params body scope cl pm cv ctv) ⟨[], []⟩ = pure [])
    (hB : ∀ (A : Around) (outer : List Env) (s : Shared) (H : Hp) (E : XK) (f c' : Addr), Room k (A.deeper (lamEnv X scope s.heap.objs.size f c')) → ∀ (S₂ : W0) (Ψ : XC), KnX X.K X.mg S₂ Ψ E → VE (lamN X A outer s H E scope f c') S₂ body (wb Ψ)) :
    VE X S₀ (.Call (.Name "_law_outcome" p) [.Lambda params body scope lpos] [] pos) (wOut P (lname X) tl wb) := by
  refine ⟨fun pins s σ H Q I ⟨Hf, ρ, M, Φ, W, e, ⟨hM, hb⟩, kn⟩ => wpAny_Call_Name_kw (ld_glob I hg O.mO (PySem.W.callWith_K (h₀ := X.base) I.ok.mod.kin O.FO.kp ?_ (by rfl) (by rfl)))⟩
  show wpAny _ _ (spliced ((false, eval (.Lambda params body scope lpos) X.env) :: backTo pos (starEach [] X.env))) _ _ s
  obtain ⟨_, o, hP, ps, rfl, ht, ha⟩ := W.mem P _ hM
  refine Calls.spliced_cons (lam_mk I TB hcode hP ht (fun pos cv h => by obtain ⟨c, e1, e2⟩ := ha pos cv h; exact ⟨c, e1, W.fro _ _ e2⟩) hdef (L.has I.ok) fun f c' pm' ctv H1 s' I1 made hf hfn hfr => Calls.spliced_nil ⟨I1.kIn, ?_⟩)
  obtain ⟨Hf1, W1, s1, hc⟩ := made_wd W hM hP ha made
  refine wpAny_call (codeAny_mono (out_call O I1 L hf hfn hfr hbind hB I1.env0 (fun _ _ u => u) hr W1 hc (e.mono s1.ex) hb (kn.at s1)) fun r s2 hq => ?_)
  exact match r, hq with
    | .ok (.ret _), q => I1.after q
    | .ok .brk, q | .ok .cont, q | .ok .next, q | .error _, q => False.elim q
end
/-! error(lambda: ..) -/
structure ErrFacts (P : Program) (w : World) (K : PySem.W.Frag) (mg : Str → Option Value) (base : Heap) (gO : Addr) where
  (gE : Addr) (fdE : FuncData) (stE : Stmt)
  FE : Fun K "_law_error" "_law_error" stE gE fdE
  SE : FnScope ["_law_ask"] ["_law_ask"] (defScope stE)
  bE : L2.Binds K fdE ["_law_ask"] []
  mE : mg "_law_error" = some (.ref gE)
  shape : ∀ (cdv : Value) (A : Around) (outer : List Env) (s : Shared) (H : Hp) (S₁ : W0) (wO : WE),
    (∀ p1 p2 p3 : Pos, VE (cxOf CX0 P w K mg base ["_law_ask"] "_law_error" (defScope stE) gE cdv A outer s H (fun _ _ _ => False)).nox S₁ (.Call (.Name "_law_outcome" p1) [.Name "_law_ask" p2] [] p3) wO) →
    VSs (cxOf CX0 P w K mg base ["_law_ask"] "_law_error" (defScope stE) gE cdv A outer s H (fun _ _ _ => False)).nox S₁ (defBody stE) (sRet (wSl wO (wPart (wC (.int 1))) wNoPart))
  glO : (defScope stE).names.lookup ("_law_outcome" : Str) = some NameKind.globalImplicit
def kErrN (Φ : KD) : KD := fun _ M => Φ (.tup [.str "", .non]) M
def kErrX (tl : List Str) (Φ : KD) : XC := fun tag x M => tag ∈ tl ∧ Φ (.tup [.str tag, if (fieldOf tag).isSome then x else .non]) M
def wErr (P : Addr) (q : Str) (tl : List Str) (wb : XC → WE) : WE := fun ρ M Φ => M P = some (.tab q) ∧ wb (kErrX tl Φ) ρ M (kErrN Φ)
def kAsk (f : Addr) (tl : List Str) (wb : XC → WE) (ρm : Sg) : WE := fun ρ M Φ => at_ ρ 0 = some (.ref f) ∧ wb (kOutX tl Φ) ρm M (kOutN Φ)
section
variable {X : Cx} {S₀ : W0} {tl : List Str} {c P : Addr} {params : Arguments} {body : Expr} {scope : Scope} {lpos p pos : Pos} {wb : XC → WE} {k : Nat}
theorem err_call (O : OutFacts X.prog X.w X.K X.mg X.base tl) (Er : ErrFacts X.prog X.w X.K X.mg X.base O.gO) {pins : List (Addr × Obj)} {σ : L2.St} {H1 HY Hf1 : Hp} {s' sY : Shared} {f c' : Addr} {pm' ctv : Value} {ρ : Sg} {M : Mem} {Φ : KD} {Q : VK} {AY : Around} {oY : List Env} (I1 : Inv X pins σ H1 s') (L : LamS X.env.scope scope)
    (hf : s'.heap.get? f = some (PySem.W.kla_obj "<lambda>" (lname X) params body scope (cloFrom X.env.cells scope.names []) pm' c' ctv)) (hfn : H1 f = none) (hfr : f ∉ frs X.stack)
    (hbind : ∀ (q : Str) (cl : List (Str × Addr)) (pm cv ctv : Value), bindArgs (PySem.W.kla_fn "<lambda>" q params body scope cl pm cv ctv) ⟨[], []⟩ = pure [])
    (hB : ∀ (A : Around) (outer : List Env) (s : Shared) (H : Hp) (E : XK) (f c' : Addr), Room k (A.deeper (lamEnv X scope s.heap.objs.size f c')) → ∀ (S₂ : W0) (Ψ : XC), KnX X.K X.mg S₂ Ψ E → VE (lamN X A outer s H E scope f c') S₂ body (wb Ψ))
    (e0 : Env0 X.prog X.w X.K X.mg X.base AY oY sY HY) (hun : ∀ HZ h, Un (frs oY) [] HY HZ sY.heap h → Un (frs X.stack) [] H1 HZ s'.heap h) (hr : Room (k + 3) AY)
    (W1 : Wd X.K S₀ Hf1 M HY) (hc : Hf1 c' = some (CodeO c' (lname X))) (e : EnvOk X.K Hf1 σ ρ) (hb : wb (kErrX tl Φ) ρ M (kErrN Φ)) (kn : Knt X.K S₀ Hf1 M HY Φ Q) :
    codeAny (model X.prog X.w) AY (.call (.ref Er.gE) ⟨[.ref f], []⟩) (CR CX0 oY X.prog X.w HY sY Q (fun _ _ _ => False)) sY := by
  obtain ⟨oc, od, kV, doc, pm, an, cdv, ct, osl, efd, lk, hcd⟩ := Er.FE.ex
  have hbe := Er.bE
  rw [efd] at lk hbe
  have hin : X.K.In sY.heap := e0.mod.kin.keeps fun b o z => (e0.bs b o z).1
  have hvis : Vis (defScope Er.stE) "_law_ask" := by
    rcases Er.SE.par "_law_ask" (List.mem_cons_self ..) with h | h
    · exact .inl h
    · exact .inr (.inl h)
  refine run_ofS (CX := CX0) (N := ["_law_ask"]) (ps := ["_law_ask"]) (us := [.ref f]) (vs := [.ref f]) lk hcd Er.SE hr e0 (by have := hbe sY [.ref f] hin rfl; simpa using this) (.cons rfl .nil) rfl fun hr' => ?_
  have hs := Er.shape cdv AY oY sY HY ⟨Hf1, M, HY⟩ (kAsk f tl wb ρ) fun p1 p2 p3 => ⟨fun pins2 s2 σ2 H2 Q2 I2 ⟨Hf2, ρ2, M2, Φ2, W2, e2, ⟨h0, hb2⟩, kn2⟩ => ?_⟩
  · refine ⟨_, PSs.nox hs, Hf1, [some (.ref f)], M, endsD Φ, W1.toWr.begin, env_start (K := X.K) (Hf := Hf1) 0 (isDs_cons (isD_ref.mpr rfl) isDs_nil), ?_, ?_⟩
    · refine ⟨rfl, ?_⟩
      have e1 : kOutN (kSl1 (wPart (wC (.int 1))) wNoPart [some (.ref f)] Φ) = kErrN Φ := by funext d M'; rfl
      have e2 : kOutX tl (kSl1 (wPart (wC (.int 1))) wNoPart [some (.ref f)] Φ) = kErrX tl Φ := by funext tag x M'; rfl
      show wb (kOutX tl (kSl1 (wPart (wC (.int 1))) wNoPart [some (.ref f)] Φ)) ρ M (kOutN (kSl1 (wPart (wC (.int 1))) wNoPart [some (.ref f)] Φ))
      rw [e1, e2]
      exact hb
    · have kn3 := (kn.raw W1).of
      exact ⟨fun ρ' M' σ' Hf' H' p W' s' e' => kn3 _ _ _ _ _ p W' s' (isD_non.mpr rfl), kn3, (fun ρ' M' σ' Hf' H' p W' s' e' => (p : False).elim), (fun ρ' M' σ' Hf' H' p W' s' e' => (p : False).elim)⟩
  · obtain ⟨v0, hσ, iv⟩ := e2.at h0
    obtain rfl := isD_ref.mp iv
    refine wpAny_Call_Name_kw (ld_glob I2 Er.glO O.mO (PySem.W.callWith_K (h₀ := X.base) I2.ok.mod.kin O.FO.kp (thn ((pa_cons (pe_var (i := 0) (pos := p2) rfl hvis) pa_nil).run p3 pins2 s2 σ2 H2 (fun vs H3 => vs = [V.ref f] ∧ H3 = H2) I2 ⟨_, hσ, rfl, rfl⟩) fun us s3 ⟨vs, H3, I3, r3, ev, eH⟩ => ⟨I3.kIn, ?_⟩) (by rfl) (by rfl)))
    subst ev eH
    obtain rfl : us = [Value.ref f] := by
      cases r3 with
      | cons a b => cases b; cases a; rfl
    have hL : sY.heap.get? sY.heap.objs.size = none := by
      cases z : sY.heap.get? sY.heap.objs.size with
      | none => rfl
      | some o => exact absurd (Heap.lt_size z) (Nat.lt_irrefl _)
    refine wpAny_call (codeAny_mono (out_call O I1 L hf hfn hfr hbind hB I3.env0 (fun HZ h u => hun HZ h (un_trans I3.base u rfl hL)) hr' W2 (W2.st.ex _ _ hc) (e.mono W2.st.ex) hb2 kn2) fun r s4 hq => ?_)
    exact match r, hq with
      | .ok (.ret _), q => I3.after q
      | .ok .brk, q | .ok .cont, q | .ok .next, q | .error _, q => False.elim q
theorem ve_err (O : OutFacts X.prog X.w X.K X.mg X.base tl) (Er : ErrFacts X.prog X.w X.K X.mg X.base O.gO) (hg : Gl X "_law_error") (TB : TabB X.base X.mg c P) (hcode : X.env.code = .ref c) (hr : Room (k + 3) X.A) (L : LamS X.env.scope scope) (hdef : defaultsOf params X.env = ([], []))
    (hbind : ∀ (q : Str) (cl : List (Str × Addr)) (pm cv ctv : Value), bindArgs (PySem.W.kla_fn "<lambda>" q params body scope cl pm cv ctv) ⟨[], []⟩ = pure [])
    (hB : ∀ (A : Around) (outer : List Env) (s : Shared) (H : Hp) (E : XK) (f c' : Addr), Room k (A.deeper (lamEnv X scope s.heap.objs.size f c')) → ∀ (S₂ : W0) (Ψ : XC), KnX X.K X.mg S₂ Ψ E → VE (lamN X A outer s H E scope f c') S₂ body (wb Ψ)) :
    VE X S₀ (.Call (.Name "_law_error" p) [.Lambda params body scope lpos] [] pos) (wErr P (lname X) tl wb) := by
  refine ⟨fun pins s σ H Q I ⟨Hf, ρ, M, Φ, W, e, ⟨hM, hb⟩, kn⟩ => wpAny_Call_Name_kw (ld_glob I hg Er.mE (PySem.W.callWith_K (h₀ := X.base) I.ok.mod.kin Er.FE.kp ?_ (by rfl) (by rfl)))⟩
  show wpAny _ _ (spliced ((false, eval (.Lambda params body scope lpos) X.env) :: backTo pos (starEach [] X.env))) _ _ s
  obtain ⟨_, o, hP, ps, rfl, ht, ha⟩ := W.mem P _ hM
  refine Calls.spliced_cons (lam_mk I TB hcode hP ht (fun pos cv h => by obtain ⟨c, e1, e2⟩ := ha pos cv h; exact ⟨c, e1, W.fro _ _ e2⟩) hdef (L.has I.ok) fun f c' pm' ctv H1 s' I1 made hf hfn hfr => Calls.spliced_nil ⟨I1.kIn, ?_⟩)
  obtain ⟨Hf1, W1, s1, hc⟩ := made_wd W hM hP ha made
  refine wpAny_call (codeAny_mono (err_call O Er I1 L hf hfn hfr hbind hB I1.env0 (fun _ _ u => u) hr W1 hc (e.mono s1.ex) hb (kn.at s1)) fun r s2 hq => ?_)
  exact match r, hq with
    | .ok (.ret _), q => I1.after q
    | .ok .brk, q | .ok .cont, q | .ok .next, q | .error _, q => False.elim q
end
section
variable {P : Addr} {q : Str} {tl : List Str} {wb : XC → WE} {ρ : Sg} {M : Mem} {Φ : KD} {d : VL.D} {tag : Str} {x : VL.D}
theorem e_out (h : M P = some (.tab q)) : wOut P q tl wb ρ M Φ = wb (kOutX tl Φ) ρ M (kOutN Φ) := by unfold wOut; simp only [h, true_and]
theorem e_err (h : M P = some (.tab q)) : wErr P q tl wb ρ M Φ = wb (kErrX tl Φ) ρ M (kErrN Φ) := by unfold wErr; simp only [h, true_and]
theorem e_outN : kOutN Φ d M = Φ (.tup [d, .str "", .non]) M := rfl
theorem e_outX : kOutX tl Φ tag x M = (tag ∈ tl ∧ Φ (.tup [.non, .str tag, if (fieldOf tag).isSome then x else .non]) M) := rfl
theorem e_errN : kErrN Φ d M = Φ (.tup [.str "", .non]) M := rfl
theorem e_errX : kErrX tl Φ tag x M = (tag ∈ tl ∧ Φ (.tup [.str tag, if (fieldOf tag).isSome then x else .non]) M) := rfl
end
end XL

/-! a def whose code object is known; the start of a law that holds lambdas; rows -/
namespace VL
open PySem PySem.Spec PyProof.Rows L2 XL LamX
structure FunC (K : PySem.W.Frag) (x qual : Str) (st : Stmt) (f : Addr) (fd : FuncData) (c : Addr) : Prop where
  ex : ∃ (oc : Value) (od : Option Addr) (kV doc pm : Value) (an : Option Addr) (ct : Value) (osl : Array (Option Value)),
    fd = PySem.W.fnOf x qual (defArgs st) (defBody st) (defScope st) .none kV doc pm an (.ref c) ct ∧ K.lookup f = some ⟨oc, od, .func fd, osl⟩ ∧ PySem.W.codeIn K (.ref c) qual = true
  kp : PySem.W.keepIn K (.ref f) = true
section
variable {P : Program} {w : World} {K : PySem.W.Frag} {mg : Str → Option Value} {base : Heap}
theorem fnWC {x qual : Str} {st : Stmt} {f c : Addr} {fd : FuncData} {N ps : List Str} {k : Nat} {Wf : W3} (F : FunC K x qual st f fd c) (S : FnScope N ps (defScope st)) (len : ∀ ds M Φ, Wf ds M Φ → ds.length = ps.length)
    (h : ∀ (A : Around) (outer : List Env) (s : Shared) (H : Hp) (E : XK), Room k (A.deeper (envOfC qual (defScope st) s.heap.objs.size f (.ref c))) →
      ∀ S₀ : W0, ∃ w', VSs (cxOf CX0 P w K mg base N qual (defScope st) f (.ref c) A outer s H E).nox S₀ (defBody st) w' ∧ ∀ ds M Φ, Wf ds M Φ → w' (endsD Φ) (startD N.length ds) M) : FnOk P w K mg base CX0 (k + 1) f fd ps (spW K Wf) := by
  obtain ⟨oc, od, kV, doc, pm, an, ct, osl, rfl, lk, hcd⟩ := F.ex
  refine fn_of lk hcd S (fun vs H Q E h => ?_) (fun A outer s H vs Q E hr hsp => ?_)
  · obtain ⟨Hf, M, ds, Φ, _, i, hw, _⟩ := h
    rw [← i.len]
    exact len ds M Φ hw
  · obtain ⟨Hf, M, ds, Φ, W, i, hw, kn⟩ := hsp
    have kn := kn.of
    obtain ⟨w', hv, hw'⟩ := h A outer s H E hr ⟨Hf, M, H⟩
    refine ⟨_, hv.nox, ?_⟩
    refine ⟨Hf, startD N.length ds, M, endsD Φ, W.begin, ?_, hw' ds M Φ hw, ⟨fun ρ' M' σ' Hf' H' p W' s' e' => kn _ _ _ _ _ p W' s' (isD_non.mpr rfl), kn, (fun ρ' M' σ' Hf' H' p W' s' e' => (p : False).elim), (fun ρ' M' σ' Hf' H' p W' s' e' => (p : False).elim)⟩⟩
    have e := env_start (K := K) (Hf := Hf) (N.length - ds.length) i
    unfold startD
    rw [show start N vs = vs.map some ++ List.replicate (N.length - vs.length) none from rfl, ← i.len]
    exact e
end
/-- a law's start: the table of its own code objects is empty -/
theorem law_inT0 {K : PySem.W.Frag} {H : Hp} {a PT : Addr} {q : Str} {ns : List Int} {W : W3} {E : XK} (hP : H PT = some (.tbl #[])) (hS : SqL K H a (ns.map V.int)) (h : W [.fz (ns.map D.int)] (fun b => if b = PT then some (.tab q) else none) (fun d _ => d = .bl true)) : spW K W [.ref a] H (fun v _ => v = .bl true) E := by
  have ex : Ex (fun b => if b = PT then none else H b) H := fun b o e => by
    by_cases c : b = PT
    · exact nomatch (if_pos c).symm.trans e
    · exact (if_neg c).symm.trans e
  have hS' : SqL K (fun b => if b = PT then none else H b) a (ns.map V.int) := by
    have rd : ∀ b, H b ≠ some (.tbl #[]) → ∀ u, H b = some u → (if b = PT then none else H b) = some u := fun b hb u e => by
      rw [if_neg fun z => hb (by rw [z]; exact hP)]; exact e
    rcases hS with (h | ⟨o, h⟩) | h
    · exact .inl (.inl (rd a (by rw [h]; exact fun z => nomatch z) _ h))
    · exact .inl (.inr ⟨o, rd a (by rw [h]; exact fun z => nomatch z) _ h⟩)
    · exact .inr h
  refine ⟨fun b => if b = PT then none else H b, _, _, _, ⟨ex, fun b m e => ?_⟩, isDs_cons (isD_fz.mpr ⟨a, _, rfl, hS', IsDs.of_ints ns⟩) isDs_nil, h, fun d M' v Hf' H' p W' s i => by subst p; exact isD_bl.mp i⟩
  by_cases c : b = PT
  · subst c
    have e := (if_pos rfl).symm.trans e
    cases e
    refine ⟨if_pos rfl, _, hP, #[], rfl, trivial, fun pos cv hc => ?_⟩
    cases hc
  · exact nomatch (if_neg c).symm.trans e
section
variable {ρ : Sg} {M : Mem} {Φ : KD} {Ψ : XC} {tag : Str} {x : VL.D}
theorem raise1 (h : (fieldOf tag).isSome = true) (k : Ψ tag x M) : kRaise tag Ψ [x] M := ⟨x, .inl ⟨rfl, h⟩, k⟩
theorem raise0 (h : fieldOf tag = none) (k : Ψ tag .non M) : kRaise tag Ψ [] M := ⟨_, .inr ⟨rfl, rfl, h⟩, k⟩
end
end VL

--@LAW k11
local macro_rules | `(tactic| walk_at "vl") => `(tactic| simp only [VL.e_callX, VL.e_callXk, VL.e_callXD, VL.e_callXDk, VL.e_callXK, VL.e_callXK1, VL.e_callXK2, VL.e_raise, XL.e_xa, XL.e_xak, XL.e_outN, XL.e_errN, VL.e_var, VL.e_at0, VL.e_at0n, VL.e_atS, VL.e_c, VL.e_op, VL.e_op1, VL.e_op2, VL.e_I, VL.e_IC, VL.e_addI, VL.e_addT, VL.e_addL, VL.e_mulI, VL.e_isN, VL.e_notN, VL.e_isN_non, VL.e_isN_int, VL.e_isN_bl, VL.e_isN_str, VL.e_isN_tup, VL.e_isN_lst, VL.e_isN_ref, VL.e_test, VL.e_testK, VL.e_and, VL.e_andT, VL.e_andF, VL.e_or, VL.e_orT, VL.e_orF, VL.e_not, VL.e_notK, VL.e_ifE, VL.e_ifET, VL.e_ifEF, VL.e_andV, VL.e_andVT, VL.e_andVF, VL.e_orV, VL.e_orVT, VL.e_orVF, VL.e_notV, VL.e_notVK, VL.e_neg, VL.e_negK, VL.e_nil, VL.e_cons, VL.e_cons1, VL.e_cons2, VL.e_tup, VL.e_tupK, VL.e_lst, VL.e_lstK, VL.e_lstM, VL.e_lstMK, VL.e_cb, VL.e_cbK, VL.e_lenT, VL.e_lenL, VL.e_lenF, VL.e_tupCL, VL.e_tupCT, VL.e_lstCL, VL.e_lstCT, VL.e_min2, VL.e_max2, VL.e_sl, VL.e_sl1, VL.e_sl2, VL.e_sl3T, VL.e_sl3L, VL.e_sl3F, VL.e_noPart, VL.e_part, VL.e_partK, VL.e_revL, VL.e_revLK, VL.e_call, VL.e_callK, VL.e_callD, VL.e_callDK, VL.e_callKw, VL.e_callKw1, VL.e_callKw2, VL.e_bm, VL.e_bm2, VL.e_ixL, VL.e_ixT, VL.e_next, VL.e_seq, VL.e_drop, VL.e_dropK, VL.e_ret, VL.e_retF, VL.e_if, VL.e_ifT, VL.e_ifF, VL.e_asg, VL.e_asgK, VL.e_gname, VL.e_par, VL.e_parK, VL.e_par3, VL.e_par3K, VL.e_gsub, VL.e_gsub1, VL.e_gnil, VL.e_gcons, VL.e_kg1, VL.e_gtup, VL.e_for, VL.e_forK, VL.e_wiSeq, VL.e_seqIL, VL.e_seqIT, VL.e_wiRng1, VL.e_rng1K, VL.e_wiRng2, VL.e_rng2K, VL.e_wiZip, VL.e_zipKL, VL.e_zipKT, VL.e_lc, VL.e_lc0, VL.e_lcF, VL.e_lc1, VL.e_lc2T, VL.e_lc2F, VL.e_lc3, VL.e_yes, VL.e_wipe0, VL.e_wipeS, VL.e_endsNx, VL.e_endsRt, VL.e_eqI, VL.e_neI, VL.e_eqB, VL.e_neB, VL.e_eqTI, VL.e_neTI, VL.e_eqLI, VL.e_neLI, VL.e_eqT0, VL.e_neT0, VL.e_eqL0, VL.e_neL0, VL.e_disp, VL.e_dispK, VL.e_pcons, VL.e_p1, VL.e_p2s, VL.e_p2i, VL.e_p3, VL.e_pnil, VL.e_dict0, VL.e_get, VL.e_get2, VL.e_whT, VL.e_whF, VL.e_break, VL.e_cont, VL.e_retN, VL.e_aug, VL.e_lenR VL.put_same, VL.e_tupCR VL.put_same, VL.e_bm1 VL.put_same, VL.e_append VL.put_same, VL.e_insert VL.put_same, VL.e_ixD VL.put_same, VL.e_ixDi VL.put_same, VL.e_dr0 VL.put_same, VL.e_dr1 VL.put_same, VL.e_dr2 VL.put_same, VL.e_dr3 VL.put_same, VL.e_fz VL.put_same, VL.e_gsub2S VL.put_same, VL.e_gsub2I VL.put_same, VL.e_ds1 VL.put_same, VL.e_ds2 VL.put_same, VL.e_ds3 VL.put_same, VL.e_neR0 VL.put_same, VL.e_eqR0 VL.put_same, VL.e_get1 VL.put_same, VL.e_get3 VL.put_same, VL.e_pop VL.put_same, VL.e_extL VL.put_same, VL.e_addM VL.put_same, VL.e_inI VL.put_same, VL.e_ninI VL.put_same, VL.e_tRoot VL.put_same, VL.e_tLeft VL.put_same, VL.e_tRight VL.put_same, VL.e_tUp VL.put_same, VL.e_tSetRoot VL.put_same, Bool.not_true, Bool.not_false, VL.put_put, List.set_cons_zero, List.set_cons_succ, List.replicate])
local macro_rules | `(tactic| wp_walk using $ts,*) => `(tactic| simp only [VL.e_callX, VL.e_callXk, VL.e_callXD, VL.e_callXDk, VL.e_callXK, VL.e_callXK1, VL.e_callXK2, VL.e_raise, XL.e_xa, XL.e_xak, XL.e_outN, XL.e_errN, VL.e_var, VL.e_at0, VL.e_at0n, VL.e_atS, VL.e_c, VL.e_op, VL.e_op1, VL.e_op2, VL.e_I, VL.e_IC, VL.e_addI, VL.e_addT, VL.e_addL, VL.e_mulI, VL.e_isN, VL.e_notN, VL.e_isN_non, VL.e_isN_int, VL.e_isN_bl, VL.e_isN_str, VL.e_isN_tup, VL.e_isN_lst, VL.e_isN_ref, VL.e_test, VL.e_testK, VL.e_and, VL.e_andT, VL.e_andF, VL.e_or, VL.e_orT, VL.e_orF, VL.e_not, VL.e_notK, VL.e_ifE, VL.e_ifET, VL.e_ifEF, VL.e_andV, VL.e_andVT, VL.e_andVF, VL.e_orV, VL.e_orVT, VL.e_orVF, VL.e_notV, VL.e_notVK, VL.e_neg, VL.e_negK, VL.e_nil, VL.e_cons, VL.e_cons1, VL.e_cons2, VL.e_tup, VL.e_tupK, VL.e_lst, VL.e_lstK, VL.e_lstM, VL.e_lstMK, VL.e_cb, VL.e_cbK, VL.e_lenT, VL.e_lenL, VL.e_lenF, VL.e_tupCL, VL.e_tupCT, VL.e_lstCL, VL.e_lstCT, VL.e_min2, VL.e_max2, VL.e_sl, VL.e_sl1, VL.e_sl2, VL.e_sl3T, VL.e_sl3L, VL.e_sl3F, VL.e_noPart, VL.e_part, VL.e_partK, VL.e_revL, VL.e_revLK, VL.e_call, VL.e_callK, VL.e_callD, VL.e_callDK, VL.e_callKw, VL.e_callKw1, VL.e_callKw2, VL.e_bm, VL.e_bm2, VL.e_ixL, VL.e_ixT, VL.e_next, VL.e_seq, VL.e_drop, VL.e_dropK, VL.e_ret, VL.e_retF, VL.e_if, VL.e_ifT, VL.e_ifF, VL.e_asg, VL.e_asgK, VL.e_gname, VL.e_par, VL.e_parK, VL.e_par3, VL.e_par3K, VL.e_gsub, VL.e_gsub1, VL.e_gnil, VL.e_gcons, VL.e_kg1, VL.e_gtup, VL.e_for, VL.e_forK, VL.e_wiSeq, VL.e_seqIL, VL.e_seqIT, VL.e_wiRng1, VL.e_rng1K, VL.e_wiRng2, VL.e_rng2K, VL.e_wiZip, VL.e_zipKL, VL.e_zipKT, VL.e_lc, VL.e_lc0, VL.e_lcF, VL.e_lc1, VL.e_lc2T, VL.e_lc2F, VL.e_lc3, VL.e_yes, VL.e_wipe0, VL.e_wipeS, VL.e_endsNx, VL.e_endsRt, VL.e_eqI, VL.e_neI, VL.e_eqB, VL.e_neB, VL.e_eqTI, VL.e_neTI, VL.e_eqLI, VL.e_neLI, VL.e_eqT0, VL.e_neT0, VL.e_eqL0, VL.e_neL0, VL.e_disp, VL.e_dispK, VL.e_pcons, VL.e_p1, VL.e_p2s, VL.e_p2i, VL.e_p3, VL.e_pnil, VL.e_dict0, VL.e_get, VL.e_get2, VL.e_whT, VL.e_whF, VL.e_break, VL.e_cont, VL.e_retN, VL.e_aug, VL.e_lenR VL.put_same, VL.e_tupCR VL.put_same, VL.e_bm1 VL.put_same, VL.e_append VL.put_same, VL.e_insert VL.put_same, VL.e_ixD VL.put_same, VL.e_ixDi VL.put_same, VL.e_dr0 VL.put_same, VL.e_dr1 VL.put_same, VL.e_dr2 VL.put_same, VL.e_dr3 VL.put_same, VL.e_fz VL.put_same, VL.e_gsub2S VL.put_same, VL.e_gsub2I VL.put_same, VL.e_ds1 VL.put_same, VL.e_ds2 VL.put_same, VL.e_ds3 VL.put_same, VL.e_neR0 VL.put_same, VL.e_eqR0 VL.put_same, VL.e_get1 VL.put_same, VL.e_get3 VL.put_same, VL.e_pop VL.put_same, VL.e_extL VL.put_same, VL.e_addM VL.put_same, VL.e_inI VL.put_same, VL.e_ninI VL.put_same, VL.e_tRoot VL.put_same, VL.e_tLeft VL.put_same, VL.e_tRight VL.put_same, VL.e_tUp VL.put_same, VL.e_tSetRoot VL.put_same, Bool.not_true, Bool.not_false, VL.put_put, List.set_cons_zero, List.set_cons_succ, List.replicate, $[$ts:term],*])
local macro_rules | `(tactic| k_search $h) => `(tactic| simp only [VL.e_callX, VL.e_callXk, VL.e_callXD, VL.e_callXDk, VL.e_callXK, VL.e_callXK1, VL.e_callXK2, VL.e_raise, XL.e_xa, XL.e_xak, XL.e_outN, XL.e_errN, VL.e_var, VL.e_at0, VL.e_at0n, VL.e_atS, VL.e_c, VL.e_op, VL.e_op1, VL.e_op2, VL.e_I, VL.e_IC, VL.e_addI, VL.e_addT, VL.e_addL, VL.e_mulI, VL.e_isN, VL.e_notN, VL.e_isN_non, VL.e_isN_int, VL.e_isN_bl, VL.e_isN_str, VL.e_isN_tup, VL.e_isN_lst, VL.e_isN_ref, VL.e_test, VL.e_testK, VL.e_and, VL.e_andT, VL.e_andF, VL.e_or, VL.e_orT, VL.e_orF, VL.e_not, VL.e_notK, VL.e_ifE, VL.e_ifET, VL.e_ifEF, VL.e_andV, VL.e_andVT, VL.e_andVF, VL.e_orV, VL.e_orVT, VL.e_orVF, VL.e_notV, VL.e_notVK, VL.e_neg, VL.e_negK, VL.e_nil, VL.e_cons, VL.e_cons1, VL.e_cons2, VL.e_tup, VL.e_tupK, VL.e_lst, VL.e_lstK, VL.e_lstM, VL.e_lstMK, VL.e_cb, VL.e_cbK, VL.e_lenT, VL.e_lenL, VL.e_lenF, VL.e_tupCL, VL.e_tupCT, VL.e_lstCL, VL.e_lstCT, VL.e_min2, VL.e_max2, VL.e_sl, VL.e_sl1, VL.e_sl2, VL.e_sl3T, VL.e_sl3L, VL.e_sl3F, VL.e_noPart, VL.e_part, VL.e_partK, VL.e_revL, VL.e_revLK, VL.e_call, VL.e_callK, VL.e_callD, VL.e_callDK, VL.e_callKw, VL.e_callKw1, VL.e_callKw2, VL.e_bm, VL.e_bm2, VL.e_ixL, VL.e_ixT, VL.e_next, VL.e_seq, VL.e_drop, VL.e_dropK, VL.e_ret, VL.e_retF, VL.e_if, VL.e_ifT, VL.e_ifF, VL.e_asg, VL.e_asgK, VL.e_gname, VL.e_par, VL.e_parK, VL.e_par3, VL.e_par3K, VL.e_gsub, VL.e_gsub1, VL.e_gnil, VL.e_gcons, VL.e_kg1, VL.e_gtup, VL.e_for, VL.e_forK, VL.e_wiSeq, VL.e_seqIL, VL.e_seqIT, VL.e_wiRng1, VL.e_rng1K, VL.e_wiRng2, VL.e_rng2K, VL.e_wiZip, VL.e_zipKL, VL.e_zipKT, VL.e_lc, VL.e_lc0, VL.e_lcF, VL.e_lc1, VL.e_lc2T, VL.e_lc2F, VL.e_lc3, VL.e_yes, VL.e_wipe0, VL.e_wipeS, VL.e_endsNx, VL.e_endsRt, VL.e_eqI, VL.e_neI, VL.e_eqB, VL.e_neB, VL.e_eqTI, VL.e_neTI, VL.e_eqLI, VL.e_neLI, VL.e_eqT0, VL.e_neT0, VL.e_eqL0, VL.e_neL0, VL.e_disp, VL.e_dispK, VL.e_pcons, VL.e_p1, VL.e_p2s, VL.e_p2i, VL.e_p3, VL.e_pnil, VL.e_dict0, VL.e_get, VL.e_get2, VL.e_whT, VL.e_whF, VL.e_break, VL.e_cont, VL.e_retN, VL.e_aug, VL.e_lenR VL.put_same, VL.e_tupCR VL.put_same, VL.e_bm1 VL.put_same, VL.e_append VL.put_same, VL.e_insert VL.put_same, VL.e_ixD VL.put_same, VL.e_ixDi VL.put_same, VL.e_dr0 VL.put_same, VL.e_dr1 VL.put_same, VL.e_dr2 VL.put_same, VL.e_dr3 VL.put_same, VL.e_fz VL.put_same, VL.e_gsub2S VL.put_same, VL.e_gsub2I VL.put_same, VL.e_ds1 VL.put_same, VL.e_ds2 VL.put_same, VL.e_ds3 VL.put_same, VL.e_neR0 VL.put_same, VL.e_eqR0 VL.put_same, VL.e_get1 VL.put_same, VL.e_get3 VL.put_same, VL.e_pop VL.put_same, VL.e_extL VL.put_same, VL.e_addM VL.put_same, VL.e_inI VL.put_same, VL.e_ninI VL.put_same, VL.e_tRoot VL.put_same, VL.e_tLeft VL.put_same, VL.e_tRight VL.put_same, VL.e_tUp VL.put_same, VL.e_tSetRoot VL.put_same, Bool.not_true, Bool.not_false, VL.put_put, List.set_cons_zero, List.set_cons_succ, List.replicate, VL.e_dr0 $h, VL.e_dr1 $h, VL.e_dr2 $h, VL.e_dr3 $h, VL.e_ds1 $h, VL.e_ds2 $h, VL.e_ds3 $h])
/-! the program's shapes: restrict, the search, touch, remove_key -/
namespace VL
open PySem PySem.Spec PyProof.Rows L2 Tm
abbrev g_k_restrict_1_low_high : List D → List D → List D := fun ds zs => ds ++ zs ++ []
abbrev g_k_restrict_1_low : List D → List D → List D := fun ds zs => ds ++ zs ++ [D.non]
abbrev g_k_restrict_1_high : List D → List D → List D := fun ds zs => ds ++ [D.non] ++ zs
def W_restrict : W3 := fun ds M Φ => ∃ (ks : List Int) (lo hi : Option Int), ds = [.tup (ks.map D.int), optD lo, optD hi] ∧ ks.length ≤ 1000 ∧ Φ (.tup ((ks.filter (inB lo hi)).map D.int)) M
def w_restrict : WS := (sRet (wCB wrTupC (wCons (wLc (wiSeq (wVar 0)) (wgName 3) (wAnd (wOr (wTest (wOp wrIsN (wVar 1) (wC .non))) (wTest (wOp (wrI fun i j => .bl (decide (i < j))) (wVar 1) (wVar 3)))) (wOr (wTest (wOp wrIsN (wVar 2) (wC .non))) (wTest (wOp (wrI fun i j => .bl (decide (i < j))) (wVar 3) (wVar 2))))) (wVar 3) [3]) wNil)))
theorem e_notN_opt {o : Option Int} : isN (optD o) = o.isNone := by cases o <;> rfl
theorem start_3 {n : Nat} {x y z : D} : startD (n + 3) [x, y, z] = some x :: some y :: some z :: List.replicate n none := by simp [startD]
theorem r_restrict : ∀ ds M Φ, W_restrict ds M Φ → w_restrict (endsD Φ) (startD 4 ds) M := by
  intro ds M Φ ⟨ks, lo, hi, eds, hl, k⟩
  subst eds
  unfold w_restrict
  rw [start_3]
  walk_at "vl"
  refine ⟨by rw [List.length_map]; unfold lim; omega, ?_⟩
  refine lc_ints (inB lo hi) id (fun x hx Ψ acc ht hf => ?_) ?_
  · have second : (lo = none ∨ ∃ a, lo = some a ∧ a < x) → wOr (wTest (wOp wrIsN (wVar 2) (wC .non))) (wTest (wOp (wrI fun i j => .bl (decide (i < j))) (wVar 3) (wVar 2))) [some (.tup (ks.map D.int)), some (optD lo), some (optD hi), some (.int x)] M (kLc2 (wVar 3) [some (.tup (ks.map D.int)), some (optD lo), some (optD hi), some (.int x)] acc Ψ) := by
      intro hlo
      have hlo' : loB lo x = true := by
        rcases hlo with rfl | ⟨a, rfl, h⟩
        · rfl
        · exact decide_eq_true h
      wp_walk using e_isN_opt
      cases hi with
      | none =>
        wp_walk using Option.isNone
        exact ht (by unfold inB; rw [hlo']; rfl)
      | some b =>
        wp_walk using Option.isNone, optD
        by_cases c : x < b
        · rw [decide_eq_true c]
          walk_at "vl"
          exact ht (by unfold inB; rw [hlo']; exact decide_eq_true c)
        · rw [decide_eq_false c]
          walk_at "vl"
          exact hf (by unfold inB; rw [hlo']; exact decide_eq_false c)
    wp_walk using e_isN_opt
    cases lo with
    | none =>
      wp_walk using Option.isNone
      exact second (.inl rfl)
    | some a =>
      wp_walk using Option.isNone, optD
      by_cases c : a < x
      · rw [decide_eq_true c]
        walk_at "vl"
        exact second (.inr ⟨a, rfl, c⟩)
      · rw [decide_eq_false c]
        walk_at "vl"
        exact hf (by unfold inB loB; simp [c])
  rw [List.map_id]
  walk_at "vl"
  exact k
theorem W_restrict_go {ks : List Int} {lo hi : Option Int} {ds : List D} {M : Mem} {Φ : KD} (e : ds = [.tup (ks.map D.int), optD lo, optD hi]) (h : ks.length ≤ 1000) (k : Φ (.tup ((ks.filter (inB lo hi)).map D.int)) M) : W_restrict ds M Φ := ⟨ks, lo, hi, e, h, k⟩
/-! need_key -/
theorem inF_ints (x : Int) : ∀ ks : List Int, inF (.int x) (ks.map D.int) = decide (x ∈ ks)
  | [] => by simp [inF]
  | y :: ks => by
    have ih := inF_ints x ks
    unfold inF at ih ⊢
    rw [List.map_cons, List.any_cons, ih]
    show (eqF (.int y) (.int x) || _) = _
    have : eqF (.int y) (.int x) = decide (y = x) := by unfold eqF; rfl
    rw [this]
    by_cases h : y = x
    · subst h; simp
    · have h' : x ≠ y := fun e => h e.symm
      simp [h, h']
theorem flat_ints : ∀ ks : List Int, (ks.map D.int).all flatD = true
  | [] => rfl
  | y :: ks => by rw [List.map_cons, List.all_cons, flat_ints ks]; rfl
theorem e_ninT {M : Mem} {Φ : KD} {x : Int} {ks : List Int} : wrIn true (.int x) (.tup (ks.map D.int)) M Φ = Φ (.bl (!decide (x ∈ ks))) M := by
  unfold wrIn
  show ((flatD (.int x) = true ∧ _) ∧ _) = _
  simp only [flat_ints, inF_ints, if_true, and_true, true_and]
  rw [show flatD (.int x) = true from rfl]
  simp
theorem e_inT {M : Mem} {Φ : KD} {x : Int} {ks : List Int} : wrIn false (.int x) (.tup (ks.map D.int)) M Φ = Φ (.bl (decide (x ∈ ks))) M := by
  unfold wrIn
  show ((flatD (.int x) = true ∧ _) ∧ _) = _
  simp only [flat_ints, inF_ints, and_true, true_and]
  rw [show flatD (.int x) = true from rfl]
  simp
theorem e_inL {M : Mem} {Φ : KD} {x : Int} {ks : List Int} : wrIn false (.int x) (.lst (ks.map D.int)) M Φ = Φ (.bl (decide (x ∈ ks))) M := by
  unfold wrIn
  show ((flatD (.int x) = true ∧ _) ∧ _) = _
  simp only [flat_ints, inF_ints, and_true, true_and]
  rw [show flatD (.int x) = true from rfl]
  simp
def W_need_key : W4 := fun ds M Φ Ψ => ∃ (ks : List Int) (x : Int), ds = [.tup (ks.map D.int), .int x] ∧ (x ∈ ks → Φ .non M) ∧ (x ∉ ks → Ψ "NoKey" (.int x) M)
def w_need_key (Ψ : XC) : WS := (sIf (wTest (wOp (wrIn true) (wVar 1) (wVar 0))) (sRaise "NoKey" Ψ (wCons (wVar 1) wNil)) sNext)
theorem r_need_key (Ψ : XC) : ∀ ds M Φ, W_need_key ds M Φ Ψ → w_need_key Ψ (endsD Φ) (startD 2 ds) M := by
  intro ds M Φ ⟨ks, x, eds, k, kx⟩
  subst eds
  unfold w_need_key
  rw [start_2]
  by_cases h : x ∈ ks
  · wp_walk using e_ninT, decide_eq_true h
    exact k h
  · wp_walk using e_ninT, decide_eq_false h
    exact raise1 (by decide +kernel) (kx h)
/-! search_path -/
def W_search_path : W3 := fun ds M Φ => ∃ (t : Tr) (x : Int), ds = [.tup (t.pre.map D.int), .int x] ∧ (t.bst ∧ t.size ≤ 1000) ∧ ∀ M', Kept M M' → Φ (.lst ((t.path x).map D.int)) M'
def w_search_path : WS := (sSeq (sPar3 2 3 4 (wCons (wLstM wNil) (wCons (wC .non) (wCons (wC .non) wNil))))
  (sSeq (sFor (wiSeq (wVar 0)) (wgName 5) (sIf (wAnd (wOr (wTest (wOp wrIsN (wVar 3) (wC .non))) (wTest (wOp (wrI fun i j => .bl (decide (i < j))) (wVar 3) (wVar 5)))) (wOr (wTest (wOp wrIsN (wVar 4) (wC .non))) (wTest (wOp (wrI fun i j => .bl (decide (i < j))) (wVar 5) (wVar 4))))) (sSeq (sDrop (wBM wrAppend (wVar 2) (wCons (wVar 5) wNil)))
  (sSeq (sIf (wTest (wOp wrEq (wVar 5) (wVar 1))) (sRetF (wVar 2)) sNext)
  (sAsg (wIfE (wTest (wOp (wrI fun i j => .bl (decide (i < j))) (wVar 5) (wVar 1))) (wTup (wCons (wVar 5) (wCons (wVar 4) wNil))) (wTup (wCons (wVar 3) (wCons (wVar 5) wNil)))) (wgTup 2 (wgCons (wgName 3) (wgCons (wgName 4) wgNil)))))) sNext))
  (sRetF (wVar 2))))
def sp_body : WS := (sIf (wAnd (wOr (wTest (wOp wrIsN (wVar 3) (wC .non))) (wTest (wOp (wrI fun i j => .bl (decide (i < j))) (wVar 3) (wVar 5)))) (wOr (wTest (wOp wrIsN (wVar 4) (wC .non))) (wTest (wOp (wrI fun i j => .bl (decide (i < j))) (wVar 5) (wVar 4))))) (sSeq (sDrop (wBM wrAppend (wVar 2) (wCons (wVar 5) wNil)))
  (sSeq (sIf (wTest (wOp wrEq (wVar 5) (wVar 1))) (sRetF (wVar 2)) sNext)
  (sAsg (wIfE (wTest (wOp (wrI fun i j => .bl (decide (i < j))) (wVar 5) (wVar 1))) (wTup (wCons (wVar 5) (wCons (wVar 4) wNil))) (wTup (wCons (wVar 3) (wCons (wVar 5) wNil)))) (wgTup 2 (wgCons (wgName 3) (wgCons (wgName 4) wgNil)))))) sNext)
theorem sp_test {d0 d1 d2 : D} {lo hi : Option Int} {x : Int} {M : Mem} {ΦT : Bool → Mem → Prop} (h : ΦT (inB lo hi x) M) :
    wAnd (wOr (wTest (wOp wrIsN (wVar 3) (wC .non))) (wTest (wOp (wrI fun i j => .bl (decide (i < j))) (wVar 3) (wVar 5)))) (wOr (wTest (wOp wrIsN (wVar 4) (wC .non))) (wTest (wOp (wrI fun i j => .bl (decide (i < j))) (wVar 5) (wVar 4)))) [some d0, some d1, some d2, some (optD lo), some (optD hi), some (.int x)] M ΦT := by
  have second : ∀ ok : Bool, loB lo x = ok → kAnd (wOr (wTest (wOp wrIsN (wVar 4) (wC .non))) (wTest (wOp (wrI fun i j => .bl (decide (i < j))) (wVar 5) (wVar 4)))) [some d0, some d1, some d2, some (optD lo), some (optD hi), some (.int x)] ΦT ok M := by
    intro ok hok
    have e : inB lo hi x = (ok && hiB hi x) := by rw [← hok]; rfl
    rw [e] at h
    cases ok with
    | false => exact h
    | true =>
      rw [Bool.true_and] at h
      wp_walk using e_isN_opt
      cases hi with
      | none => wp_walk using Option.isNone; exact h
      | some b =>
        wp_walk using Option.isNone, optD
        rw [show hiB (some b) x = decide (x < b) from rfl] at h
        revert h
        cases decide (x < b) <;> exact id
  wp_walk using e_isN_opt
  cases lo with
  | none =>
    wp_walk using Option.isNone
    exact second true rfl
  | some a =>
    wp_walk using Option.isNone, optD
    have := second (decide (a < x)) rfl
    revert this
    cases decide (a < x) <;> exact id
section
variable {d0 : D} {x : Int} {p : Addr} {De : WN} {M0 : Mem}
theorem sp_skip {rest : List Int} {lo hi : Option Int} : ∀ (ys : List Int) {M : Mem} {o5 : Option D}, (∀ y ∈ ys, inB lo hi y = false) → (∀ o5, sLoop (wgName 5) sp_body De (rest.map D.int) [some d0, some (.int x), some (.ref p), some (optD lo), some (optD hi), o5] M) →
    sLoop (wgName 5) sp_body De ((ys ++ rest).map D.int) [some d0, some (.int x), some (.ref p), some (optD lo), some (optD hi), o5] M
  | [], M, o5, _, h => h o5
  | y :: ys, M, o5, hy, h => by
    show wgName 5 (.int y) _ M _
    rw [e_gname]
    show sp_body _ [some d0, some (.int x), some (.ref p), some (optD lo), some (optD hi), some (.int y)] M
    unfold sp_body
    rw [e_if]
    refine sp_test ?_
    rw [hy y (List.mem_cons_self ..)]
    exact sp_skip ys (fun z hz => hy z (List.mem_cons_of_mem _ hz)) h
theorem sp_loop (hp0 : M0 p = none) : ∀ (s : Tr) {rest : List Int} {lo hi : Option Int} {M : Mem} {acc : List Int} {o5 : Option D}, s.bst → s.has x → (∀ y, s.has y → inB lo hi y = true) → M p = some (.lst (acc.map D.int)) → Kept M0 M → acc.length + s.size ≤ 1000 → (∀ M', Kept M0 M' → De.rt (.lst ((acc ++ s.path x).map D.int)) M') →
    sLoop (wgName 5) sp_body De ((s.pre ++ rest).map D.int) [some d0, some (.int x), some (.ref p), some (optD lo), some (optD hi), o5] M
  | .nil, _, _, _, _, _, _, _, hx, _, _, _, _, _ => hx.elim
  | .node l k r, rest, lo, hi, M, acc, o5, ⟨hl, hr, h1, h2⟩, hx, hB, hM, hK, hs, hk => by
    show wgName 5 (.int k) _ M _
    rw [e_gname]
    show sp_body _ [some d0, some (.int x), some (.ref p), some (optD lo), some (optD hi), some (.int k)] M
    unfold sp_body
    rw [e_if]
    refine sp_test ?_
    rw [hB k (.inr (.inl rfl))]
    rw [Tr.size] at hs
    wp_walk using e_bm1 hM, e_append hM
    refine ⟨by rw [List.length_map]; unfold lim; omega, ?_⟩
    have hM1 : (put M p (.lst (acc.map D.int ++ [D.int k]))) p = some (.lst ((acc ++ [k]).map D.int)) := by rw [put_same, List.map_append]; rfl
    have hK1 : Kept M0 (put M p (.lst (acc.map D.int ++ [D.int k]))) := hK.new hp0 _
    by_cases c : k = x
    · subst c
      rw [decide_eq_true rfl]
      wp_walk using e_fz hM1
      have := hk _ (hK1.gone hp0)
      unfold Tr.path at this
      rw [if_pos rfl, List.map_append] at this
      exact this
    · rw [decide_eq_false c]
      walk_at "vl"
      have e' : (l.pre ++ r.pre) ++ rest = l.pre ++ (r.pre ++ rest) := List.append_assoc ..
      by_cases d : k < x
      · rw [decide_eq_true d]
        walk_at "vl"
        refine ⟨(show (2 : Nat) ≤ lim by decide), rfl, trivial, ?_⟩
        show sLoop _ _ _ (((l.pre ++ r.pre) ++ rest).map D.int) _ _
        rw [e']
        have hxr : r.has x := by
          rcases hx with h | h | h
          · have := h1 x h; omega
          · omega
          · exact h
        refine sp_skip (lo := some k) (hi := hi) l.pre (fun y hy => ?_) fun o5 => ?_
        · have := h1 y (has_pre.mp hy); simp [inB, loB, hiB]; omega
        refine sp_loop hp0 r (lo := some k) (hi := hi) hr hxr (fun y hy => ?_) hM1 hK1 (by rw [List.length_append, List.length_singleton]; omega) fun M' hM' => ?_
        · have a := h2 y hy
          have b := inB_iff.mp (hB y (.inr (.inr hy)))
          exact inB_iff.mpr ⟨fun z e => by cases e; exact a, b.2⟩
        · have := hk M' hM'
          unfold Tr.path at this
          rw [if_neg (fun e => c e.symm), if_neg (by omega)] at this
          rw [List.append_assoc]
          exact this
      · rw [decide_eq_false d]
        walk_at "vl"
        refine ⟨(show (2 : Nat) ≤ lim by decide), rfl, trivial, ?_⟩
        show sLoop _ _ _ (((l.pre ++ r.pre) ++ rest).map D.int) _ _
        rw [e']
        have hxl : l.has x := by
          rcases hx with h | h | h
          · exact h
          · omega
          · have := h2 x h; omega
        refine sp_loop hp0 l (lo := lo) (hi := some k) hl hxl (fun y hy => ?_) hM1 hK1 (by rw [List.length_append, List.length_singleton]; omega) fun M' hM' => ?_
        · have a := h1 y hy
          have b := inB_iff.mp (hB y (.inl hy))
          exact inB_iff.mpr ⟨b.1, fun z e => by cases e; exact a⟩
        · have := hk M' hM'
          unfold Tr.path at this
          rw [if_neg (fun e => c e.symm), if_pos (by omega)] at this
          rw [List.append_assoc]
          exact this
theorem sp_out (hp0 : M0 p = none) : ∀ (s : Tr) {rest : List Int} {lo hi : Option Int} {M : Mem} {acc : List Int} {o5 : Option D}, s.bst → ¬ s.has x → (∀ y, s.has y → inB lo hi y = true) → (∀ y ∈ rest, inB lo hi y = false) → M p = some (.lst (acc.map D.int)) → Kept M0 M → acc.length + s.size ≤ 1000 →
    (∀ lo hi o5 M', Kept M0 M' → M' p = some (.lst ((acc ++ s.path x).map D.int)) → De.nx [some d0, some (.int x), some (.ref p), some (optD lo), some (optD hi), o5] M') →
    sLoop (wgName 5) sp_body De ((s.pre ++ rest).map D.int) [some d0, some (.int x), some (.ref p), some (optD lo), some (optD hi), o5] M
  | .nil, rest, lo, hi, M, acc, o5, _, _, _, hR, hM, hK, _, hk => by
    show sLoop _ _ _ (rest.map D.int) _ _
    rw [← List.append_nil rest]
    refine sp_skip (rest := []) rest hR fun o5 => ?_
    refine hk _ _ _ _ hK ?_
    rw [hM]; unfold Tr.path; rw [List.append_nil]
  | .node l k r, rest, lo, hi, M, acc, o5, ⟨hl, hr, h1, h2⟩, hx, hB, hR, hM, hK, hs, hk => by
    show wgName 5 (.int k) _ M _
    rw [e_gname]
    show sp_body _ [some d0, some (.int x), some (.ref p), some (optD lo), some (optD hi), some (.int k)] M
    unfold sp_body
    rw [e_if]
    refine sp_test ?_
    have kB := hB k (.inr (.inl rfl))
    rw [kB]
    rw [Tr.size] at hs
    wp_walk using e_bm1 hM, e_append hM
    refine ⟨by rw [List.length_map]; unfold lim; omega, ?_⟩
    have hM1 : (put M p (.lst (acc.map D.int ++ [D.int k]))) p = some (.lst ((acc ++ [k]).map D.int)) := by rw [put_same, List.map_append]; rfl
    have hK1 : Kept M0 (put M p (.lst (acc.map D.int ++ [D.int k]))) := hK.new hp0 _
    have c : k ≠ x := fun e => hx (.inr (.inl e.symm))
    have e' : (l.pre ++ r.pre) ++ rest = l.pre ++ (r.pre ++ rest) := List.append_assoc ..
    have kLo := (inB_iff.mp kB).1
    have kHi := (inB_iff.mp kB).2
    rw [decide_eq_false c]
    walk_at "vl"
    by_cases d : k < x
    · rw [decide_eq_true d]
      walk_at "vl"
      refine ⟨(show (2 : Nat) ≤ lim by decide), rfl, trivial, ?_⟩
      show sLoop _ _ _ (((l.pre ++ r.pre) ++ rest).map D.int) _ _
      rw [e']
      refine sp_skip (lo := some k) (hi := hi) l.pre (fun y hy => ?_) fun o5 => ?_
      · have := h1 y (has_pre.mp hy); simp [inB, loB, hiB]; omega
      refine sp_out hp0 r (lo := some k) (hi := hi) hr (fun z => hx (.inr (.inr z))) (fun y hy => ?_) (fun y hy => ?_) hM1 hK1 (by rw [List.length_append, List.length_singleton]; omega) fun lo' hi' o5 M' hM' hp' => ?_
      · have a := h2 y hy
        have b := inB_iff.mp (hB y (.inr (.inr hy)))
        exact inB_iff.mpr ⟨fun z e => by cases e; exact a, b.2⟩
      · cases e9 : inB (some k) hi y with
        | false => rfl
        | true =>
          have b := inB_iff.mp e9
          have : inB lo hi y = true := inB_iff.mpr ⟨fun z e => Int.lt_trans (kLo z e) (b.1 k rfl), b.2⟩
          rw [hR y hy] at this; cases this
      · refine hk lo' hi' o5 M' hM' ?_
        rw [hp']
        unfold Tr.path
        rw [if_neg (fun e => c e.symm), if_neg (by omega), List.append_assoc]
        cases r <;> rfl
    · rw [decide_eq_false d]
      walk_at "vl"
      refine ⟨(show (2 : Nat) ≤ lim by decide), rfl, trivial, ?_⟩
      show sLoop _ _ _ (((l.pre ++ r.pre) ++ rest).map D.int) _ _
      rw [e']
      refine sp_out hp0 l (lo := lo) (hi := some k) hl (fun z => hx (.inl z)) (fun y hy => ?_) (fun y hy => ?_) hM1 hK1 (by rw [List.length_append, List.length_singleton]; omega) fun lo' hi' o5 M' hM' hp' => ?_
      · have a := h1 y hy
        have b := inB_iff.mp (hB y (.inl hy))
        exact inB_iff.mpr ⟨b.1, fun z e => by cases e; exact a⟩
      · cases e9 : inB lo (some k) y with
        | false => rfl
        | true =>
          have b := inB_iff.mp e9
          rcases List.mem_append.mp hy with hy | hy
          · have := h2 y (has_pre.mp hy)
            have := b.2 k rfl
            omega
          · have : inB lo hi y = true := inB_iff.mpr ⟨b.1, fun z e => Int.lt_trans (b.2 k rfl) (kHi z e)⟩
            rw [hR y hy] at this; cases this
      · refine hk lo' hi' o5 M' hM' ?_
        rw [hp']
        unfold Tr.path
        rw [if_neg (fun e => c e.symm), if_pos (by omega), List.append_assoc]
        cases l <;> rfl
end
theorem r_search_path : ∀ ds M Φ, W_search_path ds M Φ → w_search_path (endsD Φ) (startD 6 ds) M := by
  intro ds M Φ ⟨t, x, eds, ⟨hb, hz⟩, k⟩
  subst eds
  unfold w_search_path
  rw [start_2]
  walk_at "vl"
  refine ⟨(show (0 : Nat) ≤ lim by decide), fun p hp => ?_⟩
  by_cases hx : t.has x
  · have h := sp_loop (d0 := .tup (t.pre.map D.int)) (x := x) (p := p) (De := ⟨sRetF (wVar 2) (endsD Φ), Φ, (endsD Φ).bk, (endsD Φ).ct⟩) hp t (rest := []) (lo := none) (hi := none) (acc := []) (o5 := none) hb hx (fun y _ => rfl) put_same ((Kept.refl M).new hp _) (by rw [List.length_nil]; omega) k
    rw [List.append_nil] at h
    exact h
  · have h := sp_out (d0 := .tup (t.pre.map D.int)) (x := x) (p := p) (De := ⟨sRetF (wVar 2) (endsD Φ), Φ, (endsD Φ).bk, (endsD Φ).ct⟩) hp t (rest := []) (lo := none) (hi := none) (acc := []) (o5 := none) hb hx (fun y _ => rfl) (fun _ h => nomatch h) put_same ((Kept.refl M).new hp _) (by rw [List.length_nil]; omega) fun lo hi o5 M' hM' hp' => ?_
    · rw [List.append_nil] at h
      exact h
    · show sRetF (wVar 2) (endsD Φ) [some (.tup (t.pre.map D.int)), some (.int x), some (.ref p), some (optD lo), some (optD hi), o5] M'
      wp_walk using e_fz hp'
      exact k _ (hM'.gone hp)
/-! path_to, depth_of -/
def W_path_to : W4 := fun ds M Φ Ψ => ∃ (t : Tr) (x : Int), ds = [.tup (t.pre.map D.int), .int x] ∧ (t.bst ∧ t.size ≤ 1000) ∧ (t.has x → ∀ M', Kept M M' → Φ (.lst ((t.path x).map D.int)) M') ∧ (¬ t.has x → Ψ "NoKey" (.int x) M)
def w_path_to (Ψ : XC) : WS := (sSeq (sDrop (wCallX W_need_key Ψ (wCons (wVar 0) (wCons (wVar 1) wNil))))
  (sRet (wCall W_search_path (wCons (wVar 0) (wCons (wVar 1) wNil)))))
theorem r_path_to (Ψ : XC) : ∀ ds M Φ, W_path_to ds M Φ Ψ → w_path_to Ψ (endsD Φ) (startD 2 ds) M := by
  intro ds M Φ ⟨t, x, eds, ⟨hb, hz⟩, k, kx⟩
  subst eds
  unfold w_path_to
  rw [start_2]
  walk_at "vl"
  refine ⟨_, _, rfl, fun h => ?_, fun h => kx fun h' => h (has_pre.mpr h')⟩
  walk_at "vl"
  exact ⟨t, x, rfl, ⟨hb, hz⟩, k (has_pre.mp h)⟩
def W_depth_of : W4 := fun ds M Φ Ψ => ∃ (t : Tr) (x : Int), ds = [.tup (t.pre.map D.int), .int x] ∧ (t.bst ∧ t.size ≤ 1000) ∧ (t.has x → ∀ M', Kept M M' → Φ (.int ((t.path x).length - 1)) M') ∧ (¬ t.has x → Ψ "NoKey" (.int x) M)
def w_depth_of (Ψ : XC) : WS := (sRet (wOp (wrI fun i j => .int (i - j)) (wCB wrLen (wCons (wCallX W_path_to Ψ (wCons (wVar 0) (wCons (wVar 1) wNil))) wNil)) (wC (.int 1))))
theorem r_depth_of (Ψ : XC) : ∀ ds M Φ, W_depth_of ds M Φ Ψ → w_depth_of Ψ (endsD Φ) (startD 2 ds) M := by
  intro ds M Φ ⟨t, x, eds, ⟨hb, hz⟩, k, kx⟩
  subst eds
  unfold w_depth_of
  rw [start_2]
  walk_at "vl"
  refine ⟨t, x, rfl, ⟨hb, hz⟩, fun hx M' hM' => ?_, kx⟩
  walk_at "vl"
  rw [List.length_map]
  exact k hx M' hM'
/-! raised, touch -/
def W_raised : W3 := fun ds M Φ => ∃ (ks : List Int) (x : Int), ds = [.tup (ks.map D.int), .int x] ∧ ks.length ≤ 1000 ∧ Φ (.tup ((rsd x ks).map D.int)) M
def w_raised : WS := (sRet (wOp wrAdd (wOp wrAdd (wTup (wCons (wVar 1) wNil)) (wCallK 1 1 W_restrict g_k_restrict_1_high (wCons (wVar 0) wNil) (wCons (wVar 1) wNil))) (wCallK 1 1 W_restrict g_k_restrict_1_low (wCons (wVar 0) wNil) (wCons (wVar 1) wNil))))
theorem r_raised : ∀ ds M Φ, W_raised ds M Φ → w_raised (endsD Φ) (startD 2 ds) M := by
  intro ds M Φ ⟨ks, x, eds, hl, k⟩
  subst eds
  unfold w_raised
  rw [start_2]
  have h1 := List.length_filter_le (inB none (some x)) ks
  have h2 := List.length_filter_le (inB (some x) none) ks
  walk_at "vl"
  refine ⟨(show (1 : Nat) ≤ lim by decide), ⟨rfl, rfl⟩, W_restrict_go (lo := none) (hi := some x) rfl hl ?_⟩
  walk_at "vl"
  refine ⟨by rw [List.length_map, List.length_singleton]; unfold lim; omega, ⟨rfl, rfl⟩, W_restrict_go (lo := some x) (hi := none) rfl hl ?_⟩
  walk_at "vl"
  refine ⟨by rw [List.length_append, List.length_map, List.length_map, List.length_singleton]; unfold lim; omega, ?_⟩
  rw [rsd, List.map_cons, List.map_append] at k
  exact k
def W_touch : W4 := fun ds M Φ Ψ => ∃ (t : Tr) (x : Int), ds = [.tup (t.pre.map D.int), .int x] ∧ (t.bst ∧ t.size ≤ 1000) ∧ (t.has x → ∀ M', Kept M M' → Φ (.tup [.tup ((t.tch x).pre.map D.int), .int ((t.path x).length - 1)]) M') ∧ (¬ t.has x → Ψ "NoKey" (.int x) M)
def w_touch (Ψ : XC) : WS := (sSeq (sAsg (wCallX W_depth_of Ψ (wCons (wVar 0) (wCons (wVar 1) wNil))) (wgName 2))
  (sRet (wTup (wCons (wCall W_raised (wCons (wVar 0) (wCons (wVar 1) wNil))) (wCons (wVar 2) wNil)))))
theorem r_touch (Ψ : XC) : ∀ ds M Φ, W_touch ds M Φ Ψ → w_touch Ψ (endsD Φ) (startD 3 ds) M := by
  intro ds M Φ ⟨t, x, eds, ⟨hb, hz⟩, k, kx⟩
  subst eds
  unfold w_touch
  rw [start_2]
  walk_at "vl"
  refine ⟨t, x, rfl, ⟨hb, hz⟩, fun hx M' hM' => ?_, kx⟩
  walk_at "vl"
  refine ⟨_, _, rfl, by rw [len_pre]; exact hz, ?_⟩
  walk_at "vl"
  refine ⟨(show (2 : Nat) ≤ lim by decide), ?_⟩
  rw [tch_pre hb]
  exact k hx M' hM'
theorem W_touch_go {t : Tr} {x : Int} {M : Mem} {Φ : KD} {Ψ : XC} (hb : t.bst) (hz : t.size ≤ 1000) (hx : t.has x) (k : ∀ M', Kept M M' → Φ (.tup [.tup ((t.tch x).pre.map D.int), .int ((t.path x).length - 1)]) M') : W_touch [.tup (t.pre.map D.int), .int x] M Φ Ψ := ⟨t, x, rfl, ⟨hb, hz⟩, fun _ => k, fun h => absurd hx h⟩
end VL

/-! subtrees, bounds, rotations by lists -/
namespace Tm
/-- the subtree of x -/
def Tr.at (x : Int) : Tr → Tr
  | .nil => .nil
  | .node l k r => if x = k then .node l k r else if x < k then l.at x else r.at x
/-- the nearest bounds above x -/
def Tr.bds (x : Int) : Option Int → Option Int → Tr → Option Int × Option Int
  | lo, hi, .nil => (lo, hi)
  | lo, hi, .node l k r => if x = k then (lo, hi) else if x < k then l.bds x lo (some k) else r.bds x (some k) hi
theorem at_pth {x : Int} {l r : Tr} {t : Tr} (h : Pth x (.node l x r) t) (hb : t.bst) : t.at x = .node l x r := by
  generalize e : Tr.node l x r = s at h
  induction h with
  | here => subst e; rw [Tr.at, if_pos rfl]
  | @left l' r' k h c ih => rw [Tr.at, if_neg (by omega), if_pos c, ih hb.1]
  | @right l' r' k h c ih =>
    have hx : r'.has x := by subst e; exact h.sub.has (.inr (.inl rfl))
    have := hb.2.2.2 x hx
    rw [Tr.at, if_neg (by omega), if_neg c, ih hb.2.1]
theorem at_has {x y : Int} : ∀ {t : Tr}, (t.at x).has y → t.has y
  | .nil, h => h
  | .node l k r, h => by
    rw [Tr.at] at h
    split at h
    · exact h
    · split at h
      · exact .inl (at_has h)
      · exact .inr (.inr (at_has h))
theorem at_bst {x : Int} : ∀ {t : Tr}, t.bst → (t.at x).bst
  | .nil, h => h
  | .node l k r, h => by
    rw [Tr.at]
    split
    · exact h
    · split
      · exact at_bst h.1
      · exact at_bst h.2.1
theorem at_size {x : Int} : ∀ {t : Tr}, (t.at x).size ≤ t.size
  | .nil => Nat.le_refl _
  | .node l k r => by
    have h1 := at_size (x := x) (t := l)
    have h2 := at_size (x := x) (t := r)
    rw [Tr.at]
    split
    · exact Nat.le_refl _
    · rw [Tr.size]; split <;> omega
/-- the bounds above x cut out the subtree of x -/
theorem bds_filter {x : Int} : ∀ {t : Tr} {lo hi : Option Int}, t.bst → t.has x → (∀ y, t.has y → inB lo hi y = true) → t.pre.filter (inB (t.bds x lo hi).1 (t.bds x lo hi).2) = (t.at x).pre ∧ inB (t.bds x lo hi).1 (t.bds x lo hi).2 x = true ∧ (∀ y, inB (t.bds x lo hi).1 (t.bds x lo hi).2 y = true → inB lo hi y = true)
  | .nil, _, _, _, hx, _ => hx.elim
  | .node l k r, lo, hi, hb, hx, hB => by
    have kB := inB_iff.mp (hB k (.inr (.inl rfl)))
    rw [Tr.bds, Tr.at]
    by_cases e : x = k
    · rw [if_pos e, if_pos e]
      exact ⟨filt_all fun y hy => hB y (has_pre.mp hy), by rw [e]; exact hB k (.inr (.inl rfl)), fun _ h => h⟩
    · rw [if_neg e, if_neg e]
      by_cases c : x < k
      · rw [if_pos c, if_pos c]
        have hxl : l.has x := by
          rcases hx with g | g | g
          · exact g
          · exact absurd g e
          · have := hb.2.2.2 x g; omega
        obtain ⟨i1, i2, i3⟩ := bds_filter (t := l) (lo := lo) (hi := some k) hb.1 hxl fun y hy => inB_iff.mpr ⟨(inB_iff.mp (hB y (.inl hy))).1, fun z ez => by cases ez; exact hb.2.2.1 y hy⟩
        refine ⟨?_, i2, fun y hy => ?_⟩
        · show (k :: (l.pre ++ r.pre)).filter _ = _
          rw [List.filter_cons, if_neg fun h => ?_, List.filter_append, i1, filt_none (l := r.pre) fun y hy => ?_, List.append_nil]
          · cases e9 : inB (l.bds x lo (some k)).1 (l.bds x lo (some k)).2 y with
            | false => rfl
            | true =>
              have := (inB_iff.mp (i3 y e9)).2 k rfl
              have := hb.2.2.2 y (has_pre.mp hy)
              omega
          · have := (inB_iff.mp (i3 k h)).2 k rfl
            omega
        · have h9 := inB_iff.mp (i3 y hy)
          exact inB_iff.mpr ⟨h9.1, fun z ez => Int.lt_trans (h9.2 k rfl) (kB.2 z ez)⟩
      · rw [if_neg c, if_neg c]
        have hxr : r.has x := by
          rcases hx with g | g | g
          · exact absurd (hb.2.2.1 x g) c
          · exact absurd g e
          · exact g
        obtain ⟨i1, i2, i3⟩ := bds_filter (t := r) (lo := some k) (hi := hi) hb.2.1 hxr fun y hy => inB_iff.mpr ⟨fun z ez => by cases ez; exact hb.2.2.2 y hy, (inB_iff.mp (hB y (.inr (.inr hy)))).2⟩
        refine ⟨?_, i2, fun y hy => ?_⟩
        · show (k :: (l.pre ++ r.pre)).filter _ = _
          rw [List.filter_cons, if_neg fun h => ?_, List.filter_append, i1, filt_none (l := l.pre) fun y hy => ?_, List.nil_append]
          · cases e9 : inB (r.bds x (some k) hi).1 (r.bds x (some k) hi).2 y with
            | false => rfl
            | true =>
              have := (inB_iff.mp (i3 y e9)).1 k rfl
              have := hb.2.2.1 y (has_pre.mp hy)
              omega
          · have := (inB_iff.mp (i3 k h)).1 k rfl
            omega
        · have h9 := inB_iff.mp (i3 y hy)
          exact inB_iff.mpr ⟨fun z ez => Int.lt_trans (kB.1 z ez) (h9.1 k rfl), h9.2⟩
/-- the bounds are the nearest of the keys above -/
theorem bds_path {x : Int} : ∀ {t : Tr} {lo hi : Option Int}, t.bst → t.has x → (∀ y, t.has y → inB lo hi y = true) → ∃ ab, t.path x = ab ++ [x] ∧ (∀ y ∈ ab, t.has y ∧ y ≠ x) ∧
    ((t.bds x lo hi).1 = lo ∧ (∀ y ∈ ab, ¬ y < x) ∨ ∃ m, (t.bds x lo hi).1 = some m ∧ m ∈ ab ∧ m < x ∧ ∀ y ∈ ab, y < x → y ≤ m) ∧
    ((t.bds x lo hi).2 = hi ∧ (∀ y ∈ ab, ¬ x < y) ∨ ∃ m, (t.bds x lo hi).2 = some m ∧ m ∈ ab ∧ x < m ∧ ∀ y ∈ ab, x < y → m ≤ y)
  | .nil, _, _, _, hx, _ => hx.elim
  | .node l k r, lo, hi, hb, hx, hB => by
    rw [Tr.bds, Tr.path]
    by_cases e : x = k
    · rw [if_pos e, if_pos e]
      exact ⟨[], by rw [e]; rfl, (fun _ h => nomatch h), .inl ⟨rfl, fun _ h => nomatch h⟩, .inl ⟨rfl, fun _ h => nomatch h⟩⟩
    · rw [if_neg e, if_neg e]
      by_cases c : x < k
      · rw [if_pos c, if_pos c]
        have hxl : l.has x := by
          rcases hx with g | g | g
          · exact g
          · exact absurd g e
          · have := hb.2.2.2 x g; omega
        obtain ⟨ab, i1, i2, i3, i4⟩ := bds_path (t := l) (lo := lo) (hi := some k) hb.1 hxl fun y hy => inB_iff.mpr ⟨(inB_iff.mp (hB y (.inl hy))).1, fun z ez => by cases ez; exact hb.2.2.1 y hy⟩
        refine ⟨k :: ab, by rw [i1]; rfl, fun y hy => ?_, ?_, ?_⟩
        · rcases List.mem_cons.mp hy with h | h
          · rw [h]; exact ⟨.inr (.inl rfl), fun z => e z.symm⟩
          · exact ⟨.inl (i2 y h).1, (i2 y h).2⟩
        · rcases i3 with ⟨a, b⟩ | ⟨m, a, b, d, f⟩
          · exact .inl ⟨a, fun y hy => by rcases List.mem_cons.mp hy with h | h; omega; exact b y h⟩
          · exact .inr ⟨m, a, List.mem_cons_of_mem _ b, d, fun y hy hl => by rcases List.mem_cons.mp hy with h | h; omega; exact f y h hl⟩
        · rcases i4 with ⟨a, b⟩ | ⟨m, a, b, d, f⟩
          · exact .inr ⟨k, a, List.mem_cons_self .., c, fun y hy hl => by rcases List.mem_cons.mp hy with h | h; omega; exact absurd hl (b y h)⟩
          · refine .inr ⟨m, a, List.mem_cons_of_mem _ b, d, fun y hy hl => ?_⟩
            rcases List.mem_cons.mp hy with h | h
            · have := hb.2.2.1 m (i2 m b).1; omega
            · exact f y h hl
      · rw [if_neg c, if_neg c]
        have hxr : r.has x := by
          rcases hx with g | g | g
          · exact absurd (hb.2.2.1 x g) c
          · exact absurd g e
          · exact g
        obtain ⟨ab, i1, i2, i3, i4⟩ := bds_path (t := r) (lo := some k) (hi := hi) hb.2.1 hxr fun y hy => inB_iff.mpr ⟨fun z ez => by cases ez; exact hb.2.2.2 y hy, (inB_iff.mp (hB y (.inr (.inr hy)))).2⟩
        refine ⟨k :: ab, by rw [i1]; rfl, fun y hy => ?_, ?_, ?_⟩
        · rcases List.mem_cons.mp hy with h | h
          · rw [h]; exact ⟨.inr (.inl rfl), fun z => e z.symm⟩
          · exact ⟨.inr (.inr (i2 y h).1), (i2 y h).2⟩
        · rcases i3 with ⟨a, b⟩ | ⟨m, a, b, d, f⟩
          · exact .inr ⟨k, a, List.mem_cons_self .., by omega, fun y hy hl => by rcases List.mem_cons.mp hy with h | h; omega; exact absurd hl (b y h)⟩
          · refine .inr ⟨m, a, List.mem_cons_of_mem _ b, d, fun y hy hl => ?_⟩
            rcases List.mem_cons.mp hy with h | h
            · have := hb.2.2.2 m (i2 m b).1; omega
            · exact f y h hl
        · rcases i4 with ⟨a, b⟩ | ⟨m, a, b, d, f⟩
          · exact .inl ⟨a, fun y hy => by rcases List.mem_cons.mp hy with h | h; omega; exact b y h⟩
          · exact .inr ⟨m, a, List.mem_cons_of_mem _ b, d, fun y hy hl => by rcases List.mem_cons.mp hy with h | h; omega; exact f y h hl⟩
end Tm

/-! a call that is handed lists of the memory, and leaves all as it was -/
namespace VL
open PySem PySem.Spec PyProof.Rows L2
def fzr (M : Mem) : D → D
  | .ref a => match M a with | some (.lst es) => .lst es | _ => .ref a
  | d => d
/-- the lists of the memory, at the top or in a tuple, as they stand -/
def fz1 (M : Mem) : D → D
  | .tup ds => .tup (ds.map (fzr M))
  | d => fzr M d
theorem fzr_ref {M : Mem} {a : Addr} {es : List D} (h : M a = some (.lst es)) : fzr M (.ref a) = .lst es := by unfold fzr; simp only [h]
theorem fz1_ref {M : Mem} {a : Addr} {es : List D} (h : M a = some (.lst es)) : fz1 M (.ref a) = .lst es := fzr_ref h
def kCallP (Wf : W3) (Φ : KD) : List D → Mem → Prop := fun ds M => Wf (ds.map (fz1 M)) (fun _ => none) (fun d _ => flatD d = true ∧ Φ d M)
def wCallP (Wf : W3) (wa : WA) : WE := fun ρ M Φ => wa ρ M (kCallP Wf Φ)
def frzH (Hf : Hp) (M : Mem) (H : Hp) : Hp := fun b => match M b with | some (.lst _) => H b | _ => Hf b
section
variable {K : PySem.W.Frag} {Hf : Hp} {M : Mem} {H : Hp}
theorem frzH_l {a : Addr} {es : List D} (h : M a = some (.lst es)) : frzH Hf M H a = H a := by unfold frzH; rw [h]
theorem frzH_n {a : Addr} (h : M a = none) : frzH Hf M H a = Hf a := by unfold frzH; rw [h]
theorem frzH_or (a : Addr) : frzH Hf M H a = H a ∧ (∃ es, M a = some (.lst es)) ∨ frzH Hf M H a = Hf a := by
  unfold frzH
  split
  · rename_i es h; exact .inl ⟨rfl, _, h⟩
  · exact .inr rfl
theorem frzH_ex (W : Wr K Hf M H) : Ex Hf (frzH Hf M H) := fun a o h => by
  rcases frzH_or (Hf := Hf) (M := M) (H := H) a with ⟨_, es, e⟩ | e
  · rw [(W.mem a _ e).1] at h; cases h
  · rw [e]; exact h
theorem frzH_wr (W : Wr K Hf M H) : Wr K (frzH Hf M H) (fun _ => none) H :=
  ⟨fun a o h => by
    rcases frzH_or (Hf := Hf) (M := M) (H := H) a with ⟨e, _⟩ | e
    · rw [← e]; exact h
    · exact W.fro a o (by rw [← e]; exact h), fun a m h => nomatch h⟩
theorem fzr_isD (W : Wr K Hf M H) {d : D} {v : V} (i : IsD K Hf d v) : IsD K (frzH Hf M H) (fzr M d) v := by
  cases d with
  | ref a =>
    by_cases h : ∃ es, M a = some (.lst es)
    · obtain ⟨es, h⟩ := h
      rw [fzr_ref h]
      obtain ⟨q1, o, q2, q3⟩ := W.mem a _ h
      obtain ⟨xs, rfl, q4⟩ := q3
      rw [isD_ref.mp i]
      exact isD_lst.mpr ⟨a, xs, rfl, by rw [frzH_l h]; exact q2, IsDs.mono (frzH_ex W) _ _ q4⟩
    · have e : fzr M (.ref a) = .ref a := by
        unfold fzr
        simp only
        split
        · rename_i es e; exact absurd ⟨es, e⟩ h
        · rfl
      rw [e]
      exact IsD.mono (frzH_ex W) _ _ i
  | _ => exact IsD.mono (frzH_ex W) _ _ i
theorem fzr_isDs (W : Wr K Hf M H) : ∀ {ds : List D} {vs : List V}, IsDs K Hf ds vs → IsDs K (frzH Hf M H) (ds.map (fzr M)) vs
  | [], vs, i => by rw [isDs_nil_inv i]; exact isDs_nil
  | d :: ds, vs, i => by
    obtain ⟨v, r, rfl, i1, i2⟩ := isDs_cons_inv i
    exact isDs_cons (fzr_isD W i1) (fzr_isDs W i2)
theorem fz1_isD (W : Wr K Hf M H) {d : D} {v : V} (i : IsD K Hf d v) : IsD K (frzH Hf M H) (fz1 M d) v := by
  cases d with
  | tup ds =>
    obtain ⟨a, xs, rfl, q1, q2⟩ := isD_tup.mp i
    exact isD_tup.mpr ⟨a, xs, rfl, q1.up (frzH_ex W), fzr_isDs W q2⟩
  | _ => exact fzr_isD W i
theorem fz1_isDs (W : Wr K Hf M H) : ∀ {ds : List D} {vs : List V}, IsDs K Hf ds vs → IsDs K (frzH Hf M H) (ds.map (fz1 M)) vs
  | [], vs, i => by rw [isDs_nil_inv i]; exact isDs_nil
  | d :: ds, vs, i => by
    obtain ⟨v, r, rfl, i1, i2⟩ := isDs_cons_inv i
    exact isDs_cons (fz1_isD W i1) (fz1_isDs W i2)
theorem flat_any {Hf' : Hp} {d : D} {v : V} (f : flatD d = true) (i : IsD K Hf d v) : IsD K Hf' d v := by
  cases d <;> try cases f
  case non => exact isD_non.mpr (isD_non.mp i)
  case bl => exact isD_bl.mpr (isD_bl.mp i)
  case int => exact isD_int.mpr (isD_int.mp i)
  case str => exact isD_str.mpr (isD_str.mp i)
theorem frz_back {Hf2 : Hp} {M2 : Mem} {H2 : Hp} (W : Wr K Hf M H) (W2 : Wr K Hf2 M2 H2) (s : Stp (frzH Hf M H) (fun _ => none) H Hf2 M2 H2) : Wr K Hf M H2 ∧ Stp Hf M H Hf M H2 := by
  refine ⟨⟨fun a o h => W2.fro a o (s.ex a o (frzH_ex W a o h)), fun a m h => ?_⟩, Ex.refl _, fun a o h1 h2 h3 => ⟨(s.out a o h1 (by rw [frzH_n h3]; exact h2) rfl).1, h2, h3⟩⟩
  obtain ⟨q1, o, q2, q3⟩ := W.mem a m h
  refine ⟨q1, o, ?_, q3⟩
  rcases frzH_or (Hf := Hf) (M := M) (H := H) a with ⟨e, _⟩ | e
  · exact W2.fro a o (s.ex a o (by rw [e]; exact q2))
  · exact (s.out a o q2 (by rw [e]; exact q1) rfl).1
end
section
variable {X : Cx} {S₀ : W0} {k : Nat} {f : Addr} {fd : FuncData} {ps : List Str} {Wf : W3} {x : Str} {p pos : Pos} {e : Expr} {es : List Expr} {wa : WA}
theorem ve_callP (F : FnOk X.prog X.w X.K X.mg X.base CX0 k f fd ps (spW X.K Wf)) (hr : Room k X.A) (hg : Gl X x) (hm : X.mg x = some (.ref f)) (hk : PySem.W.keepIn X.K (.ref f) = true) (hb : Binds X.K fd ps [])
    (ha : VA X S₀ (e :: es) wa) (hdb : (x == ("__debug__" : Str)) = false := by decide) (he : starEach (e :: es) X.env = (false, eval e X.env) :: starEach es X.env := by rfl) (hpl : (backTo pos (starEach es X.env)).any (·.1) = false := by rfl) :
    VE X S₀ (.Call (.Name x p) (e :: es) [] pos) (wCallP Wf wa) :=
  PE.imp (pe_call F hr hg hm hk hb .nil pass0 ha hdb he hpl) fun σ H Q ⟨Hf, ρ, M, Φ, W, e, h, k⟩ =>
    ⟨Hf, ρ, M, _, W, e, h, fun dd M1 vs Hf1 H1 h1 W1 s1 i1 => ⟨frzH Hf1 M1 H1, fun _ => none, dd.map (fz1 M1), _, frzH_wr W1.toWr, by rw [List.append_nil]; exact fz1_isDs W1.toWr i1, h1, fun d M' v Hf' H' q W' s' i => by
      obtain ⟨w2, s2⟩ := frz_back W1.toWr W' s'
      exact ((k.at s1).raw W1) d M1 v Hf1 H' q.2 w2 s2 (flat_any q.1 i)⟩⟩
end
section
variable {ρ : Sg} {M : Mem} {Φ : KD} {Wf : W3} {wa : WA} {ds : List D} {a : Addr} {es : List D} {d : D}
theorem e_callP : wCallP Wf wa ρ M Φ = wa ρ M (kCallP Wf Φ) := rfl
theorem e_callPk : kCallP Wf Φ ds M = Wf (ds.map (fz1 M)) (fun _ => none) (fun d _ => flatD d = true ∧ Φ d M) := rfl
theorem fz1_lst : fz1 M (.lst ds) = .lst ds := rfl
end
/-! min of a list or a tuple -/
section
variable {X : Cx} {S₀ : W0}
theorem minOf_ints : ∀ (xs : List Int) (x : Int), PySem.W.minOf x xs ∈ x :: xs ∧ ∀ y ∈ x :: xs, PySem.W.minOf x xs ≤ y
  | [], x => ⟨List.mem_cons_self .., fun y hy => by rw [List.mem_singleton.mp hy]; exact Int.le_refl _⟩
  | z :: xs, x => by
    have e : PySem.W.minOf x (z :: xs) = PySem.W.minOf (if z < x then z else x) xs := by
      show List.foldl _ _ xs = List.foldl _ _ xs
      congr 1
      show (if decide (z < x) = true then z else x) = _
      by_cases c : z < x <;> simp [c]
    obtain ⟨h1, h2⟩ := minOf_ints xs (if z < x then z else x)
    rw [e]
    have h0 := h2 _ (List.mem_cons_self ..)
    refine ⟨?_, fun y hy => ?_⟩
    · rcases List.mem_cons.mp h1 with h | h
      · rw [h]
        split
        · exact List.mem_cons_of_mem _ (List.mem_cons_self ..)
        · exact List.mem_cons_self ..
      · exact List.mem_cons_of_mem _ (List.mem_cons_of_mem _ h)
    · rcases List.mem_cons.mp hy with h | h
      · rw [h]
        refine Int.le_trans h0 ?_
        split <;> omega
      · rcases List.mem_cons.mp h with h | h
        · rw [h]
          refine Int.le_trans h0 ?_
          split <;> omega
        · exact h2 y (List.mem_cons_of_mem _ h)
def rMinTu (K : PySem.W.Frag) : List V → Hp → VK → Prop := fun vs H Q => ∃ ns, rSeqI K vs H ns ∧ 0 < ns.length ∧ ∀ m, m ∈ ns → (∀ y, y ∈ ns → m ≤ y) → Q (.int m) H
theorem cr_minTu (hc : X.calm = true) (hu : X.A.units + 1 < cLine) : CallR X (.builtin "min") (rMinTu X.K) := by
  intro pins s σ H vs us Q I r h
  obtain ⟨ns, ⟨a, rfl, hs⟩, hne, q⟩ := h
  obtain ⟨its, rv, hl, hz⟩ := I.tuple hs
  rw [Vals.ref1 r]
  have hi := rv.ints
  cases ns with
  | nil => simp at hne
  | cons x xs =>
    refine PySem.W.min_tuple_datum (α := Int) (I.ok.hd hc) hl (x := x) (xs := xs) (PySem.W.HoldAll.of_ints hi) hu fun i v h' tk _ hv hk => ?_
    obtain ⟨as, hv⟩ := hv
    obtain ⟨h1, h2⟩ := minOf_ints xs x
    cases hv with
    | int n t => exact ⟨.int _, H, I.kept hk, ⟨_, rfl⟩, q _ h1 h2⟩
def wrMinA : WC := fun ds M Φ => match intsA M ds with | some ns => 0 < ns.length ∧ ∀ m, m ∈ ns → (∀ y, y ∈ ns → m ≤ y) → Φ (.int m) M | none => False
theorem lk_minA {K : PySem.W.Frag} : LkC K (fun vs H Q => rMin K vs H Q ∨ rMinTu K vs H Q) wrMinA := by
  intro S₀ Hf M H ds vs Φ Q W i h k
  unfold wrMinA at h
  split at h
  · rename_i ns e
    obtain ⟨a, rfl, h1 | h1⟩ := intsA_some W i e
    · exact .inl ⟨a, ns, rfl, h1, h.1, fun m q1 q2 => k.go W (h.2 m q1 q2) (isD_int.mpr rfl)⟩
    · exact .inr ⟨ns, ⟨a, rfl, h1⟩, h.1, fun m q1 q2 => k.go W (h.2 m q1 q2) (isD_int.mpr rfl)⟩
  · exact h.elim
theorem ve_minA {e : Expr} {wa : WA} {p pos : Pos} (hc : X.calm = true) (hu : X.A.units + 1 < cLine) (hg : Gl X "min") (hm : X.mg "min" = none) (ha : VA X S₀ [e] wa) (he : starEach [e] X.env = (false, eval e X.env) :: starEach [] X.env := by rfl) : VE X S₀ (.Call (.Name "min" p) [e] [] pos) (wCB wrMinA wa) :=
  ve_callB (CallR.or (cr_min hc) (cr_minTu hc hu)) lk_minA hg hm (by decide +kernel) ha (he := he)
theorem e_minAL {M : Mem} {Φ : KD} {ns : List Int} : wrMinA [.lst (ns.map D.int)] M Φ = (0 < ns.length ∧ ∀ m, m ∈ ns → (∀ y, y ∈ ns → m ≤ y) → Φ (.int m) M) := by simp only [wrMinA, intsA, one, Option.bind, seqM, intsD_map]
theorem e_minAT {M : Mem} {Φ : KD} {ns : List Int} : wrMinA [.tup (ns.map D.int)] M Φ = (0 < ns.length ∧ ∀ m, m ∈ ns → (∀ y, y ∈ ns → m ≤ y) → Φ (.int m) M) := by simp only [wrMinA, intsA, one, Option.bind, seqM, intsD_map]
end
/-- a call by keywords of a def that has no defaults -/
theorem fun_kbs {K : PySem.W.Frag} {x qual : Str} {st : Stmt} {f : Addr} {fd : FuncData} {ps : List Str} (F : Fun K x qual st f fd) (n : Nat) (ks : List Str) (g : List Value → List Value → List Value) (gV : List V → List V → List V)
    (rel : ∀ {vs : List V} {us : List Value} {zs : List V} {ws : List Value}, Vals vs us → Vals zs ws → Vals (gV vs zs) (g us ws))
    (h : ∀ (kV doc pm : Value) (an : Option Addr) (cdv ct : Value) (us ws : List Value), us.length = n → ws.length = ks.length → bindArgs (PySem.W.fnOf x qual (defArgs st) (defBody st) (defScope st) .none kV doc pm an cdv ct) ⟨us, ks.zip ws⟩ = pure (ps.zip (g us ws))) : ∃ _ : List Value, KBn K fd ps n ks g gV := by
  obtain ⟨oc, od, kV, doc, pm, an, cdv, ct, osl, rfl, lk, hcd⟩ := F.ex
  exact ⟨[], ⟨fun s us ws _ h1 h2 => .of_eq (h kV doc pm an cdv ct us ws h1 h2), rel⟩⟩
/-! what is known of classes and code objects, by the object that is written out -/
section
open PySem.W
variable {K : Frag} {C c P : Addr}
/-- the library's looks at ONE written object, told by a written part that holds it alone -/
abbrev only (a : Addr) (o : Obj) : PySem.W.Frag := [(a, o)]
theorem only_at {a : Addr} {o : Obj} : (only a o).lookup a = some o := by unfold only; rw [List.lookup_cons]; simp
def codeHdB (vs : Array Value) (c P : Addr) : Bool := codeHdIn (only c ⟨.type "code", none, .fields vs, #[]⟩) c P
theorem codeHd_look {d : Option Addr} {vs : Array Value} {sl : Array (Option Value)} (h : K.lookup c = some ⟨.type "code", d, .fields vs, sl⟩) (e : codeHdB vs c P = true) : codeHdIn K c P = true := by
  unfold codeHdB codeHdIn at e; rw [only_at] at e; unfold codeHdIn; rw [h]; exact e
def excInitB (cd : ClassData) (sl : Array (Option Value)) (C : Addr) (bmB : List Value) (newId : String) : Bool := excInitIn (only C ⟨.type "type", none, .cls cd, sl⟩) C bmB newId
theorem excInit_look {d : Option Addr} {cd : ClassData} {sl : Array (Option Value)} {bmB : List Value} {newId : String} (h : K.lookup C = some ⟨.type "type", d, .cls cd, sl⟩) (e : excInitB cd sl C bmB newId = true) : excInitIn K C bmB newId = true := by
  unfold excInitB excInitIn at e; rw [only_at] at e; unfold excInitIn; rw [h]; exact e
def excOverB (cd : ClassData) (C : Addr) (bmB : List Value) : Bool := excOver (only C ⟨.type "type", none, .cls cd, #[]⟩) C bmB
theorem excOver_look {d : Option Addr} {cd : ClassData} {sl : Array (Option Value)} {bmB : List Value} (h : K.lookup C = some ⟨.type "type", d, .cls cd, sl⟩) (e : excOverB cd C bmB = true) : excOver K C bmB = true := by
  unfold excOverB excOver clsIn at e; rw [only_at] at e; unfold excOver clsIn; rw [h]; exact e
theorem exmOne_look {C1 : Addr} {e : Value} {d : Option Addr} {cd : ClassData} {sl : Array (Option Value)} {b : Bool} (hl : K.lookup C1 = some ⟨e, d, .cls cd, sl⟩) (h1 : subIn K (.ref C1) (.type "BaseException") = some true) (h2 : typeIn K (.ref C1) = some (.type "type")) (h3 : subIn K (.ref C) (.ref C1) = some b) : exmOne K (.ref C) (.ref C1) = some b := by
  unfold exmOne
  rw [h1, if_pos (by rfl)]
  unfold kitCls clsIn
  simp only [hl, h2]
  rw [if_pos (by rfl)]
  exact h3
theorem exmAny_look {C1 C2 : Addr} {b1 b2 r : Bool} (h1 : exmOne K (.ref C) (.ref C1) = some b1) (h2 : exmOne K (.ref C) (.ref C2) = some b2) (h : (b1 || b2) = r) : exmAny K (.ref C) [.ref C1, .ref C2] = some r := by
  unfold exmAny exmAny exmAny
  rw [h1, h2]
  subst h
  simp
end
end VL

/-! max and min of a list with a default -/
namespace VL
open PySem PySem.Spec PyProof.Rows L2
section
variable {X : Cx} {S₀ : W0}
def rMaxD (K : PySem.W.Frag) : List V → List V → Hp → VK → Prop := fun vs zs H Q => ∃ (a : Addr) (ns : List Int) (d : V), vs = [V.ref a] ∧ zs = [d] ∧ SqL K H a (ns.map V.int) ∧ (ns = [] → Q d H) ∧ ∀ m, m ∈ ns → (∀ y, y ∈ ns → y ≤ m) → Q (.int m) H
def rMinD (K : PySem.W.Frag) : List V → List V → Hp → VK → Prop := fun vs zs H Q => ∃ (a : Addr) (ns : List Int) (d : V), vs = [V.ref a] ∧ zs = [d] ∧ SqL K H a (ns.map V.int) ∧ (ns = [] → Q d H) ∧ ∀ m, m ∈ ns → (∀ y, y ∈ ns → m ≤ y) → Q (.int m) H
theorem cr_maxD (hc : X.calm = true) (hu : X.A.units + 1 < cLine) : CallRK X (.builtin "max") [Str.ofString "default"] (rMaxD X.K) := by
  intro pins s σ H vs zs us ws Q I r rz h
  obtain ⟨a, ns, d, rfl, rfl, hs, q0, q⟩ := h
  obtain ⟨its, rv, hl, _⟩ := I.list hs
  obtain rfl := Vals.ref1 r
  obtain ⟨w1, rfl, e1⟩ := vals1 rz
  have hi := rv.ints
  refine PySem.W.max_list_datum_default (α := Int) (I.ok.hd hc) hl.isList (xs := ns) (PySem.W.HoldAll.of_ints hi) hu (fun e h' tk hk => ⟨d, H, I.kept hk, e1, q0 e⟩) fun x xs i v h' tk e _ hv hk => ?_
  subst e
  obtain ⟨as, hv⟩ := hv
  obtain ⟨h1, h2⟩ := maxOf_ints xs x
  cases hv with
  | int n t => exact ⟨.int _, H, I.kept hk, ⟨_, rfl⟩, q _ h1 h2⟩
theorem cr_minD (hc : X.calm = true) (hu : X.A.units + 1 < cLine) : CallRK X (.builtin "min") [Str.ofString "default"] (rMinD X.K) := by
  intro pins s σ H vs zs us ws Q I r rz h
  obtain ⟨a, ns, d, rfl, rfl, hs, q0, q⟩ := h
  obtain ⟨its, rv, hl, _⟩ := I.list hs
  obtain rfl := Vals.ref1 r
  obtain ⟨w1, rfl, e1⟩ := vals1 rz
  have hi := rv.ints
  refine PySem.W.min_list_datum_default (α := Int) (I.ok.hd hc) hl.isList (xs := ns) (PySem.W.HoldAll.of_ints hi) hu (fun e h' tk hk => ⟨d, H, I.kept hk, e1, q0 e⟩) fun x xs i v h' tk e _ hv hk => ?_
  subst e
  obtain ⟨as, hv⟩ := hv
  obtain ⟨h1, h2⟩ := minOf_ints xs x
  cases hv with
  | int n t => exact ⟨.int _, H, I.kept hk, ⟨_, rfl⟩, q _ h1 h2⟩
abbrev WCK := List D → List D → Mem → KD → Prop
def kCBK2 (wr : WCK) (ds : List D) (Φ : KD) : List D → Mem → Prop := fun zs M => wr ds zs M Φ
def kCBK1 (wr : WCK) (wk : WA) (ρ : Sg) (Φ : KD) : List D → Mem → Prop := fun ds M => wk ρ M (kCBK2 wr ds Φ)
def wCBK (wr : WCK) (wa wk : WA) : WE := fun ρ M Φ => wa ρ M (kCBK1 wr wk ρ Φ)
def wrMaxD : WCK := fun ds zs M Φ => match ds, zs with
  | [.lst es], [d] => match intsD es with
    | some ns => (ns = [] → Φ d M) ∧ ∀ m, m ∈ ns → (∀ y, y ∈ ns → y ≤ m) → Φ (.int m) M
    | none => False
  | _, _ => False
def wrMinD : WCK := fun ds zs M Φ => match ds, zs with
  | [.lst es], [d] => match intsD es with
    | some ns => (ns = [] → Φ d M) ∧ ∀ m, m ∈ ns → (∀ y, y ∈ ns → m ≤ y) → Φ (.int m) M
    | none => False
  | _, _ => False
def wMaxD (wb wd : WE) : WE := wCBK wrMaxD (wCons wb wNil) (wCons wd wNil)
def wMinD (wb wd : WE) : WE := wCBK wrMinD (wCons wb wNil) (wCons wd wNil)
theorem lift_cbk {K : PySem.W.Frag} {r : List V → List V → Hp → VK → Prop} {wr : WCK} {wa wk : WA} {σ : St} {H : Hp} {Q : VK}
    (lk : ∀ Hf M H ds vs zs us Φ, Wd K S₀ Hf M H → IsDs K Hf ds vs → IsDs K Hf zs us → wr ds zs M Φ → ∀ Q, (∀ d v, Φ d M → IsD K Hf d v → Q v H) → r vs us H Q) (h : liftE K S₀ (wCBK wr wa wk) σ H Q) : tCKw r (liftA K S₀ wa) (liftA K S₀ wk) σ H Q := by
  obtain ⟨Hf, ρ, M, Φ, W, e, h, k⟩ := h
  refine ⟨Hf, ρ, M, _, W, e, h, fun dd M1 vs Hf1 H1 h1 W1 s1 i1 => ?_⟩
  refine ⟨Hf1, ρ, M1, _, W1, e.mono s1.ex, h1, fun zz M2 us Hf2 H2 h2 W2 s2 i2 => ?_⟩
  exact lk Hf2 M2 H2 dd vs zz us Φ W2 (IsDs.mono s2.ex _ _ i1) i2 h2 Q fun d v hd i => k _ _ _ _ _ hd W2 (s1.trans s2) i
variable {e f : Expr} {we wf : WE} {p pos kpos : Pos}
theorem ve_maxD (hc : X.calm = true) (hu : X.A.units + 1 < cLine) (hg : Gl X "max") (hm : X.mg "max" = none) (he : VE X S₀ e we) (hf : VE X S₀ f wf)
    (hs : starEach [e] X.env = (false, eval e X.env) :: starEach [] X.env := by rfl) (hb : backTo pos (starEach [e] X.env) = (false, eval e X.env) :: backTo pos (starEach [] X.env) := by rfl) (hpl : (backTo pos (starEach [e] X.env)).any (·.1) = false := by rfl)
    (hall : (backToKw pos (keywordEach [⟨some "default", f, kpos⟩] X.env)).all (·.1.isSome) = true := by rfl) (hnone : (backToKw pos (keywordEach [⟨some "default", f, kpos⟩] X.env)).any (·.1.isNone) = false := by rfl) (hks : (backToKw pos (keywordEach [⟨some "default", f, kpos⟩] X.env)).filterMap (·.1) = [Str.ofString "default"] := by rfl) :
    VE X S₀ (.Call (.Name "max" p) [e] [⟨some "default", f, kpos⟩] pos) (wMaxD we wf) :=
  PE.imp (pe_callBK (cr_maxD hc hu) hg hm (by decide +kernel) (va_cons he va_nil (hs := hs)) (vk_cons hf vk_nil) (by decide) (by decide) hb hpl hall hnone hks) fun σ H Q h => lift_cbk (fun Hf M H ds vs zs us Φ W i1 i2 h Q k => by
    unfold wrMaxD at h
    split at h
    · rename_i es d
      split at h
      · rename_i ns e3
        obtain ⟨v, r, rfl, j1, j2⟩ := isDs_cons_inv i1
        rw [isDs_nil_inv j2]
        obtain ⟨u, r, rfl, j3, j4⟩ := isDs_cons_inv i2
        rw [isDs_nil_inv j4]
        obtain ⟨a, xs, rfl, q1, q2⟩ := isD_lst.mp j1
        rw [intsD_eq e3] at q2
        rw [q2.ints] at q1
        exact ⟨a, ns, u, rfl, rfl, SqL.of (W.fro _ _ q1), fun e => k _ _ (h.1 e) j3, fun m m1 m2 => k _ _ (h.2 m m1 m2) (isD_int.mpr rfl)⟩
      · exact h.elim
    · exact h.elim) h
theorem ve_minD (hc : X.calm = true) (hu : X.A.units + 1 < cLine) (hg : Gl X "min") (hm : X.mg "min" = none) (he : VE X S₀ e we) (hf : VE X S₀ f wf)
    (hs : starEach [e] X.env = (false, eval e X.env) :: starEach [] X.env := by rfl) (hb : backTo pos (starEach [e] X.env) = (false, eval e X.env) :: backTo pos (starEach [] X.env) := by rfl) (hpl : (backTo pos (starEach [e] X.env)).any (·.1) = false := by rfl)
    (hall : (backToKw pos (keywordEach [⟨some "default", f, kpos⟩] X.env)).all (·.1.isSome) = true := by rfl) (hnone : (backToKw pos (keywordEach [⟨some "default", f, kpos⟩] X.env)).any (·.1.isNone) = false := by rfl) (hks : (backToKw pos (keywordEach [⟨some "default", f, kpos⟩] X.env)).filterMap (·.1) = [Str.ofString "default"] := by rfl) :
    VE X S₀ (.Call (.Name "min" p) [e] [⟨some "default", f, kpos⟩] pos) (wMinD we wf) :=
  PE.imp (pe_callBK (cr_minD hc hu) hg hm (by decide +kernel) (va_cons he va_nil (hs := hs)) (vk_cons hf vk_nil) (by decide) (by decide) hb hpl hall hnone hks) fun σ H Q h => lift_cbk (fun Hf M H ds vs zs us Φ W i1 i2 h Q k => by
    unfold wrMinD at h
    split at h
    · rename_i es d
      split at h
      · rename_i ns e3
        obtain ⟨v, r, rfl, j1, j2⟩ := isDs_cons_inv i1
        rw [isDs_nil_inv j2]
        obtain ⟨u, r, rfl, j3, j4⟩ := isDs_cons_inv i2
        rw [isDs_nil_inv j4]
        obtain ⟨a, xs, rfl, q1, q2⟩ := isD_lst.mp j1
        rw [intsD_eq e3] at q2
        rw [q2.ints] at q1
        exact ⟨a, ns, u, rfl, rfl, SqL.of (W.fro _ _ q1), fun e => k _ _ (h.1 e) j3, fun m m1 m2 => k _ _ (h.2 m m1 m2) (isD_int.mpr rfl)⟩
      · exact h.elim
    · exact h.elim) h
end
section
variable {ρ : Sg} {M : Mem} {Φ : KD} {wb wd : WE} {ns : List Int} {d : D} {wr : WCK} {wa wk : WA} {ds zs : List D}
theorem e_maxD : wMaxD wb wd ρ M Φ = wb ρ M (kCons1 wNil ρ (kCBK1 wrMaxD (wCons wd wNil) ρ Φ)) := rfl
theorem e_minD : wMinD wb wd ρ M Φ = wb ρ M (kCons1 wNil ρ (kCBK1 wrMinD (wCons wd wNil) ρ Φ)) := rfl
theorem e_cbk1 : kCBK1 wr wk ρ Φ ds M = wk ρ M (kCBK2 wr ds Φ) := rfl
theorem e_cbk2 : kCBK2 wr ds Φ zs M = wr ds zs M Φ := rfl
theorem e_maxDk : wrMaxD [.lst (ns.map D.int)] [d] M Φ = ((ns = [] → Φ d M) ∧ ∀ m, m ∈ ns → (∀ y, y ∈ ns → y ≤ m) → Φ (.int m) M) := by simp only [wrMaxD, intsD_map]
theorem e_minDk : wrMinD [.lst (ns.map D.int)] [d] M Φ = ((ns = [] → Φ d M) ∧ ∀ m, m ∈ ns → (∀ y, y ∈ ns → m ≤ y) → Φ (.int m) M) := by simp only [wrMinD, intsD_map]
end
end VL

--@LAW k07
/-! the program's parent_of, bounds_of, subtree_at -/
namespace VL
open PySem PySem.Spec PyProof.Rows L2 Tm
def W_parent_of : W4 := fun ds M Φ Ψ => ∃ (t : Tr) (x : Int), ds = [.tup (t.pre.map D.int), .int x] ∧ (t.bst ∧ t.size ≤ 1000) ∧ (t.has x → ∀ M', Kept M M' → Φ (optD (t.par x none)) M') ∧ (¬ t.has x → Ψ "NoKey" (.int x) M)
def w_parent_of (Ψ : XC) : WS := (sSeq (sAsg (wCallX W_path_to Ψ (wCons (wVar 0) (wCons (wVar 1) wNil))) (wgName 2))
  (sRet (wIfE (wTest (wOp (wrI fun i j => .bl (decide (j < i))) (wCB wrLen (wCons (wVar 2) wNil)) (wC (.int 1)))) (wOp wrIx (wVar 2) (wNeg (wC (.int 2)))) (wC .non))))
theorem atD_m2 {l : List Int} {a b : Int} : atD ((l ++ [a, b]).map D.int) (-2) = some (.int a) := by
  unfold atD ixN
  rw [List.length_map, List.length_append]
  rw [if_neg (by decide), if_pos (by show -(((l.length + 2 : Nat)) : Int) ≤ -2; omega)]
  show ((l ++ [a, b]).map D.int)[((-2 : Int) + ((l.length + 2 : Nat) : Int)).toNat]? = _
  rw [show ((-2 : Int) + ((l.length + 2 : Nat) : Int)).toNat = l.length by omega, List.getElem?_map]
  simp
theorem r_parent_of (Ψ : XC) : ∀ ds M Φ, W_parent_of ds M Φ Ψ → w_parent_of Ψ (endsD Φ) (startD 3 ds) M := by
  intro ds M Φ ⟨t, x, eds, ⟨hb, hz⟩, k, kx⟩
  subst eds
  unfold w_parent_of
  rw [start_2]
  walk_at "vl"
  refine ⟨t, x, rfl, ⟨hb, hz⟩, fun hx M1 k1 => ?_, kx⟩
  walk_at "vl"
  rw [List.length_map]
  rcases path_par (p0 := none) hb hx with ⟨h1, h2⟩ | ⟨p, h1, h2, h3, h4⟩
  · have e : t.path x = [x] := path_root h1
    have := k hx M1 k1
    rw [h2] at this
    have e2 : decide ((1 : Int) < ((t.path x).length : Int)) = false := by rw [e]; rfl
    wp_walk using e2
    exact this
  · obtain ⟨l, hl⟩ := path_last hb hx
    obtain ⟨l2, hl2⟩ := path_last hb h2
    rw [hl, List.dropLast_concat, hl2] at h3
    have e : t.path x = l2 ++ [p, x] := by rw [hl, h3]; simp
    have := k hx M1 k1
    rw [h1] at this
    have e2 : decide ((1 : Int) < ((t.path x).length : Int)) = true := by rw [e, List.length_append]; exact decide_eq_true (by show (1 : Int) < ((l2.length + 2 : Nat) : Int); omega)
    wp_walk using e2
    rw [e, atD_m2]
    exact this
def W_bounds_of : W4 := fun ds M Φ Ψ => ∃ (t : Tr) (x : Int), ds = [.tup (t.pre.map D.int), .int x] ∧ (t.bst ∧ t.size ≤ 1000) ∧ (t.has x → ∀ M', Kept M M' → Φ (.tup [optD (t.bds x none none).1, optD (t.bds x none none).2]) M') ∧ (¬ t.has x → Ψ "NoKey" (.int x) M)
def w_bounds_of (Ψ : XC) : WS := (sSeq (sAsg (wCallX W_path_to Ψ (wCons (wVar 0) (wCons (wVar 1) wNil))) (wgStar 2 0 (wgCons (wgName 2) (wgCons (wgName 3) wgNil))))
  (sSeq (sAsg (wMaxD (wLc (wiSeq (wVar 2)) (wgName 5) (wTest (wOp (wrI fun i j => .bl (decide (i < j))) (wVar 5) (wVar 3))) (wVar 5) [5]) (wC .non)) (wgName 4))
  (sRet (wTup (wCons (wVar 4) (wCons (wMinD (wLc (wiSeq (wVar 2)) (wgName 5) (wTest (wOp (wrI fun i j => .bl (decide (j < i))) (wVar 5) (wVar 3))) (wVar 5) [5]) (wC .non)) wNil))))))
theorem r_bounds_of (Ψ : XC) : ∀ ds M Φ, W_bounds_of ds M Φ Ψ → w_bounds_of Ψ (endsD Φ) (startD 6 ds) M := by
  intro ds M Φ ⟨t, x, eds, ⟨hb, hz⟩, k, kx⟩
  subst eds
  unfold w_bounds_of
  rw [start_2]
  walk_at "vl"
  refine ⟨t, x, rfl, ⟨hb, hz⟩, fun hx M1 k1 => ?_, kx⟩
  obtain ⟨ab, h1, h2, h3, h4⟩ := bds_path (lo := none) (hi := none) hb hx fun y _ => rfl
  have hk := k hx M1 k1
  have hlen := path_len (x := x) (t := t)
  rw [h1] at hlen ⊢
  have hst : ∀ (u : WGs) ρ (P : Sg → Mem → Prop), wgStar 2 0 u (.lst ((ab ++ [x]).map D.int)) ρ M1 P = (ab.length + 1 ≤ 16384 ∧ u [.lst (ab.map D.int), .int x] ρ M1 P) := by
    intro u ρ P
    simp [wgStar, seqM]
  rw [List.length_append, List.length_singleton] at hlen
  wp_walk using hst
  refine ⟨by omega, trivial, by rw [List.length_map]; unfold lim; omega, ?_⟩
  refine lc_ints (fun y => decide (y < x)) id (fun z hz Ψ acc ht hf => ?_) ?_
  · walk_at "vl"
    by_cases c : z < x
    · wp_walk using decide_eq_true c
      exact ht (decide_eq_true c)
    · wp_walk using decide_eq_false c
      exact hf (decide_eq_false c)
  rw [List.map_id]
  have fin : ∀ o5 : Option D, sRet (wTup (wCons (wVar 4) (wCons (wMinD (wLc (wiSeq (wVar 2)) (wgName 5) (wTest (wOp (wrI fun i j => .bl (decide (j < i))) (wVar 5) (wVar 3))) (wVar 5) [5]) (wC .non)) wNil))) (endsD Φ) [some (.tup (t.pre.map D.int)), some (.int x), some (.lst (ab.map D.int)), some (.int x), some (optD (t.bds x none none).1), o5] M1 := by
    intro o5
    wp_walk using e_minD
    refine ⟨by rw [List.length_map]; unfold lim; omega, ?_⟩
    refine lc_ints (fun y => decide (x < y)) id (fun z hz Ψ acc ht hf => ?_) ?_
    · walk_at "vl"
      by_cases c : x < z
      · wp_walk using decide_eq_true c
        exact ht (decide_eq_true c)
      · wp_walk using decide_eq_false c
        exact hf (decide_eq_false c)
    rw [List.map_id]
    wp_walk using e_cbk1, e_cbk2, e_minDk
    refine ⟨fun he => ?_, fun m hm hmin => ?_⟩
    · refine ⟨(show (2 : Nat) ≤ lim by decide), ?_⟩
      rcases h4 with ⟨a, b⟩ | ⟨m, a, b, d, f⟩
      · rw [a] at hk; exact hk
      · exact absurd (List.mem_filter.mpr ⟨b, decide_eq_true d⟩) (by rw [he]; exact fun h => nomatch h)
    · refine ⟨(show (2 : Nat) ≤ lim by decide), ?_⟩
      obtain ⟨m1, m2⟩ := List.mem_filter.mp hm
      have m2 := of_decide_eq_true m2
      rcases h4 with ⟨a, b⟩ | ⟨n, a, b, d, f⟩
      · exact absurd m2 (b m m1)
      · have e1 := f m m1 m2
        have e2 := hmin n (List.mem_filter.mpr ⟨b, decide_eq_true d⟩)
        rw [a, show n = m by omega] at hk
        exact hk
  wp_walk using e_cbk1, e_cbk2, e_maxDk
  refine ⟨fun he => ?_, fun m hm hmax => ?_⟩
  · have e0 : (t.bds x none none).1 = none := by
      rcases h3 with ⟨a, b⟩ | ⟨m, a, b, d, f⟩
      · exact a
      · exact absurd (List.mem_filter.mpr ⟨b, decide_eq_true d⟩) (by rw [he]; exact fun h => nomatch h)
    have := fin none
    rw [e0] at this
    exact this
  · obtain ⟨m1, m2⟩ := List.mem_filter.mp hm
    have m2 := of_decide_eq_true m2
    have e0 : (t.bds x none none).1 = some m := by
      rcases h3 with ⟨a, b⟩ | ⟨n, a, b, d, f⟩
      · exact absurd m2 (b m m1)
      · have e1 := f m m1 m2
        have e2 := hmax n (List.mem_filter.mpr ⟨b, decide_eq_true d⟩)
        rw [a, show n = m by omega]
    have := fin none
    rw [e0] at this
    exact this
abbrev g_k_restrict_1_low_high' : List D → List D → List D := fun ds zs => ds ++ zs ++ []
def W_subtree_at : W4 := fun ds M Φ Ψ => ∃ (t : Tr) (x : Int), ds = [.tup (t.pre.map D.int), .int x] ∧ (t.bst ∧ t.size ≤ 1000) ∧ (t.has x → ∀ M', Kept M M' → Φ (.tup ((t.at x).pre.map D.int)) M') ∧ (¬ t.has x → Ψ "NoKey" (.int x) M)
def w_subtree_at (Ψ : XC) : WS := (sSeq (sAsg (wCallX W_bounds_of Ψ (wCons (wVar 0) (wCons (wVar 1) wNil))) (wgTup 2 (wgCons (wgName 2) (wgCons (wgName 3) wgNil))))
  (sRet (wCallK 1 2 W_restrict g_k_restrict_1_low_high (wCons (wVar 0) wNil) (wCons (wVar 2) (wCons (wVar 3) wNil)))))
theorem r_subtree_at (Ψ : XC) : ∀ ds M Φ, W_subtree_at ds M Φ Ψ → w_subtree_at Ψ (endsD Φ) (startD 4 ds) M := by
  intro ds M Φ ⟨t, x, eds, ⟨hb, hz⟩, k, kx⟩
  subst eds
  unfold w_subtree_at
  rw [start_2]
  walk_at "vl"
  refine ⟨t, x, rfl, ⟨hb, hz⟩, fun hx M1 k1 => ?_, kx⟩
  walk_at "vl"
  refine ⟨rfl, trivial, ⟨rfl, rfl⟩, W_restrict_go (lo := (t.bds x none none).1) (hi := (t.bds x none none).2) rfl (by rw [len_pre]; exact hz) ?_⟩
  rw [(bds_filter hb hx fun y _ => rfl).1]
  exact k hx M1 k1
end VL

/-! rotations by preorder; a rotation taken back -/
namespace Tm
variable {x p : Int} {s s' t t' : Tr}
/-- the search for any key of a subtree ends there -/
theorem pth_key {y : Int} (h : Pth x s t) (hb : t.bst) (hy : s.has y) : Pth y s t := by
  induction h with
  | here => exact .here
  | left h lt ih => exact .left (ih hb.1) (hb.2.2.1 _ (h.sub.has hy))
  | right h lt ih => exact .right (ih hb.2.1) (by have := hb.2.2.2 _ (h.sub.has hy); omega)
theorem rpl_pth (h : Pth x s t) (hb : t.bst) (rt : s.root = some p) : Pth x s' (rpl x p s' t) := by
  induction h with
  | here => rw [repl_here rt]; exact .here
  | @left l r k h lt ih =>
    have hp := hb.2.2.1 _ (h.sub.has (root_has rt))
    rw [rpl, if_neg (by omega), if_pos lt]
    exact .left (ih hb.1) lt
  | @right l r k h lt ih =>
    have hp := hb.2.2.2 _ (h.sub.has (root_has rt))
    rw [rpl, if_neg (by omega), if_neg lt]
    exact .right (ih hb.2.1) lt
theorem rpl_back (h : Pth x s t) (hb : t.bst) (rt : s.root = some p) (rt' : s'.root = some x) (hx : s.has x) : rpl p x s (rpl x p s' t) = t := by
  induction h with
  | here => rw [repl_here rt, repl_here rt']
  | @left l r k h lt ih =>
    have hp := hb.2.2.1 _ (h.sub.has (root_has rt))
    rw [rpl, if_neg (by omega), if_pos lt, rpl, if_neg (by omega), if_pos hp, ih hb.1]
  | @right l r k h lt ih =>
    have hp := hb.2.2.2 _ (h.sub.has (root_has rt))
    have hk := hb.2.2.2 _ (h.sub.has hx)
    rw [rpl, if_neg (by omega), if_neg lt, rpl, if_neg (by omega), if_neg (by omega), ih hb.2.1]
theorem rpl_pre (h : Pth x s t) (hb : t.bst) (rt : s.root = some p) : ∃ A B, (∀ y, s.has y → y ∉ A) ∧ ∀ s', (rpl x p s' t).pre = A ++ s'.pre ++ B := by
  induction h with
  | here => exact ⟨[], [], fun _ _ h => (nomatch h), fun s' => by rw [repl_here rt]; simp⟩
  | @left l r k h lt ih =>
    obtain ⟨A, B, hA, e⟩ := ih hb.1
    have hp := hb.2.2.1 _ (h.sub.has (root_has rt))
    refine ⟨k :: A, B ++ r.pre, fun y hy hm => ?_, fun s' => ?_⟩
    · rcases List.mem_cons.mp hm with e | hm
      · have := hb.2.2.1 _ (h.sub.has hy); omega
      · exact hA y hy hm
    · rw [rpl, if_neg (by omega), if_pos lt, Tr.pre, e]; simp
  | @right l r k h lt ih =>
    obtain ⟨A, B, hA, e⟩ := ih hb.2.1
    have hp := hb.2.2.2 _ (h.sub.has (root_has rt))
    refine ⟨k :: (l.pre ++ A), B, fun y hy hm => ?_, fun s' => ?_⟩
    · have hk := hb.2.2.2 _ (h.sub.has hy)
      rcases List.mem_cons.mp hm with e | hm
      · omega
      · rcases List.mem_append.mp hm with hm | hm
        · have := hb.2.2.1 _ (has_pre.mp hm); omega
        · exact hA y hy hm
    · rw [rpl, if_neg (by omega), if_neg lt, Tr.pre, e]; simp
/-- one rotation at the top of a subtree -/
def RotS (x p : Int) (s s' : Tr) : Prop := ∃ a b c, (x < p ∧ s = .node (.node a x b) p c ∧ s' = .node a x (.node b p c)) ∨ (p < x ∧ s = .node a p (.node b x c) ∧ s' = .node (.node a p b) x c)
theorem RotS.back (h : RotS x p s s') : RotS p x s' s := by
  obtain ⟨a, b, c, ⟨h, rfl, rfl⟩ | ⟨h, rfl, rfl⟩⟩ := h
  · exact ⟨a, b, c, .inr ⟨h, rfl, rfl⟩⟩
  · exact ⟨a, b, c, .inl ⟨h, rfl, rfl⟩⟩
theorem RotS.root (h : RotS x p s s') : s.root = some p := by obtain ⟨a, b, c, ⟨h, rfl, rfl⟩ | ⟨h, rfl, rfl⟩⟩ := h <;> rfl
theorem RotS.has (h : RotS x p s s') : s.has x := by
  obtain ⟨a, b, c, ⟨h, rfl, rfl⟩ | ⟨h, rfl, rfl⟩⟩ := h <;> simp [Tr.has]
theorem RotS.same (h : RotS x p s s') (y : Int) : s'.has y ↔ s.has y := by
  obtain ⟨a, b, c, ⟨h, rfl, rfl⟩ | ⟨h, rfl, rfl⟩⟩ := h <;> simp only [Tr.has] <;> constructor <;> intro h <;> simp only [or_assoc] at h ⊢ <;> rcases h with h | h | h | h | h <;> simp [h]
theorem rotE_iff : RotE x p t t' ↔ ∃ s s', RotS x p s s' ∧ Pth x s t ∧ t' = rpl x p s' t := by
  constructor
  · rintro ⟨a, b, c, ⟨h, hp, e⟩ | ⟨h, hp, e⟩⟩
    · exact ⟨_, _, ⟨a, b, c, .inl ⟨h, rfl, rfl⟩⟩, hp, e⟩
    · exact ⟨_, _, ⟨a, b, c, .inr ⟨h, rfl, rfl⟩⟩, hp, e⟩
  · rintro ⟨s, s', ⟨a, b, c, ⟨h, rfl, rfl⟩ | ⟨h, rfl, rfl⟩⟩, hp, e⟩
    · exact ⟨a, b, c, .inl ⟨h, hp, e⟩⟩
    · exact ⟨a, b, c, .inr ⟨h, hp, e⟩⟩
theorem rotE_back (hb : t.bst) (hb' : t'.bst) (h : RotE x p t t') : RotE p x t' t := by
  obtain ⟨s, s', hs, hp, rfl⟩ := rotE_iff.mp h
  have q : Pth x s' (rpl x p s' t) := rpl_pth hp hb hs.root
  exact rotE_iff.mpr ⟨s', s, hs.back, pth_key q hb' ((hs.same p).mpr (root_has hs.root)), (rpl_back hp hb hs.root hs.back.root hs.has).symm⟩
theorem rotS_par (h : Pth x s t) (hs : RotS x p s s') (hb : t.bst) : ∀ q : Option Int, t.par x q = some p := by
  induction h with
  | here =>
    intro q
    obtain ⟨a, b, c, ⟨lt, rfl, _⟩ | ⟨lt, rfl, _⟩⟩ := hs
    · rw [Tr.par, if_neg (by omega), if_pos lt, Tr.par, if_pos rfl]
    · rw [Tr.par, if_neg (by omega), if_neg (by omega), Tr.par, if_pos rfl]
  | @left l r k h lt ih => intro q; rw [Tr.par, if_neg (by omega), if_pos lt]; exact ih hb.1 _
  | @right l r k h lt ih =>
    intro q
    have hk := hb.2.2.2 _ (h.sub.has hs.has)
    rw [Tr.par, if_neg (by omega), if_neg (by omega)]
    exact ih hb.2.1 _
theorem rotE_par (h : RotE x p t t') (hb : t.bst) : t.par x none = some p := by
  obtain ⟨s, s', hs, hp, _⟩ := rotE_iff.mp h
  exact rotS_par hp hs hb none
theorem rotE_has (h : RotE x p t t') : t.has x := by
  obtain ⟨s, s', hs, hp, _⟩ := rotE_iff.mp h
  exact hp.sub.has hs.has
theorem rotE_ne (h : RotE x p t t') (hb : t.bst) : t.root ≠ some x := fun e => by
  have := (root_par (q := none) hb (rotE_has h) fun k e => (nomatch e)).mp e
  rw [rotE_par h hb] at this
  cases this
/-- the shapes around a rotation -/
theorem rotE_pre (hb : t.bst) (h : RotE x p t t') : ∃ s s' A B, RotS x p s s' ∧ s.bst ∧ s.size ≤ t.size ∧ t.at p = s ∧ p ∉ A ∧ t.pre = A ++ s.pre ++ B ∧ t'.pre = A ++ s'.pre ++ B := by
  obtain ⟨s, s', hs, hp, rfl⟩ := rotE_iff.mp h
  obtain ⟨A, B, hA, e⟩ := rpl_pre hp hb hs.root
  have hr := root_has hs.root
  have ha : t.at p = s := by
    have q := pth_key hp hb hr
    obtain ⟨a, b, c, ⟨_, rfl, _⟩ | ⟨_, rfl, _⟩⟩ := hs
    · exact at_pth q hb
    · exact at_pth q hb
  exact ⟨s, s', A, B, hs, by rw [← ha]; exact at_bst hb, by rw [← ha]; exact at_size, ha, hA p hr, by rw [← e s, rpl_self hp hs.root hb], e s'⟩
theorem f_all {f : Int → Bool} {l : List Int} (h : ∀ y ∈ l, f y = true) : l.filter f = l := List.filter_eq_self.mpr h
theorem f_no {f : Int → Bool} {l : List Int} (h : ∀ y ∈ l, f y = false) : l.filter f = [] := List.filter_eq_nil_iff.mpr fun y hy => by rw [h y hy]; decide
theorem rotS_left {a b c : Tr} (hb : (Tr.node (.node a x b) p c).bst) (lt : x < p) : (Tr.node (.node a x b) p c).pre.filter (inB none (some x)) = a.pre ∧ (Tr.node (.node a x b) p c).pre.filter (inB (some x) (some p)) = b.pre ∧
    (Tr.node (.node a x b) p c).pre.filter (inB (some p) none) = c.pre := by
  have ha : ∀ y ∈ a.pre, y < x := fun y hy => hb.1.2.2.1 y (has_pre.mp hy)
  have hb1 : ∀ y ∈ b.pre, x < y := fun y hy => hb.1.2.2.2 y (has_pre.mp hy)
  have hb2 : ∀ y ∈ b.pre, y < p := fun y hy => hb.2.2.1 y (by simp [Tr.has, has_pre.mp hy])
  have hc : ∀ y ∈ c.pre, p < y := fun y hy => hb.2.2.2 y (has_pre.mp hy)
  simp only [Tr.pre, List.filter_cons, List.filter_append]
  refine ⟨?_, ?_, ?_⟩
  · rw [f_all (f := inB none (some x)) (l := a.pre) fun y hy => by have := ha y hy; simp [inB, loB, hiB]; omega, f_no (f := inB none (some x)) (l := b.pre) fun y hy => by have := hb1 y hy; simp [inB, loB, hiB]; omega, f_no (f := inB none (some x)) (l := c.pre) fun y hy => by have := hc y hy; simp [inB, loB, hiB]; omega]
    simp [inB, loB, hiB]; omega
  · rw [f_no (f := inB (some x) (some p)) (l := a.pre) fun y hy => by have := ha y hy; simp [inB, loB, hiB]; omega, f_all (f := inB (some x) (some p)) (l := b.pre) fun y hy => by have := hb1 y hy; have := hb2 y hy; simp [inB, loB, hiB]; omega, f_no (f := inB (some x) (some p)) (l := c.pre) fun y hy => by have := hc y hy; simp [inB, loB, hiB]; omega]
    simp [inB, loB, hiB]
  · rw [f_no (f := inB (some p) none) (l := a.pre) fun y hy => by have := ha y hy; simp [inB, loB, hiB]; omega, f_no (f := inB (some p) none) (l := b.pre) fun y hy => by have := hb2 y hy; simp [inB, loB, hiB]; omega, f_all (f := inB (some p) none) (l := c.pre) fun y hy => by have := hc y hy; simp [inB, loB, hiB]; omega]
    simp [inB, loB, hiB]; omega
theorem rotS_right {a b c : Tr} (hb : (Tr.node a p (.node b x c)).bst) (lt : p < x) : (Tr.node a p (.node b x c)).pre.filter (inB none (some p)) = a.pre ∧ (Tr.node a p (.node b x c)).pre.filter (inB (some p) (some x)) = b.pre ∧
    (Tr.node a p (.node b x c)).pre.filter (inB (some x) none) = c.pre := by
  have ha : ∀ y ∈ a.pre, y < p := fun y hy => hb.2.2.1 y (has_pre.mp hy)
  have hb1 : ∀ y ∈ b.pre, y < x := fun y hy => hb.2.1.2.2.1 y (has_pre.mp hy)
  have hb2 : ∀ y ∈ b.pre, p < y := fun y hy => hb.2.2.2 y (by simp [Tr.has, has_pre.mp hy])
  have hc : ∀ y ∈ c.pre, x < y := fun y hy => hb.2.1.2.2.2 y (has_pre.mp hy)
  simp only [Tr.pre, List.filter_cons, List.filter_append]
  refine ⟨?_, ?_, ?_⟩
  · rw [f_all (f := inB none (some p)) (l := a.pre) fun y hy => by have := ha y hy; simp [inB, loB, hiB]; omega, f_no (f := inB none (some p)) (l := b.pre) fun y hy => by have := hb2 y hy; simp [inB, loB, hiB]; omega, f_no (f := inB none (some p)) (l := c.pre) fun y hy => by have := hc y hy; simp [inB, loB, hiB]; omega]
    simp [inB, loB, hiB]; omega
  · rw [f_no (f := inB (some p) (some x)) (l := a.pre) fun y hy => by have := ha y hy; simp [inB, loB, hiB]; omega, f_all (f := inB (some p) (some x)) (l := b.pre) fun y hy => by have := hb1 y hy; have := hb2 y hy; simp [inB, loB, hiB]; omega, f_no (f := inB (some p) (some x)) (l := c.pre) fun y hy => by have := hc y hy; simp [inB, loB, hiB]; omega]
    simp [inB, loB, hiB]
  · rw [f_no (f := inB (some x) none) (l := a.pre) fun y hy => by have := ha y hy; simp [inB, loB, hiB]; omega, f_no (f := inB (some x) none) (l := b.pre) fun y hy => by have := hb1 y hy; simp [inB, loB, hiB]; omega, f_all (f := inB (some x) none) (l := c.pre) fun y hy => by have := hc y hy; simp [inB, loB, hiB]; omega]
    simp [inB, loB, hiB]; omega
end Tm

/-! behind a statement a list of the memory may freeze: the slot holds it from there on -/
namespace VL
open PySem PySem.Spec PyProof.Rows L2
def frzN (i : Nat) (nx : Sg → Mem → Prop) : Sg → Mem → Prop := fun ρ M => match at_ ρ i with
  | some (.ref a) => match M a with
    | some (.lst ds) => nx (ρ.set i (some (.lst ds))) (del M a)
    | _ => nx ρ M
  | _ => nx ρ M
def sFrz (i : Nat) (w : WS) : WS := fun De ρ M => w ⟨frzN i De.nx, De.rt, De.bk, De.ct⟩ ρ M
theorem set_same {α : Type} : ∀ (l : List α) (i : Nat) (x : α), l[i]? = some x → l.set i x = l
  | [], _, _, h => by cases h
  | a :: l, 0, x, h => by cases h; rfl
  | a :: l, i + 1, x, h => by rw [List.set_cons_succ, set_same l i x h]
section
variable {X : Cx} {S₀ : W0} {s : Stmt} {w : WS}
theorem vs_frz (i : Nat) (hs : VS X S₀ s w) : VS X S₀ s (sFrz i w) := PS.imp hs fun D σ H ⟨Hf, ρ, M, De, W, e, h, k⟩ => by
  refine ⟨Hf, ρ, M, ⟨frzN i De.nx, De.rt, De.bk, De.ct⟩, W, e, h, ⟨fun ρ' M' σ' Hf' H' p W' s' e' => ?_, k.rt, k.bk, k.ct⟩⟩
  have p : frzN i De.nx ρ' M' := p
  unfold frzN at p
  split at p
  · rename_i a ha
    split at p
    · rename_i ds hm
      obtain ⟨Hf2, W2, s2, i2⟩ := W'.freeze hm
      obtain ⟨v, q1, q2⟩ := e'.at ha
      rw [isD_ref.mp q2] at q1
      have e2 := EnvOk.set (e'.mono s2.ex) i i2
      rw [set_same _ _ _ q1] at e2
      exact k.nx _ _ _ _ _ p W2 (s'.trans s2) e2
    · exact k.nx _ _ _ _ _ p W' s' e'
  · exact k.nx _ _ _ _ _ p W' s' e'
end
section
variable {ρ : Sg} {M : Mem} {De : WN} {w : WS} {i : Nat} {nx : Sg → Mem → Prop} {a : Addr} {ds : List D}
theorem e_frz : sFrz i w De ρ M = w ⟨frzN i De.nx, De.rt, De.bk, De.ct⟩ ρ M := rfl
theorem e_frzN (h1 : at_ ρ i = some (.ref a)) (h2 : M a = some (.lst ds)) : frzN i nx ρ M = nx (ρ.set i (some (.lst ds))) (del M a) := by unfold frzN; simp only [h1, h2]
end
end VL

/-! a law's def that is called where no repr is under way: repr of data within it -/
namespace VL
open PySem PySem.Spec PyProof.Rows L2 LamX
/-- the def at f keeps sp wherever it is known that no guard is up -/
structure FnOkG (P : Program) (w : World) (K : PySem.W.Frag) (mg : Str → Option Value) (base : Heap) (CX : CXT) (k : Nat) (f : Addr) (fd : FuncData) (ps : List Str) (sp : Sp) : Prop where
  run : ∀ (A : Around) (outer : List Env) (s : Shared) (H : Hp) (args : Args) (us : List Value) (vs : List V) (Q : VK) (E : XK), A.guards = some [] → Room k A → Env0 P w K mg base A outer s H → BindsTo s fd args (ps.zip us) → Vals vs us → sp vs H Q E → codeAny (model P w) A (.call (.ref f) args) (CR CX outer P w H s Q E) s
/-! the law's call: the script and the tables are tracked, nothing else -/
section
variable {P : Program} {w : World} {K : PySem.W.Frag} {mg mb : Str → Option Value} {h : Heap} {a : Addr} {cs : List (Addr × Addr)} {vs : List Value} {ns : List Int}
abbrev scr (vs : List Value) : Obj := { cls := .type "list", data := .seq vs.toArray }
abbrev tab0 : Obj := { cls := .none, data := .fields #[] }
open Classical in
/-- what is tracked where the law begins -/
noncomputable def H0 (K : PySem.W.Frag) (cs : List (Addr × Addr)) (a : Addr) (vs : List Value) (ns : List Int) : Hp := fun b =>
  if b ∈ cs.map (·.2) then some (.tbl #[]) else if b = a ∧ K.lookup a = none then some (.frz (scr vs) (.lst (ns.map V.int))) else none
/-- the two ways in which an address is tracked -/
theorem H0_some {b : Addr} {o : HO} (e : H0 K cs a vs ns b = some o) : (b ∈ cs.map (·.2) ∧ o = .tbl #[]) ∨ (b = a ∧ K.lookup a = none ∧ o = .frz (scr vs) (.lst (ns.map V.int))) := by
  unfold H0 at e
  split at e
  · rename_i m; exact .inl ⟨m, (Option.some.inj e).symm⟩
  · split at e
    · rename_i m; exact .inr ⟨m.1, m.2, (Option.some.inj e).symm⟩
    · cases e
theorem H0_tab {p : Addr × Addr} (m : p ∈ cs) : H0 K cs a vs ns p.2 = some (.tbl #[]) := by unfold H0; exact if_pos (List.mem_map.mpr ⟨p, m, rfl⟩)
/-- what the beginning says of the heap -/
structure At0 (K : PySem.W.Frag) (h : Heap) (cs : List (Addr × Addr)) (a : Addr) (vs : List Value) (ns : List Int) : Prop where
  kin : K.In h
  tabs : ∀ p ∈ cs, h.get? p.2 = some tab0
  free : ∀ p ∈ cs, K.lookup p.2 = none
  script : h.get? a = some (scr vs)
  whole : IntsAre vs ns
  few : ns.length ≤ sizeLine
theorem At0.tab (z : At0 K h cs a vs ns) {b : Addr} (m : b ∈ cs.map (·.2)) : h.get? b = some tab0 := by
  obtain ⟨p, hp, rfl⟩ := List.mem_map.mp m; exact z.tabs p hp
theorem At0.apart (z : At0 K h cs a vs ns) : a ∉ cs.map (·.2) := fun m => by cases (z.tab m).symm.trans z.script
theorem At0.hok (z : At0 K h cs a vs ns) : HOk P w (H0 K cs a vs ns) h := fun b o e => by
  obtain ⟨m, rfl⟩ | ⟨rfl, _, rfl⟩ := H0_some e
  · exact z.tab m
  · exact ⟨z.script, by rw [List.length_map]; exact z.few, vs, _, vals_ints z.whole, z.script⟩
theorem At0.sq (z : At0 K h cs a vs ns) : SqL K (H0 K cs a vs ns) a (ns.map V.int) := by
  cases k : K.lookup a with
  | none => exact .inl (.inr ⟨scr vs, by unfold H0; rw [if_neg z.apart, if_pos ⟨rfl, k⟩]⟩)
  | some o =>
    cases (z.kin a o k).symm.trans z.script
    exact .inr ⟨_, vs.toArray, _, k, rfl, rfl, rfl, by rw [List.size_toArray, z.whole.length]; exact z.few, by simpa using vals_ints z.whole⟩
/-- an object that is neither a list nor an empty table is not tracked -/
theorem At0.hid (z : At0 K h cs a vs ns) {b : Addr} {o : Obj} (e : h.get? b = some o) (n1 : o ≠ scr vs) (n2 : o ≠ tab0) : (hidT h (H0 K cs a vs ns)).get? b = some o := by
  refine hidT_get e ?_
  cases q : H0 K cs a vs ns b with
  | none => rfl
  | some u =>
    obtain ⟨m, _⟩ | ⟨rfl, _, _⟩ := H0_some q
    · exact absurd (Option.some.inj (e.symm.trans (z.tab m))) n2
    · exact absurd (Option.some.inj (e.symm.trans z.script)) n1
theorem At0.nspace (z : At0 K h cs a vs ns) {b : Addr} {m : Str → Option Value} (n : h.Ns b m) : (hidT h (H0 K cs a vs ns)).Ns b m := by
  obtain ⟨o, es, ep, e, d, r⟩ := n
  exact ⟨o, es, ep, z.hid e (fun q => by rw [q] at d; cases d) (fun q => by rw [q] at d; cases d), d, r⟩
theorem At0.mod (z : At0 K h cs a vs ns) (g : h.Ns mainGlobals mg) (b : h.Ns builtinsNs mb) (bb : ∀ x : Str, x ≠ "__name__" → mb x = bootBuiltins x) (lim : h.NoLimit) : L2.Mod K mg (hidT h (H0 K cs a vs ns)) := by
  refine ⟨fun b o e => hidT_get (z.kin b o e) ?_, z.nspace g, ⟨mb, z.nspace b, bb⟩, ?_⟩
  · cases q : H0 K cs a vs ns b with
    | none => rfl
    | some u =>
      obtain ⟨m, _⟩ | ⟨rfl, n, _⟩ := H0_some q
      · obtain ⟨p, hp, rfl⟩ := List.mem_map.mp m
        exact nomatch (z.free p hp).symm.trans e
      · exact nomatch n.symm.trans e
  · obtain ⟨mc, h1, h2⟩ := lim; exact ⟨mc, z.nspace h1, h2⟩
theorem At0.tabB (z : At0 K h cs a vs ns) (g : h.Ns mainGlobals mg) (C : ∀ p ∈ cs, PySem.W.CodeHd h p.1 p.2)
    (bm : ∃ (m : Addr) (ob : Obj), mg "__builtins__" = some (.ref m) ∧ m ≠ builtinsNs ∧ h.get? m = some ob ∧ ob.cls = .type "module" ∧ ob.dict = some builtinsNs ∧ ob.data = .plain) (p : Addr × Addr) (hp : p ∈ cs) : TabB (hidT h (H0 K cs a vs ns)) mg p.1 p.2 := by
  obtain ⟨m, ob, b1, b2, b3, b4, b5, b6⟩ := bm
  obtain ⟨oc, us, file, tf, fl, tg, inF, text, tt, c1, c2, c3, c4, c5, c6, c7, c8, c9, c10⟩ := C p hp
  have gdict : ∀ {x : Addr} {o : Obj}, h.get? x = some o → (∀ es ep, o.data ≠ .dict es ep) → x ≠ mainGlobals := fun {x o} e n q => by
    obtain ⟨og, es, ep, eg, dg, _⟩ := g
    rw [q] at e
    cases e.symm.trans eg
    exact n es ep dg
  refine ⟨⟨oc, us, file, tf, fl, tg, inF, text, tt, z.hid c1 (fun q => by rw [q] at c3; cases c3) (fun q => by rw [q] at c2; cases c2), c2, c3, c4, c5, c6, c7, c8, c9, c10⟩, ⟨m, ob, b1, b2, gdict b3 (fun es ep q => by rw [b6] at q; cases q), fun q => ?_, z.hid b3 (fun q => by rw [q] at b6; cases b6) (fun q => by rw [q] at b6; cases b6), b4, b5, b6⟩, (gdict (z.tabs p hp) fun es ep q => nomatch q).symm⟩
  rw [q, z.tabs p hp] at b3
  cases b3; cases b6
end
/-- the call of a law's def -/
theorem law_callG {P : Program} {w : World} {K : PySem.W.Frag} {mg mb : Str → Option Value} {CX : CXT} {k : Nat} {fa a : Addr} {cs : List (Addr × Addr)} {fd : FuncData} {x : Str} {sp : Sp} {s : Shared} {vs : List Value} {ns : List Int} (z : At0 K s.heap cs a vs ns)
    (g : s.heap.Ns mainGlobals mg) (b : s.heap.Ns builtinsNs mb) (bb : ∀ x : Str, x ≠ "__name__" → mb x = bootBuiltins x) (lim : s.heap.NoLimit) (gens : s.gens = #[]) (C : ∀ p ∈ cs, PySem.W.CodeHd s.heap p.1 p.2)
    (bm : ∃ (m : Addr) (ob : Obj), mg "__builtins__" = some (.ref m) ∧ m ≠ builtinsNs ∧ s.heap.get? m = some ob ∧ ob.cls = .type "module" ∧ ob.dict = some builtinsNs ∧ ob.data = .plain) (hr : Room k callerA)
    (F : ∀ base : Heap, K.In base → base.Ns mainGlobals mg → (∀ p ∈ cs, TabB base mg p.1 p.2) → FnOkG P w K mg base CX k fa fd [x] sp) (bind : ∀ (s : Shared) (u : Value), BindsTo s fd ⟨[u], []⟩ [(x, u)])
    (told : ∀ H : Hp, (∀ p ∈ cs, H p.2 = some (.tbl #[])) → SqL K H a (ns.map V.int) → sp [.ref a] H (fun v _ => v = .bl true) fun _ _ _ => False) (noX : ∀ H e s', CX [] H s (fun _ _ _ => False) e s' → False) :
    codeAny (model P w) callerA (.call (.ref fa) ⟨[.ref a], []⟩) (fun r s' => r = .ok (.ret (.bool true)) ∧ OldK s.heap s'.heap ∧ s'.os = s.os ∧ AllBare s'.gens) s := by
  have mod := z.mod g b bb lim
  have e0 : Env0 P w K mg (hidT s.heap (H0 K cs a vs ns)) callerA [] s (H0 K cs a vs ns) := ⟨rfl, mod, fun _ _ e => of_hidT e, Nat.le_of_eq (hidT_size _ _), trivial, (fun _ m => nomatch m), z.hok, .of_eq gens⟩
  refine codeAny_mono ((F _ mod.kin mod.glob (z.tabB g C bm)).run callerA [] s _ ⟨[.ref a], []⟩ [.ref a] [.ref a] _ _ rfl hr e0 (bind s (.ref a)) (.cons rfl .nil) (told _ (fun p hp => H0_tab hp) z.sq)) fun r s' q => ?_
  obtain er | fl := r
  · exact (noX _ _ _ q).elim
  cases fl <;> first | exact False.elim q | skip
  obtain ⟨v, H', os, bare, un, ok', rv, rfl⟩ := q
  cases rv
  -- what stood stands: the tables have grown
  have grown : ∀ {c : Addr}, c ∈ cs.map (·.2) → ∃ more : Array Value, s'.heap.get? c = some { cls := .none, data := .fields more } := fun {c} m => by
    obtain ⟨p, hp, rfl⟩ := List.mem_map.mp m
    obtain ⟨more, e⟩ := un.tbls p.2 #[] (H0_tab hp)
    exact ⟨_, ok' _ _ e⟩
  have kept : ∀ {c : Addr} {o : Obj}, c ∉ cs.map (·.2) → s.heap.get? c = some o → s'.heap.get? c = some o := fun {c o} m e => by
    cases q : H0 K cs a vs ns c with
    | none => exact un.keep c o e q (fun m => nomatch m) fun m => nomatch m
    | some u =>
      obtain ⟨m', _⟩ | ⟨rfl, _, rfl⟩ := H0_some q
      · exact absurd m' m
      · cases e.symm.trans z.script
        exact (ok' _ _ (un.frzs _ _ _ q)).1
  refine ⟨rfl, ⟨fun c o e => ?_, fun c o e => ?_⟩, os, bare⟩ <;> by_cases m : c ∈ cs.map (·.2)
  · obtain ⟨more, e'⟩ := grown m
    cases e.symm.trans (z.tab m)
    obtain ⟨p, hp, rfl⟩ := List.mem_map.mp m
    exact .inr (.inl ⟨((C p hp).tab (z.tabs p hp)).isCodeTable, rfl, #[], more, rfl, by rw [Array.empty_append]; exact e'⟩)
  · exact .inl (kept m e)
  · obtain ⟨more, e'⟩ := grown m; exact ⟨_, e'⟩
  · exact ⟨o, kept m e⟩
/-- what is to be shown of a law's def that holds repr (h: the head's heap) -/
structure LawG (l : PySem.W.OpenLaw) (w : World) (K : PySem.W.Frag) (CX : CXT) (k n : Nat) (x : Str) (mg : Str → Option Value) (fa : Addr) (h : Heap) where
  (fd : FuncData) (cs : List (Addr × Addr)) (sp : Sp)
  tabs : ∀ p ∈ cs, h.get? p.2 = some tab0
  free : ∀ p ∈ cs, K.lookup p.2 = none
  code : ∀ p ∈ cs, PySem.W.CodeHd h p.1 p.2
  bind : ∀ (s : Shared) (u : Value), BindsTo s fd ⟨[u], []⟩ [(x, u)]
  told : ∀ (H : Hp) (a : Addr) (ns : List Int), ns.length ≤ n → (∀ p ∈ cs, H p.2 = some (.tbl #[])) → SqL K H a (ns.map V.int) → sp [.ref a] H (fun v _ => v = .bl true) fun _ _ _ => False
  ok : ∀ base : Heap, K.In base → base.Ns mainGlobals mg → (∀ p ∈ cs, TabB base mg p.1 p.2) → FnOkG l.prog w K mg base CX k fa fd [x] sp
/-- the end of a law whose def holds repr (its own table may be used) -/
theorem walk_G {l : PySem.W.OpenLaw} {n k : Nat} {q : Program} {loose : List Str} {XP : (Str → Option Value) → Heap → Prop} {YP : World → Heap → Prop} {d : DefRec} {K : Params → PySem.W.Frag} {CX : World → CXT} {x : Str} (own : Bool)
    (hn : l.most = some n) (hn2 : n ≤ sizeLine) (hdf : d.params.defaults = []) (hr : Room k callerA) (hrec : own = true → ((recsOf q).any fun e => e.name == d.name) = true) (hY : ∀ (w : World) (h : Heap), YP w h → (K w.params).In h)
    (F : ∀ (w : World) (mg : Str → Option Value) (fa : Addr) (h : Heap), YP w h → (K w.params).In h → h.Ns mainGlobals mg → mg d.name = some (.ref fa) → (own = true → OwnTab (K w.params) fa h) → Nonempty (LawG l w (K w.params) (CX w) k n x mg fa h))
    (noX : ∀ (w : World) (H : Hp) (s : Shared) (e : Value) (s' : Shared), CX w [] H s (fun _ _ _ => False) e s' → False) : PySem.W.WalkO q loose XP YP l.row.toRowW d [] (fun f vs => PySem.call f vs) := by
  refine Att.attach_callB hn hdf fun w s₀ s₁ mg mb fa o pm cd doc a vs ns G Y ho hd hcd hmg hobj hints hlen hbits hg => ?_
  have kin := hY w _ Y
  have table : own = true → OwnTab (K w.params) fa s₁.heap := fun ht c P o1 fd1 e dd vs1 sl k1 k2 k3 k4 k5 => by
    obtain ⟨dL, mem, same⟩ := List.any_eq_true.mp (hrec ht)
    obtain ⟨f1, o2, fd2, c2, P2, at1, at2, at3, at4, at5, ⟨oc, vc, at6, _, at7, at8⟩, empty⟩ := G.T.tab dL mem
    rw [beq_iff_eq.mp same] at at1
    cases hmg.symm.trans at1
    cases (kin _ _ k1).symm.trans at2
    cases k2.symm.trans at3
    cases k3.symm.trans at4
    cases (kin _ _ k4).symm.trans at6
    cases at7
    cases k5.symm.trans at8
    exact empty
  obtain ⟨z⟩ := F w mg fa _ Y kin G.T.g hmg table
  exact law_callG ⟨kin, z.tabs, z.free, hobj, hints, Nat.le_trans hlen hn2⟩ G.T.g G.T.b G.T.builtins G.T.nolimit hg z.code G.T.bmain hr z.ok z.bind (fun H tb sq => z.told H a ns hlen tb sq) fun H e s' => noX w H s₁ e s'
section
variable {P : Program} {w : World} {K : PySem.W.Frag} {mg : Str → Option Value} {base : Heap}
/-- the body of a def, its code object known or not -/
theorem fn_bodyG {x qual : Str} {st : Stmt} {f : Addr} {N ps : List Str} {k : Nat} {Wf : W3} {oc dflt kV doc pm cdv ct : Value} {od an : Option Addr} {osl : Array (Option Value)} (lk : K.lookup f = some ⟨oc, od, .func (PySem.W.fnOf x qual (defArgs st) (defBody st) (defScope st) dflt kV doc pm an cdv ct), osl⟩) (hcd : PySem.W.codeIn K cdv qual = true)
    (S : FnScope N ps (defScope st)) (len : ∀ ds M Φ, Wf ds M Φ → ds.length = ps.length)
    (h : ∀ (A : Around) (outer : List Env) (s : Shared) (H : Hp) (E : XK), A.guards = some [] → Room k (A.deeper (envOfC qual (defScope st) s.heap.objs.size f cdv)) →
      ∀ S₀ : W0, ∃ w', VSs (cxOf CX0 P w K mg base N qual (defScope st) f cdv A outer s H E).nox S₀ (defBody st) w' ∧ ∀ ds M Φ, Wf ds M Φ → w' (endsD Φ) (startD N.length ds) M) :
    FnOkG P w K mg base CX0 (k + 1) f (PySem.W.fnOf x qual (defArgs st) (defBody st) (defScope st) dflt kV doc pm an cdv ct) ps (spW K Wf) := by
  refine ⟨fun A outer s H args us vs Q E hg hr e0 hb r ⟨Hf, M, ds, Φ, W, i, hw, kn⟩ => ?_⟩
  refine run_ofS (N := N) (vs := vs) lk hcd S hr e0 hb r (by rw [← i.len]; exact len ds M Φ hw) fun hr' => ?_
  obtain ⟨w', hv, hw'⟩ := h A outer s H E hg hr' ⟨Hf, M, H⟩
  have kn := kn.of
  refine ⟨_, hv.nox, Hf, startD N.length ds, M, endsD Φ, W.begin, ?_, hw' ds M Φ hw, ⟨fun ρ' M' σ' Hf' H' p W' s' e' => kn _ _ _ _ _ p W' s' (isD_non.mpr rfl), kn, (fun ρ' M' σ' Hf' H' p W' s' e' => (p : False).elim), (fun ρ' M' σ' Hf' H' p W' s' e' => (p : False).elim)⟩⟩
  have e := env_start (K := K) (Hf := Hf) (N.length - ds.length) i
  unfold startD
  rw [show start N vs = vs.map some ++ List.replicate (N.length - vs.length) none from rfl, ← i.len]
  exact e
theorem fnWG {x qual : Str} {st : Stmt} {f : Addr} {fd : FuncData} {N ps : List Str} {k : Nat} {Wf : W3} (F : Fun K x qual st f fd) (S : FnScope N ps (defScope st)) (len : ∀ ds M Φ, Wf ds M Φ → ds.length = ps.length)
    (h : ∀ (cdv : Value) (A : Around) (outer : List Env) (s : Shared) (H : Hp) (E : XK), A.guards = some [] → Room k (A.deeper (envOfC qual (defScope st) s.heap.objs.size f cdv)) →
      ∀ S₀ : W0, ∃ w', VSs (cxOf CX0 P w K mg base N qual (defScope st) f cdv A outer s H E).nox S₀ (defBody st) w' ∧ ∀ ds M Φ, Wf ds M Φ → w' (endsD Φ) (startD N.length ds) M) : FnOkG P w K mg base CX0 (k + 1) f fd ps (spW K Wf) := by
  obtain ⟨_, _, _, _, _, _, cdv, _, _, e1, e2, e3⟩ := F.ex
  subst e1
  exact fn_bodyG e2 e3 S len (h cdv)
theorem fnWCG {x qual : Str} {st : Stmt} {f c : Addr} {fd : FuncData} {N ps : List Str} {k : Nat} {Wf : W3} (F : FunC K x qual st f fd c) (S : FnScope N ps (defScope st)) (len : ∀ ds M Φ, Wf ds M Φ → ds.length = ps.length)
    (h : ∀ (A : Around) (outer : List Env) (s : Shared) (H : Hp) (E : XK), A.guards = some [] → Room k (A.deeper (envOfC qual (defScope st) s.heap.objs.size f (.ref c))) →
      ∀ S₀ : W0, ∃ w', VSs (cxOf CX0 P w K mg base N qual (defScope st) f (.ref c) A outer s H E).nox S₀ (defBody st) w' ∧ ∀ ds M Φ, Wf ds M Φ → w' (endsD Φ) (startD N.length ds) M) : FnOkG P w K mg base CX0 (k + 1) f fd ps (spW K Wf) := by
  obtain ⟨_, _, _, _, _, _, _, _, e1, e2, e3⟩ := F.ex
  subst e1
  exact fn_bodyG e2 e3 S len h
end
/-! repr of data -/
def rRepr (K : PySem.W.Frag) : List V → Hp → VK → Prop := fun vs H Q => ∃ a d, vs = [V.ref a] ∧ Dp K H (.ref a) d ∧ d.showable = true ∧ d.hasDict = false ∧ d.depth ≤ 60 ∧ d.shown.length ≤ sizeLine ∧ Q (.str d.shown) H
section
variable {X : Cx} {S₀ : W0}
theorem cr_repr (hg : X.A.guards = some []) (hu : X.A.units + 64 < cLine) : CallR X (.builtin "repr") (rRepr X.K) := by
  intro pins s σ H vs us Q I r h
  obtain ⟨a, d, rfl, hd, h1, h2, h3, h4, q⟩ := h
  rw [Vals.ref1 r]
  obtain ⟨as, r1⟩ := Dp.reads I d _ _ hd rfl
  exact repr_of_reads' r1 h1 (fun e => by rw [h2] at e; cases e) hg (by omega) (fun _ _ e => e) (fun h' u tk hk => ⟨.str _, H, I.kept hk, ⟨_, rfl⟩, q⟩) h4
/-- is there a text of such data (lists and tuples of plain things, not too deep, not too long)? -/
def shows (p : PyData) : Prop := p.showable = true ∧ p.hasDict = false ∧ p.depth ≤ 60 ∧ p.shown.length ≤ sizeLine
def isSq : D → Bool
  | .tup _ => true | .lst _ => true | .ref _ => true | _ => false
def wrRepr : WC := fun ds M Φ => match ds with
  | [d] => match pyM M d with | some p => (isSq d = true ∧ shows p) ∧ Φ (.str p.shown) M | none => False
  | _ => False
theorem lk_repr {K : PySem.W.Frag} : LkC K (rRepr K) wrRepr := by
  intro S₀ Hf M H ds vs Φ Q W i h k
  unfold wrRepr at h
  split at h
  · rename_i d
    split at h
    · rename_i p e
      obtain ⟨⟨sq, s1, s2, s3, s4⟩, h⟩ := h
      obtain ⟨v, r, rfl, i1, i2⟩ := isDs_cons_inv i
      rw [isDs_nil_inv i2]
      have dp := dpM_of W i1 e
      obtain ⟨a, rfl⟩ : ∃ a, v = .ref a := by
        cases d <;> first | exact absurd sq Bool.false_ne_true | skip
        · exact ⟨_, isD_ref.mp i1⟩
        · obtain ⟨a, _, e, _⟩ := isD_tup.mp i1; exact ⟨a, e⟩
        · obtain ⟨a, _, e, _⟩ := isD_lst.mp i1; exact ⟨a, e⟩
      exact ⟨a, p, rfl, dp, s1, s2, s3, s4, k.go W h (isD_str.mpr rfl)⟩
    · exact h.elim
  · exact h.elim
theorem ve_repr {e : Expr} {wa : WA} {p pos : Pos} (hgd : X.A.guards = some []) (hu : X.A.units + 64 < cLine) (hg : Gl X "repr") (hm : X.mg "repr" = none) (ha : VA X S₀ [e] wa) (he : starEach [e] X.env = (false, eval e X.env) :: starEach [] X.env := by rfl) : VE X S₀ (.Call (.Name "repr" p) [e] [] pos) (wCB wrRepr wa) :=
  ve_callB (cr_repr hgd hu) lk_repr hg hm (by decide +kernel) ha (he := he)
theorem e_repr {M : Mem} {Φ : KD} {d : D} : wrRepr [d] M Φ = match pyM M d with | some p => (isSq d = true ∧ shows p) ∧ Φ (.str p.shown) M | none => False := rfl
end
end VL

/-! a loop, a comprehension over a list of the memory: it stands as it is at each turn -/
namespace VL
open PySem PySem.Spec PyProof.Rows L2
variable {S₀ : W0}
/-- the list at a is ds, then g -/
def gAt (a : Addr) (ds : List D) (g : WG) : WG := fun x ρ M k => M a = some (.lst ds) ∧ g x ρ M k
def nxAt (a : Addr) (ds : List D) (De : WN) : WN := ⟨fun ρ M => M a = some (.lst ds) ∧ De.nx ρ M, De.rt, De.bk, De.ct⟩
def kForA (g : WG) (body : WS) (De : WN) (ρ : Sg) : KD := fun x M => match x with
  | .ref a => match M a with
    | some (.lst ds) => sLoop (gAt a ds g) body (nxAt a ds De) ds ρ M
    | _ => False
  | _ => False
def sForA (w : WE) (g : WG) (body : WS) : WS := fun De ρ M => w ρ M (kForA g body De ρ)
section
variable {K : PySem.W.Frag} {Hf : Hp} {M : Mem} {H : Hp} {a : Addr} {ds : List D}
theorem mem_lst (W : Wd K S₀ Hf M H) (h : M a = some (.lst ds)) : ∃ xs, H a = some (.lst xs) ∧ IsDs K Hf ds xs := by
  obtain ⟨_, o, h1, xs, rfl, h2⟩ := W.mem a _ h
  exact ⟨xs, h1, h2⟩
/-- the turns of a walk over it -/
theorem turn_go (W : Wd K S₀ Hf M H) (h : M a = some (.lst ds)) {i : Nat} {d : D} (hd : ds[i]? = some d) : (Itl K a).go i H ∧ ∀ x H2, (Itl K a).yld i H x H2 → H2 = H ∧ IsD K Hf d x := by
  obtain ⟨xs, h1, h2⟩ := mem_lst W h
  obtain ⟨v, h3, h4⟩ := h2.get hd
  refine ⟨⟨xs, v, SqL.of h1, h3⟩, fun x H2 y => ?_⟩
  obtain ⟨rfl, y⟩ := y
  have z := y xs (SqL.of h1)
  rw [h3] at z
  cases z
  exact ⟨rfl, h4⟩
theorem turn_stop (W : Wd K S₀ Hf M H) (h : M a = some (.lst ds)) : (Itl K a).stop ds.length H := by
  obtain ⟨xs, h1, h2⟩ := mem_lst W h
  exact ⟨xs, SqL.of h1, by rw [← h2.len]; exact Nat.le_refl _⟩
theorem drop_at {ds : List D} {i : Nat} (h : i < ds.length) : ∃ d, ds[i]? = some d ∧ ds.drop i = d :: ds.drop (i + 1) :=
  ⟨ds[i], List.getElem?_eq_getElem h, List.drop_eq_getElem_cons h⟩
end
theorem vs_forA {X : Cx} {tg l : Expr} {body : List Stmt} {wl : WE} {g : WG} {wb : WS} {vs : List Nat} {pos : Pos} (hp : PassesOwn (model X.prog X.w) X.A X.env X.xe) (hc : X.calm = true) (hl : VE X S₀ l wl) (hg : VG X S₀ tg g vs) (hb : VSs X S₀ body wb)
    (hs : ∀ x, foldedSetIterable l X.env x = pure x := by intro _; rfl) : VS X S₀ (.For tg l body [] pos) (sForA wl g wb) :=
  PS.imp (ps_for hp hc (pi_seq hl) hg hb hs) fun D σ H ⟨Hf, ρ, M, De, W, e, h, k⟩ => by
    refine ⟨Hf, ρ, M, _, W, e, h, fun x M0 v Hf0 H0 h0 W0 s0 i0 => ?_⟩
    unfold kForA at h0
    split at h0
    rotate_left
    · exact h0.elim
    rename_i a
    split at h0
    rotate_left
    · exact h0.elim
    rename_i ds hm
    obtain ⟨xs0, hx0, _⟩ := mem_lst W0 hm
    refine ⟨a, isD_ref.mp i0, .inl ⟨⟨xs0, SqL.of hx0⟩, ?_⟩⟩
    refine ⟨fun i m σ' H' => m = ds.length - i ∧ i ≤ ds.length ∧ ∃ Hf' ρ' M', Wd X.K S₀ Hf' M' H' ∧ EnvOk X.K Hf' σ' ρ' ∧ Stp Hf M H Hf' M' H' ∧ sLoop (gAt a ds g) wb (nxAt a ds De) (ds.drop i) ρ' M',
      ⟨ds.length, rfl, Nat.zero_le _, Hf0, ρ, M0, W0, e.mono s0.ex, s0, h0⟩, ?_⟩
    rintro i m σ' H' ⟨rfl, hi, Hf', ρ', M', W', e', s', hl⟩
    rcases Nat.lt_or_eq_of_le hi with lt | rfl
    · obtain ⟨d, hd, ed⟩ := drop_at lt
      rw [ed] at hl
      obtain ⟨hm', hl⟩ := hl
      obtain ⟨go, yl⟩ := turn_go W' hm' hd
      refine .inr ⟨go, _, fun σ2 H2 n => n, fun x H2 y => ?_⟩
      obtain ⟨rfl, ix⟩ := yl x H2 y
      refine ⟨Hf', ρ', M', _, d, W', e', ix, hl, fun ρ3 M3 σ3 Hf3 H3 h3 W3 s3 e3 _ => ?_⟩
      have nxt : ∀ ρ5 M5 σ5 Hf5 H5, sLoop (gAt a ds g) wb (nxAt a ds De) (ds.drop (i + 1)) ρ5 M5 → Wd X.K S₀ Hf5 M5 H5 → Stp Hf3 M3 H3 Hf5 M5 H5 → EnvOk X.K Hf5 σ5 ρ5 →
          ∃ m', m' < ds.length - i ∧ m' = ds.length - (i + 1) ∧ i + 1 ≤ ds.length ∧ ∃ Hf' ρ' M', Wd X.K S₀ Hf' M' H5 ∧ EnvOk X.K Hf' σ5 ρ' ∧ Stp Hf M H Hf' M' H5 ∧ sLoop (gAt a ds g) wb (nxAt a ds De) (ds.drop (i + 1)) ρ' M' :=
        fun ρ5 M5 σ5 Hf5 H5 h5 W5 s5 e5 => ⟨_, by omega, rfl, lt, Hf5, ρ5, M5, W5, e5, (s'.trans s3).trans s5, h5⟩
      have s4 := s'.trans s3
      exact ⟨Hf3, ρ3, M3, _, W3, e3, h3, ⟨nxt, k.rt.at s4, fun ρ5 M5 σ5 Hf5 H5 h5 W5 s5 e5 => k.nx _ _ _ _ _ h5.2 W5 (s4.trans s5) e5, nxt⟩⟩
    · rw [List.drop_length] at hl
      exact .inl ⟨turn_stop W' hl.1, k.nx _ _ _ _ _ hl.2 W' s' e'⟩
/-! comprehensions -/
def kLcA (g : WG) (tt : WT) (te : WE) (ρ : Sg) (k : List D → Mem → Prop) : KD := fun x M => match x with
  | .ref a => match M a with
    | some (.lst ds) => ds.length ≤ lim ∧ wLcGo (gAt a ds g) tt te ρ (fun acc M => M a = some (.lst ds) ∧ k acc M) ds [] M
    | _ => False
  | _ => False
/-- [.. for .. in a list of the memory]: a frozen list -/
def wLcA (we : WE) (g : WG) (tt : WT) (te : WE) (vs : List Nat) : WE := fun ρ M Φ => we ρ M (kLcA g tt te (wipeD ρ vs) (kLcF Φ))
def wLcAM (we : WE) (g : WG) (tt : WT) (te : WE) (vs : List Nat) : WE := fun ρ M Φ => we ρ M (kLcA g tt te (wipeD ρ vs) (kLcM Φ))
theorem lift_lcA {K : PySem.W.Frag} {we : WE} {g : WG} {tt : WT} {te : WE} {vs : List Nat} {σ : St} {H : Hp} {Q : VK} {Hf : Hp} {ρ : Sg} {M : Mem} {k : List D → Mem → Prop} (W : Wd K S₀ Hf M H) (e : EnvOk K Hf σ ρ) (h : we ρ M (kLcA g tt te (wipeD ρ vs) k))
    (fin : ∀ acc M' H' Hf' D us, k acc M' → Wd K S₀ Hf' M' H' → Stp Hf M H Hf' M' H' → (∀ o, H D = some o → Hf D = none → M D = none → False) → H' D = some (.lst us) → Hf' D = none → M' D = none → IsDs K Hf' acc us → Q (.ref D) H') :
    tLc (iSeq K (liftE K S₀ we)) (liftG K S₀ g vs) (liftT K S₀ tt) (liftE K S₀ te) vs σ H Q := by
  refine ⟨Hf, ρ, M, _, W, e, h, fun x M0 v Hf0 H0 h0 W0 s0 i0 => ?_⟩
  unfold kLcA at h0
  split at h0
  rotate_left
  · exact h0.elim
  rename_i a
  split at h0
  rotate_left
  · exact h0.elim
  rename_i ds hm
  obtain ⟨hlim, h0⟩ := h0
  obtain ⟨xs0, hx0, _⟩ := mem_lst W0 hm
  refine ⟨a, isD_ref.mp i0, .inl ⟨⟨xs0, SqL.of hx0⟩, fun D hD => ?_⟩⟩
  have fF := W0.fresh_f hD
  have fM := W0.fresh_m hD
  have new : ∀ o, H D = some o → Hf D = none → M D = none → False := fun o q1 q2 q3 => nomatch hD.symm.trans (s0.out D o q1 q2 q3).1
  have upS : ∀ {Hf1 M1 H1 o}, Stp Hf M H Hf1 M1 H1 → Stp Hf M H Hf1 M1 (upd H1 D o) := fun {Hf1 M1 H1 o} s1 => ⟨s1.ex, fun b u q1 q2 q3 => by
    have n : b ≠ D := fun z => by subst z; exact new u q1 q2 q3
    rw [upd_ne n]; exact s1.out b u q1 q2 q3⟩
  have upW : ∀ {Hf1 M1 H1 o}, Wd K S₀ Hf1 M1 H1 → Hf1 D = none → M1 D = none → Stp Hf M H Hf1 M1 H1 → Wd K S₀ Hf1 M1 (upd H1 D o) := fun {Hf1 M1 H1 o} W1 z1 z2 s1 => ⟨⟨fun b u q => by
      have n : b ≠ D := fun z => by subst z; rw [z1] at q; cases q
      rw [upd_ne n]; exact W1.fro b u q, fun b m q => by
      have n : b ≠ D := fun z => by subst z; rw [z2] at q; cases q
      obtain ⟨q1, o, q2, q3⟩ := W1.mem b m q
      exact ⟨q1, o, by rw [upd_ne n]; exact q2, q3⟩⟩, W.st.trans (upS s1)⟩
  refine ⟨fun i m H' => m = ds.length - i ∧ i ≤ ds.length ∧ ∃ Hf' M' acc us, Wd K S₀ Hf' M' H' ∧ Stp Hf M H Hf' M' H' ∧ H' D = some (.lst us) ∧ Hf' D = none ∧ M' D = none ∧ IsDs K Hf' acc us ∧ acc.length ≤ i ∧ wLcGo (gAt a ds g) tt te (wipeD ρ vs) (fun acc M => M a = some (.lst ds) ∧ k acc M) (ds.drop i) acc M',
    ⟨ds.length, rfl, Nat.zero_le _, Hf0, M0, [], [], upW W0 fF fM s0, upS s0, upd_same, fF, fM, isDs_nil, Nat.le_refl _, h0⟩, ?_⟩
  rintro i m H' ⟨rfl, hi, Hf', M', acc, us, W', s', d1, d2, d3, ia, la, hl⟩
  rcases Nat.lt_or_eq_of_le hi with lt | rfl
  · obtain ⟨d, hd, ed⟩ := drop_at lt
    rw [ed] at hl
    obtain ⟨hm', hl⟩ := hl
    obtain ⟨go, yl⟩ := turn_go W' hm' hd
    refine .inr ⟨go, _, fun H2 n => n, fun x H2 y => ?_⟩
    obtain ⟨rfl, ix⟩ := yl x H2 y
    refine ⟨Hf', wipeD ρ vs, M', _, d, W', (e.wipe vs).mono s'.ex, ix, hl, fun ρ3 M3 σ3 Hf3 H3 h3 W3 s3 e3 w3 => ⟨by rw [w3, wipe_wipe], ?_⟩⟩
    obtain ⟨d4, d5, d6⟩ := s3.out D _ d1 d2 d3
    refine ⟨Hf3, ρ3, M3, _, W3, e3, h3, fun b M4 Hf4 H4 h4 W4 s4 => ?_⟩
    obtain ⟨d7, d8, d9⟩ := s4.out D _ d4 d5 d6
    have s5 := (s'.trans s3).trans s4
    cases b with
    | true =>
      rw [if_pos rfl]
      refine ⟨Hf4, ρ3, M4, _, W4, e3.mono s4.ex, h4, fun y M6 v Hf6 H6 h6 W6 s6 i6 => ?_⟩
      obtain ⟨d10, d11, d12⟩ := s6.out D _ d7 d8 d9
      have ia6 := IsDs.mono ((s3.ex.trans s4.ex).trans s6.ex) _ _ ia
      exact ⟨us, d10, by rw [← ia.len]; exact lim_lt (by omega), _, by omega, rfl, lt, Hf6, M6, acc ++ [y], us ++ [v], upW W6 d11 d12 (s5.trans s6), upS (s5.trans s6), upd_same, d11, d12, ia6.app (isDs_cons i6 isDs_nil), by simp; omega, h6⟩
    | false =>
      rw [if_neg (by decide)]
      exact ⟨_, by omega, rfl, lt, Hf4, M4, acc, us, W4, s5, d7, d8, d9, IsDs.mono (s3.ex.trans s4.ex) _ _ ia, by omega, h4⟩
  · rw [List.drop_length] at hl
    exact .inl ⟨turn_stop W' hl.1, fin acc M' H' Hf' D us hl.2 W' s' new d1 d2 d3 ia⟩
section
variable {X : Cx} {elt tg l : Expr} {ifs : List Expr} {scope : Scope} {own : List (Str × Nat)} {pos : Pos} {wl : WE} {g : WG} {tt : WT} {te : WE}
theorem ve_lcA (hc : X.calm = true) (hN : X.N.Nodup) (hl : VE X S₀ l wl) (ok : BlkOk X.N X.env.scope scope own)
    (hg : ∀ (s : Shared) (H : Hp) (C : Addr) (cl : List (Str × Addr)) (fp : List Addr), VG (X.blk s H scope (compEnvC scope cl C X.env) fp) S₀ tg g (own.map (·.2))) (ht : ∀ (s : Shared) (H : Hp) (C : Addr) (cl : List (Str × Addr)) (fp : List Addr), VTs (X.blk s H scope (compEnvC scope cl C X.env) fp) S₀ ifs tt)
    (he : ∀ (s : Shared) (H : Hp) (C : Addr) (cl : List (Str × Addr)) (fp : List Addr), VE (X.blk s H scope (compEnvC scope cl C X.env) fp) S₀ elt te) (hs : ∀ x, foldedSetIterable l X.env x = pure x := by intro _; rfl) :
    VE X S₀ (.ListComp elt [⟨tg, l, ifs, 0⟩] scope pos) (wLcA wl g tt te (own.map (·.2))) :=
  PE.imp (pe_lc (g := liftG X.K S₀ g (own.map fun (x : Str × Nat) => x.2)) (tt := liftT X.K S₀ tt) (te := liftE X.K S₀ te) hc hN (pi_seq hl) ok hg ht he hs) fun σ H Q ⟨Hf, ρ, M, Φ, W, e, h, k⟩ => lift_lcA W e h (lc_finF W.st k)
theorem ve_lcAM (hc : X.calm = true) (hN : X.N.Nodup) (hl : VE X S₀ l wl) (ok : BlkOk X.N X.env.scope scope own)
    (hg : ∀ (s : Shared) (H : Hp) (C : Addr) (cl : List (Str × Addr)) (fp : List Addr), VG (X.blk s H scope (compEnvC scope cl C X.env) fp) S₀ tg g (own.map (·.2))) (ht : ∀ (s : Shared) (H : Hp) (C : Addr) (cl : List (Str × Addr)) (fp : List Addr), VTs (X.blk s H scope (compEnvC scope cl C X.env) fp) S₀ ifs tt)
    (he : ∀ (s : Shared) (H : Hp) (C : Addr) (cl : List (Str × Addr)) (fp : List Addr), VE (X.blk s H scope (compEnvC scope cl C X.env) fp) S₀ elt te) (hs : ∀ x, foldedSetIterable l X.env x = pure x := by intro _; rfl) :
    VE X S₀ (.ListComp elt [⟨tg, l, ifs, 0⟩] scope pos) (wLcAM wl g tt te (own.map (·.2))) :=
  PE.imp (pe_lc (g := liftG X.K S₀ g (own.map fun (x : Str × Nat) => x.2)) (tt := liftT X.K S₀ tt) (te := liftE X.K S₀ te) hc hN (pi_seq hl) ok hg ht he hs) fun σ H Q ⟨Hf, ρ, M, Φ, W, e, h, k⟩ => lift_lcA W e h (lc_finM W.st k)
theorem vs_setLcA (i : Nat) {y : Str} {py spos : Pos} (hc : X.calm = true) (hN : X.N.Nodup) (hl : VE X S₀ l wl) (ok : BlkOk X.N X.env.scope scope own)
    (hg : ∀ (s : Shared) (H : Hp) (C : Addr) (cl : List (Str × Addr)) (fp : List Addr), VG (X.blk s H scope (compEnvC scope cl C X.env) fp) S₀ tg g (own.map (·.2))) (ht : ∀ (s : Shared) (H : Hp) (C : Addr) (cl : List (Str × Addr)) (fp : List Addr), VTs (X.blk s H scope (compEnvC scope cl C X.env) fp) S₀ ifs tt)
    (he : ∀ (s : Shared) (H : Hp) (C : Addr) (cl : List (Str × Addr)) (fp : List Addr), VE (X.blk s H scope (compEnvC scope cl C X.env) fp) S₀ elt te)
    (hsw : swapsWith (.ListComp elt [⟨tg, l, ifs, 0⟩] scope pos) (some (.Name y py)) spos.line X.env = pure true) (hy : X.N[i]? = some y := by rfl) (hyl : X.env.scope.names.lookup y = some .local := by rfl) (hs : ∀ x, foldedSetIterable l X.env x = pure x := by intro _; rfl) :
    VS X S₀ (.Assign [.Name y py] (.ListComp elt [⟨tg, l, ifs, 0⟩] scope pos) spos) (sAsg (wLcA wl g tt te (own.map (·.2))) (wgName i)) :=
  PS.imp (ps_setLc (g := liftG X.K S₀ g (own.map fun (x : Str × Nat) => x.2)) (tt := liftT X.K S₀ tt) (te := liftE X.K S₀ te) hc hN hy hyl hsw (pi_seq hl) ok hg ht he hs) fun D σ H ⟨Hf, ρ, M, De, W, e, h, k⟩ => by
    refine lift_lcA (Q := fun x H1 => D.nx (σ.set i (some x)) H1) W e h (lc_finF W.st (Φ := kAsg (wgName i) De ρ) (Q := fun x H1 => D.nx (σ.set i (some x)) H1) ?_)
    exact fun d M' v Hf' H' p W' s' i' => k.nx _ _ _ _ _ p W' s' ((e.mono s'.ex).set i i')
end
/-! rows -/
section
variable {ρ : Sg} {M : Mem} {Φ : KD} {a : Addr} {ds : List D} {g : WG} {tt : WT} {te we : WE} {vs : List Nat} {De : WN} {body : WS}
theorem e_forA : sForA we g body De ρ M = we ρ M (kForA g body De ρ) := rfl
theorem e_kForA (h : M a = some (.lst ds)) : kForA g body De ρ (.ref a) M = sLoop (gAt a ds g) body (nxAt a ds De) ds ρ M := by unfold kForA; simp only [h]
theorem e_lcA : wLcA we g tt te vs ρ M Φ = we ρ M (kLcA g tt te (wipeD ρ vs) (kLcF Φ)) := rfl
theorem e_lcAM : wLcAM we g tt te vs ρ M Φ = we ρ M (kLcA g tt te (wipeD ρ vs) (kLcM Φ)) := rfl
theorem e_kLcA {k : List D → Mem → Prop} (h : M a = some (.lst ds)) : kLcA g tt te ρ k (.ref a) M = (ds.length ≤ lim ∧ wLcGo (gAt a ds g) tt te ρ (fun acc M => M a = some (.lst ds) ∧ k acc M) ds [] M) := by unfold kLcA; simp only [h]
theorem e_gAt {x : D} {k : Sg → Mem → Prop} : gAt a ds g x ρ M k = (M a = some (.lst ds) ∧ g x ρ M k) := rfl
end
end VL

/-! how long the text of data may be -/
namespace VL
open PySem PySem.Spec PyProof.Rows L2
mutual
/-- a bound of the text's length: texts and keywords by themselves, an int at most 1921 signs -/
def wt : PyData → Nat
  | .none => 4 | .bool _ => 5 | .int _ => 1921
  | .str x => (reprText x).length
  | .list xs => 2 + wts xs
  | .tuple xs => 4 + wts xs
  | .dict _ => 0
def wts : List PyData → Nat
  | [] => 0
  | x :: xs => (wt x + 2) + wts xs
end
theorem textFrom_le : ∀ (ts : List Str) (k : Nat) (acc : Str), (textFrom k acc ts).length ≤ acc.length + piled ts
  | [], _, _ => Nat.le_add_right _ _
  | t :: r, k, acc => by
    have ih := textFrom_le r (k + 1) (acc ++ (if k > 0 then ", " else "" : String) ++ t)
    have e : ((if k > 0 then ", " else "" : String) : Str).length ≤ 2 := by split <;> decide
    rw [strLen_append, strLen_append] at ih
    show (textFrom (k + 1) _ r).length ≤ _
    rw [piled_cons]; omega
theorem listText_le (ts : List Str) : (listText ts).length ≤ 2 + piled ts := by
  unfold listText
  rw [strLen_append]
  have := textFrom_le ts 0 "["
  have e1 : (("[" : String) : Str).length = 1 := rfl
  have e2 : (("]" : String) : Str).length = 1 := rfl
  omega
theorem tupleText_le (ts : List Str) : (tupleText ts).length ≤ 4 + piled ts := by
  unfold tupleText
  rw [strLen_append, strLen_append]
  have e1 : (("(" : String) : Str).length = 1 := rfl
  have e2 : ((if ts.length == 1 then ",)" else ")" : String) : Str).length ≤ 2 := by split <;> decide
  by_cases h : ts = []
  · subst h
    have e3 : (Str.join ", " ([] : List Str)).length = 0 := rfl
    have e4 : piled [] = 0 := rfl
    omega
  · have := join_length_add ts h
    omega
mutual
theorem shown_le : ∀ d : PyData, d.showable = true → d.hasDict = false → d.shown.length ≤ wt d
  | .none, _, _ => by rw [PyData.shown, wt]; decide
  | .bool b, _, _ => by rw [PyData.shown, wt]; cases b <;> decide
  | .int i, h, _ => by
    rw [PyData.shown, wt]
    exact int_text_len_1921 (by rw [PyData.showable] at h; exact of_decide_eq_true h)
  | .str x, _, _ => by rw [PyData.shown, wt]; exact Nat.le_refl _
  | .list xs, h, g => by
    rw [PyData.shown, wt]
    rw [PyData.showable] at h; rw [PyData.hasDict] at g
    exact Nat.le_trans (listText_le _) (Nat.add_le_add_left (shownAll_le xs h g) 2)
  | .tuple xs, h, g => by
    rw [PyData.shown, wt]
    rw [PyData.showable] at h; rw [PyData.hasDict] at g
    exact Nat.le_trans (tupleText_le _) (Nat.add_le_add_left (shownAll_le xs h g) 4)
  | .dict _, _, g => by rw [PyData.hasDict] at g; cases g
theorem shownAll_le : ∀ xs : List PyData, PyData.showableAll xs = true → PyData.hasDictAll xs = false → piled (PyData.shownAll xs) ≤ wts xs
  | [], _, _ => Nat.le_refl _
  | x :: xs, h, g => by
    rw [PyData.showableAll, Bool.and_eq_true] at h
    rw [PyData.hasDictAll, Bool.or_eq_false_iff] at g
    rw [PyData.shownAll, wts, piled_cons]
    have h1 := shown_le x h.1 g.1
    have h2 := shownAll_le xs h.2 g.2
    omega
end
theorem shows_of {p : PyData} (h : p.showable = true) (g : p.hasDict = false) (d : p.depth ≤ 60) (w : wt p ≤ 16000000) : shows p := ⟨h, g, d, Nat.le_trans (shown_le p h g) (Nat.le_trans w (by decide))⟩
theorem log2_small {i : Int} (h : -(10 ^ 40) ≤ i ∧ i ≤ 10 ^ 40) : i.natAbs.log2 < 1920 := by
  by_cases e : i.natAbs = 0
  · rw [e]; decide
  · refine (Nat.log2_lt e).mpr (Nat.lt_of_le_of_lt (show i.natAbs ≤ 10 ^ 40 by omega) (by decide))
theorem int_shows {i : Int} (h : -(10 ^ 40) ≤ i ∧ i ≤ 10 ^ 40) : (PyData.int i).showable = true := by rw [PyData.showable]; exact decide_eq_true (log2_small h)
/-! == and != of two texts, whatever their signs -/
def wrNeS : WR := fun x y M Φ => match x, y with | .str a, .str b => Φ (.bl (!decide (a = b))) M | _, _ => False
def wrEqS : WR := fun x y M Φ => match x, y with | .str a, .str b => Φ (.bl (decide (a = b))) M | _, _ => False
theorem dec_str {a b : Str} : decide (V.str a = V.str b) = decide (a = b) := by
  by_cases h : a = b
  · rw [decide_eq_true h, decide_eq_true (congrArg V.str h)]
  · rw [decide_eq_false h, decide_eq_false fun e => h (V.str.inj e)]
theorem lk_neS {K : PySem.W.Frag} : LkR K rNe wrNeS := by
  intro S₀ Hf M H x y v u Φ Q W ix iy h k
  unfold wrNeS at h
  split at h
  · rw [isD_str.mp ix, isD_str.mp iy]
    exact ⟨rfl, k.go W h (isD_bl.mpr (by rw [dec_str]))⟩
  · exact h.elim
theorem lk_eqS {K : PySem.W.Frag} : LkR K rEq wrEqS := by
  intro S₀ Hf M H x y v u Φ Q W ix iy h k
  unfold wrEqS at h
  split at h
  · rw [isD_str.mp ix, isD_str.mp iy]
    exact ⟨rfl, k.go W h (isD_bl.mpr (by rw [dec_str]))⟩
  · exact h.elim
section
variable {X : Cx} {S₀ : W0} {a b : Expr} {wa wb : WE} {pos : Pos} {x y : Str} {M : Mem} {Φ : KD}
theorem ve_neS (ha : VE X S₀ a wa) (hb : VE X S₀ b wb) : VE X S₀ (.Compare a [.NotEq] [b] pos) (wOp wrNeS wa wb) := ve_cmp op_ne lk_neS ha hb (nomark _)
theorem ve_eqS (ha : VE X S₀ a wa) (hb : VE X S₀ b wb) : VE X S₀ (.Compare a [.Eq] [b] pos) (wOp wrEqS wa wb) := ve_cmp op_eq lk_eqS ha hb (nomark _)
theorem vt_neS (ha : VE X S₀ a wa) (hb : VE X S₀ b wb) : VT X S₀ (.Compare a [.NotEq] [b] pos) (wTest (wOp wrNeS wa wb)) := vt_cmp op_ne lk_neS ha hb (nomark _)
theorem vt_eqS (ha : VE X S₀ a wa) (hb : VE X S₀ b wb) : VT X S₀ (.Compare a [.Eq] [b] pos) (wTest (wOp wrEqS wa wb)) := vt_cmp op_eq lk_eqS ha hb (nomark _)
theorem e_neS' : wrNeS (.str x) (.str y) M Φ = Φ (.bl (!decide (x = y))) M := rfl
theorem e_eqS' : wrEqS (.str x) (.str y) M Φ = Φ (.bl (decide (x = y))) M := rfl
end
end VL

/-! x *= e, x //= e of whole numbers -/
namespace VL
variable {S₀ : W0}
open PySem PySem.Spec PyProof.Rows L2
theorem vs_augMul (i : Nat) {X : Cx} {x : Str} {e : Expr} {we : WE} {pos pos' : Pos} (hN : X.N.Nodup) (he : VE X S₀ e we) (hi : X.N[i]? = some x := by rfl) (hx : Loc X.env.scope x := by first | exact .inl rfl | exact .inr rfl)
    (hf : X.fn x = true ∨ X.env.scope.names.lookup x = some .local := by first | exact .inl rfl | exact .inr rfl | assumption) : VS X S₀ (.AugAssign (.Name x pos') .Mult e pos) (sAug i we (wrIC CMul fun i j => .int (i * j))) :=
  vs_aug i hN iop_mul (lk_I fun _ _ _ => isD_int.mpr rfl) he hi hx hf
theorem vs_augFdiv (i : Nat) {X : Cx} {x : Str} {e : Expr} {we : WE} {pos pos' : Pos} (hN : X.N.Nodup) (he : VE X S₀ e we) (hi : X.N[i]? = some x := by rfl) (hx : Loc X.env.scope x := by first | exact .inl rfl | exact .inr rfl)
    (hf : X.fn x = true ∨ X.env.scope.names.lookup x = some .local := by first | exact .inl rfl | exact .inr rfl | assumption) : VS X S₀ (.AugAssign (.Name x pos') .FloorDiv e pos) (sAug i we (wrIC CDivW fun i j => .int (i / j))) :=
  vs_aug i hN iop_fdivW (lk_I fun _ _ _ => isD_int.mpr rfl) he hi hx hf
end VL

/-! xs[::-1] of a list or of a tuple -/
namespace VL
variable {S₀ : W0}
open PySem PySem.Spec PyProof.Rows L2
theorem every {α : Type} (L : List α) : (List.range L.length).filterMap (fun k => L[k]?) = L := by
  induction L with
  | nil => rfl
  | cons x L ih =>
    rw [List.length_cons, List.range_succ_eq_map, List.filterMap_cons, List.filterMap_map]
    show x :: (List.range L.length).filterMap (fun k => L[k]?) = _
    rw [ih]
theorem fm_congr {α : Type} {f g : Nat → Option α} : ∀ {l : List Nat}, (∀ k ∈ l, f k = g k) → l.filterMap f = l.filterMap g
  | [], _ => rfl
  | x :: l, h => by rw [List.filterMap_cons, List.filterMap_cons, h x (List.mem_cons_self ..), fm_congr fun k hk => h k (List.mem_cons_of_mem _ hk)]
theorem backwards {α : Type} (L : List α) : (List.range L.length).filterMap (fun (k : Nat) => L[((L.length : Int) - 1 + (k : Int) * -1).toNat]?) = L.reverse := by
  have h := every L.reverse
  rw [List.length_reverse] at h
  rw [← h]
  refine fm_congr fun k hk => ?_
  have hk := List.mem_range.mp hk
  rw [List.getElem?_reverse hk, show ((L.length : Int) - 1 + (k : Int) * -1).toNat = L.length - 1 - k by omega]
section
variable {prog : Program} {w : World} {A : Around} {E : Value → Shared → Prop} {s : Shared}
/-- where [::-1] begins, how it steps, how many it takes -/
theorem rev_parts {sl : Addr} {v1 v2 v3 : Value} {n : Nat} {Q : Int × Int × Nat → Shared → Prop} (hs : s.heap.IsSliceOf sl v1 v2 v3) (p1 : IsPart v1 none) (p2 : IsPart v2 none) (p3 : IsPart v3 (some (-1)))
    (h : Q ((n : Int) - 1, -1, n) s) : wpAny (model prog w) A (Builtin.Slice.sliceApplied (.ref sl) (pure (n : Int))) Q E s := by
  obtain ⟨ob, e1, _, e2⟩ := id hs
  have flds : wpAny (model prog w) A (Builtin.Slice.sliceFields (.ref sl)) (fun r s' => r = (v1, v2, v3) ∧ s' = s) E s :=
    wpAny_bind (wpAny_field e1 e2 rfl (wpAny_bind (wpAny_field e1 e2 rfl (wpAny_bind (wpAny_field e1 e2 rfl (wpAny_pure ⟨rfl, rfl⟩))))))
  have cnt : Builtin.Slice.slicePlaces ((n : Int) - 1) (-1) (-1) = n := by
    unfold Builtin.Slice.slicePlaces
    rw [if_neg (by decide)]
    by_cases c : (n : Int) - 1 > -1
    · rw [if_pos c, show (-(-1 : Int)) = 1 by decide, Int.ediv_one]; omega
    · rw [if_neg c]; omega
  have adj : Builtin.Slice.sliceAdjust none none (-1) (n : Int) = ((n : Int) - 1, -1) := rfl
  unfold Builtin.Slice.sliceApplied
  refine wpAny_bind (wpAny_mono flds (fun r s' hr => ?_) fun _ _ x => x)
  obtain ⟨er, es⟩ := hr
  subst er es
  refine wpAny_bind (HT.slicePart_ p3 ?_)
  show wpAny _ _ (if ((-1 : Int) == 0) = true then _ else _) _ _ _
  rw [if_neg (by decide)]
  refine wpAny_bind (HT.slicePart_ p1 (wpAny_bind (HT.slicePart_ p2 (wpAny_bind (wpAny_pure ?_)))))
  show wpAny _ _ (match Builtin.Slice.sliceAdjust none none (-1) (n : Int) with | (lo, hi) => pure (lo, (-1 : Int), Builtin.Slice.slicePlaces lo hi (-1))) _ _ _
  rw [adj]
  show wpAny _ _ (pure ((n : Int) - 1, (-1 : Int), Builtin.Slice.slicePlaces ((n : Int) - 1) (-1) (-1))) _ _ _
  rw [cnt]
  exact wpAny_pure h
/-- a tuple's items, the last one first -/
theorem tup_rev {t sl : Addr} {its : List Value} {v1 v2 v3 : Value} {Q : Value → Shared → Prop} (ht : IsTup s.heap t its.toArray) (hs : s.heap.IsSliceOf sl v1 v2 v3) (p1 : IsPart v1 none) (p2 : IsPart v2 none) (p3 : IsPart v3 (some (-1)))
    (hz : its.length ≤ sizeLine) (h : Q (.ref s.heap.objs.size) { s with heap := s.heap.push { cls := .type "tuple", data := .seq its.reverse.toArray } }) : wpAny (model prog w) A (getItem (.ref t) (.ref sl)) Q E s := by
  have isS : s.TypeIs (.ref sl) "slice" := hs.imp fun o q => ⟨q.1, q.2.1⟩
  have body : wpAny (model prog w) A.in1 (Builtin.«tuple.__getitem__» ⟨[.ref t, .ref sl], []⟩) (fun fin s' => ∃ v, fin = .done (.ret v) ∧ Q v s') E s := by
    show wpAny _ _ (Builtin.Tuple.tupleItemsOf (.ref t) >>= _) _ _ s
    refine wpAny_bind (tupleItemsOf_ ht (wpAny_bind (wpAny_typeOf isS ?_)))
    rw [if_pos (by decide)]
    rw [List.size_toArray]
    refine wpAny_bind (rev_parts hs p1 p2 p3 ?_)
    show wpAny _ _ (if ((its.length : Int) - 1 == 0 && (-1 : Int) == 1 && its.length == its.length) = true then _ else _) _ _ s
    rw [if_neg (by simp)]
    have e : ((List.range its.length).filterMap fun (k : Nat) => its.toArray[((its.length : Int) - 1 + (k : Int) * -1).toNat]?).toArray = its.reverse.toArray := by
      rw [← backwards its]; simp only [List.getElem?_toArray]
    rw [e]
    have fit : sizeOk (.seq its.reverse.toArray) := by show its.reverse.toArray.size ≤ sizeLine; rw [List.size_toArray, List.length_reverse]; exact hz
    first
      | exact wpAny_bind (m := Builtin.Tuple.tupleExact _) (wpAny_newObj_type (wpAny_pure ⟨_, rfl, h⟩) fit)
      | exact wpAny_bind (m := Builtin.Tuple.tupleExact _) (wpAny_newObj_type (wpAny_bind (wpAny_pure (wpAny_pure ⟨_, rfl, h⟩))) fit)
      | exact wpAny_bind (wpAny_bind (m := Builtin.Tuple.tupleExact _) (wpAny_newObj_type (wpAny_pure (wpAny_pure ⟨_, rfl, h⟩)) fit))
  have meet : wpAny (model prog w) A (call (.builtin "tuple.__getitem__") [.ref t, .ref sl]) Q E s :=
    wpAny_call_entry PyProof.Rows.slot_tuple_getitem ht.typeIs PyProof.Rows.entry_tuple_getitem body (PyProof.Rows.args_tuple_getitem _ _)
  unfold getItem
  exact wpAny_holding (wpAny_bind (wpAny_sequenceKey ht.typeIs (by decide) (wpAny_bind (wpAny_callSpecial?_slot (name := Str.ofString "__getitem__") ht.typeIs PyProof.Rows.slot_tuple_getitem (wpAny_mono meet (fun v s' q => wpAny_pure q) fun _ _ x => x)))))
end
/-! the expression -/
abbrev revE (e : Expr) (k : Nat) (p1 p2 p3 pos : Pos) : Expr := .Subscript e (.Slice none none (some (.UnaryOp .USub (.Constant (.int 1) k p1) p2)) p3) pos
def tRevS (K : PySem.W.Frag) (te : TE) : TE := fun σ H Q => te σ H fun x H1 => ∃ a xs, x = .ref a ∧
  ((SqL K H1 a xs ∧ ∀ p, H1 p = none → Q (.ref p) (upd H1 p (.lst xs.reverse))) ∨ (SqT K H1 a xs ∧ ∀ p, H1 p = none → Q (.ref p) (upd H1 p (.tup xs.reverse))))
/-- the slice that stands for [::-1] -/
theorem rev_slice {X : Cx} {k : Nat} {p1 p2 p3 : Pos} {pins : List (Addr × Obj)} {s : Shared} {σ : St} {H : Hp} {R : Value → Shared → Prop} (I : Inv X pins σ H s)
    (h : ∀ sl v1 v2 v3 s', Inv X pins σ H s' → s'.heap.IsSliceOf sl v1 v2 v3 → IsPart v1 none → IsPart v2 none → IsPart v3 (some (-1)) → R (.ref sl) s') :
    wpAny (model X.prog X.w) X.A (eval (.Slice none none (some (.UnaryOp .USub (.Constant (.int 1) k p1) p2)) p3) X.env) R X.xe s := by
  have no : ∀ s', Inv X pins σ H s' → wpAny (model X.prog X.w) X.A (evalPart none X.env) (fun u s'' => ∃ o H', Inv X pins σ H' s'' ∧ IsPart u o ∧ (o = none ∧ H' = H)) X.xe s' := fun s' I' => po_none.run pins s' σ H _ I' ⟨rfl, rfl⟩
  refine wpAny_Slice (wpAny_mono (no s I) (fun v1 s1 q1 => wpAny_mono (no s1 ?_) (fun v2 s2 q2 => wpAny_mono ((po_some (X := X) (pe_un (pos := p2) un_neg (pe_int (X := X) (i := 1) (j := k) (pos := p1)))).run pins s2 σ H (fun o H' => o = some (-1) ∧ H' = H) ?_ ⟨1, rfl, -1, rfl, rfl, rfl⟩) (fun v3 s3 q3 => ?_) fun _ _ x => x) fun _ _ x => x) fun _ _ x => x)
  · obtain ⟨_, _, I1, _, _, rfl⟩ := q1; exact I1
  · obtain ⟨_, _, I2, _, _, rfl⟩ := q2; exact I2
  · obtain ⟨_, _, _, b1, rfl, _⟩ := q1
    obtain ⟨_, _, _, b2, rfl, _⟩ := q2
    obtain ⟨_, _, I3, b3, rfl, rfl⟩ := q3
    exact h _ v1 v2 v3 _ (I3.kept (t' := s3.toks) fun b o q => Heap.get?_push_of_some _ q) (Heap.IsSliceOf.new _ v1 v2 v3) b1 b2 b3
theorem pe_revS {X : Cx} {e : Expr} {te : TE} {k : Nat} {p1 p2 p3 pos : Pos} (he : PE X e te) : PE X (revE e k p1 p2 p3 pos) (tRevS X.K te) := by
  refine ⟨fun pins s σ H Q I h => Subscript_ (wpAny_mono (he.run pins s σ H _ I h) (fun v s1 q => ?_) fun _ _ x => x)⟩
  obtain ⟨x, H1, I1, r1, a, xs, rfl, q⟩ := q
  cases r1
  refine rev_slice I1 fun sl v1 v2 v3 s2 I2 hs b1 b2 b3 => ?_
  rcases q with ⟨hx, q⟩ | ⟨hx, q⟩
  · obtain ⟨its, r, ht, hz⟩ := I2.list hx
    have len := r.length
    refine tail_any (ops := [.ref a, .ref sl]) ht.isList.typeIs (PySem.slot_list_getitem.lookup) (wpAny_getItem_list_slice ht.isList hs b1 b2 b3 (by decide) ?_ (by rw [List.size_toArray]; omega)) (by with_unfolding_all rfl)
    rw [PySem.W.krv_pick]
    exact ⟨.ref _, _, I2.laid (t' := s2.toks) (o := .lst xs.reverse) (fun b ob q => Heap.get?_push_of_some _ q) (Nat.le_refl _) ⟨by rw [List.length_reverse]; exact hz, _, 0, r.reverse, Heap.get?_push_size _ rfl⟩, rfl, q _ (I2.hok.fresh (Nat.le_refl _))⟩
  · obtain ⟨its, r, ht, hz⟩ := I2.tuple hx
    have len := r.length
    refine tail_any (ops := [.ref a, .ref sl]) ht.typeIs PyProof.Rows.slot_tuple_getitem.lookup (tup_rev ht hs b1 b2 b3 (by omega) ?_) (by with_unfolding_all rfl)
    exact ⟨.ref _, _, I2.laid (t' := s2.toks) (o := .tup xs.reverse) (fun b ob q => Heap.get?_push_of_some _ q) (Nat.le_refl _) ⟨by rw [List.length_reverse]; exact hz, _, r.reverse, IsTup.new _ _⟩, rfl, q _ (I2.hok.fresh (Nat.le_refl _))⟩
/-! over data -/
def kRevS (Φ : KD) : KD := fun x M => match x with
  | .tup ds => Φ (.tup ds.reverse) M
  | x => match lstF M x with | some ds => Φ (.lst ds.reverse) M | none => False
def wRevS (we : WE) : WE := fun ρ M Φ => we ρ M (kRevS Φ)
theorem ve_revS {X : Cx} {e : Expr} {we : WE} {k : Nat} {p1 p2 p3 pos : Pos} (he : VE X S₀ e we) : VE X S₀ (revE e k p1 p2 p3 pos) (wRevS we) := PE.imp (pe_revS he) fun σ H Q ⟨Hf, ρ, M, Φ, W, e, h, k⟩ => by
  refine ⟨Hf, ρ, M, _, W, e, h, fun x M1 v Hf1 H1 h1 W1 s1 i1 => ?_⟩
  unfold kRevS at h1
  split at h1
  · rename_i ds
    obtain ⟨p, xs, rfl, q1, q2⟩ := isD_tup.mp i1
    refine ⟨p, xs, rfl, .inr ⟨(q1.up W1.fro).sq, fun l hl => ?_⟩⟩
    obtain ⟨w, s, i⟩ := W1.newTup hl q2.rev
    exact k _ _ _ _ _ h1 w (s1.trans s) i
  · split at h1
    · rename_i ds e2
      obtain ⟨p, xs, rfl, q1, q2⟩ := lstF_some W1 i1 e2
      refine ⟨p, xs, rfl, .inl ⟨q1, fun l hl => ?_⟩⟩
      obtain ⟨w, s, i⟩ := W1.newLst hl q2.rev
      exact k _ _ _ _ _ h1 w (s1.trans s) i
    · exact h1.elim
section
variable {ρ : Sg} {M : Mem} {Φ : KD} {we : WE} {ds : List D}
theorem e_revS : wRevS we ρ M Φ = we ρ M (kRevS Φ) := rfl
theorem e_revST : kRevS Φ (.tup ds) M = Φ (.tup ds.reverse) M := rfl
theorem e_revSL : kRevS Φ (.lst ds) M = Φ (.lst ds.reverse) M := rfl
end
end VL

/-! zip of a tuple and a list; enumerate of a list or of a tuple: by the library's walks over iterators of any kind -/
namespace VL
variable {S₀ : W0}
open PySem PySem.Spec PyProof.Rows L2
/-- turns from a walk whose own cells are `own`; what is walked is told by the heap -/
theorem turn_gen {P : Program} {w : World} {K : PySem.W.Frag} {elts : List Expr} {kk : Nat} {tpos : Pos} {I : Addr} {wr own : List Addr} {n : Nat} {J : It} {Own : Nat → Heap → Prop}
    (hI : I ∈ own) (hwr : ∀ b ∈ wr, b ∈ own) (obj : ∀ i h, Own i h → ∀ b ∈ own, ∃ o, h.get? b = some o ∧ ∀ v, o.data ≠ .cell v)
    (keep : ∀ i h h', Own i h → (∀ b ∈ own, ∀ o, h.get? b = some o → h'.get? b = some o) → Own i h')
    (self : ∀ (A : Around) (i : Nat) (s : Shared) (Q : Value → Shared → Prop) (E : Value → Shared → Prop), Own i s.heap → Q (.ref I) s → wpAny (model P w) A (pyIter (.ref I)) Q E s)
    (src : ∀ (X : Cx), X.prog = P → X.w = w → X.K = K → X.calm = true → ∀ (i : Nat) (pins : List (Addr × Obj)) (s : Shared) (σ : St) (H : Hp), Inv X pins σ H s → Own i s.heap → J.go i H ∨ J.stop i H →
      ∃ (fp : List Addr) (Pt : Nat → Array Value → Prop) (St' : Nat → Heap → Prop) (Mid : Nat → Addr → Heap → Prop), WalksT P w X.A I fp wr n Pt St' Mid ∧ St' i s.heap ∧ (J.go i H → i < n ∧ (∀ h, St' (i + 1) h → Own (i + 1) h) ∧
        ∀ vals, Pt i vals → ∃ xs : List V, Vals xs vals.toList ∧ xs.length ≤ 2 ∧ ∀ T, H T = none → J.yld i H (.ref T) (upd H T (.tup xs))) ∧ (J.stop i H → i = n)) :
    Turn P w K (.Tuple elts kk tpos) J own I Own where
  mem := hI
  obj := obj
  keep := keep
  self := self
  item := fun X hP hw hK hc i pins s σ H E Iv hf st hg => by
    obtain ⟨fp, Pt, St', Mid, W, st0, hgo, _⟩ := src X hP hw hK hc i pins s σ H Iv st (.inl hg)
    obtain ⟨hlt, nxt, hv⟩ := hgo hg
    refine W.item i s _ E hlt st0 fun T vals h' tk hPt hT isT mid k1 => ⟨.ref T, rfl, W.go elts kk tpos i T _ _ E mid fun h'' st2 k2 => ?_⟩
    obtain ⟨xs, rv, hlen, hy⟩ := hv vals hPt
    have tup : IsTup h'' T vals.toList.toArray := by
      obtain ⟨o, e1, e2, m, e3⟩ := isT
      exact ⟨o, k2 T o (W.apart i T h' mid) e1, e2, m, by rw [e3]⟩
    have fit : xs.length ≤ sizeLine := Nat.le_trans hlen (by decide)
    have Iv1 : Inv X pins σ (upd H T (.tup xs)) { s with heap := h'', toks := tk } :=
      Iv.turnedNew (ch := wr) (fun b o hb q => k2 b o hb (k1 b o hb q)) (fun b hb => hf b (hwr b hb)) hT ⟨fit, vals.toList, rv, tup⟩
    refine ⟨.ref T, _, Iv1, rfl, hy T (Iv.hok.fresh hT), nxt _ st2, fun b hb => ?_⟩
    obtain ⟨o, ho, _⟩ := obj i s.heap st b hb
    rw [upd_ne (Nat.ne_of_lt (Nat.lt_of_lt_of_le (Heap.lt_size ho) hT))]
    exact (hf b hb).1
  done := fun X hP hw hK hc i pins s σ H E Iv hf st hg => by
    obtain ⟨fp, Pt, St', Mid, W, st0, _, hst⟩ := src X hP hw hK hc i pins s σ H Iv st (.inr hg)
    rw [hst hg] at st0
    exact W.done s _ E st0 fun h' tk k => ⟨rfl, Iv.turnedL (ch := wr) k fun b hb => hf b (hwr b hb)⟩
/-! a list or a tuple -/
def SqG (t : Bool) (K : PySem.W.Frag) (H : Hp) (a : Addr) (xs : List V) : Prop := match t with | true => SqT K H a xs | false => SqL K H a xs
def ItG (t : Bool) (h : Heap) (it a : Addr) (i : Nat) : Prop := match t with | true => h.IsTupleIter it a i | false => h.IsListIter it a i
def HsG (t : Bool) (h : Heap) (a : Addr) (items : Array Value) : Prop := match t with | true => h.IsTuple a items | false => h.IsList a items
def itO (t : Bool) (a : Addr) : Obj := { cls := .type (match t with | true => "tuple_iterator" | false => "list_iterator"), data := .fields #[.ref a, .int 0 0] }
theorem drawsG {prog : Program} {w : World} {A : Around} (hh : A.handled = none) (t : Bool) (it a : Addr) (ne : a ≠ it) (items : Array Value) :
    Draws prog w A it [it, a] items.size (fun i v => items[i]? = some v) (fun i h => ItG t h it a i ∧ HsG t h a items) := by
  cases t
  · exact Draws.list hh it a ne items
  · exact Draws.tuple hh it a ne items
theorem beginsG (t : Bool) (a : Addr) (items : Array Value) : Begins (.ref a) (itO t a) fun h => HsG t h a items := by
  cases t
  · exact begins_list a items
  · exact begins_tuple a items
theorem ItG.obj {t : Bool} {h : Heap} {it a : Addr} {i : Nat} (x : ItG t h it a i) : ∃ o, h.get? it = some o ∧ ∀ v, o.data ≠ .cell v := by
  cases t <;> (obtain ⟨o, e, _, d⟩ := x; exact ⟨o, e, fun v q => by rw [d] at q; cases q⟩)
theorem ItG.at {t : Bool} {h h' : Heap} {it a : Addr} {i : Nat} (x : ItG t h it a i) (k : ∀ o, h.get? it = some o → h'.get? it = some o) : ItG t h' it a i := by
  cases t <;> (obtain ⟨o, e, c, d⟩ := x; exact ⟨o, k _ e, c, d⟩)
theorem ItG.new {t : Bool} {h : Heap} {it a : Addr} (e : h.get? it = some (itO t a)) : ItG t h it a 0 := by
  cases t <;> exact ⟨_, e, rfl, rfl⟩
section
variable {X : Cx} {pins : List (Addr × Obj)} {σ : St} {H : Hp} {s : Shared} {t : Bool} {a : Addr} {xs ys : List V}
theorem seqG (Iv : Inv X pins σ H s) (h : SqG t X.K H a xs) : ∃ its : List Value, Vals xs its ∧ HsG t s.heap a its.toArray ∧ xs.length ≤ sizeLine := by
  cases t
  · obtain ⟨its, r, p, z⟩ := Iv.list h; exact ⟨its, r, p.isList, z⟩
  · obtain ⟨its, r, p, z⟩ := Iv.tuple h; exact ⟨its, r, p, z⟩
theorem seqG_inj (Iv : Inv X pins σ H s) (h : SqG t X.K H a xs) (h' : SqG t X.K H a ys) : xs = ys := by
  cases t
  · exact Iv.list_inj h h'
  · exact Iv.tuple_inj h h'
theorem HsG.lt {h : Heap} {its : Array Value} (x : HsG t h a its) : a < h.objs.size := by
  cases t
  · obtain ⟨o, e, _⟩ := x; exact Heap.lt_size e
  · obtain ⟨o, e, _⟩ := x; exact Heap.lt_size e
end
/-! zip of two, each a list or a tuple -/
/-- what stands at a and at b, as long as n1 and n2 -/
def ItZG (t u : Bool) (K : PySem.W.Frag) (a b : Addr) (n1 n2 : Nat) : It :=
  ⟨fun i H => ∃ (xs ys : List V), SqG t K H a xs ∧ SqG u K H b ys ∧ xs.length = n1 ∧ ys.length = n2 ∧ i < n1 ∧ i < n2,
    fun i H v H' => ∃ T x y, v = .ref T ∧ H T = none ∧ H' = upd H T (.tup [x, y]) ∧ (∀ xs, SqG t K H a xs → xs[i]? = some x) ∧ ∀ ys, SqG u K H b ys → ys[i]? = some y,
    fun i H => ∃ xs ys : List V, SqG t K H a xs ∧ SqG u K H b ys ∧ xs.length = n1 ∧ ys.length = n2 ∧ min n1 n2 ≤ i⟩
theorem turn_zipG {P : Program} {w : World} {K : PySem.W.Frag} {elts : List Expr} {kk : Nat} {tpos : Pos} {t u : Bool} {a b z TI TO i1 i2 : Addr} {n1 n2 : Nat} (S : ZipSep2 z TI TO i1 i2 [i1, a] [i2, b]) (h1 : a ≠ i1) (h2 : b ≠ i2) :
    Turn P w K (.Tuple elts kk tpos) (ItZG t u K a b n1 n2) [z, TI, TO, i1, i2] z
      (fun i h => i ≤ min n1 n2 ∧ IsZip h z TI TO .none ∧ IsTupOf2 h TI (.ref i1) (.ref i2) ∧ (∃ x y, IsTupOf2 h TO x y) ∧ ItG t h i1 a i ∧ ItG u h i2 b i) := by
  refine turn_gen (wr := [z, TO, i1, i2]) (n := min n1 n2) (by simp) (fun c hc => ?_) (fun i h st c hc => ?_) (fun i h h' st k => ?_) (fun A i s Q E st q => wpAny_pyIter_zip st.2.1 q) fun X hP hw hK hc i pins s σ H Iv st hg => ?_
  · simp only [List.mem_cons, List.not_mem_nil, or_false] at hc ⊢
    rcases hc with e | e | e | e <;> simp [e]
  · obtain ⟨_, hz, hTI, ⟨x, y, hTO⟩, it1, it2⟩ := st
    simp only [List.mem_cons, List.not_mem_nil, or_false] at hc
    rcases hc with e | e | e | e | e
    · rw [e]; exact ⟨_, hz, fun v q => nomatch q⟩
    · rw [e]; exact ⟨_, hTI, fun v q => nomatch q⟩
    · rw [e]; exact ⟨_, hTO, fun v q => nomatch q⟩
    · rw [e]; exact it1.obj
    · rw [e]; exact it2.obj
  · obtain ⟨hi, hz, hTI, ⟨x, y, hTO⟩, it1, it2⟩ := st
    exact ⟨hi, k z (by simp) _ hz, k TI (by simp) _ hTI, ⟨x, y, k TO (by simp) _ hTO⟩, it1.at fun o q => k i1 (by simp) o q, it2.at fun o q => k i2 (by simp) o q⟩
  · subst hP hw hK
    obtain ⟨hi, hz, hTI, hTO, it1, it2⟩ := st
    obtain ⟨xs, ys, hx, hy, l1, l2⟩ : ∃ (xs ys : List V), SqG t X.K H a xs ∧ SqG u X.K H b ys ∧ xs.length = n1 ∧ ys.length = n2 := by
      rcases hg with ⟨xs, ys, q1, q2, q3, q4, _⟩ | ⟨xs, ys, q1, q2, q3, q4, _⟩ <;> exact ⟨xs, ys, q1, q2, q3, q4⟩
    obtain ⟨its, rv, p, _⟩ := seqG Iv hx
    obtain ⟨its2, rv2, p2, _⟩ := seqG Iv hy
    have e1 := rv.length
    have e2 := rv2.length
    have hh : X.A.in1.handled = none := Iv.ok.hd hc
    have W := WalksT.zipD2 (prog := X.prog) (w := X.w) (A := X.A) S (drawsG hh t i1 a h1 its.toArray) (drawsG hh u i2 b h2 its2.toArray)
    rw [List.size_toArray, List.size_toArray, ← e1, ← e2, l1, l2] at W
    refine ⟨_, _, _, _, W, ⟨hz, hTI, hTO, ⟨it1, p⟩, it2, p2⟩, fun g => ?_, fun g => ?_⟩
    · obtain ⟨_, _, _, _, _, _, g1, g2⟩ := g
      refine ⟨by omega, fun h st => ⟨by omega, st.1, st.2.1, st.2.2.1, st.2.2.2.1.1, st.2.2.2.2.1⟩, fun vals ⟨x1, x2, q1, q2, ev⟩ => ?_⟩
      obtain ⟨v1, hu, ru⟩ := rv.get (i := i) (x := xs[i]'(by omega)) (List.getElem?_eq_getElem (by omega))
      obtain ⟨v2, hu2, ru2⟩ := rv2.get (i := i) (x := ys[i]'(by omega)) (List.getElem?_eq_getElem (by omega))
      have a1 : x1 = v1 := by simp only [List.getElem?_toArray] at q1; rw [hu] at q1; exact (Option.some.inj q1).symm
      have a2 : x2 = v2 := by simp only [List.getElem?_toArray] at q2; rw [hu2] at q2; exact (Option.some.inj q2).symm
      subst ev a1 a2
      exact ⟨[xs[i]'(by omega), ys[i]'(by omega)], .cons ru (.cons ru2 .nil), by simp, fun T hT => ⟨T, _, _, rfl, hT, rfl, fun l hl => by rw [seqG_inj Iv hl hx]; exact List.getElem?_eq_getElem (by omega), fun l hl => by rw [seqG_inj Iv hl hy]; exact List.getElem?_eq_getElem (by omega)⟩⟩
    · obtain ⟨_, _, _, _, _, _, g1⟩ := g
      omega
def iZipG (K : PySem.W.Frag) (ta : L2.TA) : TI := fun σ H R => ta σ H fun vs H1 => ∃ (t u : Bool) (a b : Addr) (xs ys : List V), vs = [.ref a, .ref b] ∧ SqG t K H1 a xs ∧ SqG u K H1 b ys ∧ R (ItZG t u K a b xs.length ys.length) H1
theorem pi_zipG {X : Cx} {e e2 : Expr} {ta : L2.TA} {p pos tpos : Pos} {elts : List Expr} {kk : Nat} (hg : Gl X "zip") (hm : X.mg "zip" = none) (ha : PA X [e, e2] ta)
    (hs : starEach [e, e2] X.env = (false, eval e X.env) :: starEach [e2] X.env := by rfl) (hpl : (backTo pos (starEach [e2] X.env)).any (·.1) = false := by rfl) :
    PI X (.Tuple elts kk tpos) (.Call (.Name "zip" p) [e, e2] [] pos) (iZipG X.K ta) := by
  refine ⟨fun pins s σ H R I h => Call_ (ld_blt I hg hm PyProof.Rows.boot_zip (PyProof.Rows.callWith_type1 (wpAny_mono (ha.run pos pins s σ H _ I h) (fun us s1 q => ?_) fun _ _ x => x) hs hpl))⟩
  obtain ⟨vs, H1, I1, r1, t, u, a, b, xs, ys, rfl, hx, hy, q⟩ := q
  obtain rfl : us = [.ref a, .ref b] := by
    cases r1 with
    | cons r rr =>
      cases r
      cases rr with
      | cons r' rr' => cases r'; cases rr'; rfl
  obtain ⟨its, rv, p1, _⟩ := seqG I1 hx
  obtain ⟨its2, rv2, p2, _⟩ := seqG I1 hy
  have la := p1.lt
  have lb := p2.lt
  have sep := zip_sep2 (N := s1.heap.objs.size) (fp1 := [a]) (fp2 := [b]) (fun c hc => by rw [List.mem_singleton.mp hc]; exact la) (fun c hc => by rw [List.mem_singleton.mp hc]; exact lb)
  have young : ∀ j, FpOk X pins H1 (s1.heap.objs.size + j) := fun j => I1.fpOk (Nat.le_add_right _ j) (I1.hok.fresh (Nat.le_add_right _ j))
  exact zip_begins2 (beginsG t a its.toArray) (beginsG u b its2.toArray) p1 p2 fun h' hz hTI hTO g1 g2 _ hk => wpAny_pyIter_zip hz
    ⟨_, _, _, _, _, rfl, I1.kept (t' := s1.toks) hk, turn_zipG sep (Nat.ne_of_lt la) (Nat.ne_of_lt (Nat.lt_succ_of_lt lb)), ⟨Nat.zero_le _, hz, hTI, ⟨_, _, hTO⟩, ItG.new g1, ItG.new g2⟩,
      List.forall_mem_cons.mpr ⟨young 4, List.forall_mem_cons.mpr ⟨young 2, List.forall_mem_cons.mpr ⟨young 3, List.forall_mem_cons.mpr ⟨young 0, List.forall_mem_cons.mpr ⟨young 1, fun _ h => nomatch h⟩⟩⟩⟩⟩, q⟩
/-! over data -/
theorem SqG.ex {t : Bool} {K : PySem.W.Frag} {H H' : Hp} {a : Addr} {xs : List V} (e : Ex H H') (h : SqG t K H a xs) : SqG t K H' a xs := by
  cases t
  · exact ex_l e h
  · exact ex_t e h
theorem wk_zipG {K : PySem.W.Frag} {Hf0 : Hp} {t u : Bool} {a b : Addr} {xs ys : List V} {ds es : List D} (h1 : SqG t K Hf0 a xs) (i1 : IsDs K Hf0 ds xs) (h2 : SqG u K Hf0 b ys) (i2 : IsDs K Hf0 es ys) : Wk K (ItZG t u K a b xs.length ys.length) (zipD ds es) Hf0 where
  go := fun j H hj e => by
    rw [zipD_len] at hj
    have l1 := i1.len
    have l2 := i2.len
    exact ⟨xs, ys, h1.ex e, h2.ex e, rfl, rfl, by omega, by omega⟩
  stop := fun j H hj e => by
    rw [zipD_len] at hj
    have l1 := i1.len
    have l2 := i2.len
    exact ⟨xs, ys, h1.ex e, h2.ex e, rfl, rfl, by omega⟩
  yld := fun j H x H' Hf d e1 e2 y hd => by
    obtain ⟨T, p, q, rfl, nT, rfl, y1, y2⟩ := y
    obtain ⟨dx, dy, g1, g2, rfl⟩ := zipD_at hd
    obtain ⟨p', q1, q2⟩ := i1.get g1
    obtain ⟨q', q3, q4⟩ := i2.get g2
    have a1 : p' = p := Option.some.inj (q1.symm.trans (y1 xs (h1.ex (e1.trans e2))))
    have a2 : q' = q := Option.some.inj (q3.symm.trans (y2 ys (h2.ex (e1.trans e2))))
    subst a1 a2
    have hf : Hf T = none := by
      cases e : Hf T with
      | none => rfl
      | some o => rw [e2 _ _ e] at nT; cases nT
    refine ⟨upd Hf T (.tup [p', q']), Ex.new hf, fun c o k => ?_, fun c o k => ?_, Ex.new nT, isD_tup.mpr ⟨T, _, rfl, .inl upd_same, isDs_cons (IsD.mono (e1.trans (Ex.new hf)) _ _ q2) (isDs_cons (IsD.mono (e1.trans (Ex.new hf)) _ _ q4) isDs_nil)⟩⟩
    · by_cases n : c = T
      · subst n; rw [upd_same] at k ⊢; exact k
      · rw [upd_ne n] at k ⊢; exact e2 _ _ k
    · by_cases n : c = T
      · subst n; exact .inr nT
      · rw [upd_ne n] at k; exact .inl k
def sqB : D → Option (List D)
  | .lst ds => some ds | .tup ds => some ds | _ => none
theorem sqB_some {K : PySem.W.Frag} {Hf : Hp} {d : D} {ds : List D} {v : V} (h : sqB d = some ds) (i : IsD K Hf d v) : ∃ (t : Bool) (a : Addr) (xs : List V), v = .ref a ∧ SqG t K Hf a xs ∧ IsDs K Hf ds xs := by
  unfold sqB at h
  split at h
  · cases h
    obtain ⟨a, xs, rfl, q1, q2⟩ := isD_lst.mp i
    exact ⟨false, a, xs, rfl, SqL.of q1, q2⟩
  · cases h
    obtain ⟨a, xs, rfl, q1, q2⟩ := isD_tup.mp i
    exact ⟨true, a, xs, rfl, q1.sq, q2⟩
  · cases h
def kZipG (Φ : List D → Mem → Prop) : List D → Mem → Prop := fun ds M => match ds with
  | [x, y] => match sqB x, sqB y with | some xs, some ys => Φ (zipD xs ys) M | _, _ => False
  | _ => False
def wiZipG (w : WA) : WI := fun ρ M Φ => w ρ M (kZipG Φ)
section
variable {X : Cx} {e e2 : Expr} {wa : WA} {p pos : Pos}
theorem vi_zipG {elts : List Expr} {kk : Nat} {tpos : Pos} (hg : Gl X "zip") (hm : X.mg "zip" = none) (ha : VA X S₀ [e, e2] wa) (hs : starEach [e, e2] X.env = (false, eval e X.env) :: starEach [e2] X.env := by rfl) (hpl : (backTo pos (starEach [e2] X.env)).any (·.1) = false := by rfl) :
    VI X S₀ (.Tuple elts kk tpos) (.Call (.Name "zip" p) [e, e2] [] pos) (wiZipG wa) :=
  PI.imp (pi_zipG hg hm ha hs hpl) fun σ H R ⟨Hf, ρ, M, Φ, W, e, h, k⟩ => by
    refine ⟨Hf, ρ, M, _, W, e, h, fun ds M1 vs Hf1 H1 h1 W1 s1 i1 => ?_⟩
    unfold kZipG at h1
    split at h1
    · rename_i x y
      split at h1
      · rename_i xs ys e1 e2
        obtain ⟨v, r, rfl, i2, i3⟩ := isDs_cons_inv i1
        obtain ⟨v2, r, rfl, i4, i5⟩ := isDs_cons_inv i3
        rw [isDs_nil_inv i5]
        obtain ⟨t, a, us, rfl, q1, q2⟩ := sqB_some e1 i2
        obtain ⟨u, b, ws, rfl, q3, q4⟩ := sqB_some e2 i4
        exact ⟨t, u, a, b, us, ws, rfl, q1.ex W1.fro, q3.ex W1.fro, k _ _ _ _ _ h1 W1 s1 (wk_zipG q1 q2 q3 q4)⟩
      · exact h1.elim
    · exact h1.elim
end
section
variable {ρ : Sg} {M : Mem} {wA : WA} {ΦA : List D → Mem → Prop} {ds es : List D}
theorem e_wiZipG : wiZipG wA ρ M ΦA = wA ρ M (kZipG ΦA) := rfl
theorem e_zipGLL : kZipG ΦA [.lst ds, .lst es] M = ΦA (zipD ds es) M := rfl
theorem e_zipGTL : kZipG ΦA [.tup ds, .lst es] M = ΦA (zipD ds es) M := rfl
end
end VL

/-! enumerate of a list or of a tuple -/
namespace VL
variable {S₀ : W0}
open PySem PySem.Spec PyProof.Rows L2
/-- the object of enumerate over the iterator at p -/
def enO (p : Addr) : Obj := { cls := .type "enumerate", data := .fields #[.none, .bool false, .ref p, rawInt 0, .none, .none] }
theorem en_class {prog : Program} {w : World} {A : Around} {E : Value → Shared → Prop} {s : Shared} {v : Value} :
    wpAny (model prog w) A (Builtin.SmallTypes.newClass "enumerate" ⟨[.type "enumerate", v], []⟩) (fun r s' => r = (.type "enumerate", [v]) ∧ s' = s) E s := by
  have hsub := sub_enumerate
  unfold Builtin.SmallTypes.newClass
  wp_walk
  exact ⟨rfl, rfl⟩
theorem en_thru {prog : Program} {w : World} {A : Around} {E : Value → Shared → Prop} {s : Shared} {c : Value} : wpAny (model prog w) A (Builtin.SmallTypes.calledThroughType c) (fun _ s' => s' = s) E s := by
  unfold Builtin.SmallTypes.calledThroughType
  exact wpAny_bind (wpAny_stack_any fun st => wpAny_pure rfl)
theorem en_new {v : Value} {o : Obj} {Hh : Heap → Prop} (B : Begins v o Hh) :
    Meets (Builtin.«enumerate.__new__» ⟨[.type "enumerate", v], []⟩) (fun _ R s => Hh s.heap ∧ R (.ok (.ret (.ref (s.heap.push o).objs.size))) { s with heap := (s.heap.push o).push (enO s.heap.objs.size) }) :=
  .of_wp fun prog w A R s ⟨h1, h⟩ => by
    have iter : ∀ {Q : Value → Shared → Prop} {E : Value → Shared → Prop}, Q (.ref s.heap.objs.size) { s with heap := s.heap.push o } → wpAny (model prog w) A.in1 (pyIter v) Q E s := fun q => B.iter prog w _ _ s _ h1 q
    unfold Builtin.«enumerate.__new__»
    refine wpAny_bind (wpAny_mono en_class (fun r s' hr => ?_) fun _ _ x => x)
    obtain ⟨rfl, rfl⟩ := hr
    show wpAny _ _ (if (Value.type "enumerate" == Value.type "enumerate") = true then _ else _) _ _ _
    rw [if_pos (by decide)]
    refine wpAny_bind (wpAny_mono en_thru (fun b s'' e => ?_) fun _ _ x => x)
    subst e
    have tail : wpAny (model prog w) A.in1 (do
        let it ← pyIter v
        let r ← Builtin.SmallTypes.newRecord (.type "enumerate") (Builtin.SmallTypes.ownedTupleFields ++ [it, rawInt 0, .none, .none])
        ret r) (fun fin s' => ∃ v, fin = Fin.done (Flow.ret v) ∧ R (Except.ok (Flow.ret v)) s') (fun e s' => R (Except.error e) s') s'' := by
      refine wpAny_bind (iter (wpAny_bind (m := Builtin.SmallTypes.newRecord _ _) ?_))
      show wpAny _ _ (newObj (.type "enumerate") (.fields #[.none, .bool false, .ref s''.heap.objs.size, rawInt 0, .none, .none])) _ _ _
      exact wpAny_newObj_type (wpAny_pure ⟨_, rfl, h⟩) (by show (6 : Nat) ≤ _; decide)
    cases b <;> exact tail
theorem call_en {prog : Program} {w : World} {A : Around} {E : Value → Shared → Prop} {s : Shared} {v : Value} {o : Obj} {Hh : Heap → Prop} {Q : Value → Shared → Prop} (B : Begins v o Hh) (h1 : Hh s.heap)
    (h : ∀ h', IsEnum h' (s.heap.objs.size + 1) s.heap.objs.size 0 .none → h'.get? s.heap.objs.size = some o → (∀ b u, s.heap.get? b = some u → h'.get? b = some u) → Q (.ref (s.heap.objs.size + 1)) { s with heap := h' }) :
    wpAny (model prog w) A (call (.type "enumerate") [v]) Q E s := by
  have sz : (s.heap.push o).objs.size = s.heap.objs.size + 1 := Heap.size_push ..
  have at1 : ((s.heap.push o).push (enO s.heap.objs.size)).get? (s.heap.objs.size + 1) = some (enO s.heap.objs.size) := by rw [← sz]; exact Heap.get?_push_size _ rfl
  refine callType_new F.called_enumerate (by decide) (F.typeCall_enumerate_1 _) (F.newCall_enumerate_1 _) (fun obj => F.args_object_init_2 obj _) F.entry_enumerate_new (en_new B) ⟨h1, ?_⟩
  show Shared.TypeIs _ _ _ ∧ _
  rw [sz]
  exact ⟨⟨_, at1, rfl⟩, h _ at1 (Heap.get?_push_of_some _ (Heap.get?_push_size _ B.free)) fun b u x => Heap.get?_push_of_some _ (Heap.get?_push_of_some _ x)⟩
/-- what stands at a, n long, each item behind its place -/
def ItEG (t : Bool) (K : PySem.W.Frag) (a : Addr) (n : Nat) : It :=
  ⟨fun i H => ∃ xs : List V, SqG t K H a xs ∧ xs.length = n ∧ i < n,
    fun i H v H' => ∃ T x, v = .ref T ∧ H T = none ∧ H' = upd H T (.tup [.int (i : Nat), x]) ∧ ∀ xs, SqG t K H a xs → xs[i]? = some x,
    fun i H => ∃ xs : List V, SqG t K H a xs ∧ xs.length = n ∧ n ≤ i⟩
theorem turn_enG {P : Program} {w : World} {K : PySem.W.Frag} {elts : List Expr} {kk : Nat} {tpos : Pos} {t : Bool} {a e it : Addr} {n : Nat} (h1 : a ≠ it) (h2 : e ≠ it) (h3 : e ≠ a) :
    Turn P w K (.Tuple elts kk tpos) (ItEG t K a n) [e, it] e (fun i h => i ≤ n ∧ (∃ old, IsEnum h e it ((i : Nat) : Int) old) ∧ ItG t h it a i) := by
  refine turn_gen (wr := [e, it]) (n := n) (by simp) (fun _ h => h) (fun i h st c hc => ?_) (fun i h h' st k => ?_) (fun A i s Q E st q => wpAny_pyIter_enum st.2.1.choose_spec q) fun X hP hw hK hc i pins s σ H Iv st hg => ?_
  · obtain ⟨_, ⟨old, he⟩, ti⟩ := st
    simp only [List.mem_cons, List.not_mem_nil, or_false] at hc
    rcases hc with q | q
    · rw [q]; exact ⟨_, he, fun v q => nomatch q⟩
    · rw [q]; exact ti.obj
  · obtain ⟨hi, ⟨old, he⟩, ti⟩ := st
    exact ⟨hi, ⟨old, k e (by simp) _ he⟩, ti.at fun o q => k it (by simp) o q⟩
  · subst hP hw hK
    obtain ⟨hi, ⟨old, he⟩, ti⟩ := st
    obtain ⟨xs, hx, l1⟩ : ∃ xs : List V, SqG t X.K H a xs ∧ xs.length = n := by
      rcases hg with ⟨xs, q1, q2, _⟩ | ⟨xs, q1, q2, _⟩ <;> exact ⟨xs, q1, q2⟩
    obtain ⟨its, rv, p, _⟩ := seqG Iv hx
    have e1 := rv.length
    have hh : X.A.in1.handled = none := Iv.ok.hd hc
    have W := WalksT.enumFrom (prog := X.prog) (w := X.w) (A := X.A) 0 (drawsG hh t it a h1 its.toArray) e h2 (by simp [h2, h3]) (by simp)
    rw [List.size_toArray, ← e1, l1] at W
    refine ⟨_, _, _, _, W, ⟨⟨old, by rw [Int.zero_add]; exact he⟩, ti, p⟩, fun g => ?_, fun g => ?_⟩
    · obtain ⟨_, _, _, g1⟩ := g
      refine ⟨g1, fun h st => ⟨g1, by rw [← Int.zero_add (((i + 1 : Nat)) : Int)]; exact st.1, st.2.1⟩, fun vals ⟨tk, x1, q1, ev⟩ => ?_⟩
      obtain ⟨v1, hu, ru⟩ := rv.get (i := i) (x := xs[i]'(by omega)) (List.getElem?_eq_getElem (by omega))
      have a1 : x1 = v1 := by simp only [List.getElem?_toArray] at q1; rw [hu] at q1; exact (Option.some.inj q1).symm
      subst ev a1
      exact ⟨[.int (i : Nat), xs[i]'(by omega)], .cons ⟨tk, by rw [Int.zero_add]⟩ (.cons ru .nil), by simp, fun T hT => ⟨T, _, rfl, hT, rfl, fun l hl => by rw [seqG_inj Iv hl hx]; exact List.getElem?_eq_getElem (by omega)⟩⟩
    · obtain ⟨_, _, _, g1⟩ := g
      omega
def iEnG (K : PySem.W.Frag) (ta : L2.TA) : TI := fun σ H R => ta σ H fun vs H1 => ∃ (t : Bool) (a : Addr) (xs : List V), vs = [.ref a] ∧ SqG t K H1 a xs ∧ R (ItEG t K a xs.length) H1
theorem pi_enG {X : Cx} {e : Expr} {ta : L2.TA} {p pos tpos : Pos} {elts : List Expr} {kk : Nat} (hg : Gl X "enumerate") (hm : X.mg "enumerate" = none) (ha : PA X [e] ta) (hs : starEach [e] X.env = [(false, eval e X.env)] := by rfl) :
    PI X (.Tuple elts kk tpos) (.Call (.Name "enumerate" p) [e] [] pos) (iEnG X.K ta) := by
  refine ⟨fun pins s σ H R I h => Call_ (ld_blt I hg hm PyProof.Rows.boot_enumerate (PyProof.Rows.callWith_type1 (wpAny_mono (ha.run pos pins s σ H _ I h) (fun us s1 q => ?_) fun _ _ x => x) hs rfl))⟩
  obtain ⟨vs, H1, I1, r1, t, a, xs, rfl, hx, q⟩ := q
  obtain rfl : us = [.ref a] := by
    cases r1 with
    | cons r rr => cases r; cases rr; rfl
  obtain ⟨its, rv, p1, _⟩ := seqG I1 hx
  have la := p1.lt
  have young : ∀ j, FpOk X pins H1 (s1.heap.objs.size + j) := fun j => I1.fpOk (Nat.le_add_right _ j) (I1.hok.fresh (Nat.le_add_right _ j))
  exact call_en (beginsG t a its.toArray) p1 fun h' he g1 hk => wpAny_pyIter_enum he
    ⟨_, _, _, _, _, rfl, I1.kept (t' := s1.toks) hk, turn_enG (Nat.ne_of_lt la) (Nat.succ_ne_self _) (Nat.ne_of_gt (Nat.lt_succ_of_lt la)), ⟨Nat.zero_le _, ⟨.none, he⟩, ItG.new g1⟩,
      List.forall_mem_cons.mpr ⟨young 1, List.forall_mem_cons.mpr ⟨young 0, fun _ h => nomatch h⟩⟩, q⟩
/-! over data -/
def enumD (ds : List D) : List D := zipD (rgD 0 ds.length) ds
theorem wk_enG {K : PySem.W.Frag} {Hf0 : Hp} {t : Bool} {a : Addr} {xs : List V} {ds : List D} (h1 : SqG t K Hf0 a xs) (i1 : IsDs K Hf0 ds xs) : Wk K (ItEG t K a xs.length) (enumD ds) Hf0 where
  go := fun j H hj e => by
    unfold enumD at hj
    rw [zipD_len, rgD_len] at hj
    have l1 := i1.len
    exact ⟨xs, h1.ex e, rfl, by omega⟩
  stop := fun j H hj e => by
    unfold enumD at hj
    rw [zipD_len, rgD_len] at hj
    have l1 := i1.len
    exact ⟨xs, h1.ex e, rfl, by omega⟩
  yld := fun j H x H' Hf d e1 e2 y hd => by
    obtain ⟨T, q, rfl, nT, rfl, y2⟩ := y
    obtain ⟨dx, dy, g1, g2, rfl⟩ := zipD_at hd
    obtain ⟨_, rfl⟩ := rgD_at g1
    obtain ⟨q', q3, q4⟩ := i1.get g2
    have a2 : q' = q := Option.some.inj (q3.symm.trans (y2 xs (h1.ex (e1.trans e2))))
    subst a2
    have hf : Hf T = none := by
      cases e : Hf T with
      | none => rfl
      | some o => rw [e2 _ _ e] at nT; cases nT
    refine ⟨upd Hf T (.tup [.int (j : Nat), q']), Ex.new hf, fun c o k => ?_, fun c o k => ?_, Ex.new nT, isD_tup.mpr ⟨T, _, rfl, .inl upd_same, isDs_cons (isD_int.mpr (by rw [Int.zero_add])) (isDs_cons (IsD.mono (e1.trans (Ex.new hf)) _ _ q4) isDs_nil)⟩⟩
    · by_cases n : c = T
      · subst n; rw [upd_same] at k ⊢; exact k
      · rw [upd_ne n] at k ⊢; exact e2 _ _ k
    · by_cases n : c = T
      · subst n; exact .inr nT
      · rw [upd_ne n] at k; exact .inl k
def kEnum (Φ : List D → Mem → Prop) : List D → Mem → Prop := fun ds M => match ds with
  | [x] => match sqB x with | some xs => Φ (enumD xs) M | none => False
  | _ => False
def wiEnum (w : WA) : WI := fun ρ M Φ => w ρ M (kEnum Φ)
section
variable {X : Cx} {e : Expr} {wa : WA} {p pos : Pos}
theorem vi_enum {elts : List Expr} {kk : Nat} {tpos : Pos} (hg : Gl X "enumerate") (hm : X.mg "enumerate" = none) (ha : VA X S₀ [e] wa) (hs : starEach [e] X.env = [(false, eval e X.env)] := by rfl) :
    VI X S₀ (.Tuple elts kk tpos) (.Call (.Name "enumerate" p) [e] [] pos) (wiEnum wa) :=
  PI.imp (pi_enG hg hm ha hs) fun σ H R ⟨Hf, ρ, M, Φ, W, e, h, k⟩ => by
    refine ⟨Hf, ρ, M, _, W, e, h, fun ds M1 vs Hf1 H1 h1 W1 s1 i1 => ?_⟩
    unfold kEnum at h1
    split at h1
    · rename_i x
      split at h1
      · rename_i xs e1
        obtain ⟨v, r, rfl, i2, i3⟩ := isDs_cons_inv i1
        rw [isDs_nil_inv i3]
        obtain ⟨t, a, us, rfl, q1, q2⟩ := sqB_some e1 i2
        exact ⟨t, a, us, rfl, q1.ex W1.fro, k _ _ _ _ _ h1 W1 s1 (wk_enG q1 q2)⟩
      · exact h1.elim
    · exact h1.elim
end
section
variable {ρ : Sg} {M : Mem} {wA : WA} {ΦA : List D → Mem → Prop} {ds : List D}
theorem e_wiEnum : wiEnum wA ρ M ΦA = wA ρ M (kEnum ΦA) := rfl
theorem e_enumL : kEnum ΦA [.lst ds] M = ΦA (enumD ds) M := rfl
theorem e_enumT : kEnum ΦA [.tup ds] M = ΦA (enumD ds) M := rfl
end
end VL

/-! tuples of whole numbers whose object is known (no dict): tuple(list), index -/
namespace VL
variable {S₀ : W0}
open PySem PySem.Spec PyProof.Rows L2
/-- any tuple of this kind is a tuple -/
def upD : D → D
  | .tn ns => .tup (ns.map D.int)
  | d => d
def wUp (we : WE) : WE := fun ρ M Φ => we ρ M fun d M' => Φ (upD d) M'
theorem isD_up {K : PySem.W.Frag} {Hf : Hp} {d : D} {v : V} (h : IsD K Hf d v) : IsD K Hf (upD d) v := by
  cases d with
  | tn ns => exact isD_tn_tup h
  | _ => exact h
section
variable {X : Cx} {e : Expr} {we : WE} {wa : WA}
theorem ve_up (h : VE X S₀ e we) : VE X S₀ e (wUp we) := PE.imp h fun σ H Q ⟨Hf, ρ, M, Φ, W, en, g, k⟩ =>
  ⟨Hf, ρ, M, _, W, en, g, fun d M' v Hf' H' p W' s i => k _ _ _ _ _ p W' s (isD_up i)⟩
/-- tuple(xs) of a list of whole numbers -/
def rTupN (K : PySem.W.Frag) : List V → Hp → VK → Prop := fun xs H Q => ∃ (p : Addr) (ns : List Int), xs = [.ref p] ∧ SqL K H p (ns.map V.int) ∧
  ∀ (l : Addr) (o : Obj), H l = none → o.cls = .type "tuple" → o.dict = none → Q (.ref l) (upd H l (.frz o (.tup (ns.map V.int))))
theorem call_tupN : CallR X (.type "tuple") (rTupN X.K) := fun pins s σ H xs us Q I r ⟨p, ns, hxs, hl, q⟩ => by
  subst hxs
  obtain ⟨u, rfl, hu⟩ := vals1 r
  obtain rfl : u = Value.ref p := hu
  obtain ⟨its, vals, plain, size⟩ := I.list hl
  have small : its.length ≤ sizeLine := by rw [← vals.length]; exact size
  refine call_tuple_list plain.isList (fun h' keeps => ?_) (by simpa using small)
  let o : Obj := { cls := .type "tuple", data := .seq its.toArray }
  have J := (I.kept (t' := s.toks) keeps).laid (o := .frz o (.tup (ns.map V.int))) (t' := s.toks) (h' := h'.push o) (fun _ _ z => Heap.get?_push_of_some _ z) (Nat.le_refl _)
    ⟨Heap.get?_push_size _ rfl, size, its, vals, IsTup.new _ _⟩
  exact ⟨.ref h'.objs.size, _, J, rfl, q _ o ((I.kept (t' := s.toks) keeps).hok.fresh (Nat.le_refl _)) rfl rfl⟩
def wrTupN : WC := fun ds M Φ => match (one ds).bind (lstF M) with
  | some es => match intsD es with | some ns => Φ (.tn ns) M | none => False
  | none => False
theorem lk_tupN {K : PySem.W.Frag} : LkC K (rTupN K) wrTupN := by
  intro S₀ Hf M H ds vs Φ Q W i h k
  unfold wrTupN at h
  cases e1 : one ds with
  | none => rw [e1] at h; exact h.elim
  | some x =>
    obtain ⟨v, rfl, ix⟩ := one_some i e1
    rw [e1, Option.bind_some] at h
    cases e2 : lstF M x with
    | none => rw [e2] at h; exact h.elim
    | some es =>
      rw [e2] at h
      cases e3 : intsD es with
      | none => simp only [e3] at h
      | some ns =>
        simp only [e3] at h
        obtain ⟨a, xs, rfl, hl, is⟩ := lstF_some W ix e2
        rw [intsD_eq e3] at is
        rw [is.ints] at hl
        refine ⟨a, ns, rfl, hl, fun l o hn hc hd => ?_⟩
        obtain ⟨w, st⟩ := W.newF (o := .frz o (.tup (ns.map V.int))) hn
        exact k _ _ _ _ _ h w st (isD_tn.mpr ⟨l, o, rfl, upd_same, hc, hd⟩)
theorem ve_tupN {p pos : Pos} (hg : Gl X "tuple") (hm : X.mg "tuple" = none) (ha : VA X S₀ [e] wa) (he : starEach [e] X.env = (false, eval e X.env) :: starEach [] X.env := by rfl) : VE X S₀ (.Call (.Name "tuple" p) [e] [] pos) (wCB wrTupN wa) :=
  ve_callTy call_tupN lk_tupN hg hm (by decide +kernel) ha (he := he)
/-! index -/
/-- x.index(y): x a tuple whose object is known -/
def tIdx (to : TE) (t : L2.TA) : TE := fun σ H Q => to σ H fun x H1 => ∃ (p : Addr) (ob : Obj) (ns : List Int), x = .ref p ∧ H1 p = some (.frz ob (.tup (ns.map V.int))) ∧ ob.cls = .type "tuple" ∧ ob.dict = none ∧
  t σ H1 fun ys H2 => H2 p = some (.frz ob (.tup (ns.map V.int))) ∧ ∃ y : Int, ys = [.int y] ∧ y ∈ ns ∧ Q (.int (ns.idxOf y : Nat)) H2
theorem pe_idx {o : Expr} {to : TE} {t : L2.TA} {apos cpos : Pos} (ho : PE X o to) (ha : PA X [e] t) (hbase : attributeBase o "index" X.env (eval o X.env) = eval o X.env) (hline : (apos.endLine == cpos.line) = true)
    (htrees : backTo cpos (starEach [e] X.env) = [(false, eval e X.env)]) : PE X (.Call (.Attribute o "index" apos) [e] [] cpos) (tIdx to t) := by
  constructor
  intro pins s σ H Q I h
  refine wpAny_Call_method1_late hbase hline htrees (thn (ho.run pins s σ H _ I h) fun v s1 ⟨x, H1, I1, rx, p, ob, ns, ex, hp, hc, hd, q1⟩ => ?_)
  subst ex
  obtain rfl : v = Value.ref p := rx
  have at1 : s1.heap.get? p = some ob := (I1.hok p _ hp).1
  refine ⟨"tuple", "tuple.index", PySem.F.plainAttrs_tuple, PySem.F.slot_tuple_index, PySem.F.type_tuple_index, ⟨ob, at1, hc⟩, fun a ea => by cases ea; exact ⟨ob, at1, hd⟩, ?_⟩
  refine Calls.callWith_builtin rfl (Calls.evalArgs_plain ?_)
  have run := ha.run cpos pins s1 σ H1 _ I1 q1
  rw [htrees] at run
  refine thn run fun us s2 ⟨ys, H2, I2, ru, hp2, y, ey, hy, q2⟩ => ?_
  subst ey
  obtain ⟨u, rfl, t, rfl⟩ := vals1 ru
  obtain ⟨its, vals, tup, _⟩ := I2.tuple (.inl (.inr ⟨ob, hp2⟩))
  refine PySem.SeqAt.tuple_index_ints (ns := ns) tup (intsAre_of vals) hy ?_
  exact ⟨.int (ns.idxOf y : Nat), H2, I2.tok _, ⟨_, rfl⟩, q2⟩
end
def kIdx (ns : List Int) (Φ : KD) : List D → Mem → Prop := fun ds M => match ds with
  | [.int y] => y ∈ ns ∧ Φ (.int (ns.idxOf y : Nat)) M
  | _ => False
/-- x.index(y): a list, or a tuple whose object is known -/
def wIdx (i : Nat) (wa : WA) : WE := fun ρ M Φ => match at_ ρ i with
  | some (.tn ns) => wa ρ M (kIdx ns Φ)
  | _ => wBM wrIndex (wVar i) wa ρ M Φ
section
variable {X : Cx} {e : Expr} {wa : WA}
theorem ve_idx (i : Nat) {x : Str} {p apos cpos : Pos} (ha : VA X S₀ [e] wa) (hN : X.N[i]? = some x := by rfl) (hv : Vis X.env.scope x := by first | exact Or.inl rfl | exact Or.inr (Or.inl rfl) | exact Or.inr (Or.inr rfl))
    (hd : (x == ("__debug__" : Str)) = false := by decide) (hcd : (x == ("__classdict__" : Str)) = false := by decide)
    (hbase : attributeBase (.Name x p) "index" X.env (eval (.Name x p) X.env) = eval (.Name x p) X.env := by rfl)
    (hfew : ((backTo cpos (starEach [e] X.env)).all (fun x => !x.1) && (backToKw cpos (keywordEach [] X.env)).all (fun x => x.1.isSome)
      && decide (([e] : List Expr).length + ([] : List Keyword).length + (if ([] : List Keyword).isEmpty then 0 else 1) < 30)) = true := by rfl)
    (hline : (apos.endLine == cpos.line) = true := by rfl) (hs : starEach [e] X.env = (false, eval e X.env) :: starEach [] X.env := by rfl) (htrees : backTo cpos (starEach [e] X.env) = [(false, eval e X.env)] := by rfl) :
    VE X S₀ (.Call (.Attribute (.Name x p) "index" apos) [e] [] cpos) (wIdx i wa) := by
  constructor
  rintro pins s σ H Q I ⟨Hf, ρ, M, Φ, W, en, g, k⟩
  unfold wIdx at g
  split at g
  · rename_i ns hat
    obtain ⟨v, hσ, hv2⟩ := en.at hat
    obtain ⟨a, ob, rfl, hob, hc, hdn⟩ := isD_tn.mp hv2
    refine (pe_idx (pe_var (pos := p) hN hv hd hcd) ha hbase hline htrees).run pins s σ H Q I ⟨.ref a, hσ, a, ob, ns, rfl, W.fro _ _ hob, hc, hdn, ?_⟩
    refine ⟨Hf, ρ, M, _, W, en, g, fun ds M1 vs Hf1 H1 h1 W1 s1 i1 => ⟨W1.fro _ _ (s1.ex _ _ hob), ?_⟩⟩
    unfold kIdx at h1
    split at h1
    · rename_i y
      obtain ⟨u, r, rfl, g1, g2⟩ := isDs_cons_inv i1
      rw [isDs_nil_inv g2, isD_int.mp g1]
      exact ⟨y, rfl, h1.1, k _ _ _ _ _ h1.2 W1 s1 (isD_int.mpr rfl)⟩
    · exact h1.elim
  · exact (ve_index (S₀ := S₀) (ve_var i hN hv hd hcd) ha hbase hfew hline hs).run pins s σ H Q I ⟨Hf, ρ, M, Φ, W, en, g, k⟩
end
section
variable {ρ : Sg} {M : Mem} {Φ : KD} {we : WE} {wa : WA} {ns : List Int} {ds : List D} {i : Nat}
theorem e_up : wUp we ρ M Φ = we ρ M fun d M' => Φ (upD d) M' := rfl
theorem e_upTn : upD (.tn ns) = .tup (ns.map D.int) := rfl
theorem e_upT : upD (.tup ds) = .tup ds := rfl
theorem e_upL : upD (.lst ds) = .lst ds := rfl
theorem e_tupNL : wrTupN [.lst (ns.map D.int)] M Φ = Φ (.tn ns) M := by simp only [wrTupN, one, Option.bind, lstF, intsD_map]
theorem e_idxT (h : at_ ρ i = some (.tn ns)) : wIdx i wa ρ M Φ = wa ρ M (kIdx ns Φ) := by unfold wIdx; simp only [h]
theorem e_idxL (h : at_ ρ i = some (.lst ds)) : wIdx i wa ρ M Φ = wBM wrIndex (wVar i) wa ρ M Φ := by unfold wIdx; simp only [h]
theorem e_kIdx {y : Int} : kIdx ns Φ [.int y] M = (y ∈ ns ∧ Φ (.int (ns.idxOf y : Nat)) M) := rfl
end
end VL

/-! tuples of whole numbers whose object is known: sums, displays, lists of them -/
namespace VL
variable {S₀ : W0}
open PySem PySem.Spec PyProof.Rows L2
def tnI : D → Option (List Int)
  | .tn ns => some ns
  | .tup ds => intsD ds
  | _ => none
theorem tnI_at {K : PySem.W.Frag} {Hf : Hp} {d : D} {v : V} {ns : List Int} (h : IsD K Hf d v) (e : tnI d = some ns) : ∃ a, v = .ref a ∧ TupAt K Hf a (ns.map V.int) := by
  cases d with
  | tn ms =>
    obtain rfl : ms = ns := Option.some.inj e
    obtain ⟨a, o, hv, hf, _, _⟩ := isD_tn.mp h
    exact ⟨a, hv, .inr (.inl ⟨o, ms, hf, rfl⟩)⟩
  | tup ds =>
    have e : intsD ds = some ns := e
    obtain ⟨a, xs, hv, ht, hi⟩ := isD_tup.mp h
    rw [intsD_eq e] at hi
    rw [hi.ints] at ht
    exact ⟨a, hv, ht⟩
  | _ => cases e
/-- t + u of whole numbers: a new tuple where neither is empty, else the other one -/
def rPlusN (K : PySem.W.Frag) : R2 := fun x y H Q => ∃ (a b : Addr) (ns ms : List Int), x = .ref a ∧ y = .ref b ∧ SqT K H a (ns.map V.int) ∧ SqT K H b (ms.map V.int) ∧ ns.length + ms.length ≤ sizeLine ∧
  (ns = [] → Q (.ref b) H) ∧ (ns ≠ [] → ms = [] → Q (.ref a) H) ∧
  (ns ≠ [] → ms ≠ [] → ∀ (p : Addr) (o : Obj), H p = none → o.cls = .type "tuple" → o.dict = none → Q (.ref p) (upd H p (.frz o (.tup ((ns ++ ms).map V.int)))))
theorem op_plusN {X : Cx} : OpR X (binaryOp .Add) (rPlusN X.K) := fun pins s σ H x y v u Q I rx ry ⟨a, b, ns, ms, ex, ey, hta, htb, hz, q0, q1, q2⟩ => by
  subst ex ey
  obtain rfl : v = Value.ref a := rx
  obtain rfl : u = Value.ref b := ry
  obtain ⟨w1, va1, pl1, sz1⟩ := I.tuple hta
  obtain ⟨w2, va2, pl2, sz2⟩ := I.tuple htb
  have l1 : w1.length = ns.length := by rw [← va1.length, List.length_map]
  have l2 : w2.length = ms.length := by rw [← va2.length, List.length_map]
  by_cases hn : ns = []
  · have hw : w1 = [] := List.eq_nil_of_length_eq_zero (by rw [l1, hn]; rfl)
    rw [hw] at pl1
    exact cat_tup0 pl1 pl2 ⟨.ref b, H, I, rfl, q0 hn⟩
  · have hw : w1 ≠ [] := fun z => hn (List.eq_nil_of_length_eq_zero (by rw [← l1, z]; rfl))
    refine HT.cat_tup pl1 pl2 hw (fun z => ?_) (fun z => ?_) (by omega)
    · exact ⟨.ref a, H, I, rfl, q1 hn (List.eq_nil_of_length_eq_zero (by rw [← l2, z]; rfl))⟩
    · have hm : ms ≠ [] := fun z2 => z (List.eq_nil_of_length_eq_zero (by rw [l2, z2]; rfl))
      let o : Obj := { cls := .type "tuple", data := .seq (w1 ++ w2).toArray }
      have va : Vals ((ns ++ ms).map V.int) (w1 ++ w2) := by rw [List.map_append]; exact va1.append va2
      have J := I.laid (o := .frz o (.tup ((ns ++ ms).map V.int))) (t' := s.toks) (h' := s.heap.push o) (fun _ _ z => Heap.get?_push_of_some _ z) (Nat.le_refl _)
        ⟨Heap.get?_push_size _ rfl, by rw [List.length_map, List.length_append]; exact hz, w1 ++ w2, va, IsTup.new _ _⟩
      exact ⟨.ref s.heap.objs.size, _, J, rfl, q2 hn hm _ o (I.hok.fresh (Nat.le_refl _)) rfl rfl⟩
def wrAddN : WR := fun x y M Φ => match tnI x, tnI y with
  | some ns, some ms => ns.length + ms.length ≤ lim ∧ (ns = [] → Φ y M) ∧ (ns ≠ [] → ms = [] → Φ x M) ∧ (ns ≠ [] → ms ≠ [] → Φ (.tn (ns ++ ms)) M)
  | _, _ => False
theorem lk_addN {K : PySem.W.Frag} : LkR K (rPlusN K) wrAddN := by
  intro S₀ Hf M H x y v u Φ Q W ix iy h k
  unfold wrAddN at h
  split at h
  · rename_i ns ms e1 e2
    obtain ⟨a, rfl, ha⟩ := tnI_at ix e1
    obtain ⟨b, rfl, hb⟩ := tnI_at iy e2
    obtain ⟨hl, h0, h1, h2⟩ := h
    refine ⟨a, b, ns, ms, rfl, rfl, (ha.up W.fro).sq, (hb.up W.fro).sq, lim_ok hl, fun z => k.go W (h0 z) iy, fun z z2 => k.go W (h1 z z2) ix, fun z z2 p o hn hc hd => ?_⟩
    obtain ⟨w, st⟩ := W.newF (o := .frz o (.tup ((ns ++ ms).map V.int))) hn
    exact k _ _ _ _ _ (h2 z z2) w st (isD_tn.mpr ⟨p, o, rfl, upd_same, hc, hd⟩)
  · exact h.elim
/-- (x, ..) of whole numbers -/
def tTupN (t : L2.TA) : TE := fun σ H Q => t σ H fun xs H1 => xs.length ≤ sizeLine ∧ ∃ ns : List Int, xs = ns.map V.int ∧
  ∀ (p : Addr) (o : Obj), H1 p = none → o.cls = .type "tuple" → o.dict = none → Q (.ref p) (upd H1 p (.frz o (.tup (ns.map V.int))))
section
variable {X : Cx} {a b e : Expr} {es : List Expr} {wa wb we : WE} {wA : WA} {pos : Pos}
theorem pe_tupN {x1} {t : L2.TA} (ht : PA X es t) : PE X (.Tuple es x1 pos) (tTupN t) := by
  constructor
  intro pins s σ H Q I hq
  refine wpAny_Tuple_spliced (thn (ht.run pos pins s σ H _ I hq) fun us s1 ⟨xs, H1, I1, ru, hz, ns, exs, q⟩ => ⟨by rw [← ru.length]; exact hz, ?_⟩)
  subst exs
  let o : Obj := { cls := .type "tuple", data := .seq us.toArray }
  have J := I1.laid (o := .frz o (.tup (ns.map V.int))) (t' := s1.toks) (h' := s1.heap.push o) (fun _ _ z => Heap.get?_push_of_some _ z) (Nat.le_refl _) ⟨Heap.get?_push_size _ rfl, hz, us, ru, IsTup.new _ _⟩
  exact ⟨.ref s1.heap.objs.size, _, J, rfl, q _ o (I1.hok.fresh (Nat.le_refl _)) rfl rfl⟩
def kTupN (Φ : KD) : List D → Mem → Prop := fun ds M => ds.length ≤ lim ∧ ∃ ns, intsD ds = some ns ∧ Φ (.tn ns) M
def wTupN (wa : WA) : WE := fun ρ M Φ => wa ρ M (kTupN Φ)
theorem ve_tupDN {x1} (h : VA X S₀ es wA) : VE X S₀ (.Tuple es x1 pos) (wTupN wA) := PE.imp (pe_tupN h) fun σ H Q ⟨Hf, ρ, M, Φ, W, e, h, k⟩ => by
  refine ⟨Hf, ρ, M, _, W, e, h, fun xs M1 vs Hf1 H1 h1 W1 s1 i1 => ?_⟩
  obtain ⟨hl, ns, en, hq⟩ := h1
  rw [intsD_eq en] at i1
  have hv := i1.ints
  refine ⟨by rw [hv, List.length_map]; rw [intsD_eq en, List.length_map] at hl; exact lim_ok hl, ns, hv, fun p o hn hc hd => ?_⟩
  obtain ⟨w, st⟩ := W1.newF (o := .frz o (.tup (ns.map V.int))) hn
  exact k _ _ _ _ _ hq w (s1.trans st) (isD_tn.mpr ⟨p, o, rfl, upd_same, hc, hd⟩)
theorem ve_addN (ha : VE X S₀ a wa) (hb : VE X S₀ b wb) : VE X S₀ (.BinOp a .Add b pos) (wOp wrAddN wa wb) := ve_op op_plusN lk_addN ha hb
/-- a list of such tuples as a list of tuples -/
def upL : D → D
  | .lst ds => .lst (ds.map upD)
  | .fz ds => .fz (ds.map upD)
  | d => upD d
theorem isDs_up {K : PySem.W.Frag} {Hf : Hp} : ∀ {ds : List D} {vs : List V}, IsDs K Hf ds vs → IsDs K Hf (ds.map upD) vs
  | [], vs, h => by rw [isDs_nil_inv h]; exact isDs_nil
  | d :: ds, vs, h => by
    obtain ⟨v, r, rfl, h1, h2⟩ := isDs_cons_inv h
    exact isDs_cons (isD_up h1) (isDs_up h2)
theorem isD_upL {K : PySem.W.Frag} {Hf : Hp} {d : D} {v : V} (h : IsD K Hf d v) : IsD K Hf (upL d) v := by
  cases d with
  | lst ds =>
    obtain ⟨a, xs, hv, hf, hi⟩ := isD_lst.mp h
    exact isD_lst.mpr ⟨a, xs, hv, hf, isDs_up hi⟩
  | fz ds =>
    obtain ⟨a, xs, hv, hf, hi⟩ := isD_fz.mp h
    exact isD_fz.mpr ⟨a, xs, hv, hf, isDs_up hi⟩
  | _ => exact isD_up h
def wUpL (we : WE) : WE := fun ρ M Φ => we ρ M fun d M' => Φ (upL d) M'
theorem ve_upL (h : VE X S₀ e we) : VE X S₀ e (wUpL we) := PE.imp h fun σ H Q ⟨Hf, ρ, M, Φ, W, en, g, k⟩ =>
  ⟨Hf, ρ, M, _, W, en, g, fun d M' v Hf' H' p W' s i => k _ _ _ _ _ p W' s (isD_upL i)⟩
end
section
variable {ρ : Sg} {M : Mem} {Φ : KD} {we : WE} {wa : WA} {ns ms : List Int}
theorem e_wupL : wUpL we ρ M Φ = we ρ M fun d M' => Φ (upL d) M' := rfl
theorem e_tupDN : wTupN wa ρ M Φ = wa ρ M (kTupN Φ) := rfl
theorem intsD_ints : intsD (ns.map D.int) = some ns := intsD_map ..
theorem tnI_tup : tnI (.tup (ns.map D.int)) = some ns := intsD_ints
theorem tnI_tn : tnI (.tn ns) = some ns := rfl
theorem addN_go {x y : D} (h1 : tnI x = some ns) (h2 : tnI y = some ms) (hl : ns.length + ms.length ≤ lim) (k0 : ns = [] → Φ y M) (k1 : ns ≠ [] → ms = [] → Φ x M) (k2 : ns ≠ [] → ms ≠ [] → Φ (.tn (ns ++ ms)) M) : wrAddN x y M Φ := by
  unfold wrAddN
  simp only [h1, h2]
  exact ⟨hl, k0, k1, k2⟩
end
end VL

/-! shape: the tuple's object is known -/
namespace VL
open PySem PySem.Spec PyProof.Rows L2 Tm
def W_l_shapeN : W3 := fun ds M Φ => ∃ A t, ds = [.ref (TA.m A)] ∧ ShAt M A t ∧ (t.bst ∧ t.size ≤ 100000) ∧ ∀ M', Kept M M' → Φ (.tn t.pre) M'
theorem e_tupNR {a : Addr} {M : Mem} {Φ : KD} {ns : List Int} (h : M a = some (.lst (ns.map D.int))) : wrTupN [.ref a] M Φ = Φ (.tn ns) M := by simp only [wrTupN, one, Option.bind, lstF, h, intsD_map]
def w_l_shapeN : WS := (sSeq (sPar 1 2 (wCons (wLstM wNil) (wCons (wIfE (wTest (wOp wrNotN (wOp wrIx (wVar 0) (wC (.str "root"))) (wC .non))) (wLstM (wCons (wOp wrIx (wVar 0) (wC (.str "root"))) wNil)) (wLstM wNil)) wNil)))
  (sSeq (sWhile (wTest (wOp wrNe (wVar 2) (wLst wNil))) (sSeq (sAsg (wBM wrPop (wVar 2) wNil) (wgName 3))
  (sSeq (sDrop (wBM wrAppend (wVar 1) (wCons (wVar 3) wNil)))
  (sAsg (wOp wrAddM (wVar 2) (wLc (wiSeq (wTup (wCons (wOp wrIx (wVar 0) (wC (.str "right"))) (wCons (wOp wrIx (wVar 0) (wC (.str "left"))) wNil)))) (wgName 4) (wTest (wOp (wrIn false) (wVar 3) (wVar 4))) (wOp wrIx (wVar 4) (wVar 3)) [4])) (wgName 2)))))
  (sRet (wCB wrTupN (wCons (wVar 1) wNil)))))
theorem r_l_shapeN : ∀ ds M Φ, W_l_shapeN ds M Φ → w_l_shapeN (endsD Φ) (startD 5 ds) M := by
  intro ds M Φ ⟨A, t, eds, S, ⟨hb, hz⟩, k⟩
  subst eds
  unfold w_l_shapeN
  rw [start_1]
  wp_walk using e_tRoot S.m
  refine ⟨(show (0 : Nat) ≤ lim by decide), fun pf hpf => ?_⟩
  have k1 : Kept M (put M pf (.lst [])) := (Kept.refl M).new hpf _
  wp_walk using e_tRoot (k1 _ _ S.m), e_isN_opt
  -- the loop
  have go : ∀ (pl : Addr) (st : List Tr) (M2 : Mem), pl ≠ pf → M2 pf = some (.lst (([] : List Int).map D.int)) → M2 pl = some (.lst ((line st).map D.int)) → M pl = none → Stk t [] st → Kept M M2 →
      sWhile (wTest (wOp wrNe (wVar 2) (wLst wNil))) (sSeq (sAsg (wBM wrPop (wVar 2) wNil) (wgName 3))
      (sSeq (sDrop (wBM wrAppend (wVar 1) (wCons (wVar 3) wNil)))
      (sAsg (wOp wrAddM (wVar 2) (wLc (wiSeq (wTup (wCons (wOp wrIx (wVar 0) (wC (.str "right"))) (wCons (wOp wrIx (wVar 0) (wC (.str "left"))) wNil)))) (wgName 4) (wTest (wOp (wrIn false) (wVar 3) (wVar 4))) (wOp wrIx (wVar 4) (wVar 3)) [4])) (wgName 2))))
      ⟨sRet (wCB wrTupN (wCons (wVar 1) wNil)) (endsD Φ), Φ, (endsD Φ).bk, (endsD Φ).ct⟩ [some (.ref A.m), some (.ref pf), some (.ref pl), none, none] M2 := by
    intro pl st M2 hne hf hl hpl hst hk
    refine ⟨fun m ρ M3 => ∃ (pl : Addr) (acc : List Int) (st : List Tr) (o3 o4 : Option D), ρ = [some (.ref A.m), some (.ref pf), some (.ref pl), o3, o4] ∧ pl ≠ pf ∧ M3 pf = some (.lst (acc.map D.int)) ∧ M3 pl = some (.lst ((line st).map D.int)) ∧ M pl = none ∧ Stk t acc st ∧ Kept M M3 ∧ m = szs st,
      ⟨_, pl, [], st, none, none, rfl, hne, hf, hl, hpl, hst, hk, rfl⟩, ?_⟩
    rintro m ρ M3 ⟨pl, acc, st, o3, o4, rfl, hne, hf, hl, hpl, hst, hk, rfl⟩
    wp_walk using e_neR0 hl
    refine ⟨Nat.zero_le _, ?_⟩
    wp_walk using e_neR0 hl
    have hlen := congrArg List.length hst.all
    rw [List.length_append, flat_len, len_pre] at hlen
    cases st with
    | nil =>
      have : decide (line [] = []) = true := by decide
      rw [this]
      have ha : acc = t.pre := by rw [← hst.all]; exact (List.append_nil _).symm
      wp_walk using e_tupNR hf
      rw [ha]
      exact k M3 hk
    | cons s st =>
      obtain ⟨hs1, hs2⟩ := hst.sub s (List.mem_cons_self ..)
      rcases nil_or s with e | ⟨l, c, r, e⟩
      · exact absurd e hs2
      subst e
      have el : line (Tr.node l c r :: st) = line st ++ [c] := by unfold line; rw [List.map_cons, List.reverse_cons]; rfl
      have : decide (line (Tr.node l c r :: st) = []) = false := by rw [el]; simp
      rw [this]
      rw [el, List.map_append] at hl
      have hz2 : (szs (Tr.node l c r :: st)) = l.size + r.size + 1 + szs st := rfl
      have hl2 := len_szs st fun x hx => (hst.sub x (List.mem_cons_of_mem _ hx)).2
      have hM3f : put M3 pl (.lst ((line st).map D.int)) pf = some (.lst (acc.map D.int)) := by rw [put_ne hne.symm]; exact hf
      have hpop : ∀ Ψ : KD, wrPop (.ref pl) [] M3 Ψ = Ψ (.int c) (put M3 pl (.lst ((line st).map D.int))) := fun Ψ => e_pop hl
      wp_walk using e_bm1 hl, hpop, e_bm1 hM3f, e_append hM3f
      have la : acc.length < 100000 := by omega
      refine ⟨by rw [List.length_map]; exact Nat.lt_trans la (by decide), ?_⟩
      obtain ⟨ck1, ck2⟩ := hs1.kids hb rfl
      generalize hM4 : put (put M3 pl (.lst ((line st).map D.int))) pf (.lst (acc.map D.int ++ [D.int c])) = M4
      have hpf0 : M pf = none := hpf
      have hk4 : Kept M M4 := by rw [← hM4]; exact (hk.new hpl _).new hpf0 _
      have S4 := S.kept hk4
      have hl4 : M4 pl = some (.lst ((line st).map D.int)) := by rw [← hM4, put_ne hne, put_same]
      have hf4 : M4 pf = some (.lst ((acc ++ [c]).map D.int)) := by rw [← hM4, put_same, List.map_append]; rfl
      obtain ⟨gr, ⟨pr, r1, r2, r3⟩, r4⟩ := S4.r
      obtain ⟨gl, ⟨pq, q1, q2, q3⟩, q4⟩ := S4.l
      have lr : ig pr c = r.root := by rw [r2.get, r4 c (hs1.has (.inr (.inl rfl)))]; exact ck2
      have lq : ig pq c = l.root := by rw [q2.get, q4 c (hs1.has (.inr (.inl rfl)))]; exact ck1
      wp_walk using e_tRight S4.m, e_tLeft S4.m
      refine ⟨(show (2 : Nat) ≤ lim by decide), ?_⟩
      refine ⟨(show (2 : Nat) ≤ lim by decide), ?_⟩
      have fin : ∀ (ks : List Tr), ks = kids l r → ∀ o4, kOp2 wrAddM (.ref pl) (kAsg (wgName 2) ⟨fun ρ' M' => ∃ m', m' < szs (Tr.node l c r :: st) ∧ ∃ (pl : Addr) (acc : List Int) (st : List Tr) (o3 o4 : Option D), ρ' = [some (.ref A.m), some (.ref pf), some (.ref pl), o3, o4] ∧ pl ≠ pf ∧ M' pf = some (.lst (acc.map D.int)) ∧ M' pl = some (.lst ((line st).map D.int)) ∧ M pl = none ∧ Stk t acc st ∧ Kept M M' ∧ m' = szs st, Φ, sRet (wCB wrTupN (wCons (wVar 1) wNil)) (endsD Φ), fun ρ' M' => ∃ m', m' < szs (Tr.node l c r :: st) ∧ ∃ (pl : Addr) (acc : List Int) (st : List Tr) (o3 o4 : Option D), ρ' = [some (.ref A.m), some (.ref pf), some (.ref pl), o3, o4] ∧ pl ≠ pf ∧ M' pf = some (.lst (acc.map D.int)) ∧ M' pl = some (.lst ((line st).map D.int)) ∧ M pl = none ∧ Stk t acc st ∧ Kept M M' ∧ m' = szs st⟩ [some (.ref A.m), some (.ref pf), some (.ref pl), some (.int c), o4]) (.lst ((line ks).map D.int)) M4 := by
        intro ks eks o4
        subst eks
        wp_walk using e_addM hl4
        have lk : (line (kids l r)).length ≤ 2 := by unfold line kids; rw [List.length_reverse, List.length_map, List.length_append]; have := kid_len l; have := kid_len r; omega
        have lst' : (line st).length = st.length := by unfold line; rw [List.length_reverse, List.length_map]
        refine ⟨?_, fun pn hpn => ?_⟩
        · rw [List.length_map, List.length_map]; unfold lim; omega
        have npf : pn ≠ pf := ne_mem' hf4 hpn
        refine ⟨szs (kids l r ++ st), ?_, pn, acc ++ [c], kids l r ++ st, _, o4, rfl, npf, by rw [put_ne npf.symm]; exact hf4, ?_, hk4.none hpn, ⟨fun s hs => ?_, ?_⟩, hk4.new (hk4.none hpn) _, rfl⟩
        · rw [hz2]
          unfold szs kids
          rw [List.map_append, List.sum_append, List.map_append, List.sum_append]
          rw [kid_size, kid_size]
          show _ < _ + 1 + (st.map Tr.size).sum
          omega
        · rw [put_same]
          unfold line
          rw [← List.map_append, ← List.reverse_append, ← List.map_append]
        · rcases List.mem_append.mp hs with hs | hs
          · unfold kids at hs
            rcases List.mem_append.mp hs with hs | hs
            · obtain ⟨rfl, hn⟩ := kid_mem hs
              exact ⟨(Sub.left (.refl _)).trans hs1, hn⟩
            · obtain ⟨rfl, hn⟩ := kid_mem hs
              exact ⟨(Sub.right (.refl _)).trans hs1, hn⟩
          · exact hst.sub s (List.mem_cons_of_mem _ hs)
        · rw [← hst.all]
          unfold flat kids
          rw [List.append_assoc]
          congr 1
          rw [List.map_append, List.flatten_append, List.map_append, List.flatten_append, List.map_cons, List.flatten_cons, Tr.pre]
          rw [kid_pre, kid_pre]
          simp
      simp only [wLcGo]
      rcases nil_or l with e | ⟨l1, c1, l2, e⟩ <;> rcases nil_or r with e' | ⟨r1', c2, r2', e'⟩ <;> subst e e'
      · simp only [Tr.root] at lr lq
        wp_walk using e_inI r1, e_inI q1, look_ikv, lr, lq, Option.map, Option.isSome, e_ixDi r1, e_ixDi q1, List.nil_append, List.append_nil, List.cons_append
        exact fin [] rfl _
      · simp only [Tr.root] at lr lq
        wp_walk using e_inI r1, e_inI q1, look_ikv, lr, lq, Option.map, Option.isSome, e_ixDi r1, e_ixDi q1, List.nil_append, List.append_nil, List.cons_append
        exact fin [.node r1' c2 r2'] rfl _
      · simp only [Tr.root] at lr lq
        wp_walk using e_inI r1, e_inI q1, look_ikv, lr, lq, Option.map, Option.isSome, e_ixDi r1, e_ixDi q1, List.nil_append, List.append_nil, List.cons_append
        exact fin [.node l1 c1 l2] rfl _
      · simp only [Tr.root] at lr lq
        wp_walk using e_inI r1, e_inI q1, look_ikv, lr, lq, Option.map, Option.isSome, e_ixDi r1, e_ixDi q1, List.nil_append, List.append_nil, List.cons_append
        exact fin [.node l1 c1 l2, .node r1' c2 r2'] rfl _
  rcases nil_or t with e | ⟨l, c, r, e⟩
  · subst e
    wp_walk using Tr.root, Option.isNone
    refine ⟨Nat.zero_le _, fun pl hpl => ?_⟩
    have hne : pl ≠ pf := ne_mem' put_same hpl
    refine go pl [] _ hne (by rw [put_ne hne.symm, put_same]; rfl) (by rw [put_same]; rfl) (k1.none hpl) ⟨fun s hs => (nomatch hs), rfl⟩ (k1.new (k1.none hpl) _)
  · subst e
    wp_walk using Tr.root, Option.isNone, e_tRoot (k1 _ _ S.m), optD
    refine ⟨(show (1 : Nat) ≤ lim by decide), fun pl hpl => ?_⟩
    have hne : pl ≠ pf := ne_mem' put_same hpl
    refine go pl [.node l c r] _ hne (by rw [put_ne hne.symm, put_same]; rfl) (by rw [put_same]; rfl) (k1.none hpl) ⟨fun s hs => ?_, ?_⟩ (k1.new (k1.none hpl) _)
    · rw [List.mem_singleton.mp hs]; exact ⟨.refl _, fun e => nomatch e⟩
    · unfold flat; simp
end VL

/-! some shape: the tuple's object is known -/
namespace VL
open PySem PySem.Spec PyProof.Rows L2 Tm
def W_l_some_shapeN : W3 := fun ds M Φ => ∃ d ks, ds = [.ref d, .lst (List.map D.int ks)] ∧ Dw M d ∧ (Asc ks ∧ ks.length ≤ 60) ∧ ∀ (t : Tr) M', t.bst → t.ino = ks → Kp d M M' → Φ (.tn t.pre) M'
def w_l_some_shapeN : WS := (sSeq (sAsg (wCall W_l_take (wCons (wVar 0) (wCons (wC (.int 7)) wNil))) (wgName 2))
  (sSeq (sAsg (wCall W_l_shuffled (wCons (wVar 0) (wCons (wVar 1) wNil))) (wgName 3))
  (sSeq (sIf (wTest (wOp wrEq (wVar 2) (wC (.int 0)))) (sAsg (wCB wrLstC (wCons (wVar 1) wNil)) (wgName 3)) sNext)
  (sSeq (sIf (wTest (wOp wrEq (wVar 2) (wC (.int 1)))) (sAsg (wRevL (wVar 1)) (wgName 3)) sNext)
  (sSeq (sIf (wTest (wOp wrEq (wVar 2) (wC (.int 2)))) (sAsg (wLc (wiRng1 (wCons (wCB wrLen (wCons (wVar 1) wNil)) wNil)) (wgName 4) wYes (wIfE (wTest (wOp wrEq (wOp (wrIC (fun _ j => 0 < j) fun i j => .int (i % j)) (wVar 4) (wC (.int 2))) (wC (.int 0)))) (wOp wrIx (wVar 1) (wOp (wrIC CDivW fun i j => .int (i / j)) (wVar 4) (wC (.int 2)))) (wOp wrIx (wVar 1) (wOp (wrI fun i j => .int (i - j)) (wOp (wrI fun i j => .int (i - j)) (wCB wrLen (wCons (wVar 1) wNil)) (wC (.int 1))) (wOp (wrIC CDivW fun i j => .int (i / j)) (wVar 4) (wC (.int 2)))))) [4]) (wgName 3)) sNext)
  (sRet (wCall W_l_shapeN (wCons (wCall W_l_tree (wCons (wVar 3) wNil)) wNil))))))))
theorem r_l_some_shapeN : ∀ ds M Φ, W_l_some_shapeN ds M Φ → w_l_some_shapeN (endsD Φ) (startD 5 ds) M := by
  intro ds M Φ ⟨d, ks, eds, hd, ⟨ha, hl⟩, k⟩
  subst eds
  unfold w_l_some_shapeN
  rw [start_2]
  walk_at "vl"
  refine W_take_go hd (by decide) (by decide) fun pick M1 g0 g1 kp1 => ?_
  walk_at "vl"
  refine ⟨d, _, rfl, kp1.dw, (by rw [List.length_map]; omega), fun es' M2 pm kp2 => ?_⟩
  obtain ⟨ks', rfl, pm'⟩ := perm_ints pm
  have kp := kp1.trans kp2
  have fin : ∀ (ks2 : List Int) (o2 o4 : Option D), ks2.Perm ks → sRet (wCall W_l_shapeN (wCons (wCall W_l_tree (wCons (wVar 3) wNil)) wNil)) (endsD Φ) [some (.ref d), some (.lst (ks.map D.int)), o2, some (.lst (ks2.map D.int)), o4] M2 := by
    intro ks2 o2 o4 p2
    have hn : ks2.Nodup := (p2.nodup_iff).mpr (ha.imp fun h => Int.ne_of_lt h)
    have hl2 : ks2.length ≤ 60 := by rw [p2.length_eq]; exact hl
    walk_at "vl"
    refine ⟨ks2, .inl rfl, ⟨hn, hl2⟩, fun A M3 T f k3 => ?_⟩
    walk_at "vl"
    refine ⟨A, bld ks2, rfl, T.sh ?_, ⟨bld_bst hn, ?_⟩, fun M4 k4 => ?_⟩
    · rw [bld_size hn]; omega
    · rw [bld_size hn]; omega
    · exact k _ M4 (bld_bst hn) (bld_ino p2 ha) (kp.trans (Kp.of (k3.trans k4) kp.dw))
  wp_walk using e_eqI
  by_cases c0 : pick = 0
  · subst c0
    rw [show decide ((0 : Int) = 0) = true from rfl]
    wp_walk using e_eqI
    rw [show decide ((0 : Int) = 1) = false from rfl]
    wp_walk using e_eqI
    rw [show decide ((0 : Int) = 2) = false from rfl]
    walk_at "vl"
    exact fin ks _ _ (.refl _)
  rw [decide_eq_false c0]
  wp_walk using e_eqI
  by_cases c1 : pick = 1
  · subst c1
    rw [show decide ((1 : Int) = 1) = true from rfl]
    wp_walk using e_eqI
    rw [show decide ((1 : Int) = 2) = false from rfl]
    wp_walk using (List.map_reverse (f := D.int) (l := ks)).symm
    exact fin ks.reverse _ _ (List.reverse_perm _)
  rw [decide_eq_false c1]
  wp_walk using e_eqI
  by_cases c2 : pick = 2
  · subst c2
    rw [show decide ((2 : Int) = 2) = true from rfl]
    walk_at "vl"
    rw [List.length_map]
    refine ⟨⟨by omega, by omega⟩, by rw [rgD_len]; unfold lim; omega, ?_⟩
    refine lcGo_map (fun _ => true) (dig (zigI ks)) _ _ (fun x hx Ψ acc h1 h2 => ?_) ?_
    · obtain ⟨i, hi⟩ := List.mem_iff_getElem?.mp hx
      obtain ⟨q1, rfl⟩ := rgD_at hi
      have h1 := h1 rfl
      have ei : (0 : Int) + (i : Int) = i := Int.zero_add _
      rw [ei] at h1 ⊢
      have hdv : CDivW (i : Int) 2 := wide_div (b := 20) (by decide) (by decide) (by decide) (by decide)
      wp_walk using e_eqI
      refine ⟨by decide, ?_⟩
      by_cases c : (i : Int) % 2 = 0
      · rw [decide_eq_true c]
        walk_at "vl"
        refine ⟨hdv, ?_⟩
        rw [atD_int (j := i / 2) (by omega) (by omega)]
        have : dig (zigI ks) (.int (i : Int)) = .int (ks[i / 2]?.getD 0) := by
          show D.int (zigI ks (i : Int).toNat) = _
          rw [Int.toNat_natCast]; unfold zigI; rw [if_pos (by omega)]
        rw [← this]
        exact h1
      · rw [decide_eq_false c]
        walk_at "vl"
        refine ⟨hdv, ?_⟩
        rw [List.length_map, atD_int (j := ks.length - 1 - i / 2) (by omega) (by omega)]
        have : dig (zigI ks) (.int (i : Int)) = .int (ks[ks.length - 1 - i / 2]?.getD 0) := by
          show D.int (zigI ks (i : Int).toNat) = _
          rw [Int.toNat_natCast]; unfold zigI; rw [if_neg (by omega)]
        rw [← this]
        exact h1
    · have e : ([] : List D) ++ ((rgD 0 ((ks.length : Int)).toNat).filter fun _ => true).map (dig (zigI ks)) = (zig ks).map D.int := by
        rw [List.nil_append, filter_all]
        unfold rgD zig
        rw [List.map_map, List.map_map, Int.toNat_natCast]
        refine List.map_congr_left fun i _ => ?_
        show dig (zigI ks) (.int ((0 : Int) + (i : Int))) = .int (zigI ks i)
        rw [Int.zero_add]
        show D.int (zigI ks (i : Int).toNat) = _
        rw [Int.toNat_natCast]
      rw [e]
      walk_at "vl"
      exact fin (zig ks) _ _ (zig_perm ha)
  rw [decide_eq_false c2]
  walk_at "vl"
  exact fin ks' _ _ pm'
end VL

/-! calls that are handed tuples whose object is known, where the callee asks for tuples only -/
namespace VL
open PySem PySem.Spec PyProof.Rows L2 XL
def upT : D → D
  | .tup ds => .tup (ds.map upD)
  | d => upL d
theorem isD_upT {K : PySem.W.Frag} {Hf : Hp} {d : D} {v : V} (h : IsD K Hf d v) : IsD K Hf (upT d) v := by
  cases d with
  | tup ds =>
    obtain ⟨a, xs, hv, hf, hi⟩ := isD_tup.mp h
    exact isD_tup.mpr ⟨a, xs, hv, hf, isDs_up hi⟩
  | _ => exact isD_upL h
theorem isDs_upT {K : PySem.W.Frag} {Hf : Hp} : ∀ {ds : List D} {vs : List V}, IsDs K Hf ds vs → IsDs K Hf (ds.map upT) vs
  | [], vs, h => by rw [isDs_nil_inv h]; exact isDs_nil
  | d :: ds, vs, h => by
    obtain ⟨v, r, rfl, h1, h2⟩ := isDs_cons_inv h
    exact isDs_cons (isD_upT h1) (isDs_upT h2)
def upW (W : W3) : W3 := fun ds M Φ => W (ds.map upT) M Φ
def upW4 (W : W4) : W4 := fun ds M Φ Ψ => W (ds.map upT) M Φ Ψ
section
variable {P : Program} {w : World} {K : PySem.W.Frag} {mg : Str → Option Value} {base : Heap} {CX : CXT} {k : Nat} {f : Addr} {fd : FuncData} {ps : List Str}
theorem ok_up {Wf : W3} (F : FnOk P w K mg base CX k f fd ps (spW K Wf)) : FnOk P w K mg base CX k f fd ps (spW K (upW Wf)) :=
  F.imp fun _ _ _ _ ⟨Hf, M, ds, Φ, W, i, hw, kn⟩ => ⟨Hf, M, _, Φ, W, isDs_upT i, hw, kn⟩
theorem ok_up4 {Wf : W4} (F : FnOk P w K mg base CX k f fd ps (spX K mg Wf)) : FnOk P w K mg base CX k f fd ps (spX K mg (upW4 Wf)) :=
  F.imp fun _ _ _ _ ⟨Hf, M, ds, Φ, Ψ, W, i, hw, kn⟩ => ⟨Hf, M, _, Φ, Ψ, W, isDs_upT i, hw, kn⟩
end
end VL

--@LAW k07
/-! the program's rotations -/
namespace VL
open PySem PySem.Spec PyProof.Rows L2 Tm XL
def W_rotated : W3 := fun ds M Φ => ∃ (s s' : Tr) (x p : Int), ds = [.tup (s.pre.map D.int), .int x] ∧ (RotS x p s s' ∧ s.bst ∧ s.size ≤ 1000) ∧ Φ (.tn s'.pre) M
def w_rotated : WS := (sSeq (sAsg (wOp wrIx (wVar 0) (wC (.int 0))) (wgName 2))
  (sSeq (sIf (wTest (wOp (wrI fun i j => .bl (decide (i < j))) (wVar 1) (wVar 2))) (sSeq (sPar 3 4 (wCons (wCallK 1 2 W_restrict g_k_restrict_1_low_high (wCons (wVar 0) wNil) (wCons (wVar 1) (wCons (wVar 2) wNil))) (wCons (wCallK 1 1 W_restrict g_k_restrict_1_low (wCons (wVar 0) wNil) (wCons (wVar 2) wNil)) wNil)))
  (sRet (wOp wrAddN (wOp wrAddN (wOp wrAddN (wOp wrAddN (wTupN (wCons (wVar 1) wNil)) (wCallK 1 1 W_restrict g_k_restrict_1_high (wCons (wVar 0) wNil) (wCons (wVar 1) wNil))) (wTupN (wCons (wVar 2) wNil))) (wVar 3)) (wVar 4)))) sNext)
  (sSeq (sPar 5 3 (wCons (wCallK 1 1 W_restrict g_k_restrict_1_high (wCons (wVar 0) wNil) (wCons (wVar 2) wNil)) (wCons (wCallK 1 2 W_restrict g_k_restrict_1_low_high (wCons (wVar 0) wNil) (wCons (wVar 2) (wCons (wVar 1) wNil))) wNil)))
  (sRet (wOp wrAddN (wOp wrAddN (wOp wrAddN (wTupN (wCons (wVar 1) (wCons (wVar 2) wNil))) (wVar 5)) (wVar 3)) (wCallK 1 1 W_restrict g_k_restrict_1_low (wCons (wVar 0) wNil) (wCons (wVar 1) wNil)))))))
theorem e_opN2 {x y : D} {M : Mem} {Φ : KD} : kOp2 wrAddN x Φ y M = wrAddN x y M Φ := rfl
theorem at_top {l r : Tr} {k : Int} : atD ((Tr.node l k r).pre.map D.int) 0 = some (.int k) := by
  rw [Tr.pre, List.map_cons, atD_of (by omega) (by rw [List.length_cons]; omega)]
  rfl
theorem addN_tn {ns ms : List Int} {y : D} {M : Mem} {Φ : KD} (hn : ns ≠ []) (h2 : tnI y = some ms) (hl : ns.length + ms.length ≤ lim) (k : Φ (.tn (ns ++ ms)) M) : wrAddN (.tn ns) y M Φ :=
  addN_go rfl h2 hl (fun e => absurd e hn) (fun _ e => by rw [e, List.append_nil] at k; exact k) fun _ _ => k
theorem addN_tup {ns ms : List Int} {x : D} {M : Mem} {Φ : KD} (hm : ms ≠ []) (h1 : tnI x = some ns) (hl : ns.length + ms.length ≤ lim) (k : Φ (.tn (ns ++ ms)) M) : wrAddN x (.tn ms) M Φ :=
  addN_go h1 rfl hl (fun e => by rw [e, List.nil_append] at k; exact k) (fun _ e => absurd e hm) fun _ _ => k
theorem start_r6 {x y : D} : startD 6 [x, y] = [some x, some y, none, none, none, none] := rfl
theorem start_r5 {x y : D} : startD 5 [x, y] = [some x, some y, none, none, none] := rfl
theorem r_rotated : ∀ ds M Φ, W_rotated ds M Φ → w_rotated (endsD Φ) (startD 6 ds) M := by
  intro ds M Φ ⟨s, s', x, p, eds, ⟨hs, hb, hz⟩, k⟩
  subst eds
  unfold w_rotated
  rw [start_r6]
  have hl : s.pre.length ≤ 1000 := by rw [len_pre]; exact hz
  have li : 5000 ≤ lim := by decide
  have lf : ∀ lo hi, (s.pre.filter (inB lo hi)).length ≤ 1000 := fun lo hi => Nat.le_trans (List.length_filter_le ..) hl
  obtain ⟨a, b, c, ⟨lt, rfl, rfl⟩ | ⟨lt, rfl, rfl⟩⟩ := hs
  · obtain ⟨f1, f2, f3⟩ := rotS_left hb lt
    have la := lf none (some x); have lb := lf (some x) (some p); have lc := lf (some p) none
    rw [f1] at la; rw [f2] at lb; rw [f3] at lc
    wp_walk using at_top (l := .node a x b) (k := p) (r := c), decide_eq_true lt
    refine ⟨⟨rfl, rfl⟩, W_restrict_go (lo := some x) (hi := some p) rfl hl ?_⟩
    rw [f2]
    walk_at "vl"
    refine ⟨⟨rfl, rfl⟩, W_restrict_go (lo := some p) (hi := none) rfl hl ?_⟩
    rw [f3]
    wp_walk using e_tupDN, kTupN
    refine ⟨(show (1 : Nat) ≤ lim by decide), [x], rfl, ?_⟩
    refine ⟨⟨rfl, rfl⟩, W_restrict_go (lo := none) (hi := some x) rfl hl ?_⟩
    rw [f1, e_opN2]
    refine addN_tn (by simp) tnI_tup (by simp; omega) ?_
    wp_walk using e_tupDN, kTupN
    refine ⟨(show (1 : Nat) ≤ lim by decide), [p], rfl, ?_⟩
    refine addN_tn (by simp) tnI_tn (by simp; omega) ?_
    wp_walk using e_opN2
    refine addN_tn (by simp) tnI_tup (by simp; omega) ?_
    wp_walk using e_opN2
    refine addN_tn (by simp) tnI_tup (by simp; omega) ?_
    rw [show [x] ++ a.pre ++ [p] ++ b.pre ++ c.pre = (Tr.node a x (.node b p c)).pre by simp [Tr.pre]]
    exact k
  · obtain ⟨f1, f2, f3⟩ := rotS_right hb lt
    have la := lf none (some p); have lb := lf (some p) (some x); have lc := lf (some x) none
    rw [f1] at la; rw [f2] at lb; rw [f3] at lc
    wp_walk using at_top (l := a) (k := p) (r := .node b x c), decide_eq_false (show ¬ x < p by omega)
    refine ⟨⟨rfl, rfl⟩, W_restrict_go (lo := none) (hi := some p) rfl hl ?_⟩
    rw [f1]
    walk_at "vl"
    refine ⟨⟨rfl, rfl⟩, W_restrict_go (lo := some p) (hi := some x) rfl hl ?_⟩
    rw [f2]
    wp_walk using e_tupDN, kTupN
    refine ⟨(show (2 : Nat) ≤ lim by decide), [x, p], rfl, ?_⟩
    wp_walk using e_opN2
    refine addN_tn (by simp) tnI_tup (by simp; omega) ?_
    wp_walk using e_opN2
    refine addN_tn (by simp) tnI_tup (by simp; omega) ?_
    walk_at "vl"
    refine ⟨⟨rfl, rfl⟩, W_restrict_go (lo := some x) (hi := none) rfl hl ?_⟩
    rw [f3, e_opN2]
    refine addN_tn (by simp) tnI_tup (by simp; omega) ?_
    rw [show [x, p] ++ a.pre ++ b.pre ++ c.pre = (Tr.node (.node a p b) x c).pre by simp [Tr.pre]]
    exact k
def W_rotate : W4 := fun ds M Φ Ψ => ∃ (t : Tr) (x : Int) (d : D), ds = [d, .int x] ∧ (t.bst ∧ t.size ≤ 1000) ∧ (d = .tup (t.pre.map D.int) ∧ ¬ t.has x ∨ d = .tn t.pre) ∧ (¬ t.has x → ∀ M', Kept M M' → Ψ "NoKey" (.int x) M') ∧
  (t.root = some x → ∀ M', Kept M M' → Ψ "AtRoot" (.int x) M') ∧ (t.has x → t.root ≠ some x → ∃ p t', t.par x none = some p ∧ RotE x p t t' ∧ ∀ M', Kept M M' → Φ (.tn t'.pre) M')
def w_rotate (Ψ : XC) : WS := (sSeq (sAsg (wCallX W_parent_of Ψ (wCons (wUp (wVar 0)) (wCons (wVar 1) wNil))) (wgName 2))
  (sSeq (sIf (wTest (wOp wrIsN (wVar 2) (wC .non))) (sRaise "AtRoot" Ψ (wCons (wVar 1) wNil)) sNext)
  (sSeq (sPar 3 4 (wCons (wCallX W_subtree_at Ψ (wCons (wUp (wVar 0)) (wCons (wVar 2) wNil))) (wCons (wIdx 0 (wCons (wVar 2) wNil)) wNil)))
  (sRet (wOp wrAddN (wOp wrAddN (wSl (wUp (wVar 0)) wNoPart (wPart (wVar 4))) (wCall W_rotated (wCons (wVar 3) (wCons (wVar 1) wNil)))) (wSl (wUp (wVar 0)) (wPart (wOp wrAdd (wVar 4) (wCB wrLen (wCons (wVar 3) wNil)))) wNoPart))))))
theorem e_idxTn {ns : List Int} {ρ : Sg} {M : Mem} {Φ : KD} {wa : WA} : wIdx 0 wa (some (.tn ns) :: ρ) M Φ = wa (some (.tn ns) :: ρ) M (kIdx ns Φ) := e_idxT rfl
theorem idx_mid {p : Int} {A B C : List Int} (h : p ∉ A) (e : ∃ r, B = p :: r) : (A ++ B ++ C).idxOf p = A.length := by
  obtain ⟨r, rfl⟩ := e
  rw [List.append_assoc, List.idxOf_append, if_neg h, List.cons_append, List.idxOf_cons_self, Nat.zero_add]
theorem r_rotate (Ψ : XC) : ∀ ds M Φ, W_rotate ds M Φ Ψ → w_rotate Ψ (endsD Φ) (startD 5 ds) M := by
  intro ds M Φ ⟨t, x, d, eds, ⟨hb, hz⟩, hd, kn, ka, k⟩
  subst eds
  unfold w_rotate
  rw [start_r5]
  have up : upD d = .tup (t.pre.map D.int) := by rcases hd with ⟨rfl, _⟩ | rfl <;> rfl
  wp_walk using e_up, up
  refine ⟨t, x, rfl, ⟨hb, hz⟩, fun hx M1 k1 => ?_, fun hx => kn hx M (Kept.refl _)⟩
  have hd : d = .tn t.pre := hd.resolve_left fun h => h.2 hx
  subst hd
  by_cases hr : t.root = some x
  · have hp : t.par x none = none := (root_par (q := none) hb hx fun k e => (nomatch e)).mp hr
    rw [hp]
    wp_walk using optD
    exact raise1 rfl (ka hr _ k1)
  obtain ⟨p, t', hp, he, k⟩ := k hx hr
  rw [hp]
  wp_walk using optD
  obtain ⟨s, s', A, B, hs, hsb, hsz, hat, hA, e1, e2⟩ := rotE_pre hb he
  have hpt : t.has p := by rw [← has_pre, e1]; have := has_pre.mpr (root_has hs.root); simp [this]
  refine ⟨t, p, rfl, ⟨hb, hz⟩, fun _ M2 k2 => ?_, fun h => absurd hpt h⟩
  rw [hat]
  have hix : t.pre.idxOf p = A.length := by
    rw [e1]
    refine idx_mid hA ?_
    obtain ⟨a, b, c, ⟨_, rfl, _⟩ | ⟨_, rfl, _⟩⟩ := hs
    · exact ⟨_, rfl⟩
    · exact ⟨_, rfl⟩
  wp_walk using e_idxTn, e_kIdx
  refine ⟨has_pre.mpr hpt, ?_⟩
  rw [hix]
  have hl : t.pre.length ≤ 1000 := by rw [len_pre]; exact hz
  have hl2 : A.length + s.pre.length + B.length ≤ 1000 := by rw [e1, List.length_append, List.length_append] at hl; exact hl
  have c1 : cutD (t.pre.map D.int) none (some (A.length : Int)) = A.map D.int := by
    unfold cutD
    rw [HT.sIx_none, List.drop_zero, show HT.sIx (t.pre.map D.int).length (t.pre.map D.int).length (some (A.length : Int)) = min A.length (t.pre.map D.int).length from HT.sIx_nat _ _ _, Nat.sub_zero, ← List.map_take, e1]
    rw [List.length_map, List.length_append, List.length_append, Nat.min_eq_left (by omega), List.append_assoc, List.take_left']
    rfl
  have c2 : cutD (t.pre.map D.int) (some ((A.length + s.pre.length : Nat) : Int)) none = B.map D.int := by
    unfold cutD
    rw [HT.sIx_none, show HT.sIx (t.pre.map D.int).length 0 (some ((A.length + s.pre.length : Nat) : Int)) = min (A.length + s.pre.length) (t.pre.map D.int).length from HT.sIx_nat _ _ _, ← List.map_drop, e1]
    rw [List.length_map, List.length_append, List.length_append, Nat.min_eq_left (by omega), List.drop_left' (by rw [List.length_append]), ← List.map_take, List.take_of_length_le (by omega)]
  wp_walk using e_up, e_upTn, c1
  refine ⟨s, s', x, p, rfl, ⟨hs, hsb, by omega⟩, ?_⟩
  have hs' : s'.pre ≠ [] := by obtain ⟨a, b, c, ⟨_, _, rfl⟩ | ⟨_, _, rfl⟩⟩ := hs <;> simp [Tr.pre]
  have l2 : s'.pre.length = s.pre.length := by obtain ⟨a, b, c, ⟨_, rfl, rfl⟩ | ⟨_, rfl, rfl⟩⟩ := hs <;> simp [Tr.pre] <;> omega
  have li : 5000 ≤ lim := by decide
  wp_walk using e_opN2
  refine addN_tup hs' tnI_tup (by omega) ?_
  wp_walk using e_up, e_upTn, e_opN2
  rw [List.length_map, show (A.length : Int) + (s.pre.length : Int) = ((A.length + s.pre.length : Nat) : Int) by omega, c2]
  refine addN_tn (by simp [hs']) tnI_tup (by rw [List.length_append]; omega) ?_
  rw [← e2]
  exact k _ ((k1.trans k2))
end VL

--@LAW k33
/-! the law's lists of touches, its own touches, odd keys, the field of an error -/
namespace VL
open PySem PySem.Spec PyProof.Rows L2 Tm XL
theorem start_3' {n : Nat} {x y z : D} : startD (n + 3) [x, y, z] = some x :: some y :: some z :: List.replicate n none := by simp [startD]
theorem W_of_go {d : Addr} {es : List D} {M : Mem} {Φ : KD} (h : Dw M d) (h0 : 0 < es.length) (h1 : es.length ≤ 100000) (k : ∀ x M', x ∈ es → Kp d M M' → Φ x M') : W_l_of [.ref d, .lst es] M Φ := ⟨d, es, .inl rfl, h, ⟨h0, h1⟩, k⟩
theorem W_of_goT {d : Addr} {es : List D} {M : Mem} {Φ : KD} (h : Dw M d) (h0 : 0 < es.length) (h1 : es.length ≤ 100000) (k : ∀ x M', x ∈ es → Kp d M M' → Φ x M') : W_l_of [.ref d, .tup es] M Φ := ⟨d, es, .inr rfl, h, ⟨h0, h1⟩, k⟩
theorem int_in {ks : List Int} {x : D} (h : x ∈ ks.map D.int) : ∃ i : Int, x = .int i ∧ i ∈ ks := by
  obtain ⟨i, hi, rfl⟩ := List.mem_map.mp h
  exact ⟨i, rfl, hi⟩
theorem cut_to {ks : List Int} {n : Int} (h : 0 ≤ n) : cutD (ks.map D.int) none (some n) = (ks.take n.toNat).map D.int := by
  unfold cutD
  obtain ⟨m, rfl⟩ := Int.eq_ofNat_of_zero_le h
  rw [HT.sIx_none, List.drop_zero, show HT.sIx (ks.map D.int).length (ks.map D.int).length (some (m : Int)) = min m (ks.map D.int).length from HT.sIx_nat _ _ m, Nat.sub_zero, Int.toNat_natCast, List.map_take]
  rw [List.take_eq_take_iff]
  omega
/-! _law_touches -/
def W_l_touches : W3 := fun ds M Φ => ∃ d ks n, ds = [.ref d, .lst (List.map D.int ks), .int n] ∧ Dw M d ∧ (ks ≠ [] ∧ ks.length ≤ 1000 ∧ 0 ≤ n ∧ n ≤ 1000) ∧ ∀ (L : List Int) M', (∀ x ∈ L, x ∈ ks) → (L.length : Int) ≤ n → Kp d M M' → Φ (.lst (L.map D.int)) M'
def w_l_touches : WS := (sSeq (sAsg (wSl (wCall W_l_shuffled (wCons (wVar 0) (wCons (wVar 1) wNil))) wNoPart (wPart (wOp wrAdd (wC (.int 1)) (wCall W_l_take (wCons (wVar 0) (wCons (wC (.int 4)) wNil)))))) (wgName 3))
  (sRet (wLc (wiRng1 (wCons (wCall W_l_take (wCons (wVar 0) (wCons (wOp wrAdd (wVar 2) (wC (.int 1))) wNil))) wNil)) (wgName 4) wYes (wCall W_l_of (wCons (wVar 0) (wCons (wCall W_l_of (wCons (wVar 0) (wCons (wLst (wCons (wVar 1) (wCons (wVar 3) wNil))) wNil))) wNil))) [4])))
theorem r_l_touches : ∀ ds M Φ, W_l_touches ds M Φ → w_l_touches (endsD Φ) (startD 5 ds) M := by
  intro ds M Φ ⟨d, ks, n, eds, hd, ⟨h0, hl, n0, n1⟩, k⟩
  subst eds
  unfold w_l_touches
  rw [start_3']
  walk_at "vl"
  refine ⟨d, _, rfl, hd, by rw [List.length_map]; omega, fun es' M1 pm kp1 => ?_⟩
  obtain ⟨es, rfl, pm2⟩ := perm_ints pm
  walk_at "vl"
  refine W_take_go kp1.dw (by decide) (by decide) fun r M2 r0 r1 kp2 => ?_
  walk_at "vl"
  rw [cut_to (by omega)]
  have hs : ∀ x ∈ es.take (1 + r).toNat, x ∈ ks := fun x hx => pm2.mem_iff.mp (List.mem_of_mem_take hx)
  have hpos : 0 < ks.length := List.length_pos_iff.mpr h0
  have hsp : 0 < (es.take (1 + r).toNat).length := by rw [List.length_take, pm2.length_eq]; omega
  have hsl : (es.take (1 + r).toNat).length ≤ 1000 := by rw [List.length_take, pm2.length_eq]; omega
  generalize es.take (1 + r).toNat = some_ at hs hsp hsl ⊢
  refine W_take_go kp2.dw (by omega) (by omega) fun c M3 c0 c1 kp3 => ?_
  walk_at "vl"
  refine ⟨⟨by omega, by omega⟩, by rw [rgD_len]; unfold lim; omega, ?_⟩
  refine lcGo_inv (fun pre post acc M4 => ∃ L : List Int, acc = L.map D.int ∧ (∀ x ∈ L, x ∈ ks) ∧ L.length = pre.length ∧ Kp d M3 M4) ⟨[], rfl, (fun x hx => nomatch hx), rfl, Kp.refl kp3.dw⟩ ?_ ?_
  · rintro pre x post acc M4 Ψ e ⟨L, rfl, hL, hlen, kp4⟩ hn
    walk_at "vl"
    refine ⟨(show (2 : Nat) ≤ lim by decide), ?_⟩
    refine W_of_go kp4.dw (show (0 : Nat) < 2 by decide) (show (2 : Nat) ≤ 100000 by decide) fun y M5 hy kp5 => ?_
    obtain ⟨ys, rfl, hys, y0, y1⟩ : ∃ ys : List Int, y = .lst (ys.map D.int) ∧ (∀ z ∈ ys, z ∈ ks) ∧ 0 < ys.length ∧ ys.length ≤ 1000 := by
      simp only [List.mem_cons, List.not_mem_nil, or_false] at hy
      rcases hy with rfl | rfl
      · exact ⟨ks, rfl, fun _ h => h, hpos, hl⟩
      · exact ⟨some_, rfl, hs, hsp, hsl⟩
    walk_at "vl"
    refine W_of_go kp5.dw (by rw [List.length_map]; exact y0) (by rw [List.length_map]; omega) fun z M6 hz kp6 => ?_
    obtain ⟨i, rfl, hi⟩ := int_in hz
    refine hn _ _ ⟨L ++ [i], by rw [List.map_append]; rfl, fun w hw => ?_, by rw [List.length_append, List.length_append, hlen]; rfl, (kp4.trans kp5).trans kp6⟩
    rcases List.mem_append.mp hw with hw | hw
    · exact hL w hw
    · rw [List.mem_singleton.mp hw]; exact hys i hi
  · rintro acc M4 ⟨L, rfl, hL, hlen, kp4⟩
    rw [rgD_len] at hlen
    walk_at "vl"
    exact k L M4 hL (by omega) (((kp1.trans kp2).trans kp3).trans kp4)
/-! _law_behind -/
theorem tchs_app1 (L : List Int) (x : Int) (t : Tr) : t.tchs (L ++ [x]) = (t.tchs L).tch x := by unfold Tr.tchs; rw [List.foldl_append]; rfl
theorem tchs_sz : ∀ {L : List Int} {t : Tr}, t.bst → (∀ x ∈ L, t.has x) → (t.tchs L).size = t.size
  | [], _, _, _ => rfl
  | x :: L, t, h, hL => by
    have hx := hL x (List.mem_cons_self ..)
    show ((t.tch x).tchs L).size = _
    rw [tchs_sz (tch_bst h) fun z hz => (tch_has h hx).mpr (hL z (List.mem_cons_of_mem _ hz)), tch_size h hx]
/-- what the law's own touches cost -/
def costL : List Int → Tr → List Int
  | [], _ => []
  | x :: L, t => ((t.anc x).length : Int) :: costL L (t.tch x)
theorem costL_app1 : ∀ (L : List Int) (x : Int) (t : Tr), costL (L ++ [x]) t = costL L t ++ [(((t.tchs L).anc x).length : Int)]
  | [], x, t => rfl
  | y :: L, x, t => by
    show _ :: costL (L ++ [x]) (t.tch y) = _ :: (costL L (t.tch y) ++ _)
    rw [costL_app1 L x]
    rfl
theorem costL_len : ∀ (L : List Int) (t : Tr), (costL L t).length = L.length
  | [], _ => rfl
  | x :: L, t => by show (costL L (t.tch x)).length + 1 = _; rw [costL_len L]; rfl
def W_l_behind : W3 := fun ds M Φ => ∃ (t : Tr) (L : List Int), ds = [.tup (t.pre.map D.int), .lst (L.map D.int)] ∧ (t.bst ∧ t.size ≤ 60 ∧ (∀ x ∈ L, t.has x) ∧ L.length ≤ 1000) ∧ ∀ M', Kept M M' → Φ (.tup [.tup ((t.tchs L).pre.map D.int), .lst ((costL L t).map D.int)]) M'
def w_l_behind : WS := (sSeq (sAsg (wCall W_l_tree (wCons (wVar 0) wNil)) (wgName 2))
  (sSeq (sAsg (wLc (wiSeq (wVar 1)) (wgName 4) wYes (wCall W_l_touch (wCons (wVar 2) (wCons (wVar 4) wNil))) [4]) (wgName 3))
  (sRet (wTup (wCons (wCall W_l_shape (wCons (wVar 2) wNil)) (wCons (wVar 3) wNil))))))
theorem lc_loop {g : WG} {tt : WT} {te : WE} {ρ : Sg} {k : List D → Mem → Prop} {L : List Int} {M : Mem} (P : List Int → List Int → List D → Mem → Prop) (h0 : P [] L [] M)
    (hs : ∀ pre x post acc M (Ψ : List D → Mem → Prop), L = pre ++ x :: post → P pre (x :: post) acc M → (∀ acc M, P (pre ++ [x]) post acc M → Ψ acc M) → g (.int x) ρ M (kLc1 tt te acc Ψ))
    (hd : ∀ acc M, P L [] acc M → k acc M) : wLcGo g tt te ρ k (L.map D.int) [] M := by
  suffices h : ∀ (post pre : List Int) acc M, L = pre ++ post → P pre post acc M → wLcGo g tt te ρ k (post.map D.int) acc M from h L [] [] M rfl h0
  intro post
  induction post with
  | nil => intro pre acc M e p; rw [List.append_nil] at e; subst e; exact hd acc M p
  | cons x post ih =>
    intro pre acc M e p
    exact hs pre x post acc M _ e p fun acc' M' p' => ih (pre ++ [x]) acc' M' (by rw [e, List.append_assoc]; rfl) p'
theorem r_l_behind : ∀ ds M Φ, W_l_behind ds M Φ → w_l_behind (endsD Φ) (startD 5 ds) M := by
  intro ds M Φ ⟨t, L, eds, ⟨hb, hz, hL, hl⟩, k⟩
  subst eds
  unfold w_l_behind
  rw [start_2]
  walk_at "vl"
  refine ⟨t.pre, .inr rfl, ⟨pre_nodup hb, by rw [len_pre]; exact hz⟩, fun A M1 T f k1 => ?_⟩
  rw [bld_pre hb] at T
  walk_at "vl"
  refine ⟨by rw [List.length_map]; unfold lim; omega, ?_⟩
  refine lc_loop (fun pre post acc M2 => acc = (costL pre t).map D.int ∧ TreeAt M2 A (t.tchs pre) ∧ Kept M M2) ⟨rfl, T, k1⟩ ?_ ?_
  · rintro pre x post acc M2 Ψ e ⟨rfl, T2, k2⟩ hn
    have hp : ∀ y ∈ pre, t.has y := fun y hy => hL y (by rw [e]; exact List.mem_append_left _ hy)
    have hx := hL x (by rw [e]; exact List.mem_append_right _ (List.mem_cons_self ..))
    walk_at "vl"
    refine ⟨A, t.tchs pre, x, rfl, T2, ⟨tchs_bst hb, (tchs_has hb hp).mpr hx, by rw [tchs_sz hb hp]; omega⟩, fun M3 T3 h3 => ?_⟩
    walk_at "vl"
    refine hn _ _ ⟨?_, by rw [tchs_app1]; exact T3, h3.kept k2 f⟩
    rw [costL_app1, List.map_append]; rfl
  · rintro acc M2 ⟨rfl, T2, k2⟩
    walk_at "vl"
    refine ⟨A, t.tchs L, rfl, T2.sh (by rw [tchs_sz hb hL]; omega), ⟨tchs_bst hb, by rw [tchs_sz hb hL]; omega⟩, fun M3 k3 => ?_⟩
    walk_at "vl"
    refine ⟨(show (2 : Nat) ≤ lim by decide), ?_⟩
    exact k M3 (k2.trans k3)
/-! _law_strange -/
def W_l_strange : W3 := fun ds M Φ => ∃ d ks, ds = [.ref d, .lst (List.map D.int ks)] ∧ Dw M d ∧ (ks.length ≤ 1000 ∧ ∀ k ∈ ks, -(10 ^ 9) ≤ k ∧ k ≤ 10 ^ 9) ∧ ∀ (x : Int) M', x ∉ ks → (-(10 ^ 9) ≤ x ∧ x ≤ 10 ^ 9 + 1 ∧ ∀ B : Int, 6 ≤ B → (∀ k ∈ ks, k ≤ B) → x ≤ B + 1) → Kp d M M' → Φ (.int x) M'
def w_l_strange : WS := (sSeq (sAsg (wIfE (wTest (wOp wrNe (wVar 1) (wLst wNil))) (wOp wrAdd (wCall W_l_of (wCons (wVar 0) (wCons (wVar 1) wNil))) (wCall W_l_of (wCons (wVar 0) (wCons (wLst (wCons (wC (.int 1)) (wCons (wOp (wrI fun i j => .int (i - j)) (wC (.int 0)) (wC (.int 1))) wNil))) wNil)))) (wC (.int 7))) (wgName 2))
  (sRet (wIfE (wAnd (wTest (wOp (wrIn true) (wVar 2) (wVar 1))) (wTest (wOp (wrI fun i j => .bl (decide (i ≤ j))) (wCB wrAbs (wCons (wVar 2) wNil)) (wOp (wrIC CPow fun i j => .int (i ^ j.toNat)) (wC (.int 10)) (wC (.int 9)))))) (wVar 2) (wOp wrAdd (wCB wrMaxA (wCons (wOp wrAdd (wVar 1) (wLst (wCons (wC (.int 0)) wNil))) wNil)) (wC (.int 1))))))
theorem e_ninLI {M : Mem} {Φ : KD} {x : Int} {ks : List Int} : wrIn true (.int x) (.lst (ks.map D.int)) M Φ = Φ (.bl (!decide (x ∈ ks))) M := by
  have fl : ∀ ks : List Int, (ks.map D.int).all flatD = true := fun ks => by
    rw [List.all_eq_true]; intro d hd; obtain ⟨i, _, rfl⟩ := List.mem_map.mp hd; rfl
  have fi : ∀ ks : List Int, inF (.int x) (ks.map D.int) = decide (x ∈ ks) := fun ks => by
    induction ks with
    | nil => simp [inF]
    | cons y ks ih =>
      unfold inF at ih ⊢
      rw [List.map_cons, List.any_cons, ih]
      show (decide (y = x) || _) = _
      by_cases h : y = x
      · subst h; simp
      · have h' : x ≠ y := fun e => h e.symm
        simp [h, h']
  unfold wrIn
  show ((flatD (.int x) = true ∧ _) ∧ _) = _
  simp only [fl, fi, and_true, true_and, if_true]
  rw [show flatD (.int x) = true from rfl]
  simp
theorem r_l_strange : ∀ ds M Φ, W_l_strange ds M Φ → w_l_strange (endsD Φ) (startD 3 ds) M := by
  intro ds M Φ ⟨d, ks, eds, hd, ⟨hl, hk⟩, k⟩
  subst eds
  unfold w_l_strange
  rw [start_2]
  have fin : ∀ (low : Int) (M1 : Mem), (-(10 ^ 9) - 1 ≤ low ∧ low ≤ 10 ^ 9 + 1 ∧ ∀ B : Int, 6 ≤ B → (∀ k ∈ ks, k ≤ B) → low ≤ B + 1) → Kp d M M1 → sRet (wIfE (wAnd (wTest (wOp (wrIn true) (wVar 2) (wVar 1))) (wTest (wOp (wrI fun i j => .bl (decide (i ≤ j))) (wCB wrAbs (wCons (wVar 2) wNil)) (wOp (wrIC CPow fun i j => .int (i ^ j.toNat)) (wC (.int 10)) (wC (.int 9)))))) (wVar 2) (wOp wrAdd (wCB wrMaxA (wCons (wOp wrAdd (wVar 1) (wLst (wCons (wC (.int 0)) wNil))) wNil)) (wC (.int 1)))) (endsD Φ) [some (.ref d), some (.lst (ks.map D.int)), some (.int low)] M1 := by
    intro low M1 hlow kp
    have big : wOp wrAdd (wCB wrMaxA (wCons (wOp wrAdd (wVar 1) (wLst (wCons (wC (.int 0)) wNil))) wNil)) (wC (.int 1)) [some (.ref d), some (.lst (ks.map D.int)), some (.int low)] M1 Φ := by
      walk_at "vl"
      refine ⟨(show (1 : Nat) ≤ lim by decide), by rw [List.length_map]; unfold lim; simp; omega, ?_⟩
      rw [show (ks.map D.int ++ [D.int 0]) = (ks ++ [0]).map D.int by rw [List.map_append]; rfl]
      wp_walk using e_maxAL
      refine ⟨by rw [List.length_append]; exact Nat.lt_of_lt_of_le Nat.zero_lt_one (Nat.le_add_left ..), fun m hm hmax => ?_⟩
      have hm0 : 0 ≤ m := hmax 0 (List.mem_append_right _ (List.mem_cons_self ..))
      have hm1 : m ≤ 10 ^ 9 := by
        rcases List.mem_append.mp hm with h | h
        · exact (hk m h).2
        · rw [List.mem_singleton.mp h]; decide
      refine k _ _ (fun hx => ?_) ⟨by omega, by omega, fun B hB hkB => ?_⟩ kp
      rotate_left
      · rcases List.mem_append.mp hm with h | h
        · have := hkB m h; omega
        · rw [List.mem_singleton.mp h]; omega
      have := hmax _ (List.mem_append_left _ hx)
      omega
    wp_walk using e_ninLI
    by_cases c : low ∈ ks
    · wp_walk using decide_eq_true c
      exact big
    · wp_walk using decide_eq_false c
      refine ⟨⟨by decide, by decide, by decide⟩, ?_⟩
      by_cases c2 : (if low < 0 then -low else low) ≤ 10 ^ ((9 : Int).toNat)
      · wp_walk using decide_eq_true c2
        refine k _ _ c ?_ kp
        have : (10 : Int) ^ ((9 : Int).toNat) = 10 ^ 9 := by decide
        rw [this] at c2
        exact ⟨by split at c2 <;> omega, by split at c2 <;> omega, hlow.2.2⟩
      · wp_walk using decide_eq_false c2
        exact big
  walk_at "vl"
  refine ⟨(show (0 : Nat) ≤ lim by decide), ?_⟩
  by_cases c0 : ks = []
  · wp_walk using decide_eq_true c0
    exact fin 7 M ⟨by decide, by decide, fun B hB _ => by omega⟩ (Kp.refl hd)
  · wp_walk using decide_eq_false c0
    refine W_of_go hd (by rw [List.length_map]; exact List.length_pos_iff.mpr c0) (by rw [List.length_map]; omega) fun y M1 hy kp1 => ?_
    obtain ⟨i, rfl, hi⟩ := int_in hy
    walk_at "vl"
    refine ⟨(show (2 : Nat) ≤ lim by decide), ?_⟩
    refine W_of_go kp1.dw (show (0 : Nat) < 2 by decide) (show (2 : Nat) ≤ 100000 by decide) fun y M2 hy kp2 => ?_
    have hi' := hk i hi
    simp only [List.mem_cons, List.not_mem_nil, or_false] at hy
    rcases hy with rfl | rfl
    · walk_at "vl"
      exact fin _ M2 ⟨by omega, by omega, fun B _ hB => by have := hB i hi; omega⟩ (kp1.trans kp2)
    · walk_at "vl"
      exact fin _ M2 ⟨by omega, by omega, fun B _ hB => by have := hB i hi; omega⟩ (kp1.trans kp2)
/-! _law_field -/
def w_l_field (a : Addr) (tag : Str) (x : VL.D) : WS := (sSeq (sIf (wTest (wOp (wrIn false) (wXa a (.str tag) True (wVar 0)) (wTup (wCons (wC (.str "BadKey")) (wCons (wC (.str "DuplicateKey")) (wCons (wC (.str "AtRoot")) (wCons (wC (.str "Overlap")) (wCons (wC (.str "KeysDiffer")) (wCons (wC (.str "BadWeight")) (wCons (wC (.str "NoKey")) wNil)))))))))) (sRet (wXa a x (fieldOf tag = some "key") (wVar 0))) sNext)
  (sSeq (sIf (wTest (wOp (wrIn false) (wXa a (.str tag) True (wVar 0)) (wTup (wCons (wC (.str "BadShape")) (wCons (wC (.str "BadStep")) (wCons (wC (.str "BadCost")) (wCons (wC (.str "Contradiction")) (wCons (wC (.str "ParseError")) wNil)))))))) (sRet (wXa a x (fieldOf tag = some "pos") (wVar 0))) sNext)
  (sSeq (sIf (wTest (wOp (wrIn false) (wXa a (.str tag) True (wVar 0)) (wTup (wCons (wC (.str "TooManyKeys")) (wCons (wC (.str "TooLong")) (wCons (wC (.str "TooManyTrees")) (wCons (wC (.str "TooManyWatches")) wNil))))))) (sRet (wXa a x (fieldOf tag = some "limit") (wVar 0))) sNext)
  (sSeq (sIf (wTest (wOp (wrIn false) (wXa a (.str tag) True (wVar 0)) (wTup (wCons (wC (.str "BadName")) (wCons (wC (.str "NameTaken")) (wCons (wC (.str "SameName")) (wCons (wC (.str "NoTree")) wNil))))))) (sRet (wXa a x (fieldOf tag = some "name") (wVar 0))) sNext)
  (sSeq (sIf (wTest (wOp wrEq (wXa a (.str tag) True (wVar 0)) (wC (.str "BadSize")))) (sRet (wXa a x (fieldOf tag = some "size") (wVar 0))) sNext)
  (sRet (wIfE (wTest (wOp wrEq (wXa a (.str tag) True (wVar 0)) (wC (.str "BadCommand")))) (wXa a x (fieldOf tag = some "word") (wVar 0)) (wXa a x (fieldOf tag = some "number") (wVar 0)))))))))
theorem e_inTS {M : Mem} {Φ : KD} {x : Str} {ks : List Str} : wrIn false (.str x) (.tup (ks.map D.str)) M Φ = Φ (.bl (decide (x ∈ ks))) M := by
  have fl : ∀ ks : List Str, (ks.map D.str).all flatD = true := fun ks => by
    rw [List.all_eq_true]; intro d hd; obtain ⟨i, _, rfl⟩ := List.mem_map.mp hd; rfl
  have fi : ∀ ks : List Str, inF (.str x) (ks.map D.str) = decide (x ∈ ks) := fun ks => by
    induction ks with
    | nil => simp [inF]
    | cons y ks ih =>
      unfold inF at ih ⊢
      rw [List.map_cons, List.any_cons, ih]
      show ((y == x) || _) = _
      by_cases h : y = x
      · subst h; simp
      · have h' : x ≠ y := fun e => h e.symm
        simp [h, h']
  unfold wrIn
  show ((flatD (.str x) = true ∧ _) ∧ _) = _
  simp only [fl, fi, and_true, true_and]
  rw [show flatD (.str x) = true from rfl]
  simp
abbrev fS1 : List Str := ["BadKey", "DuplicateKey", "AtRoot", "Overlap", "KeysDiffer", "BadWeight", "NoKey"]
abbrev fS2 : List Str := ["BadShape", "BadStep", "BadCost", "Contradiction", "ParseError"]
abbrev fS3 : List Str := ["TooManyKeys", "TooLong", "TooManyTrees", "TooManyWatches"]
abbrev fS4 : List Str := ["BadName", "NameTaken", "SameName", "NoTree"]
theorem fS1_f : ∀ t ∈ fS1, fieldOf t = some "key" := by decide +kernel
theorem fS2_f : ∀ t ∈ fS2, fieldOf t = some "pos" := by decide +kernel
theorem fS3_f : ∀ t ∈ fS3, fieldOf t = some "limit" := by decide +kernel
theorem fS4_f : ∀ t ∈ fS4, fieldOf t = some "name" := by decide +kernel
theorem fS_all {t : Str} (h : (fieldOf t).isSome = true) : t ∈ fS1 ++ fS2 ++ fS3 ++ fS4 ++ ([("BadSize" : Str), "BadCommand", "NoWatch"] : List Str) := by
  cases e : fieldOf t with
  | none => rw [e] at h; cases h
  | some f =>
    unfold fieldOf at e
    have key : ∀ (l : List (Str × Str)), l.lookup t = some f → t ∈ l.map (·.1) := by
      intro l
      induction l with
      | nil => intro e; cases e
      | cons p l ih =>
        intro e
        rw [List.lookup] at e
        split at e
        · rename_i hb; rw [List.map_cons, eq_of_beq hb]; exact List.mem_cons_self ..
        · exact List.mem_cons_of_mem _ (ih e)
    exact key _ e
theorem sh_str (l : List Str) : (∀ t ∈ l, SeqAt.shaped (.str t) = true) → ∀ {t : Str}, t ∈ l → SeqAt.shaped (.str t) = true := fun h _ ht => h _ ht
theorem r_l_field {a : Addr} {tag : Str} {x : VL.D} {Φ : KD} {M : Mem} (h1 : (fieldOf tag).isSome = true) (h2 : Φ x M) : w_l_field a tag x (endsD Φ) [some (.ref a)] M := by
  have hall := fS_all h1
  have shp : SeqAt.shaped (.str tag) = true := sh_str (fS1 ++ fS2 ++ fS3 ++ fS4 ++ ([("BadSize" : Str), "BadCommand", "NoWatch"] : List Str)) (by decide +kernel) hall
  unfold w_l_field
  walk_at "vl"
  refine ⟨trivial, trivial, (show (7 : Nat) ≤ lim by decide), ?_⟩
  rw [show ([D.str "BadKey", D.str "DuplicateKey", D.str "AtRoot", D.str "Overlap", D.str "KeysDiffer", D.str "BadWeight", D.str "NoKey"] : List D) = fS1.map D.str from rfl]
  wp_walk using e_inTS
  by_cases c1 : tag ∈ fS1
  · wp_walk using decide_eq_true c1
    exact ⟨trivial, fS1_f _ c1, h2⟩
  wp_walk using decide_eq_false c1
  refine ⟨trivial, trivial, (show (5 : Nat) ≤ lim by decide), ?_⟩
  rw [show ([D.str "BadShape", D.str "BadStep", D.str "BadCost", D.str "Contradiction", D.str "ParseError"] : List D) = fS2.map D.str from rfl]
  wp_walk using e_inTS
  by_cases c2 : tag ∈ fS2
  · wp_walk using decide_eq_true c2
    exact ⟨trivial, fS2_f _ c2, h2⟩
  wp_walk using decide_eq_false c2
  refine ⟨trivial, trivial, (show (4 : Nat) ≤ lim by decide), ?_⟩
  rw [show ([D.str "TooManyKeys", D.str "TooLong", D.str "TooManyTrees", D.str "TooManyWatches"] : List D) = fS3.map D.str from rfl]
  wp_walk using e_inTS
  by_cases c3 : tag ∈ fS3
  · wp_walk using decide_eq_true c3
    exact ⟨trivial, fS3_f _ c3, h2⟩
  wp_walk using decide_eq_false c3
  refine ⟨trivial, trivial, (show (4 : Nat) ≤ lim by decide), ?_⟩
  rw [show ([D.str "BadName", D.str "NameTaken", D.str "SameName", D.str "NoTree"] : List D) = fS4.map D.str from rfl]
  wp_walk using e_inTS
  by_cases c4 : tag ∈ fS4
  · wp_walk using decide_eq_true c4
    exact ⟨trivial, fS4_f _ c4, h2⟩
  have hl : tag = "BadSize" ∨ tag = "BadCommand" ∨ tag = "NoWatch" := by
    rcases List.mem_append.mp hall with h | h
    · rcases List.mem_append.mp h with h | h
      · rcases List.mem_append.mp h with h | h
        · rcases List.mem_append.mp h with h | h
          · exact absurd h c1
          · exact absurd h c2
        · exact absurd h c3
      · exact absurd h c4
    · simpa using h
  wp_walk using decide_eq_false c4
  refine ⟨trivial, trivial, ?_⟩
  rcases hl with rfl | rfl | rfl
  · wp_walk using e_eqS shp shp, decide_true
    exact ⟨trivial, by decide +kernel, h2⟩
  · wp_walk using e_eqS shp (show SeqAt.shaped (.str "BadSize") = true by decide +kernel)
    rw [show decide (("BadCommand" : Str) = "BadSize") = false by decide +kernel]
    walk_at "vl"
    refine ⟨trivial, trivial, ?_⟩
    wp_walk using e_eqS shp shp, decide_true
    exact ⟨trivial, by decide +kernel, h2⟩
  · wp_walk using e_eqS shp (show SeqAt.shaped (.str "BadSize") = true by decide +kernel)
    rw [show decide (("NoWatch" : Str) = "BadSize") = false by decide +kernel]
    walk_at "vl"
    refine ⟨trivial, trivial, ?_⟩
    wp_walk using e_eqS shp (show SeqAt.shaped (.str "BadCommand") = true by decide +kernel)
    rw [show decide (("NoWatch" : Str) = "BadCommand") = false by decide +kernel]
    walk_at "vl"
    exact ⟨trivial, by decide +kernel, h2⟩
/-! a law that holds lambdas -/
def qL : Str := "law.<locals>.<lambda>"
structure Lw (d PT : Addr) (M : Mem) : Prop where
  dw : Dw M d
  tb : M PT = some (.tab qL)
  ne : PT ≠ d
theorem Lw.kp {d PT : Addr} {M M' : Mem} (h : Lw d PT M) (k : Kp d M M') : Lw d PT M' := ⟨k.dw, k.rest _ _ h.ne h.tb, h.ne⟩
theorem Lw.kept {d PT : Addr} {M M' : Mem} (h : Lw d PT M) (k : Kept M M') : Lw d PT M' := ⟨h.dw.kept k, k _ _ h.tb, h.ne⟩
theorem Lw.start {d PT : Addr} {M M' : Mem} (h : M PT = some (.tab qL)) (h0 : M d = none) (hd : Dw M' d) (k : ∀ a o, M a = some o → M' a = some o) : Lw d PT M' := ⟨hd, k _ _ h, fun e => by rw [e, h0] at h; cases h⟩
def W_lawT (PT : Addr) : W3 := fun ds M Φ => ∃ ns : List Int, ds = [.fz (ns.map D.int)] ∧ ns.length ≤ 63 ∧ M PT = some (.tab qL) ∧ ∀ M', Φ (.bl true) M'
/-- (tag, key) beside the same -/
theorem e_neTK {M : Mem} {Φ : KD} {s : Str} {x : Int} (h : SeqAt.shaped (.tuple [.str s, .int x]) = true) : wrNe (.tup [.str s, .int x]) (.tup [.str s, .int x]) M Φ = Φ (.bl false) M := by
  refine wrNe_of (s := .tuple [.str s, .int x]) (t := .tuple [.str s, .int x]) (c := true) ?_ ?_ h h ?_
  · unfold pyM; simp only [py, pys]; rfl
  · unfold pyM; simp only [py, pys]; rfl
  · rw [PyData.eqv]; simp [PyData.eqvAll, PyData.eqv]
theorem sh_TK {s : Str} {x : Int} (h : SeqAt.shaped (.str s) = true) : SeqAt.shaped (.tuple [.str s, .int x]) = true := by
  unfold SeqAt.shaped at h ⊢
  simp only [PyData.canLay0, PyData.depth, PyData.canLayAll0, PyData.depthAll, Bool.and_eq_true] at h ⊢
  simpa using h.1
end VL

/-! law k07 over data -/
namespace VL
open PySem PySem.Spec PyProof.Rows L2 Tm XL
abbrev W_law (PT : Addr) : W3 := W_lawT PT
abbrev g_k_rotate_0_key_shape : List D → List D → List D := fun ds zs => ds ++ (zs.drop 1).take 1 ++ (zs.drop 0).take 1
def w_law (P : Addr) (q : Str) (tl : List Str) : WS := (sSeq (sAsg (wCall W_l_start (wCons (wVar 0) wNil)) (wgName 1))
  (sSeq (sFor (wiRng1 (wCons (wC (.int 3)) wNil)) (wgName 2) (sSeq (sAsg (wCall W_l_keys (wCons (wVar 1) (wCons (wOp wrAdd (wC (.int 1)) (wCall W_l_size (wCons (wVar 1) (wCons (wC (.int 29)) wNil)))) wNil))) (wgName 3))
  (sSeq (sAsg (wCall W_l_some_shapeN (wCons (wVar 1) (wCons (wVar 3) wNil))) (wgName 4))
  (sSeq (sFor (wiRng1 (wCons (wCall W_l_take (wCons (wVar 1) (wCons (wC (.int 9)) wNil))) wNil)) (wgName 5) (sSeq (sAsg (wTup (wCons (wCall W_l_of (wCons (wVar 1) (wCons (wVar 3) wNil))) (wCons (wCall (upW W_l_tree) (wCons (wVar 4) wNil)) wNil))) (wgTup 2 (wgCons (wgName 6) (wgCons (wgName 7) wgNil))))
  (sSeq (sIf (wTest (wOp wrEq (wCall W_l_above (wCons (wVar 7) (wCons (wVar 6) wNil))) (wLst wNil))) (sSeq (sIf (wTest (wOp wrNe (wErr P q tl fun Ψ => (wCallX W_rotate Ψ (wCons (wVar 4) (wCons (wVar 6) wNil)))) (wTup (wCons (wC (.str "AtRoot")) (wCons (wVar 6) wNil))))) (sRet (wC (.bl false))) sNext)
  sCont) sNext)
  (sSeq (sAsg (wOp wrIx (wOp wrIx (wVar 7) (wC (.str "up"))) (wVar 6)) (wgName 8))
  (sSeq (sDrop (wCall W_l_rotate (wCons (wVar 7) (wCons (wVar 6) wNil))))
  (sSeq (sAsg (wCallK 0 2 (qt W_rotate) g_k_rotate_0_key_shape wNil (wCons (wVar 6) (wCons (wVar 4) wNil))) (wgName 9))
  (sSeq (sIf (wOr (wNot (wTest (wCall (upW (W_l_same 5)) (wCons (wVar 9) (wCons (wCall W_l_shapeN (wCons (wVar 7) wNil)) wNil))))) (wNot (wTest (wCall (upW (W_l_same 5)) (wCons (wCall (qt W_rotate) (wCons (wVar 9) (wCons (wVar 8) wNil))) (wCons (wVar 4) wNil)))))) (sRet (wC (.bl false))) sNext)
  (sAsg (wVar 9) (wgName 4)))))))))
  (sSeq (sAsg (wCall W_l_strange (wCons (wVar 1) (wCons (wVar 3) wNil))) (wgName 10))
  (sIf (wTest (wOp wrNe (wErr P q tl fun Ψ => (wCallX W_rotate Ψ (wCons (wVar 4) (wCons (wVar 10) wNil)))) (wTup (wCons (wC (.str "NoKey")) (wCons (wVar 10) wNil))))) (sRet (wC (.bl false))) sNext))))))
  (sRet (wOp wrEq (wErr P q tl fun Ψ => (wCallX W_rotate Ψ (wCons (wTup wNil) (wCons (wC (.int 3)) wNil)))) (wTup (wCons (wC (.str "NoKey")) (wCons (wC (.int 3)) wNil)))))))
theorem e_upW1 {W : W3} {x : D} {M : Mem} {Φ : KD} : upW W [x] M Φ = W [upT x] M Φ := rfl
theorem e_upW2 {W : W3} {x y : D} {M : Mem} {Φ : KD} : upW W [x, y] M Φ = W [upT x, upT y] M Φ := rfl
theorem upT_tn {ns : List Int} : upT (.tn ns) = .tup (ns.map D.int) := rfl
theorem err_go {tl : List Str} {tag : Str} {x : Int} {M : Mem} {Φ : KD} (h : tag ∈ tl) (hf : (fieldOf tag).isSome = true) (k : Φ (.tup [.str tag, .int x]) M) : kErrX tl Φ tag (.int x) M := by
  rw [e_errX]
  refine ⟨h, ?_⟩
  rw [if_pos hf]
  exact k
theorem e_eqTK {M : Mem} {Φ : KD} {s : Str} {x : Int} (h : SeqAt.shaped (.tuple [.str s, .int x]) = true) : wrEq (.tup [.str s, .int x]) (.tup [.str s, .int x]) M Φ = Φ (.bl true) M := by
  refine wrEq_of (s := .tuple [.str s, .int x]) (t := .tuple [.str s, .int x]) ?_ ?_ h h ?_
  · unfold pyM; simp only [py, pys]; rfl
  · unfold pyM; simp only [py, pys]; rfl
  · simp [PyData.eqv, PyData.eqvAll]
theorem e_eqL00 {M : Mem} {Φ : KD} : wrEq (.lst []) (.lst []) M Φ = Φ (.bl true) M := e_eqL0 (a := [])
theorem start_11 {x : D} : startD 11 [x] = [some x, none, none, none, none, none, none, none, none, none, none] := rfl
theorem r_law (PT : Addr) : ∀ ds M Φ, W_law PT ds M Φ → w_law PT qL ["AtRoot", "NoKey"] (endsD Φ) (startD 11 ds) M := by
  intro ds M Φ ⟨ns, eds, hl, hPT, k⟩
  subst eds
  unfold w_law
  rw [start_11]
  walk_at "vl"
  refine ⟨ns, rfl, hl, fun d M1 hd0 hd hst => ?_⟩
  have L1 := Lw.start hPT hd0 hd hst
  walk_at "vl"
  refine ⟨⟨by decide, by decide⟩, ?_⟩
  refine loop_inv (fun pre post ρ M2 => ∃ (o2 o3 o4 o5 o6 o7 o8 o9 o10 : Option D), ρ = [some (.fz (ns.map D.int)), some (.ref d), o2, o3, o4, o5, o6, o7, o8, o9, o10] ∧ Lw d PT M2) ⟨none, none, none, none, none, none, none, none, none, rfl, L1⟩ ?_ ?_
  · rintro pre y post ρ M2 bk nx e ⟨o2, o3, o4, o5, o6, o7, o8, o9, o10, rfl, L2⟩ _ hnx
    walk_at "vl"
    refine ⟨d, _, rfl, L2.dw, ⟨by decide, by decide⟩, fun n M3 n0 n1 kp3 => ?_⟩
    walk_at "vl"
    refine ⟨d, _, rfl, kp3.dw, ⟨by omega, by omega⟩, fun ks M4 lk ha hks kp4 => ?_⟩
    have hkl : ks.length ≤ 40 := by omega
    have hk0 : 0 < ks.length := by omega
    walk_at "vl"
    refine ⟨d, ks, rfl, kp4.dw, ⟨ha, by omega⟩, fun t0 M5 hb0 ht0 kp5 => ?_⟩
    have L5 := ((L2.kp kp3).kp kp4).kp kp5
    walk_at "vl"
    refine W_take_go L5.dw (by decide) (by decide) fun c M6 c0 c1 kp6 => ?_
    walk_at "vl"
    refine ⟨⟨by omega, by omega⟩, ?_⟩
    refine loop_inv (fun pre post ρ M7 => ∃ (o5 o6 o7 o8 o9 : Option D) (t : Tr), ρ = [some (.fz (ns.map D.int)), some (.ref d), some y, some (.lst (ks.map D.int)), some (.tn t.pre), o5, o6, o7, o8, o9, o10] ∧ Lw d PT M7 ∧ t.bst ∧ t.ino = ks) ⟨_, _, _, _, _, t0, rfl, L5.kp kp6, hb0, ht0⟩ ?_ ?_
    · rintro pre y2 post ρ M7 bk2 nx2 e2 ⟨p5, p6, p7, p8, p9, t, rfl, L7, hb, ht⟩ hbk hnx2
      have hz : t.size ≤ 40 := by rw [← len_ino, ht]; exact hkl
      walk_at "vl"
      refine W_of_go L7.dw (es := ks.map D.int) (by simp only [List.length_map]; exact hk0) (by simp only [List.length_map]; omega) fun x1 M8 hx1 kp8 => ?_
      obtain ⟨x, rfl, hxm⟩ := int_in hx1
      have hx : t.has x := by rw [← has_ino, ht]; exact hxm
      wp_walk using e_upW1, upT_tn
      refine ⟨t.pre, .inr rfl, ⟨pre_nodup hb, by rw [len_pre]; omega⟩, fun A M9 T9 f9 k9 => ?_⟩
      rw [bld_pre hb] at T9
      have L9 := (L7.kp kp8).kept k9
      walk_at "vl"
      refine ⟨(show (2 : Nat) ≤ lim by decide), rfl, trivial, A, t, x, rfl, T9.up, ⟨hb, hx, by omega⟩, fun M10 k10 => ?_⟩
      have L10 := L9.kept k10
      have T10 := T9.kept k10
      by_cases hr : t.root = some x
      · wp_walk using anc_root hr, e_eqL0, List.map_nil
        refine ⟨Nat.zero_le _, ?_⟩
        wp_walk using e_eqL00, e_err L10.tb
        refine ⟨t, x, _, rfl, ⟨hb, by omega⟩, .inr rfl, fun h => absurd hx h, fun _ M11 k11 => err_go (by simp) rfl ?_, fun _ h => absurd hr h⟩
        walk_at "vl"
        refine ⟨(show (2 : Nat) ≤ lim by decide), ?_⟩
        wp_walk using e_neTK (sh_TK (s := "AtRoot") (x := x) (by decide +kernel))
        exact hnx2 _ _ ⟨_, _, _, _, _, t, rfl, L10.kept k11, hb, ht⟩
      · obtain ⟨p, hp, hpt⟩ := par_some hb hx hr
        have hne : decide (t.anc x = []) = false := by rw [(anc_par hb hx hp).2]; rfl
        walk_at "vl"
        refine ⟨Nat.zero_le _, ?_⟩
        obtain ⟨pu, u1, u2, u3⟩ := T10.u
        wp_walk using e_eqL0, hne, e_tUp T10.m, e_ixIm u1 u2 hp
        refine ⟨A, t, x, p, rfl, T10, ⟨hb, hx, hp, by omega⟩, fun t1 M11 hR hE T11 rst => ?_⟩
        have L11 : Lw d PT M11 := (L7.kp kp8).kept (Rst.kept rst (k9.trans k10) f9)
        have h1 : t1.ino = ks := by rw [← ht]; exact asc_ext (ino_asc hR.bst) (ino_asc hb) fun y => by rw [has_ino, has_ino]; exact hR.has y
        have z1 : t1.size ≤ 40 := by rw [← len_ino, h1]; exact hkl
        have hB := rotE_back hb hR.bst hE
        walk_at "vl"
        refine ⟨⟨rfl, rfl⟩, t, x, _, rfl, ⟨hb, by omega⟩, .inr rfl, fun h => absurd hx h, fun h => absurd h hr, fun _ _ => ⟨p, t1, hp, hE, fun M12 k12 => ?_⟩⟩
        walk_at "vl"
        refine ⟨A, t1, rfl, (T11.sh (by omega)).kept k12, ⟨hR.bst, by omega⟩, fun M13 k13 => ?_⟩
        wp_walk using e_upW2, upT_tn
        refine W_same_go (n := 5) (cl_ints (by rw [len_pre]; unfold lim; omega)) ?_
        walk_at "vl"
        refine ⟨t1, p, _, rfl, ⟨hR.bst, by omega⟩, .inr rfl, fun h => absurd (rotE_has hB) h, fun h => absurd h (rotE_ne hB hR.bst), fun _ _ => ⟨x, t, rotE_par hB hR.bst, hB, fun M14 k14 => ?_⟩⟩
        wp_walk using e_upW2, upT_tn
        refine W_same_go (n := 5) (cl_ints (by rw [len_pre]; unfold lim; omega)) ?_
        walk_at "vl"
        exact hnx2 _ _ ⟨_, _, _, _, _, t1, rfl, ((L11.kept k12).kept k13).kept k14, hR.bst, h1⟩
    · rintro ρ M7 ⟨p5, p6, p7, p8, p9, t, rfl, L7, hb, ht⟩
      have hz : t.size ≤ 40 := by rw [← len_ino, ht]; exact hkl
      walk_at "vl"
      refine ⟨d, ks, rfl, L7.dw, ⟨by omega, fun z hz => by have := hks z hz; omega⟩, fun odd M10 hodd _ kp10 => ?_⟩
      have L10 := L7.kp kp10
      wp_walk using e_err L10.tb
      refine ⟨t, odd, _, rfl, ⟨hb, by omega⟩, .inr rfl, fun _ M11 k11 => err_go (by simp) rfl ?_, fun h => absurd (root_has h) ?_, fun h => absurd h ?_⟩
      · walk_at "vl"
        refine ⟨(show (2 : Nat) ≤ lim by decide), ?_⟩
        wp_walk using e_neTK (sh_TK (s := "NoKey") (x := odd) (by decide +kernel))
        exact hnx _ _ ⟨_, _, _, _, _, _, _, _, _, rfl, L10.kept k11⟩
      · rw [← has_ino, ht]; exact hodd
      · rw [← has_ino, ht]; exact hodd
  · rintro ρ M2 ⟨o2, o3, o4, o5, o6, o7, o8, o9, o10, rfl, L2⟩
    wp_walk using e_err L2.tb
    refine ⟨Nat.zero_le _, .nil, 3, _, rfl, ⟨trivial, by decide⟩, .inl ⟨rfl, fun h => h⟩, fun _ M3 k3 => err_go (by simp) rfl ?_, fun h => (nomatch h), fun h => h.elim⟩
    walk_at "vl"
    refine ⟨(show (2 : Nat) ≤ lim by decide), ?_⟩
    rw [e_eqTK (sh_TK (s := "NoKey") (x := 3) (by decide +kernel))]
    exact k _
end VL

namespace VL
open PySem PySem.Spec PyProof.Rows L2 XL LamX
/-! ### the text -/
def topS (i : Nat) : Stmt := PySem.Challenge.pw_touchtrees_k07_single_rotations.main.body.getD i (.Pass ⟨0, 0, 0, 0⟩)
def clsS (i : Nat) : Stmt := (match topS i with | .ClassDef (body := b) .. => b | _ => []).getD 0 (.Pass ⟨0, 0, 0, 0⟩)
abbrev s_l_start : Stmt := topS 18
abbrev s_l_take : Stmt := topS 19
abbrev s_l_of : Stmt := topS 20
abbrev s_l_keys : Stmt := topS 26
abbrev s_l_size : Stmt := topS 27
abbrev s_l_shuffled : Stmt := topS 21
abbrev s_l_shapeN : Stmt := topS 31
abbrev s_l_empty : Stmt := topS 28
abbrev s_l_place : Stmt := topS 29
abbrev s_l_tree : Stmt := topS 30
abbrev s_l_some_shapeN : Stmt := topS 35
abbrev s_l_above : Stmt := topS 34
abbrev s_need_key : Stmt := topS 7
abbrev s_search_path : Stmt := topS 9
abbrev s_path_to : Stmt := topS 10
abbrev s_parent_of : Stmt := topS 11
abbrev s_bounds_of : Stmt := topS 12
abbrev s_restrict : Stmt := topS 8
abbrev s_subtree_at : Stmt := topS 13
abbrev s_rotated : Stmt := topS 15
abbrev s_rotate : Stmt := topS 16
abbrev s_l_hang : Stmt := topS 32
abbrev s_l_rotate : Stmt := topS 33
abbrev s_l_same : Stmt := topS 22
abbrev s_l_strange : Stmt := topS 36
abbrev s_law : Stmt := topS 37
abbrev s_l_field : Stmt := topS 23
abbrev s_l_outcome : Stmt := topS 24
abbrev s_l_error : Stmt := topS 25
abbrev sI_AtRoot : Stmt := clsS 3
abbrev sI_NoKey : Stmt := clsS 4
abbrev N_l_start : List Str := ["_law_script"]
theorem sc_l_start : FnScope N_l_start ["_law_script"] (defScope s_l_start) := ⟨rfl, rfl, rfl, by decide +kernel, rfl, by decide +kernel, by decide +kernel⟩
abbrev N_l_take : List Str := ["_law_draw", "_law_many", "_law_cell", "_law_digit", "_law_square"]
theorem sc_l_take : FnScope N_l_take ["_law_draw", "_law_many"] (defScope s_l_take) := ⟨rfl, rfl, rfl, by decide +kernel, rfl, by decide +kernel, by decide +kernel⟩
abbrev N_l_of : List Str := ["_law_draw", "_law_some"]
theorem sc_l_of : FnScope N_l_of ["_law_draw", "_law_some"] (defScope s_l_of) := ⟨rfl, rfl, rfl, by decide +kernel, rfl, by decide +kernel, by decide +kernel⟩
abbrev N_l_keys : List Str := ["_law_draw", "_law_many", "_law_key_in", "_law_wide", "_law_found", "_law_k"]
theorem sc_l_keys : FnScope N_l_keys ["_law_draw", "_law_many"] (defScope s_l_keys) := ⟨rfl, rfl, rfl, by decide +kernel, rfl, by decide +kernel, by decide +kernel⟩
abbrev N_l_size : List Str := ["_law_draw", "_law_most"]
theorem sc_l_size : FnScope N_l_size ["_law_draw", "_law_most"] (defScope s_l_size) := ⟨rfl, rfl, rfl, by decide +kernel, rfl, by decide +kernel, by decide +kernel⟩
abbrev N_l_shuffled : List Str := ["_law_draw", "_law_some", "_law_found", "_law_one"]
theorem sc_l_shuffled : FnScope N_l_shuffled ["_law_draw", "_law_some"] (defScope s_l_shuffled) := ⟨rfl, rfl, rfl, by decide +kernel, rfl, by decide +kernel, by decide +kernel⟩
abbrev N_l_shapeN : List Str := ["_law_m", "_law_found", "_law_line", "_law_key_in", "_law_side"]
theorem sc_l_shapeN : FnScope N_l_shapeN ["_law_m"] (defScope s_l_shapeN) := ⟨rfl, rfl, rfl, by decide +kernel, rfl, by decide +kernel, by decide +kernel⟩
abbrev N_l_empty : List Str := []
theorem sc_l_empty : FnScope N_l_empty [] (defScope s_l_empty) := ⟨rfl, rfl, rfl, by decide +kernel, rfl, by decide +kernel, by decide +kernel⟩
abbrev N_l_place : List Str := ["_law_m", "_law_key_in", "_law_here", "_law_above_here", "_law_step", "_law_side"]
theorem sc_l_place : FnScope N_l_place ["_law_m", "_law_key_in"] (defScope s_l_place) := ⟨rfl, rfl, rfl, by decide +kernel, rfl, by decide +kernel, by decide +kernel⟩
abbrev N_l_tree : List Str := ["_law_order", "_law_m", "_law_key_in"]
theorem sc_l_tree : FnScope N_l_tree ["_law_order"] (defScope s_l_tree) := ⟨rfl, rfl, rfl, by decide +kernel, rfl, by decide +kernel, by decide +kernel⟩
abbrev N_l_some_shapeN : List Str := ["_law_draw", "_law_keys_here", "_law_pick", "_law_order", "_law_k"]
theorem sc_l_some_shapeN : FnScope N_l_some_shapeN ["_law_draw", "_law_keys_here"] (defScope s_l_some_shapeN) := ⟨rfl, rfl, rfl, by decide +kernel, rfl, by decide +kernel, by decide +kernel⟩
abbrev N_l_above : List Str := ["_law_m", "_law_key_in", "_law_found"]
theorem sc_l_above : FnScope N_l_above ["_law_m", "_law_key_in"] (defScope s_l_above) := ⟨rfl, rfl, rfl, by decide +kernel, rfl, by decide +kernel, by decide +kernel⟩
abbrev N_need_key : List Str := ["shape", "key"]
theorem sc_need_key : FnScope N_need_key ["shape", "key"] (defScope s_need_key) := ⟨rfl, rfl, rfl, by decide +kernel, rfl, by decide +kernel, by decide +kernel⟩
abbrev N_search_path : List Str := ["shape", "key", "result", "low", "high", "here"]
theorem sc_search_path : FnScope N_search_path ["shape", "key"] (defScope s_search_path) := ⟨rfl, rfl, rfl, by decide +kernel, rfl, by decide +kernel, by decide +kernel⟩
abbrev N_path_to : List Str := ["shape", "key"]
theorem sc_path_to : FnScope N_path_to ["shape", "key"] (defScope s_path_to) := ⟨rfl, rfl, rfl, by decide +kernel, rfl, by decide +kernel, by decide +kernel⟩
abbrev N_parent_of : List Str := ["shape", "key", "line"]
theorem sc_parent_of : FnScope N_parent_of ["shape", "key"] (defScope s_parent_of) := ⟨rfl, rfl, rfl, by decide +kernel, rfl, by decide +kernel, by decide +kernel⟩
abbrev N_bounds_of : List Str := ["shape", "key", "above", "last", "low", "here"]
theorem sc_bounds_of : FnScope N_bounds_of ["shape", "key"] (defScope s_bounds_of) := ⟨rfl, rfl, rfl, by decide +kernel, rfl, by decide +kernel, by decide +kernel⟩
abbrev N_restrict : List Str := ["shape", "low", "high", "key"]
theorem sc_restrict : FnScope N_restrict ["shape", "low", "high"] (defScope s_restrict) := ⟨rfl, rfl, rfl, by decide +kernel, rfl, by decide +kernel, by decide +kernel⟩
abbrev N_subtree_at : List Str := ["shape", "key", "low", "high"]
theorem sc_subtree_at : FnScope N_subtree_at ["shape", "key"] (defScope s_subtree_at) := ⟨rfl, rfl, rfl, by decide +kernel, rfl, by decide +kernel, by decide +kernel⟩
abbrev N_rotated : List Str := ["piece", "key", "above", "between", "greater", "smaller"]
theorem sc_rotated : FnScope N_rotated ["piece", "key"] (defScope s_rotated) := ⟨rfl, rfl, rfl, by decide +kernel, rfl, by decide +kernel, by decide +kernel⟩
abbrev N_rotate : List Str := ["shape", "key", "above", "piece", "begin"]
theorem sc_rotate : FnScope N_rotate ["shape", "key"] (defScope s_rotate) := ⟨rfl, rfl, rfl, by decide +kernel, rfl, by decide +kernel, by decide +kernel⟩
abbrev N_l_hang : List Str := ["_law_m", "_law_side", "_law_above_here", "_law_key_in"]
theorem sc_l_hang : FnScope N_l_hang ["_law_m", "_law_side", "_law_above_here", "_law_key_in"] (defScope s_l_hang) := ⟨rfl, rfl, rfl, by decide +kernel, rfl, by decide +kernel, by decide +kernel⟩
abbrev N_l_rotate : List Str := ["_law_m", "_law_key_in", "_law_above_here", "_law_far", "_law_side", "_law_back"]
theorem sc_l_rotate : FnScope N_l_rotate ["_law_m", "_law_key_in"] (defScope s_l_rotate) := ⟨rfl, rfl, rfl, by decide +kernel, rfl, by decide +kernel, by decide +kernel⟩
abbrev N_l_same : List Str := ["_law_found", "_law_due", "_law_one", "_law_other"]
theorem sc_l_same : FnScope N_l_same ["_law_found", "_law_due"] (defScope s_l_same) := ⟨rfl, rfl, rfl, by decide +kernel, rfl, by decide +kernel, by decide +kernel⟩
abbrev N_l_strange : List Str := ["_law_draw", "_law_keys_here", "_law_low"]
theorem sc_l_strange : FnScope N_l_strange ["_law_draw", "_law_keys_here"] (defScope s_l_strange) := ⟨rfl, rfl, rfl, by decide +kernel, rfl, by decide +kernel, by decide +kernel⟩
abbrev N_law : List Str := ["_law_script", "_law_draw", "_law_turn", "_law_keys_here", "_law_shape_in", "_law_step", "_law_key_in", "_law_m", "_law_parent", "_law_found", "_law_odd"]
theorem sc_law : FnScope N_law ["_law_script"] (defScope s_law) := ⟨rfl, rfl, rfl, by decide +kernel, rfl, by decide +kernel, by decide +kernel⟩
abbrev N_l_field : List Str := ["_law_e"]
theorem sc_l_field : FnScope N_l_field ["_law_e"] (defScope s_l_field) := ⟨rfl, rfl, rfl, by decide +kernel, rfl, by decide +kernel, by decide +kernel⟩
abbrev N_l_outcome : List Str := ["_law_ask", "_law_answer", "_law_tag", "_law_field_here", "_law_e"]
theorem sc_l_outcome : FnScope N_l_outcome ["_law_ask"] (defScope s_l_outcome) := ⟨rfl, rfl, rfl, by decide +kernel, rfl, by decide +kernel, by decide +kernel⟩
abbrev N_l_error : List Str := ["_law_ask"]
theorem sc_l_error : FnScope N_l_error ["_law_ask"] (defScope s_l_error) := ⟨rfl, rfl, rfl, by decide +kernel, rfl, by decide +kernel, by decide +kernel⟩
theorem scI_AtRoot : FnScope ["self", "key"] ["self", "key"] (defScope sI_AtRoot) := ⟨rfl, rfl, rfl, by decide +kernel, rfl, by decide +kernel, by decide +kernel⟩
theorem scI_NoKey : FnScope ["self", "key"] ["self", "key"] (defScope sI_NoKey) := ⟨rfl, rfl, rfl, by decide +kernel, rfl, by decide +kernel, by decide +kernel⟩
structure Txt (K : PySem.W.Frag) (mg : Str → Option Value) where
  f_l_start : Addr
  fd_l_start : FuncData
  F_l_start : Fun K "_law_start" "_law_start" s_l_start f_l_start fd_l_start
  g_l_start : mg "_law_start" = some (.ref f_l_start)
  b_l_start : Binds K fd_l_start ["_law_script"] []
  f_l_take : Addr
  fd_l_take : FuncData
  F_l_take : Fun K "_law_take" "_law_take" s_l_take f_l_take fd_l_take
  g_l_take : mg "_law_take" = some (.ref f_l_take)
  b_l_take : Binds K fd_l_take ["_law_draw", "_law_many"] []
  f_l_of : Addr
  fd_l_of : FuncData
  F_l_of : Fun K "_law_of" "_law_of" s_l_of f_l_of fd_l_of
  g_l_of : mg "_law_of" = some (.ref f_l_of)
  b_l_of : Binds K fd_l_of ["_law_draw", "_law_some"] []
  f_l_keys : Addr
  fd_l_keys : FuncData
  F_l_keys : Fun K "_law_keys" "_law_keys" s_l_keys f_l_keys fd_l_keys
  g_l_keys : mg "_law_keys" = some (.ref f_l_keys)
  b_l_keys : Binds K fd_l_keys ["_law_draw", "_law_many"] []
  f_l_size : Addr
  fd_l_size : FuncData
  F_l_size : Fun K "_law_size" "_law_size" s_l_size f_l_size fd_l_size
  g_l_size : mg "_law_size" = some (.ref f_l_size)
  b_l_size : Binds K fd_l_size ["_law_draw", "_law_most"] []
  f_l_shuffled : Addr
  fd_l_shuffled : FuncData
  F_l_shuffled : Fun K "_law_shuffled" "_law_shuffled" s_l_shuffled f_l_shuffled fd_l_shuffled
  g_l_shuffled : mg "_law_shuffled" = some (.ref f_l_shuffled)
  b_l_shuffled : Binds K fd_l_shuffled ["_law_draw", "_law_some"] []
  f_l_shapeN : Addr
  fd_l_shapeN : FuncData
  F_l_shapeN : Fun K "_law_shape" "_law_shape" s_l_shapeN f_l_shapeN fd_l_shapeN
  g_l_shapeN : mg "_law_shape" = some (.ref f_l_shapeN)
  b_l_shapeN : Binds K fd_l_shapeN ["_law_m"] []
  f_l_empty : Addr
  fd_l_empty : FuncData
  F_l_empty : Fun K "_law_empty" "_law_empty" s_l_empty f_l_empty fd_l_empty
  g_l_empty : mg "_law_empty" = some (.ref f_l_empty)
  b_l_empty : Binds K fd_l_empty [] []
  f_l_place : Addr
  fd_l_place : FuncData
  F_l_place : Fun K "_law_place" "_law_place" s_l_place f_l_place fd_l_place
  g_l_place : mg "_law_place" = some (.ref f_l_place)
  b_l_place : Binds K fd_l_place ["_law_m", "_law_key_in"] []
  f_l_tree : Addr
  fd_l_tree : FuncData
  F_l_tree : Fun K "_law_tree" "_law_tree" s_l_tree f_l_tree fd_l_tree
  g_l_tree : mg "_law_tree" = some (.ref f_l_tree)
  b_l_tree : Binds K fd_l_tree ["_law_order"] []
  f_l_some_shapeN : Addr
  fd_l_some_shapeN : FuncData
  F_l_some_shapeN : Fun K "_law_some_shape" "_law_some_shape" s_l_some_shapeN f_l_some_shapeN fd_l_some_shapeN
  g_l_some_shapeN : mg "_law_some_shape" = some (.ref f_l_some_shapeN)
  b_l_some_shapeN : Binds K fd_l_some_shapeN ["_law_draw", "_law_keys_here"] []
  f_l_above : Addr
  fd_l_above : FuncData
  F_l_above : Fun K "_law_above" "_law_above" s_l_above f_l_above fd_l_above
  g_l_above : mg "_law_above" = some (.ref f_l_above)
  b_l_above : Binds K fd_l_above ["_law_m", "_law_key_in"] []
  f_need_key : Addr
  fd_need_key : FuncData
  F_need_key : Fun K "need_key" "need_key" s_need_key f_need_key fd_need_key
  g_need_key : mg "need_key" = some (.ref f_need_key)
  b_need_key : Binds K fd_need_key ["shape", "key"] []
  f_search_path : Addr
  fd_search_path : FuncData
  F_search_path : Fun K "search_path" "search_path" s_search_path f_search_path fd_search_path
  g_search_path : mg "search_path" = some (.ref f_search_path)
  b_search_path : Binds K fd_search_path ["shape", "key"] []
  f_path_to : Addr
  fd_path_to : FuncData
  F_path_to : Fun K "path_to" "path_to" s_path_to f_path_to fd_path_to
  g_path_to : mg "path_to" = some (.ref f_path_to)
  b_path_to : Binds K fd_path_to ["shape", "key"] []
  f_parent_of : Addr
  fd_parent_of : FuncData
  F_parent_of : Fun K "parent_of" "parent_of" s_parent_of f_parent_of fd_parent_of
  g_parent_of : mg "parent_of" = some (.ref f_parent_of)
  b_parent_of : Binds K fd_parent_of ["shape", "key"] []
  f_bounds_of : Addr
  fd_bounds_of : FuncData
  F_bounds_of : Fun K "bounds_of" "bounds_of" s_bounds_of f_bounds_of fd_bounds_of
  g_bounds_of : mg "bounds_of" = some (.ref f_bounds_of)
  b_bounds_of : Binds K fd_bounds_of ["shape", "key"] []
  f_restrict : Addr
  fd_restrict : FuncData
  F_restrict : FunD K "restrict" "restrict" (defArgs s_restrict) (defBody s_restrict) (defScope s_restrict) [] [("low", V.non), ("high", V.non)] f_restrict fd_restrict
  g_restrict : mg "restrict" = some (.ref f_restrict)
  f_subtree_at : Addr
  fd_subtree_at : FuncData
  F_subtree_at : Fun K "subtree_at" "subtree_at" s_subtree_at f_subtree_at fd_subtree_at
  g_subtree_at : mg "subtree_at" = some (.ref f_subtree_at)
  b_subtree_at : Binds K fd_subtree_at ["shape", "key"] []
  f_rotated : Addr
  fd_rotated : FuncData
  F_rotated : Fun K "rotated" "rotated" s_rotated f_rotated fd_rotated
  g_rotated : mg "rotated" = some (.ref f_rotated)
  b_rotated : Binds K fd_rotated ["piece", "key"] []
  f_rotate : Addr
  fd_rotate : FuncData
  F_rotate : Fun K "rotate" "rotate" s_rotate f_rotate fd_rotate
  g_rotate : mg "rotate" = some (.ref f_rotate)
  b_rotate : Binds K fd_rotate ["shape", "key"] []
  f_l_hang : Addr
  fd_l_hang : FuncData
  F_l_hang : Fun K "_law_hang" "_law_hang" s_l_hang f_l_hang fd_l_hang
  g_l_hang : mg "_law_hang" = some (.ref f_l_hang)
  b_l_hang : Binds K fd_l_hang ["_law_m", "_law_side", "_law_above_here", "_law_key_in"] []
  f_l_rotate : Addr
  fd_l_rotate : FuncData
  F_l_rotate : Fun K "_law_rotate" "_law_rotate" s_l_rotate f_l_rotate fd_l_rotate
  g_l_rotate : mg "_law_rotate" = some (.ref f_l_rotate)
  b_l_rotate : Binds K fd_l_rotate ["_law_m", "_law_key_in"] []
  f_l_same : Addr
  fd_l_same : FuncData
  F_l_same : Fun K "_law_same" "_law_same" s_l_same f_l_same fd_l_same
  g_l_same : mg "_law_same" = some (.ref f_l_same)
  b_l_same : Binds K fd_l_same ["_law_found", "_law_due"] []
  f_l_strange : Addr
  fd_l_strange : FuncData
  F_l_strange : Fun K "_law_strange" "_law_strange" s_l_strange f_l_strange fd_l_strange
  g_l_strange : mg "_law_strange" = some (.ref f_l_strange)
  b_l_strange : Binds K fd_l_strange ["_law_draw", "_law_keys_here"] []
  f_law : Addr
  fd_law : FuncData
  c_law : Addr
  F_law : FunC K "law" "law" s_law f_law fd_law c_law
  g_law : mg "law" = some (.ref f_law)
  f_l_field : Addr
  fd_l_field : FuncData
  F_l_field : Fun K "_law_field" "_law_field" s_l_field f_l_field fd_l_field
  g_l_field : mg "_law_field" = some (.ref f_l_field)
  b_l_field : Binds K fd_l_field ["_law_e"] []
  f_l_outcome : Addr
  fd_l_outcome : FuncData
  F_l_outcome : Fun K "_law_outcome" "_law_outcome" s_l_outcome f_l_outcome fd_l_outcome
  g_l_outcome : mg "_law_outcome" = some (.ref f_l_outcome)
  b_l_outcome : Binds K fd_l_outcome ["_law_ask"] []
  f_l_error : Addr
  fd_l_error : FuncData
  F_l_error : Fun K "_law_error" "_law_error" s_l_error f_l_error fd_l_error
  g_l_error : mg "_law_error" = some (.ref f_l_error)
  b_l_error : Binds K fd_l_error ["_law_ask"] []
  c_AtRoot : Addr
  g_AtRoot : mg "AtRoot" = some (.ref c_AtRoot)
  c_NoKey : Addr
  g_NoKey : mg "NoKey" = some (.ref c_NoKey)
  c_TreeError : Addr
  g_TreeError : mg "TreeError" = some (.ref c_TreeError)
  c_Missing : Addr
  g_Missing : mg "Missing" = some (.ref c_Missing)
  c_EmptyHistory : Addr
  g_EmptyHistory : mg "EmptyHistory" = some (.ref c_EmptyHistory)
  i_AtRoot : Addr
  fdI_AtRoot : FuncData
  FI_AtRoot : Fun K "__init__" "AtRoot.__init__" sI_AtRoot i_AtRoot fdI_AtRoot
  bI_AtRoot : Binds K fdI_AtRoot ["self", "key"] []
  XK_AtRoot : XKnown K "AtRoot" c_AtRoot i_AtRoot
  XM_AtRoot : XMatch K "AtRoot" c_AtRoot c_TreeError c_Missing c_EmptyHistory
  i_NoKey : Addr
  fdI_NoKey : FuncData
  FI_NoKey : Fun K "__init__" "NoKey.__init__" sI_NoKey i_NoKey fdI_NoKey
  bI_NoKey : Binds K fdI_NoKey ["self", "key"] []
  XK_NoKey : XKnown K "NoKey" c_NoKey i_NoKey
  XM_NoKey : XMatch K "NoKey" c_NoKey c_TreeError c_Missing c_EmptyHistory
  m_abs : mg "abs" = none
  m_all : mg "all" = none
  m_bool : mg "bool" = none
  m_int : mg "int" = none
  m_isinstance : mg "isinstance" = none
  m_len : mg "len" = none
  m_list : mg "list" = none
  m_max : mg "max" = none
  m_min : mg "min" = none
  m_range : mg "range" = none
  m_str : mg "str" = none
  m_tuple : mg "tuple" = none
  m_zip : mg "zip" = none
section
variable {P : Program} {w : World} {K : PySem.W.Frag} {mg : Str → Option Value} {base : Heap}
theorem q_k_rotate_0_key_shape {K : PySem.W.Frag} : ∀ Hf ds zs vs us, IsDs K Hf ds vs → IsDs K Hf zs us → IsDs K Hf (g_k_rotate_0_key_shape ds zs) ((fun vs zs => vs ++ (zs.drop 1).take 1 ++ (zs.drop 0).take 1) vs us) := fun Hf ds zs vs us h1 h2 => ((h1).app ((h2.dropN 1).takeN 1)).app ((h2.dropN 0).takeN 1)
theorem k_rotate_0_key_shape {K : PySem.W.Frag} {mg : Str → Option Value} (T : Txt K mg) : ∃ _ : List Value, KBn K T.fd_rotate ["shape", "key"] 0 ["key", "shape"] (fun us ws => us ++ (ws.drop 1).take 1 ++ (ws.drop 0).take 1) (fun vs zs => vs ++ (zs.drop 1).take 1 ++ (zs.drop 0).take 1) :=
  fun_kbs T.F_rotate 0 ["key", "shape"] (fun us ws => us ++ (ws.drop 1).take 1 ++ (ws.drop 0).take 1) (fun vs zs => vs ++ (zs.drop 1).take 1 ++ (zs.drop 0).take 1) (fun h1 h3 => ((h1).append ((h3.drop 1).take 1)).append ((h3.drop 0).take 1)) fun kV doc pm an cdv ct us ws h1 h2 => match us, ws, h1, h2 with | [], [w0, w1], _, _ => rfl
theorem q_k_restrict_1_low_high {K : PySem.W.Frag} : ∀ Hf ds zs vs us, IsDs K Hf ds vs → IsDs K Hf zs us → IsDs K Hf (g_k_restrict_1_low_high ds zs) ((fun vs zs => vs ++ zs ++ ([] : List (Str × V)).map (·.2)) vs us) := fun Hf ds zs vs us h1 h2 => (h1.app h2).app (isDs_nil)
theorem k_restrict_1_low_high {K : PySem.W.Frag} {mg : Str → Option Value} (T : Txt K mg) : ∃ mv : List Value, KBn K T.fd_restrict ["shape", "low", "high"] 1 ["low", "high"] (fun us ws => us ++ ws ++ mv) (fun vs zs => vs ++ zs ++ ([] : List (Str × V)).map (·.2)) :=
  T.F_restrict.kbinds0 1 ["low", "high"] [] (fun us mv ws => us ++ ws ++ mv) (fun h => nomatch h) (by simp) (fun h1 h2 h3 => (h1.append h3).append h2) fun D doc pm an cdv ct us mv ws h1 h2 h3 => match us, mv, ws, h1, h2, h3 with | [u0], [], [w0, w1], _, _, _ => rfl
theorem q_k_restrict_1_low {K : PySem.W.Frag} : ∀ Hf ds zs vs us, IsDs K Hf ds vs → IsDs K Hf zs us → IsDs K Hf (g_k_restrict_1_low ds zs) ((fun vs zs => vs ++ zs ++ ([("high", V.non)] : List (Str × V)).map (·.2)) vs us) := fun Hf ds zs vs us h1 h2 => (h1.app h2).app (isDs_cons (isD_non.mpr rfl) (isDs_nil))
theorem k_restrict_1_low {K : PySem.W.Frag} {mg : Str → Option Value} (T : Txt K mg) : ∃ mv : List Value, KBn K T.fd_restrict ["shape", "low", "high"] 1 ["low"] (fun us ws => us ++ ws ++ mv) (fun vs zs => vs ++ zs ++ ([("high", V.non)] : List (Str × V)).map (·.2)) :=
  T.F_restrict.kbinds0 1 ["low"] [("high", V.non)] (fun us mv ws => us ++ ws ++ mv) (fun h => nomatch h) (by simp) (fun h1 h2 h3 => (h1.append h3).append h2) fun D doc pm an cdv ct us mv ws h1 h2 h3 => match us, mv, ws, h1, h2, h3 with | [u0], [m0], [w0], _, _, _ => ⟨_, _, _, _, _, _, rfl, rfl, rfl⟩
theorem q_k_restrict_1_high {K : PySem.W.Frag} : ∀ Hf ds zs vs us, IsDs K Hf ds vs → IsDs K Hf zs us → IsDs K Hf (g_k_restrict_1_high ds zs) ((fun vs zs => vs ++ ([("low", V.non)] : List (Str × V)).map (·.2) ++ zs) vs us) := fun Hf ds zs vs us h1 h2 => (h1.app (isDs_cons (isD_non.mpr rfl) (isDs_nil))).app h2
theorem k_restrict_1_high {K : PySem.W.Frag} {mg : Str → Option Value} (T : Txt K mg) : ∃ mv : List Value, KBn K T.fd_restrict ["shape", "low", "high"] 1 ["high"] (fun us ws => us ++ mv ++ ws) (fun vs zs => vs ++ ([("low", V.non)] : List (Str × V)).map (·.2) ++ zs) :=
  T.F_restrict.kbinds0 1 ["high"] [("low", V.non)] (fun us mv ws => us ++ mv ++ ws) (fun h => nomatch h) (by simp) (fun h1 h2 h3 => (h1.append h2).append h3) fun D doc pm an cdv ct us mv ws h1 h2 h3 => match us, mv, ws, h1, h2, h3 with | [u0], [m0], [w0], _, _, _ => ⟨_, _, _, _, _, _, rfl, rfl, rfl⟩
theorem okI_AtRoot (T : Txt K mg) : FnOk P w K mg base CX0 1 T.i_AtRoot T.fdI_AtRoot ["self", "key"] (spInit K "AtRoot" T.c_AtRoot T.i_AtRoot) :=
  init2 T.FI_AtRoot scI_AtRoot rfl fun cdv A outer s H E => pss_one (ps_asg (pe_tup (pa_cons pe_str (pa_cons (pv 1) pa_nil))) (pg_tup rfl (pgs_cons (pg_ost (pv 0)) (pgs_cons (pg_ost (pv 0)) pgs_nil))))
theorem okI_NoKey (T : Txt K mg) : FnOk P w K mg base CX0 1 T.i_NoKey T.fdI_NoKey ["self", "key"] (spInit K "NoKey" T.c_NoKey T.i_NoKey) :=
  init2 T.FI_NoKey scI_NoKey rfl fun cdv A outer s H E => pss_one (ps_asg (pe_tup (pa_cons pe_str (pa_cons (pv 1) pa_nil))) (pg_tup rfl (pgs_cons (pg_ost (pv 0)) (pgs_cons (pg_ost (pv 0)) pgs_nil))))
abbrev tl0 : List Str := ["AtRoot", "NoKey"]
def outF (T : Txt K mg) : OutFacts P w K mg base tl0 where
  C1 := T.c_TreeError; C2 := T.c_Missing; C3 := T.c_EmptyHistory; gO := T.f_l_outcome; gF := T.f_l_field; fdO := T.fd_l_outcome; fdF := T.fd_l_field; stO := s_l_outcome; stF := s_l_field
  FO := T.F_l_outcome; SO := sc_l_outcome; bO := T.b_l_outcome; mO := T.g_l_outcome; FF := T.F_l_field; SF := sc_l_field; bF := T.b_l_field; mF := T.g_l_field
  glF := (by rfl); viE := .inl (by rfl)
  shape := fun cdv A outer s H te tF ha hf => pss_cons (ps_asg (pe_tup (pa_cons pe_non (pa_cons pe_str (pa_cons pe_non pa_nil)))) (pg_tup rfl (pgs_cons (pg_name sc_l_outcome.nd rfl (.inl rfl)) (pgs_cons (pg_name sc_l_outcome.nd rfl (.inl rfl)) (pgs_cons (pg_name sc_l_outcome.nd rfl (.inl rfl)) pgs_nil)))))
    (pss_cons (ps_try2 (tb := fun W D σ H => (tAsg (te W) (gName 1)) D σ H) rfl rfl sc_l_outcome.nd rfl rfl (by rfl) T.g_TreeError (by rfl) T.g_Missing (by rfl) T.g_EmptyHistory (fun W pn xe tk => pss_one (ps_set sc_l_outcome.nd rfl (.inl rfl) (ha W pn xe _ _ tk)))
      fun a oe cls d pn hz hf2 => ⟨pss_one (ps_parHot ⟨(a, oe), ⟨rfl, by obtain ⟨vs, hv⟩ := hf2; exact ⟨vs, hv, hz.2.2 vs hv⟩⟩, List.mem_cons_self ..⟩ sc_l_outcome.nd rfl rfl (by decide) rfl rfl (pa_cons (pe_xq hz.zc hf2 (List.mem_cons_self ..) (pv 4)) (pa_cons (hf a oe cls d pn _ _ _ hz hf2) pa_nil)) rfl),
        pss_one (ps_set sc_l_outcome.nd rfl (.inl rfl) (pe_xq hz.zc hf2 (List.mem_cons_self ..) (pv 4)))⟩)
    (pss_one (ps_ret (pe_tup (pa_cons (pv 1) (pa_cons (pv 2) (pa_cons (pv 3) pa_nil)))))))
  fld := fun cdv A outer s H p C dd tag x S₁ hr k0 => ⟨w_l_field p.1 tag x, (vss_cons (vs_if (vt_in (hu_ofH hr) (ve_xaT k0 (List.mem_cons_self ..) (ve_var 0)) (ve_tup (va_cons ve_str (va_cons ve_str (va_cons ve_str (va_cons ve_str (va_cons ve_str (va_cons ve_str (va_cons ve_str va_nil))))))))) (vss_one (vs_ret (ve_xaF (n := "key") k0 (List.mem_cons_self ..) (ve_var 0)))) vss_nil)
    (vss_cons (vs_if (vt_in (hu_ofH hr) (ve_xaT k0 (List.mem_cons_self ..) (ve_var 0)) (ve_tup (va_cons ve_str (va_cons ve_str (va_cons ve_str (va_cons ve_str (va_cons ve_str va_nil))))))) (vss_one (vs_ret (ve_xaF (n := "pos") k0 (List.mem_cons_self ..) (ve_var 0)))) vss_nil)
    (vss_cons (vs_if (vt_in (hu_ofH hr) (ve_xaT k0 (List.mem_cons_self ..) (ve_var 0)) (ve_tup (va_cons ve_str (va_cons ve_str (va_cons ve_str (va_cons ve_str va_nil)))))) (vss_one (vs_ret (ve_xaF (n := "limit") k0 (List.mem_cons_self ..) (ve_var 0)))) vss_nil)
    (vss_cons (vs_if (vt_in (hu_ofH hr) (ve_xaT k0 (List.mem_cons_self ..) (ve_var 0)) (ve_tup (va_cons ve_str (va_cons ve_str (va_cons ve_str (va_cons ve_str va_nil)))))) (vss_one (vs_ret (ve_xaF (n := "name") k0 (List.mem_cons_self ..) (ve_var 0)))) vss_nil)
    (vss_cons (vs_if (vt_eq (hu64H hr) (ve_xaT k0 (List.mem_cons_self ..) (ve_var 0)) ve_str) (vss_one (vs_ret (ve_xaF (n := "size") k0 (List.mem_cons_self ..) (ve_var 0)))) vss_nil)
    (vss_one (vs_ret (ve_ifE (vt_eq (hu64H hr) (ve_xaT k0 (List.mem_cons_self ..) (ve_var 0)) ve_str) (ve_xaF (n := "word") k0 (List.mem_cons_self ..) (ve_var 0)) (ve_xaF (n := "number") k0 (List.mem_cons_self ..) (ve_var 0)))))))))), fun Φ M h1 h2 => r_l_field h1 h2⟩
  kn := fun tag ht C hC => by
    simp only [List.mem_cons, List.not_mem_nil, or_false] at ht
    rcases ht with rfl | rfl
    · cases hC.symm.trans T.g_AtRoot; exact ⟨⟨_, T.XK_AtRoot⟩, T.XM_AtRoot⟩
    · cases hC.symm.trans T.g_NoKey; exact ⟨⟨_, T.XK_NoKey⟩, T.XM_NoKey⟩
def errF (T : Txt K mg) : ErrFacts P w K mg base (outF (P := P) (w := w) (base := base) T).gO where
  gE := T.f_l_error; fdE := T.fd_l_error; stE := s_l_error; FE := T.F_l_error; SE := sc_l_error; bE := T.b_l_error; mE := T.g_l_error; glO := (by rfl)
  shape := fun cdv A outer s H S₁ wO h => vss_one (vs_ret (ve_slice (h _ _ _) (vo_some ve_int) vo_none))
theorem ok_l_start (T : Txt K mg) : FnOk P w K mg base CX0 1 T.f_l_start T.fd_l_start ["_law_script"] (spW K W_l_start) :=
  fnW (k := 0) T.F_l_start sc_l_start (by first | (rintro _ _ _ ⟨rfl, _⟩ <;> rfl) | (rintro _ _ _ ⟨_, rfl, _⟩ <;> rfl) | (rintro _ _ _ ⟨_, _, rfl, _⟩ <;> rfl) | (rintro _ _ _ ⟨_, _, _, rfl, _⟩ <;> rfl) | (rintro _ _ _ ⟨_, _, _, _, rfl, _⟩ <;> rfl) | (rintro _ _ _ ⟨_, _, _, _, _, rfl, _⟩ <;> rfl) | (rintro _ _ _ ⟨_, _, _, _, _, _, rfl, _⟩ <;> rfl) | (rintro _ _ _ ⟨_, _, _, _, _, _, _, rfl, _⟩ <;> rfl) | (rintro _ _ _ ⟨_, _, _, _, _, _, _, _, rfl, _⟩ <;> rfl) | (rintro _ _ _ ⟨_, _, _, _, _, _, _, _, _, rfl, _⟩ <;> rfl) | (rintro _ _ _ ⟨_, rfl | rfl, _⟩; rfl; rfl) | (rintro _ _ _ ⟨_, _, rfl | rfl, _⟩; rfl; rfl) | (rintro _ _ _ ⟨_, rfl | rfl, _⟩ <;> rfl) | (rintro _ _ _ ⟨_, _, rfl | rfl, _⟩ <;> rfl) | (rintro _ _ _ ⟨_, _, _, rfl | rfl, _⟩ <;> rfl) | (rintro _ _ _ ⟨_, _, _, _, rfl | rfl, _⟩ <;> rfl) | (rintro _ _ _ ⟨_, _, ⟨rfl, _⟩ | ⟨rfl, _⟩, _⟩ <;> rfl) | (rintro _ _ _ ⟨_, ⟨rfl, _⟩ | ⟨rfl, _⟩, _⟩ <;> rfl) | (rintro _ _ _ (⟨_, _, rfl, _⟩ | ⟨_, _, _, rfl, _⟩) <;> rfl) | (rintro _ _ _ (⟨_, _, _, rfl | rfl, _⟩ | ⟨_, _, _, _, rfl, _⟩) <;> rfl)) fun cdv A outer s H E hr S₀ => ⟨w_l_start, (vss_one (vs_ret (ve_lstM (va_cons (ve_lstC (by rfl) T.m_list (va_cons (ve_slice (ve_var 0) vo_none (vo_some ve_int)) va_nil)) (va_cons ve_int (va_cons ve_int (va_cons (ve_add ve_int (ve_mul ve_int (ve_len (by rfl) T.m_len (va_cons (ve_slice (ve_var 0) vo_none (vo_some ve_int)) va_nil)))) va_nil))))))), r_l_start⟩
theorem ok_l_take (T : Txt K mg) : FnOk P w K mg base CX0 1 T.f_l_take T.fd_l_take ["_law_draw", "_law_many"] (spW K W_l_take) :=
  fnW (k := 0) T.F_l_take sc_l_take (by first | (rintro _ _ _ ⟨rfl, _⟩ <;> rfl) | (rintro _ _ _ ⟨_, rfl, _⟩ <;> rfl) | (rintro _ _ _ ⟨_, _, rfl, _⟩ <;> rfl) | (rintro _ _ _ ⟨_, _, _, rfl, _⟩ <;> rfl) | (rintro _ _ _ ⟨_, _, _, _, rfl, _⟩ <;> rfl) | (rintro _ _ _ ⟨_, _, _, _, _, rfl, _⟩ <;> rfl) | (rintro _ _ _ ⟨_, _, _, _, _, _, rfl, _⟩ <;> rfl) | (rintro _ _ _ ⟨_, _, _, _, _, _, _, rfl, _⟩ <;> rfl) | (rintro _ _ _ ⟨_, _, _, _, _, _, _, _, rfl, _⟩ <;> rfl) | (rintro _ _ _ ⟨_, _, _, _, _, _, _, _, _, rfl, _⟩ <;> rfl) | (rintro _ _ _ ⟨_, rfl | rfl, _⟩; rfl; rfl) | (rintro _ _ _ ⟨_, _, rfl | rfl, _⟩; rfl; rfl) | (rintro _ _ _ ⟨_, rfl | rfl, _⟩ <;> rfl) | (rintro _ _ _ ⟨_, _, rfl | rfl, _⟩ <;> rfl) | (rintro _ _ _ ⟨_, _, _, rfl | rfl, _⟩ <;> rfl) | (rintro _ _ _ ⟨_, _, _, _, rfl | rfl, _⟩ <;> rfl) | (rintro _ _ _ ⟨_, _, ⟨rfl, _⟩ | ⟨rfl, _⟩, _⟩ <;> rfl) | (rintro _ _ _ ⟨_, ⟨rfl, _⟩ | ⟨rfl, _⟩, _⟩ <;> rfl) | (rintro _ _ _ (⟨_, _, rfl, _⟩ | ⟨_, _, _, rfl, _⟩) <;> rfl) | (rintro _ _ _ (⟨_, _, _, rfl | rfl, _⟩ | ⟨_, _, _, _, rfl, _⟩) <;> rfl)) fun cdv A outer s H E hr S₀ => ⟨w_l_take, (vss_cons (vs_if (vw_pt (vw_and (vt_lt (ve_ix (hu_of hr) (ve_var 0) ve_int) (ve_var 1)) (vw_and1 (vt_lt (ve_ix (hu_of hr) (ve_var 0) ve_int) (ve_len (by rfl) T.m_len (va_cons (ve_ix (hu_of hr) (ve_var 0) ve_int) va_nil)))))) (vss_cons (vs_set 2 sc_l_take.nd (ve_ix (hu_of hr) (ve_ix (hu_of hr) (ve_var 0) ve_int) (ve_ix (hu_of hr) (ve_var 0) ve_int)))
    (vss_cons (vs_asg (ve_add (ve_ix (hu_of hr) (ve_var 0) ve_int) ve_int) (show VG _ _ _ _ [] from (vg_sub (hu_of hr) (ve_var 0) ve_int)))
    (vss_cons (vs_asg ve_int (show VG _ _ _ _ [] from (vg_sub (hu_of hr) (ve_var 0) ve_int)))
    (vss_cons (vs_if (vt_ge (ve_var 2) (ve_pow ve_int ve_int)) (vss_one (vs_asg (ve_var 2) (show VG _ _ _ _ [] from (vg_sub (hu_of hr) (ve_var 0) ve_int)))) vss_nil)
    (vss_one (vs_asg (ve_mod (ve_add (ve_add (ve_mul (ve_ix (hu_of hr) (ve_var 0) ve_int) ve_int) (ve_mul (ve_mod (ve_var 2) ve_int) ve_int)) (ve_ix (hu_of hr) (ve_var 0) ve_int)) ve_int) (show VG _ _ _ _ [] from (vg_sub (hu_of hr) (ve_var 0) ve_int)))))))) vss_nil)
    (vss_cons (vs_if (vt_ge (ve_ix (hu_of hr) (ve_var 0) ve_int) (ve_var 1)) (vss_cons (vs_set 3 sc_l_take.nd (ve_mod (ve_ix (hu_of hr) (ve_var 0) ve_int) (ve_var 1)))
    (vss_cons (vs_asg (ve_fdiv (ve_ix (hu_of hr) (ve_var 0) ve_int) (ve_var 1)) (show VG _ _ _ _ [] from (vg_sub (hu_of hr) (ve_var 0) ve_int)))
    (vss_one (vs_ret (ve_var 3))))) vss_nil)
    (vss_cons (vs_set 4 sc_l_take.nd (ve_mod (ve_mul (ve_ix (hu_of hr) (ve_var 0) ve_int) (ve_ix (hu_of hr) (ve_var 0) ve_int)) ve_int))
    (vss_cons (vs_asg (ve_mod (ve_add (ve_add (ve_mul (ve_var 4) ve_int) (ve_mul (ve_ix (hu_of hr) (ve_var 0) ve_int) ve_int)) ve_int) ve_int) (show VG _ _ _ _ [] from (vg_sub (hu_of hr) (ve_var 0) ve_int)))
    (vss_one (vs_ret (ve_mod (ve_fdiv (ve_ix (hu_of hr) (ve_var 0) ve_int) ve_int) (ve_var 1)))))))), r_l_take⟩
theorem ok_l_of (T : Txt K mg) (G_l_take : FnOk P w K mg base CX0 1 T.f_l_take T.fd_l_take ["_law_draw", "_law_many"] (spW K W_l_take)) : FnOk P w K mg base CX0 2 T.f_l_of T.fd_l_of ["_law_draw", "_law_some"] (spW K W_l_of) :=
  fnW (k := 1) T.F_l_of sc_l_of (by first | (rintro _ _ _ ⟨rfl, _⟩ <;> rfl) | (rintro _ _ _ ⟨_, rfl, _⟩ <;> rfl) | (rintro _ _ _ ⟨_, _, rfl, _⟩ <;> rfl) | (rintro _ _ _ ⟨_, _, _, rfl, _⟩ <;> rfl) | (rintro _ _ _ ⟨_, _, _, _, rfl, _⟩ <;> rfl) | (rintro _ _ _ ⟨_, _, _, _, _, rfl, _⟩ <;> rfl) | (rintro _ _ _ ⟨_, _, _, _, _, _, rfl, _⟩ <;> rfl) | (rintro _ _ _ ⟨_, _, _, _, _, _, _, rfl, _⟩ <;> rfl) | (rintro _ _ _ ⟨_, _, _, _, _, _, _, _, rfl, _⟩ <;> rfl) | (rintro _ _ _ ⟨_, _, _, _, _, _, _, _, _, rfl, _⟩ <;> rfl) | (rintro _ _ _ ⟨_, rfl | rfl, _⟩; rfl; rfl) | (rintro _ _ _ ⟨_, _, rfl | rfl, _⟩; rfl; rfl) | (rintro _ _ _ ⟨_, rfl | rfl, _⟩ <;> rfl) | (rintro _ _ _ ⟨_, _, rfl | rfl, _⟩ <;> rfl) | (rintro _ _ _ ⟨_, _, _, rfl | rfl, _⟩ <;> rfl) | (rintro _ _ _ ⟨_, _, _, _, rfl | rfl, _⟩ <;> rfl) | (rintro _ _ _ ⟨_, _, ⟨rfl, _⟩ | ⟨rfl, _⟩, _⟩ <;> rfl) | (rintro _ _ _ ⟨_, ⟨rfl, _⟩ | ⟨rfl, _⟩, _⟩ <;> rfl) | (rintro _ _ _ (⟨_, _, rfl, _⟩ | ⟨_, _, _, rfl, _⟩) <;> rfl) | (rintro _ _ _ (⟨_, _, _, rfl | rfl, _⟩ | ⟨_, _, _, _, rfl, _⟩) <;> rfl)) fun cdv A outer s H E hr S₀ => ⟨w_l_of, (vss_one (vs_ret (ve_ix (hu_of hr) (ve_var 1) (ve_call G_l_take (hr.mono (by omega)) (by rfl) T.g_l_take T.F_l_take.kp T.b_l_take (va_cons (ve_var 0) (va_cons (ve_len (by rfl) T.m_len (va_cons (ve_var 1) va_nil)) va_nil)))))), r_l_of⟩
theorem ok_l_keys (T : Txt K mg) (G_l_of : FnOk P w K mg base CX0 2 T.f_l_of T.fd_l_of ["_law_draw", "_law_some"] (spW K W_l_of)) (G_l_take : FnOk P w K mg base CX0 1 T.f_l_take T.fd_l_take ["_law_draw", "_law_many"] (spW K W_l_take)) : FnOk P w K mg base CX0 3 T.f_l_keys T.fd_l_keys ["_law_draw", "_law_many"] (spW K W_l_keys) :=
  fnW (k := 2) T.F_l_keys sc_l_keys (by first | (rintro _ _ _ ⟨rfl, _⟩ <;> rfl) | (rintro _ _ _ ⟨_, rfl, _⟩ <;> rfl) | (rintro _ _ _ ⟨_, _, rfl, _⟩ <;> rfl) | (rintro _ _ _ ⟨_, _, _, rfl, _⟩ <;> rfl) | (rintro _ _ _ ⟨_, _, _, _, rfl, _⟩ <;> rfl) | (rintro _ _ _ ⟨_, _, _, _, _, rfl, _⟩ <;> rfl) | (rintro _ _ _ ⟨_, _, _, _, _, _, rfl, _⟩ <;> rfl) | (rintro _ _ _ ⟨_, _, _, _, _, _, _, rfl, _⟩ <;> rfl) | (rintro _ _ _ ⟨_, _, _, _, _, _, _, _, rfl, _⟩ <;> rfl) | (rintro _ _ _ ⟨_, _, _, _, _, _, _, _, _, rfl, _⟩ <;> rfl) | (rintro _ _ _ ⟨_, rfl | rfl, _⟩; rfl; rfl) | (rintro _ _ _ ⟨_, _, rfl | rfl, _⟩; rfl; rfl) | (rintro _ _ _ ⟨_, rfl | rfl, _⟩ <;> rfl) | (rintro _ _ _ ⟨_, _, rfl | rfl, _⟩ <;> rfl) | (rintro _ _ _ ⟨_, _, _, rfl | rfl, _⟩ <;> rfl) | (rintro _ _ _ ⟨_, _, _, _, rfl | rfl, _⟩ <;> rfl) | (rintro _ _ _ ⟨_, _, ⟨rfl, _⟩ | ⟨rfl, _⟩, _⟩ <;> rfl) | (rintro _ _ _ ⟨_, ⟨rfl, _⟩ | ⟨rfl, _⟩, _⟩ <;> rfl) | (rintro _ _ _ (⟨_, _, rfl, _⟩ | ⟨_, _, _, rfl, _⟩) <;> rfl) | (rintro _ _ _ (⟨_, _, _, rfl | rfl, _⟩ | ⟨_, _, _, _, rfl, _⟩) <;> rfl)) fun cdv A outer s H E hr S₀ => ⟨w_l_keys, (vss_cons (vs_set 2 sc_l_keys.nd (ve_call G_l_of (hr.mono (by omega)) (by rfl) T.g_l_of T.F_l_of.kp T.b_l_of (va_cons (ve_var 0) (va_cons (ve_lst (va_cons (ve_sub ve_int ve_int) (va_cons ve_int (va_cons (ve_sub ve_int (ve_pow ve_int ve_int)) (va_cons (ve_sub (ve_pow ve_int ve_int) ve_int) (va_cons (ve_call G_l_take (hr.mono (by omega)) (by rfl) T.g_l_take T.F_l_take.kp T.b_l_take (va_cons (ve_var 0) (va_cons (ve_pow ve_int ve_int) va_nil))) va_nil)))))) va_nil))))
    (vss_cons (vs_par 3 4 rfl sc_l_keys.nd (va_cons (ve_call G_l_of (hr.mono (by omega)) (by rfl) T.g_l_of T.F_l_of.kp T.b_l_of (va_cons (ve_var 0) (va_cons (ve_lst (va_cons ve_int (va_cons ve_int (va_cons ve_int (va_cons ve_int va_nil))))) va_nil))) (va_cons (ve_lstM va_nil) va_nil)))
    (vss_cons (vs_for PassesOwn.never rfl (vi_rng1 (by rfl) T.m_range (va_cons (ve_var 1) va_nil)) (show VG _ _ _ _ [5] from (vg_name 5 sc_l_keys.nd)) (vss_cons (vs_expr (ve_append (ve_var 4) (va_cons (ve_var 2) va_nil)))
    (vss_one (vs_set 2 sc_l_keys.nd (ve_add (ve_add (ve_var 2) ve_int) (ve_call G_l_take (hr.mono (by omega)) (by rfl) T.g_l_take T.F_l_take.kp T.b_l_take (va_cons (ve_var 0) (va_cons (ve_var 3) va_nil))))))))
    (vss_one (vs_retF (ve_var 4)))))), r_l_keys⟩
theorem ok_l_size (T : Txt K mg) (G_l_of : FnOk P w K mg base CX0 2 T.f_l_of T.fd_l_of ["_law_draw", "_law_some"] (spW K W_l_of)) (G_l_take : FnOk P w K mg base CX0 1 T.f_l_take T.fd_l_take ["_law_draw", "_law_many"] (spW K W_l_take)) : FnOk P w K mg base CX0 3 T.f_l_size T.fd_l_size ["_law_draw", "_law_most"] (spW K W_l_size) :=
  fnW (k := 2) T.F_l_size sc_l_size (by first | (rintro _ _ _ ⟨rfl, _⟩ <;> rfl) | (rintro _ _ _ ⟨_, rfl, _⟩ <;> rfl) | (rintro _ _ _ ⟨_, _, rfl, _⟩ <;> rfl) | (rintro _ _ _ ⟨_, _, _, rfl, _⟩ <;> rfl) | (rintro _ _ _ ⟨_, _, _, _, rfl, _⟩ <;> rfl) | (rintro _ _ _ ⟨_, _, _, _, _, rfl, _⟩ <;> rfl) | (rintro _ _ _ ⟨_, _, _, _, _, _, rfl, _⟩ <;> rfl) | (rintro _ _ _ ⟨_, _, _, _, _, _, _, rfl, _⟩ <;> rfl) | (rintro _ _ _ ⟨_, _, _, _, _, _, _, _, rfl, _⟩ <;> rfl) | (rintro _ _ _ ⟨_, _, _, _, _, _, _, _, _, rfl, _⟩ <;> rfl) | (rintro _ _ _ ⟨_, rfl | rfl, _⟩; rfl; rfl) | (rintro _ _ _ ⟨_, _, rfl | rfl, _⟩; rfl; rfl) | (rintro _ _ _ ⟨_, rfl | rfl, _⟩ <;> rfl) | (rintro _ _ _ ⟨_, _, rfl | rfl, _⟩ <;> rfl) | (rintro _ _ _ ⟨_, _, _, rfl | rfl, _⟩ <;> rfl) | (rintro _ _ _ ⟨_, _, _, _, rfl | rfl, _⟩ <;> rfl) | (rintro _ _ _ ⟨_, _, ⟨rfl, _⟩ | ⟨rfl, _⟩, _⟩ <;> rfl) | (rintro _ _ _ ⟨_, ⟨rfl, _⟩ | ⟨rfl, _⟩, _⟩ <;> rfl) | (rintro _ _ _ (⟨_, _, rfl, _⟩ | ⟨_, _, _, rfl, _⟩) <;> rfl) | (rintro _ _ _ (⟨_, _, _, rfl | rfl, _⟩ | ⟨_, _, _, _, rfl, _⟩) <;> rfl)) fun cdv A outer s H E hr S₀ => ⟨w_l_size, (vss_one (vs_ret (ve_call G_l_of (hr.mono (by omega)) (by rfl) T.g_l_of T.F_l_of.kp T.b_l_of (va_cons (ve_var 0) (va_cons (ve_lst (va_cons (ve_call G_l_take (hr.mono (by omega)) (by rfl) T.g_l_take T.F_l_take.kp T.b_l_take (va_cons (ve_var 0) (va_cons (ve_add (ve_var 1) ve_int) va_nil))) (va_cons (ve_min2 rfl (by rfl) T.m_min (va_cons (ve_var 1) (va_cons (ve_call G_l_take (hr.mono (by omega)) (by rfl) T.g_l_take T.F_l_take.kp T.b_l_take (va_cons (ve_var 0) (va_cons ve_int va_nil))) va_nil))) (va_cons (ve_min2 rfl (by rfl) T.m_min (va_cons (ve_var 1) (va_cons ve_int va_nil))) va_nil)))) va_nil))))), r_l_size⟩
theorem ok_l_shuffled (T : Txt K mg) (G_l_take : FnOk P w K mg base CX0 1 T.f_l_take T.fd_l_take ["_law_draw", "_law_many"] (spW K W_l_take)) : FnOk P w K mg base CX0 2 T.f_l_shuffled T.fd_l_shuffled ["_law_draw", "_law_some"] (spW K W_l_shuffled) :=
  fnW (k := 1) T.F_l_shuffled sc_l_shuffled (by first | (rintro _ _ _ ⟨rfl, _⟩ <;> rfl) | (rintro _ _ _ ⟨_, rfl, _⟩ <;> rfl) | (rintro _ _ _ ⟨_, _, rfl, _⟩ <;> rfl) | (rintro _ _ _ ⟨_, _, _, rfl, _⟩ <;> rfl) | (rintro _ _ _ ⟨_, _, _, _, rfl, _⟩ <;> rfl) | (rintro _ _ _ ⟨_, _, _, _, _, rfl, _⟩ <;> rfl) | (rintro _ _ _ ⟨_, _, _, _, _, _, rfl, _⟩ <;> rfl) | (rintro _ _ _ ⟨_, _, _, _, _, _, _, rfl, _⟩ <;> rfl) | (rintro _ _ _ ⟨_, _, _, _, _, _, _, _, rfl, _⟩ <;> rfl) | (rintro _ _ _ ⟨_, _, _, _, _, _, _, _, _, rfl, _⟩ <;> rfl) | (rintro _ _ _ ⟨_, rfl | rfl, _⟩; rfl; rfl) | (rintro _ _ _ ⟨_, _, rfl | rfl, _⟩; rfl; rfl) | (rintro _ _ _ ⟨_, rfl | rfl, _⟩ <;> rfl) | (rintro _ _ _ ⟨_, _, rfl | rfl, _⟩ <;> rfl) | (rintro _ _ _ ⟨_, _, _, rfl | rfl, _⟩ <;> rfl) | (rintro _ _ _ ⟨_, _, _, _, rfl | rfl, _⟩ <;> rfl) | (rintro _ _ _ ⟨_, _, ⟨rfl, _⟩ | ⟨rfl, _⟩, _⟩ <;> rfl) | (rintro _ _ _ ⟨_, ⟨rfl, _⟩ | ⟨rfl, _⟩, _⟩ <;> rfl) | (rintro _ _ _ (⟨_, _, rfl, _⟩ | ⟨_, _, _, rfl, _⟩) <;> rfl) | (rintro _ _ _ (⟨_, _, _, rfl | rfl, _⟩ | ⟨_, _, _, _, rfl, _⟩) <;> rfl)) fun cdv A outer s H E hr S₀ => ⟨w_l_shuffled, (vss_cons (vs_set 2 sc_l_shuffled.nd (ve_lstM va_nil))
    (vss_cons (vs_for PassesOwn.never rfl (vi_seq (ve_var 1)) (show VG _ _ _ _ [3] from (vg_name 3 sc_l_shuffled.nd)) (vss_one (vs_expr (ve_insert (ve_var 2) (va_cons (ve_call G_l_take (hr.mono (by omega)) (by rfl) T.g_l_take T.F_l_take.kp T.b_l_take (va_cons (ve_var 0) (va_cons (ve_add (ve_len (by rfl) T.m_len (va_cons (ve_var 2) va_nil)) ve_int) va_nil))) (va_cons (ve_var 3) va_nil))))))
    (vss_one (vs_retF (ve_var 2))))), r_l_shuffled⟩
theorem ok_l_shapeN (T : Txt K mg) : FnOk P w K mg base CX0 1 T.f_l_shapeN T.fd_l_shapeN ["_law_m"] (spW K W_l_shapeN) :=
  fnW (k := 0) T.F_l_shapeN sc_l_shapeN (by first | (rintro _ _ _ ⟨rfl, _⟩ <;> rfl) | (rintro _ _ _ ⟨_, rfl, _⟩ <;> rfl) | (rintro _ _ _ ⟨_, _, rfl, _⟩ <;> rfl) | (rintro _ _ _ ⟨_, _, _, rfl, _⟩ <;> rfl) | (rintro _ _ _ ⟨_, _, _, _, rfl, _⟩ <;> rfl) | (rintro _ _ _ ⟨_, _, _, _, _, rfl, _⟩ <;> rfl) | (rintro _ _ _ ⟨_, _, _, _, _, _, rfl, _⟩ <;> rfl) | (rintro _ _ _ ⟨_, _, _, _, _, _, _, rfl, _⟩ <;> rfl) | (rintro _ _ _ ⟨_, _, _, _, _, _, _, _, rfl, _⟩ <;> rfl) | (rintro _ _ _ ⟨_, _, _, _, _, _, _, _, _, rfl, _⟩ <;> rfl) | (rintro _ _ _ ⟨_, rfl | rfl, _⟩; rfl; rfl) | (rintro _ _ _ ⟨_, _, rfl | rfl, _⟩; rfl; rfl) | (rintro _ _ _ ⟨_, rfl | rfl, _⟩ <;> rfl) | (rintro _ _ _ ⟨_, _, rfl | rfl, _⟩ <;> rfl) | (rintro _ _ _ ⟨_, _, _, rfl | rfl, _⟩ <;> rfl) | (rintro _ _ _ ⟨_, _, _, _, rfl | rfl, _⟩ <;> rfl) | (rintro _ _ _ ⟨_, _, ⟨rfl, _⟩ | ⟨rfl, _⟩, _⟩ <;> rfl) | (rintro _ _ _ ⟨_, ⟨rfl, _⟩ | ⟨rfl, _⟩, _⟩ <;> rfl) | (rintro _ _ _ (⟨_, _, rfl, _⟩ | ⟨_, _, _, rfl, _⟩) <;> rfl) | (rintro _ _ _ (⟨_, _, _, rfl | rfl, _⟩ | ⟨_, _, _, _, rfl, _⟩) <;> rfl)) fun cdv A outer s H E hr S₀ => ⟨w_l_shapeN, (vss_cons (vs_par 1 2 rfl sc_l_shapeN.nd (va_cons (ve_lstM va_nil) (va_cons (ve_ifE (vt_notN (ve_ix (hu_of hr) (ve_var 0) ve_str) ve_non) (ve_lstM (va_cons (ve_ix (hu_of hr) (ve_var 0) ve_str) va_nil)) (ve_lstM va_nil)) va_nil)))
    (vss_cons (vs_while PassesOwn.never (vt_ne hr.units (ve_var 2) (ve_lst va_nil)) (vss_cons (vs_set 3 sc_l_shapeN.nd (ve_pop (ve_var 2)))
    (vss_cons (vs_expr (ve_append (ve_var 1) (va_cons (ve_var 3) va_nil)))
    (vss_one (vs_set 2 sc_l_shapeN.nd (ve_addM (ve_var 2) (ve_lc (own := [("_law_side", 4)]) rfl sc_l_shapeN.nd (vi_seq (ve_tup (va_cons (ve_ix (hu_of hr) (ve_var 0) ve_str) (va_cons (ve_ix (hu_of hr) (ve_var 0) ve_str) va_nil)))) (blkOk_by (N := N_l_shapeN) (sc := defScope s_l_shapeN) (by decide +kernel)) (fun _ _ _ _ _ => (vg_name 4 sc_l_shapeN.nd)) (fun _ _ _ _ _ => vts_one (vt_in (hu_of hr) (ve_var 3) (ve_var 4))) (fun _ _ _ _ _ => (ve_ix (hu_of hr) (ve_var 4) (ve_var 3))))))))))
    (vss_one (vs_ret (ve_tupN (by rfl) T.m_tuple (va_cons (ve_var 1) va_nil)))))), r_l_shapeN⟩
theorem ok_l_empty (T : Txt K mg) : FnOk P w K mg base CX0 1 T.f_l_empty T.fd_l_empty [] (spW K W_l_empty) :=
  fnW (k := 0) T.F_l_empty sc_l_empty (by first | (rintro _ _ _ ⟨rfl, _⟩ <;> rfl) | (rintro _ _ _ ⟨_, rfl, _⟩ <;> rfl) | (rintro _ _ _ ⟨_, _, rfl, _⟩ <;> rfl) | (rintro _ _ _ ⟨_, _, _, rfl, _⟩ <;> rfl) | (rintro _ _ _ ⟨_, _, _, _, rfl, _⟩ <;> rfl) | (rintro _ _ _ ⟨_, _, _, _, _, rfl, _⟩ <;> rfl) | (rintro _ _ _ ⟨_, _, _, _, _, _, rfl, _⟩ <;> rfl) | (rintro _ _ _ ⟨_, _, _, _, _, _, _, rfl, _⟩ <;> rfl) | (rintro _ _ _ ⟨_, _, _, _, _, _, _, _, rfl, _⟩ <;> rfl) | (rintro _ _ _ ⟨_, _, _, _, _, _, _, _, _, rfl, _⟩ <;> rfl) | (rintro _ _ _ ⟨_, rfl | rfl, _⟩; rfl; rfl) | (rintro _ _ _ ⟨_, _, rfl | rfl, _⟩; rfl; rfl) | (rintro _ _ _ ⟨_, rfl | rfl, _⟩ <;> rfl) | (rintro _ _ _ ⟨_, _, rfl | rfl, _⟩ <;> rfl) | (rintro _ _ _ ⟨_, _, _, rfl | rfl, _⟩ <;> rfl) | (rintro _ _ _ ⟨_, _, _, _, rfl | rfl, _⟩ <;> rfl) | (rintro _ _ _ ⟨_, _, ⟨rfl, _⟩ | ⟨rfl, _⟩, _⟩ <;> rfl) | (rintro _ _ _ ⟨_, ⟨rfl, _⟩ | ⟨rfl, _⟩, _⟩ <;> rfl) | (rintro _ _ _ (⟨_, _, rfl, _⟩ | ⟨_, _, _, rfl, _⟩) <;> rfl) | (rintro _ _ _ (⟨_, _, _, rfl | rfl, _⟩ | ⟨_, _, _, _, rfl, _⟩) <;> rfl)) fun cdv A outer s H E hr S₀ => ⟨w_l_empty, (vss_one (vs_ret (ve_disp (vps_cons ve_str ve_non (vps_cons ve_str ve_dict0 (vps_cons ve_str ve_dict0 (vps_cons ve_str ve_dict0 vps_nil))))))), r_l_empty⟩
theorem ok_l_place (T : Txt K mg) : FnOk P w K mg base CX0 1 T.f_l_place T.fd_l_place ["_law_m", "_law_key_in"] (spW K W_l_place) :=
  fnW (k := 0) T.F_l_place sc_l_place (by first | (rintro _ _ _ ⟨rfl, _⟩ <;> rfl) | (rintro _ _ _ ⟨_, rfl, _⟩ <;> rfl) | (rintro _ _ _ ⟨_, _, rfl, _⟩ <;> rfl) | (rintro _ _ _ ⟨_, _, _, rfl, _⟩ <;> rfl) | (rintro _ _ _ ⟨_, _, _, _, rfl, _⟩ <;> rfl) | (rintro _ _ _ ⟨_, _, _, _, _, rfl, _⟩ <;> rfl) | (rintro _ _ _ ⟨_, _, _, _, _, _, rfl, _⟩ <;> rfl) | (rintro _ _ _ ⟨_, _, _, _, _, _, _, rfl, _⟩ <;> rfl) | (rintro _ _ _ ⟨_, _, _, _, _, _, _, _, rfl, _⟩ <;> rfl) | (rintro _ _ _ ⟨_, _, _, _, _, _, _, _, _, rfl, _⟩ <;> rfl) | (rintro _ _ _ ⟨_, rfl | rfl, _⟩; rfl; rfl) | (rintro _ _ _ ⟨_, _, rfl | rfl, _⟩; rfl; rfl) | (rintro _ _ _ ⟨_, rfl | rfl, _⟩ <;> rfl) | (rintro _ _ _ ⟨_, _, rfl | rfl, _⟩ <;> rfl) | (rintro _ _ _ ⟨_, _, _, rfl | rfl, _⟩ <;> rfl) | (rintro _ _ _ ⟨_, _, _, _, rfl | rfl, _⟩ <;> rfl) | (rintro _ _ _ ⟨_, _, ⟨rfl, _⟩ | ⟨rfl, _⟩, _⟩ <;> rfl) | (rintro _ _ _ ⟨_, ⟨rfl, _⟩ | ⟨rfl, _⟩, _⟩ <;> rfl) | (rintro _ _ _ (⟨_, _, rfl, _⟩ | ⟨_, _, _, rfl, _⟩) <;> rfl) | (rintro _ _ _ (⟨_, _, _, rfl | rfl, _⟩ | ⟨_, _, _, _, rfl, _⟩) <;> rfl)) fun cdv A outer s H E hr S₀ => ⟨w_l_place, (vss_cons (vs_par 2 3 rfl sc_l_place.nd (va_cons (ve_ix (hu_of hr) (ve_var 0) ve_str) (va_cons ve_int va_nil)))
    (vss_cons (vs_if (vt_isN (ve_var 2) ve_non) (vss_one (vs_asg (ve_var 1) (show VG _ _ _ _ [] from (vg_sub (hu_of hr) (ve_var 0) ve_str)))) vss_nil)
    (vss_cons (vs_for PassesOwn.never rfl (vi_rng1 (by rfl) T.m_range (va_cons ve_int va_nil)) (show VG _ _ _ _ [4] from (vg_name 4 sc_l_place.nd)) (vss_one (vs_if (vt_notN (ve_var 2) ve_non) (vss_cons (vs_par 5 3 rfl sc_l_place.nd (va_cons (ve_ix (hu_of hr) (ve_var 0) (ve_ifE (vt_lt (ve_var 1) (ve_var 2)) ve_str ve_str)) (va_cons (ve_add (ve_var 3) ve_int) va_nil)))
    (vss_one (vs_if (vt_nin (hu_of hr) (ve_var 2) (ve_var 5)) (vss_cons (vs_asg (ve_var 1) (show VG _ _ _ _ [] from (vg_sub (hu_of hr) (ve_var 5) (ve_var 2))))
    (vss_cons (vs_asg (ve_var 2) (show VG _ _ _ _ [] from (vg_sub (hu_of hr) (ve_ix (hu_of hr) (ve_var 0) ve_str) (ve_var 1))))
    (vss_one (vs_set 2 sc_l_place.nd ve_non)))) (vss_one (vs_set 2 sc_l_place.nd (ve_ix (hu_of hr) (ve_var 5) (ve_var 2))))))) vss_nil)))
    (vss_one (vs_ret (ve_var 3)))))), r_l_place⟩
theorem ok_l_tree (T : Txt K mg) (G_l_empty : FnOk P w K mg base CX0 1 T.f_l_empty T.fd_l_empty [] (spW K W_l_empty)) (G_l_place : FnOk P w K mg base CX0 1 T.f_l_place T.fd_l_place ["_law_m", "_law_key_in"] (spW K W_l_place)) : FnOk P w K mg base CX0 2 T.f_l_tree T.fd_l_tree ["_law_order"] (spW K W_l_tree) :=
  fnW (k := 1) T.F_l_tree sc_l_tree (by first | (rintro _ _ _ ⟨rfl, _⟩ <;> rfl) | (rintro _ _ _ ⟨_, rfl, _⟩ <;> rfl) | (rintro _ _ _ ⟨_, _, rfl, _⟩ <;> rfl) | (rintro _ _ _ ⟨_, _, _, rfl, _⟩ <;> rfl) | (rintro _ _ _ ⟨_, _, _, _, rfl, _⟩ <;> rfl) | (rintro _ _ _ ⟨_, _, _, _, _, rfl, _⟩ <;> rfl) | (rintro _ _ _ ⟨_, _, _, _, _, _, rfl, _⟩ <;> rfl) | (rintro _ _ _ ⟨_, _, _, _, _, _, _, rfl, _⟩ <;> rfl) | (rintro _ _ _ ⟨_, _, _, _, _, _, _, _, rfl, _⟩ <;> rfl) | (rintro _ _ _ ⟨_, _, _, _, _, _, _, _, _, rfl, _⟩ <;> rfl) | (rintro _ _ _ ⟨_, rfl | rfl, _⟩; rfl; rfl) | (rintro _ _ _ ⟨_, _, rfl | rfl, _⟩; rfl; rfl) | (rintro _ _ _ ⟨_, rfl | rfl, _⟩ <;> rfl) | (rintro _ _ _ ⟨_, _, rfl | rfl, _⟩ <;> rfl) | (rintro _ _ _ ⟨_, _, _, rfl | rfl, _⟩ <;> rfl) | (rintro _ _ _ ⟨_, _, _, _, rfl | rfl, _⟩ <;> rfl) | (rintro _ _ _ ⟨_, _, ⟨rfl, _⟩ | ⟨rfl, _⟩, _⟩ <;> rfl) | (rintro _ _ _ ⟨_, ⟨rfl, _⟩ | ⟨rfl, _⟩, _⟩ <;> rfl) | (rintro _ _ _ (⟨_, _, rfl, _⟩ | ⟨_, _, _, rfl, _⟩) <;> rfl) | (rintro _ _ _ (⟨_, _, _, rfl | rfl, _⟩ | ⟨_, _, _, _, rfl, _⟩) <;> rfl)) fun cdv A outer s H E hr S₀ => ⟨w_l_tree, (vss_cons (vs_set 1 sc_l_tree.nd (ve_call0 G_l_empty (hr.mono (by omega)) (by rfl) T.g_l_empty T.F_l_empty.kp T.b_l_empty))
    (vss_cons (vs_for PassesOwn.never rfl (vi_seq (ve_var 0)) (show VG _ _ _ _ [2] from (vg_name 2 sc_l_tree.nd)) (vss_one (vs_expr (ve_call G_l_place (hr.mono (by omega)) (by rfl) T.g_l_place T.F_l_place.kp T.b_l_place (va_cons (ve_var 1) (va_cons (ve_var 2) va_nil))))))
    (vss_one (vs_ret (ve_var 1))))), r_l_tree⟩
theorem ok_l_some_shapeN (T : Txt K mg) (G_l_take : FnOk P w K mg base CX0 1 T.f_l_take T.fd_l_take ["_law_draw", "_law_many"] (spW K W_l_take)) (G_l_shuffled : FnOk P w K mg base CX0 2 T.f_l_shuffled T.fd_l_shuffled ["_law_draw", "_law_some"] (spW K W_l_shuffled)) (G_l_shapeN : FnOk P w K mg base CX0 1 T.f_l_shapeN T.fd_l_shapeN ["_law_m"] (spW K W_l_shapeN)) (G_l_tree : FnOk P w K mg base CX0 2 T.f_l_tree T.fd_l_tree ["_law_order"] (spW K W_l_tree)) : FnOk P w K mg base CX0 3 T.f_l_some_shapeN T.fd_l_some_shapeN ["_law_draw", "_law_keys_here"] (spW K W_l_some_shapeN) :=
  fnW (k := 2) T.F_l_some_shapeN sc_l_some_shapeN (by first | (rintro _ _ _ ⟨rfl, _⟩ <;> rfl) | (rintro _ _ _ ⟨_, rfl, _⟩ <;> rfl) | (rintro _ _ _ ⟨_, _, rfl, _⟩ <;> rfl) | (rintro _ _ _ ⟨_, _, _, rfl, _⟩ <;> rfl) | (rintro _ _ _ ⟨_, _, _, _, rfl, _⟩ <;> rfl) | (rintro _ _ _ ⟨_, _, _, _, _, rfl, _⟩ <;> rfl) | (rintro _ _ _ ⟨_, _, _, _, _, _, rfl, _⟩ <;> rfl) | (rintro _ _ _ ⟨_, _, _, _, _, _, _, rfl, _⟩ <;> rfl) | (rintro _ _ _ ⟨_, _, _, _, _, _, _, _, rfl, _⟩ <;> rfl) | (rintro _ _ _ ⟨_, _, _, _, _, _, _, _, _, rfl, _⟩ <;> rfl) | (rintro _ _ _ ⟨_, rfl | rfl, _⟩; rfl; rfl) | (rintro _ _ _ ⟨_, _, rfl | rfl, _⟩; rfl; rfl) | (rintro _ _ _ ⟨_, rfl | rfl, _⟩ <;> rfl) | (rintro _ _ _ ⟨_, _, rfl | rfl, _⟩ <;> rfl) | (rintro _ _ _ ⟨_, _, _, rfl | rfl, _⟩ <;> rfl) | (rintro _ _ _ ⟨_, _, _, _, rfl | rfl, _⟩ <;> rfl) | (rintro _ _ _ ⟨_, _, ⟨rfl, _⟩ | ⟨rfl, _⟩, _⟩ <;> rfl) | (rintro _ _ _ ⟨_, ⟨rfl, _⟩ | ⟨rfl, _⟩, _⟩ <;> rfl) | (rintro _ _ _ (⟨_, _, rfl, _⟩ | ⟨_, _, _, rfl, _⟩) <;> rfl) | (rintro _ _ _ (⟨_, _, _, rfl | rfl, _⟩ | ⟨_, _, _, _, rfl, _⟩) <;> rfl)) fun cdv A outer s H E hr S₀ => ⟨w_l_some_shapeN, (vss_cons (vs_set 2 sc_l_some_shapeN.nd (ve_call G_l_take (hr.mono (by omega)) (by rfl) T.g_l_take T.F_l_take.kp T.b_l_take (va_cons (ve_var 0) (va_cons ve_int va_nil))))
    (vss_cons (vs_set 3 sc_l_some_shapeN.nd (ve_call G_l_shuffled (hr.mono (by omega)) (by rfl) T.g_l_shuffled T.F_l_shuffled.kp T.b_l_shuffled (va_cons (ve_var 0) (va_cons (ve_var 1) va_nil))))
    (vss_cons (vs_if (vt_eq hr.units (ve_var 2) ve_int) (vss_one (vs_set 3 sc_l_some_shapeN.nd (ve_lstC (by rfl) T.m_list (va_cons (ve_var 1) va_nil)))) vss_nil)
    (vss_cons (vs_if (vt_eq hr.units (ve_var 2) ve_int) (vss_one (vs_set 3 sc_l_some_shapeN.nd (ve_revL (ve_var 1)))) vss_nil)
    (vss_cons (vs_if (vt_eq hr.units (ve_var 2) ve_int) (vss_one (vs_setLc 3 (own := [("_law_k", 4)]) rfl sc_l_some_shapeN.nd (vi_rng1 (by rfl) T.m_range (va_cons (ve_len (by rfl) T.m_len (va_cons (ve_var 1) va_nil)) va_nil)) (blkOk_by (N := N_l_some_shapeN) (sc := defScope s_l_some_shapeN) (by decide +kernel)) (fun _ _ _ _ _ => (vg_name 4 sc_l_some_shapeN.nd)) (fun _ _ _ _ _ => vts_nil) (fun _ _ _ _ _ => (ve_ifE (vt_eq hr.units (ve_mod (ve_var 4) ve_int) ve_int) (ve_ix (hu_of hr) (ve_var 1) (ve_fdiv (ve_var 4) ve_int)) (ve_ix (hu_of hr) (ve_var 1) (ve_sub (ve_sub (ve_len (by rfl) T.m_len (va_cons (ve_var 1) va_nil)) ve_int) (ve_fdiv (ve_var 4) ve_int))))) (sw_true rfl rfl rfl (by decide +kernel)))) vss_nil)
    (vss_one (vs_ret (ve_call G_l_shapeN (hr.mono (by omega)) (by rfl) T.g_l_shapeN T.F_l_shapeN.kp T.b_l_shapeN (va_cons (ve_call G_l_tree (hr.mono (by omega)) (by rfl) T.g_l_tree T.F_l_tree.kp T.b_l_tree (va_cons (ve_var 3) va_nil)) va_nil))))))))), r_l_some_shapeN⟩
theorem ok_l_above (T : Txt K mg) : FnOk P w K mg base CX0 1 T.f_l_above T.fd_l_above ["_law_m", "_law_key_in"] (spW K W_l_above) :=
  fnW (k := 0) T.F_l_above sc_l_above (by first | (rintro _ _ _ ⟨rfl, _⟩ <;> rfl) | (rintro _ _ _ ⟨_, rfl, _⟩ <;> rfl) | (rintro _ _ _ ⟨_, _, rfl, _⟩ <;> rfl) | (rintro _ _ _ ⟨_, _, _, rfl, _⟩ <;> rfl) | (rintro _ _ _ ⟨_, _, _, _, rfl, _⟩ <;> rfl) | (rintro _ _ _ ⟨_, _, _, _, _, rfl, _⟩ <;> rfl) | (rintro _ _ _ ⟨_, _, _, _, _, _, rfl, _⟩ <;> rfl) | (rintro _ _ _ ⟨_, _, _, _, _, _, _, rfl, _⟩ <;> rfl) | (rintro _ _ _ ⟨_, _, _, _, _, _, _, _, rfl, _⟩ <;> rfl) | (rintro _ _ _ ⟨_, _, _, _, _, _, _, _, _, rfl, _⟩ <;> rfl) | (rintro _ _ _ ⟨_, rfl | rfl, _⟩; rfl; rfl) | (rintro _ _ _ ⟨_, _, rfl | rfl, _⟩; rfl; rfl) | (rintro _ _ _ ⟨_, rfl | rfl, _⟩ <;> rfl) | (rintro _ _ _ ⟨_, _, rfl | rfl, _⟩ <;> rfl) | (rintro _ _ _ ⟨_, _, _, rfl | rfl, _⟩ <;> rfl) | (rintro _ _ _ ⟨_, _, _, _, rfl | rfl, _⟩ <;> rfl) | (rintro _ _ _ ⟨_, _, ⟨rfl, _⟩ | ⟨rfl, _⟩, _⟩ <;> rfl) | (rintro _ _ _ ⟨_, ⟨rfl, _⟩ | ⟨rfl, _⟩, _⟩ <;> rfl) | (rintro _ _ _ (⟨_, _, rfl, _⟩ | ⟨_, _, _, rfl, _⟩) <;> rfl) | (rintro _ _ _ (⟨_, _, _, rfl | rfl, _⟩ | ⟨_, _, _, _, rfl, _⟩) <;> rfl)) fun cdv A outer s H E hr S₀ => ⟨w_l_above, (vss_cons (vs_set 2 sc_l_above.nd (ve_lstM va_nil))
    (vss_cons (vs_while PassesOwn.never (vt_in (hu_of hr) (ve_var 1) (ve_ix (hu_of hr) (ve_var 0) ve_str)) (vss_cons (vs_set 1 sc_l_above.nd (ve_ix (hu_of hr) (ve_ix (hu_of hr) (ve_var 0) ve_str) (ve_var 1)))
    (vss_one (vs_expr (ve_append (ve_var 2) (va_cons (ve_var 1) va_nil))))))
    (vss_one (vs_retF (ve_var 2))))), r_l_above⟩
theorem ok_need_key (T : Txt K mg) : FnOk P w K mg base (L2N.CX P w) 3 T.f_need_key T.fd_need_key ["shape", "key"] (spX K mg W_need_key) :=
  fnX (k := 2) T.F_need_key sc_need_key (by first | (rintro _ _ _ _ ⟨rfl, _⟩ <;> rfl) | (rintro _ _ _ _ ⟨_, rfl, _⟩ <;> rfl) | (rintro _ _ _ _ ⟨_, _, rfl, _⟩ <;> rfl) | (rintro _ _ _ _ ⟨_, _, _, rfl, _⟩ <;> rfl) | (rintro _ _ _ _ ⟨_, _, _, _, rfl, _⟩ <;> rfl) | (rintro _ _ _ _ ⟨_, _, _, _, _, rfl, _⟩ <;> rfl) | (rintro _ _ _ _ ⟨_, _, _, _, _, _, rfl, _⟩ <;> rfl) | (rintro _ _ _ _ ⟨_, _, _, _, _, _, _, rfl, _⟩ <;> rfl) | (rintro _ _ _ _ ⟨_, _, _, _, _, _, _, _, rfl, _⟩ <;> rfl) | (rintro _ _ _ _ ⟨_, _, _, _, _, _, _, _, _, rfl, _⟩ <;> rfl) | (rintro _ _ _ _ ⟨_, rfl | rfl, _⟩; rfl; rfl) | (rintro _ _ _ _ ⟨_, _, rfl | rfl, _⟩; rfl; rfl) | (rintro _ _ _ _ ⟨_, rfl | rfl, _⟩ <;> rfl) | (rintro _ _ _ _ ⟨_, _, rfl | rfl, _⟩ <;> rfl) | (rintro _ _ _ _ ⟨_, _, _, rfl | rfl, _⟩ <;> rfl) | (rintro _ _ _ _ ⟨_, _, _, _, rfl | rfl, _⟩ <;> rfl) | (rintro _ _ _ _ ⟨_, _, ⟨rfl, _⟩ | ⟨rfl, _⟩, _⟩ <;> rfl) | (rintro _ _ _ _ ⟨_, ⟨rfl, _⟩ | ⟨rfl, _⟩, _⟩ <;> rfl) | (rintro _ _ _ _ (⟨_, _, rfl, _⟩ | ⟨_, _, _, rfl, _⟩) <;> rfl) | (rintro _ _ _ _ (⟨_, _, _, rfl | rfl, _⟩ | ⟨_, _, _, _, rfl, _⟩) <;> rfl)) fun cdv A outer s H E hr S₀ Ψ hX => ⟨w_need_key Ψ, (vss_one (vs_if (vt_nin (hu_of hr) (ve_var 1) (ve_var 0)) (vss_one (vs_raise rfl hX (L2N.takes_of rfl rfl rfl rfl) T.XK_NoKey (okI_NoKey T) (hr.mono (by omega)) T.bI_NoKey (by rfl) T.g_NoKey (va_cons (ve_var 1) va_nil))) vss_nil)), r_need_key Ψ⟩
theorem ok_search_path (T : Txt K mg) : FnOk P w K mg base CX0 1 T.f_search_path T.fd_search_path ["shape", "key"] (spW K W_search_path) :=
  fnW (k := 0) T.F_search_path sc_search_path (by first | (rintro _ _ _ ⟨rfl, _⟩ <;> rfl) | (rintro _ _ _ ⟨_, rfl, _⟩ <;> rfl) | (rintro _ _ _ ⟨_, _, rfl, _⟩ <;> rfl) | (rintro _ _ _ ⟨_, _, _, rfl, _⟩ <;> rfl) | (rintro _ _ _ ⟨_, _, _, _, rfl, _⟩ <;> rfl) | (rintro _ _ _ ⟨_, _, _, _, _, rfl, _⟩ <;> rfl) | (rintro _ _ _ ⟨_, _, _, _, _, _, rfl, _⟩ <;> rfl) | (rintro _ _ _ ⟨_, _, _, _, _, _, _, rfl, _⟩ <;> rfl) | (rintro _ _ _ ⟨_, _, _, _, _, _, _, _, rfl, _⟩ <;> rfl) | (rintro _ _ _ ⟨_, _, _, _, _, _, _, _, _, rfl, _⟩ <;> rfl) | (rintro _ _ _ ⟨_, rfl | rfl, _⟩; rfl; rfl) | (rintro _ _ _ ⟨_, _, rfl | rfl, _⟩; rfl; rfl) | (rintro _ _ _ ⟨_, rfl | rfl, _⟩ <;> rfl) | (rintro _ _ _ ⟨_, _, rfl | rfl, _⟩ <;> rfl) | (rintro _ _ _ ⟨_, _, _, rfl | rfl, _⟩ <;> rfl) | (rintro _ _ _ ⟨_, _, _, _, rfl | rfl, _⟩ <;> rfl) | (rintro _ _ _ ⟨_, _, ⟨rfl, _⟩ | ⟨rfl, _⟩, _⟩ <;> rfl) | (rintro _ _ _ ⟨_, ⟨rfl, _⟩ | ⟨rfl, _⟩, _⟩ <;> rfl) | (rintro _ _ _ (⟨_, _, rfl, _⟩ | ⟨_, _, _, rfl, _⟩) <;> rfl) | (rintro _ _ _ (⟨_, _, _, rfl | rfl, _⟩ | ⟨_, _, _, _, rfl, _⟩) <;> rfl)) fun cdv A outer s H E hr S₀ => ⟨w_search_path, (vss_cons (vs_par3 2 3 4 rfl sc_search_path.nd (va_cons (ve_lstM va_nil) (va_cons ve_non (va_cons ve_non va_nil))))
    (vss_cons (vs_for PassesOwn.never rfl (vi_seq (ve_var 0)) (show VG _ _ _ _ [5] from (vg_name 5 sc_search_path.nd)) (vss_one (vs_if (vw_pt (vw_and (vw_pt (vw_or (vt_isN (ve_var 3) ve_non) (vw_or1 (vt_lt (ve_var 3) (ve_var 5))))) (vw_and1 (vw_pt (vw_or (vt_isN (ve_var 4) ve_non) (vw_or1 (vt_lt (ve_var 5) (ve_var 4)))))))) (vss_cons (vs_expr (ve_append (ve_var 2) (va_cons (ve_var 5) va_nil)))
    (vss_cons (vs_if (vt_eq hr.units (ve_var 5) (ve_var 1)) (vss_one (vs_retF (ve_var 2))) vss_nil)
    (vss_one (vs_asg (ve_ifE (vt_lt (ve_var 5) (ve_var 1)) (ve_tup (va_cons (ve_var 5) (va_cons (ve_var 4) va_nil))) (ve_tup (va_cons (ve_var 3) (va_cons (ve_var 5) va_nil)))) (show VG _ _ _ _ [3, 4] from (vg_tup rfl (vgs_cons (vg_name 3 sc_search_path.nd) (vgs_cons (vg_name 4 sc_search_path.nd) vgs_nil)))))))) vss_nil)))
    (vss_one (vs_retF (ve_var 2))))), r_search_path⟩
theorem ok_path_to (T : Txt K mg) (G_need_key : FnOk P w K mg base (L2N.CX P w) 3 T.f_need_key T.fd_need_key ["shape", "key"] (spX K mg W_need_key)) (G_search_path : FnOk P w K mg base CX0 1 T.f_search_path T.fd_search_path ["shape", "key"] (spW K W_search_path)) : FnOk P w K mg base (L2N.CX P w) 4 T.f_path_to T.fd_path_to ["shape", "key"] (spX K mg W_path_to) :=
  fnX (k := 3) T.F_path_to sc_path_to (by first | (rintro _ _ _ _ ⟨rfl, _⟩ <;> rfl) | (rintro _ _ _ _ ⟨_, rfl, _⟩ <;> rfl) | (rintro _ _ _ _ ⟨_, _, rfl, _⟩ <;> rfl) | (rintro _ _ _ _ ⟨_, _, _, rfl, _⟩ <;> rfl) | (rintro _ _ _ _ ⟨_, _, _, _, rfl, _⟩ <;> rfl) | (rintro _ _ _ _ ⟨_, _, _, _, _, rfl, _⟩ <;> rfl) | (rintro _ _ _ _ ⟨_, _, _, _, _, _, rfl, _⟩ <;> rfl) | (rintro _ _ _ _ ⟨_, _, _, _, _, _, _, rfl, _⟩ <;> rfl) | (rintro _ _ _ _ ⟨_, _, _, _, _, _, _, _, rfl, _⟩ <;> rfl) | (rintro _ _ _ _ ⟨_, _, _, _, _, _, _, _, _, rfl, _⟩ <;> rfl) | (rintro _ _ _ _ ⟨_, rfl | rfl, _⟩; rfl; rfl) | (rintro _ _ _ _ ⟨_, _, rfl | rfl, _⟩; rfl; rfl) | (rintro _ _ _ _ ⟨_, rfl | rfl, _⟩ <;> rfl) | (rintro _ _ _ _ ⟨_, _, rfl | rfl, _⟩ <;> rfl) | (rintro _ _ _ _ ⟨_, _, _, rfl | rfl, _⟩ <;> rfl) | (rintro _ _ _ _ ⟨_, _, _, _, rfl | rfl, _⟩ <;> rfl) | (rintro _ _ _ _ ⟨_, _, ⟨rfl, _⟩ | ⟨rfl, _⟩, _⟩ <;> rfl) | (rintro _ _ _ _ ⟨_, ⟨rfl, _⟩ | ⟨rfl, _⟩, _⟩ <;> rfl) | (rintro _ _ _ _ (⟨_, _, rfl, _⟩ | ⟨_, _, _, rfl, _⟩) <;> rfl) | (rintro _ _ _ _ (⟨_, _, _, rfl | rfl, _⟩ | ⟨_, _, _, _, rfl, _⟩) <;> rfl)) fun cdv A outer s H E hr S₀ Ψ hX => ⟨w_path_to Ψ, (vss_cons (vs_expr (ve_callX hX (L2N.takes_of rfl rfl rfl rfl) G_need_key (hr.mono (by omega)) (by rfl) T.g_need_key T.F_need_key.kp T.b_need_key (va_cons (ve_var 0) (va_cons (ve_var 1) va_nil))))
    (vss_one (vs_ret (ve_call G_search_path (hr.mono (by omega)) (by rfl) T.g_search_path T.F_search_path.kp T.b_search_path (va_cons (ve_var 0) (va_cons (ve_var 1) va_nil)))))), r_path_to Ψ⟩
theorem ok_parent_of (T : Txt K mg) (G_path_to : FnOk P w K mg base (L2N.CX P w) 4 T.f_path_to T.fd_path_to ["shape", "key"] (spX K mg W_path_to)) : FnOk P w K mg base (L2N.CX P w) 5 T.f_parent_of T.fd_parent_of ["shape", "key"] (spX K mg W_parent_of) :=
  fnX (k := 4) T.F_parent_of sc_parent_of (by first | (rintro _ _ _ _ ⟨rfl, _⟩ <;> rfl) | (rintro _ _ _ _ ⟨_, rfl, _⟩ <;> rfl) | (rintro _ _ _ _ ⟨_, _, rfl, _⟩ <;> rfl) | (rintro _ _ _ _ ⟨_, _, _, rfl, _⟩ <;> rfl) | (rintro _ _ _ _ ⟨_, _, _, _, rfl, _⟩ <;> rfl) | (rintro _ _ _ _ ⟨_, _, _, _, _, rfl, _⟩ <;> rfl) | (rintro _ _ _ _ ⟨_, _, _, _, _, _, rfl, _⟩ <;> rfl) | (rintro _ _ _ _ ⟨_, _, _, _, _, _, _, rfl, _⟩ <;> rfl) | (rintro _ _ _ _ ⟨_, _, _, _, _, _, _, _, rfl, _⟩ <;> rfl) | (rintro _ _ _ _ ⟨_, _, _, _, _, _, _, _, _, rfl, _⟩ <;> rfl) | (rintro _ _ _ _ ⟨_, rfl | rfl, _⟩; rfl; rfl) | (rintro _ _ _ _ ⟨_, _, rfl | rfl, _⟩; rfl; rfl) | (rintro _ _ _ _ ⟨_, rfl | rfl, _⟩ <;> rfl) | (rintro _ _ _ _ ⟨_, _, rfl | rfl, _⟩ <;> rfl) | (rintro _ _ _ _ ⟨_, _, _, rfl | rfl, _⟩ <;> rfl) | (rintro _ _ _ _ ⟨_, _, _, _, rfl | rfl, _⟩ <;> rfl) | (rintro _ _ _ _ ⟨_, _, ⟨rfl, _⟩ | ⟨rfl, _⟩, _⟩ <;> rfl) | (rintro _ _ _ _ ⟨_, ⟨rfl, _⟩ | ⟨rfl, _⟩, _⟩ <;> rfl) | (rintro _ _ _ _ (⟨_, _, rfl, _⟩ | ⟨_, _, _, rfl, _⟩) <;> rfl) | (rintro _ _ _ _ (⟨_, _, _, rfl | rfl, _⟩ | ⟨_, _, _, _, rfl, _⟩) <;> rfl)) fun cdv A outer s H E hr S₀ Ψ hX => ⟨w_parent_of Ψ, (vss_cons (vs_set 2 sc_parent_of.nd (ve_callX hX (L2N.takes_of rfl rfl rfl rfl) G_path_to (hr.mono (by omega)) (by rfl) T.g_path_to T.F_path_to.kp T.b_path_to (va_cons (ve_var 0) (va_cons (ve_var 1) va_nil))))
    (vss_one (vs_ret (ve_ifE (vt_gt (ve_len (by rfl) T.m_len (va_cons (ve_var 2) va_nil)) ve_int) (ve_ix (hu_of hr) (ve_var 2) (ve_neg ve_int)) ve_non)))), r_parent_of Ψ⟩
theorem ok_bounds_of (T : Txt K mg) (G_path_to : FnOk P w K mg base (L2N.CX P w) 4 T.f_path_to T.fd_path_to ["shape", "key"] (spX K mg W_path_to)) : FnOk P w K mg base (L2N.CX P w) 5 T.f_bounds_of T.fd_bounds_of ["shape", "key"] (spX K mg W_bounds_of) :=
  fnX (k := 4) T.F_bounds_of sc_bounds_of (by first | (rintro _ _ _ _ ⟨rfl, _⟩ <;> rfl) | (rintro _ _ _ _ ⟨_, rfl, _⟩ <;> rfl) | (rintro _ _ _ _ ⟨_, _, rfl, _⟩ <;> rfl) | (rintro _ _ _ _ ⟨_, _, _, rfl, _⟩ <;> rfl) | (rintro _ _ _ _ ⟨_, _, _, _, rfl, _⟩ <;> rfl) | (rintro _ _ _ _ ⟨_, _, _, _, _, rfl, _⟩ <;> rfl) | (rintro _ _ _ _ ⟨_, _, _, _, _, _, rfl, _⟩ <;> rfl) | (rintro _ _ _ _ ⟨_, _, _, _, _, _, _, rfl, _⟩ <;> rfl) | (rintro _ _ _ _ ⟨_, _, _, _, _, _, _, _, rfl, _⟩ <;> rfl) | (rintro _ _ _ _ ⟨_, _, _, _, _, _, _, _, _, rfl, _⟩ <;> rfl) | (rintro _ _ _ _ ⟨_, rfl | rfl, _⟩; rfl; rfl) | (rintro _ _ _ _ ⟨_, _, rfl | rfl, _⟩; rfl; rfl) | (rintro _ _ _ _ ⟨_, rfl | rfl, _⟩ <;> rfl) | (rintro _ _ _ _ ⟨_, _, rfl | rfl, _⟩ <;> rfl) | (rintro _ _ _ _ ⟨_, _, _, rfl | rfl, _⟩ <;> rfl) | (rintro _ _ _ _ ⟨_, _, _, _, rfl | rfl, _⟩ <;> rfl) | (rintro _ _ _ _ ⟨_, _, ⟨rfl, _⟩ | ⟨rfl, _⟩, _⟩ <;> rfl) | (rintro _ _ _ _ ⟨_, ⟨rfl, _⟩ | ⟨rfl, _⟩, _⟩ <;> rfl) | (rintro _ _ _ _ (⟨_, _, rfl, _⟩ | ⟨_, _, _, rfl, _⟩) <;> rfl) | (rintro _ _ _ _ (⟨_, _, _, rfl | rfl, _⟩ | ⟨_, _, _, _, rfl, _⟩) <;> rfl)) fun cdv A outer s H E hr S₀ Ψ hX => ⟨w_bounds_of Ψ, (vss_cons (vs_asg (ve_callX hX (L2N.takes_of rfl rfl rfl rfl) G_path_to (hr.mono (by omega)) (by rfl) T.g_path_to T.F_path_to.kp T.b_path_to (va_cons (ve_var 0) (va_cons (ve_var 1) va_nil))) (show VG _ _ _ _ [3, 2] from (vg_star rfl (vgs_star (vg_name 2 sc_bounds_of.nd) (vgs_cons (vg_name 3 sc_bounds_of.nd) vgs_nil)))))
    (vss_cons (vs_set 4 sc_bounds_of.nd (ve_maxD rfl (hu_of hr) (by rfl) T.m_max (ve_lc (own := [("here", 5)]) rfl sc_bounds_of.nd (vi_seq (ve_var 2)) (blkOk_by (N := N_bounds_of) (sc := defScope s_bounds_of) (by decide +kernel)) (fun _ _ _ _ _ => (vg_name 5 sc_bounds_of.nd)) (fun _ _ _ _ _ => vts_one (vt_lt (ve_var 5) (ve_var 3))) (fun _ _ _ _ _ => (ve_var 5))) ve_non))
    (vss_one (vs_ret (ve_tup (va_cons (ve_var 4) (va_cons (ve_minD rfl (hu_of hr) (by rfl) T.m_min (ve_lc (own := [("here", 5)]) rfl sc_bounds_of.nd (vi_seq (ve_var 2)) (blkOk_by (N := N_bounds_of) (sc := defScope s_bounds_of) (by decide +kernel)) (fun _ _ _ _ _ => (vg_name 5 sc_bounds_of.nd)) (fun _ _ _ _ _ => vts_one (vt_gt (ve_var 5) (ve_var 3))) (fun _ _ _ _ _ => (ve_var 5))) ve_non) va_nil))))))), r_bounds_of Ψ⟩
theorem ok_restrict (T : Txt K mg) : FnOk P w K mg base CX0 1 T.f_restrict T.fd_restrict ["shape", "low", "high"] (spW K W_restrict) :=
  fnWD (k := 0) T.F_restrict sc_restrict (by first | (rintro _ _ _ ⟨rfl, _⟩ <;> rfl) | (rintro _ _ _ ⟨_, rfl, _⟩ <;> rfl) | (rintro _ _ _ ⟨_, _, rfl, _⟩ <;> rfl) | (rintro _ _ _ ⟨_, _, _, rfl, _⟩ <;> rfl) | (rintro _ _ _ ⟨_, _, _, _, rfl, _⟩ <;> rfl) | (rintro _ _ _ ⟨_, _, _, _, _, rfl, _⟩ <;> rfl) | (rintro _ _ _ ⟨_, _, _, _, _, _, rfl, _⟩ <;> rfl) | (rintro _ _ _ ⟨_, _, _, _, _, _, _, rfl, _⟩ <;> rfl) | (rintro _ _ _ ⟨_, _, _, _, _, _, _, _, rfl, _⟩ <;> rfl) | (rintro _ _ _ ⟨_, _, _, _, _, _, _, _, _, rfl, _⟩ <;> rfl) | (rintro _ _ _ ⟨_, rfl | rfl, _⟩; rfl; rfl) | (rintro _ _ _ ⟨_, _, rfl | rfl, _⟩; rfl; rfl) | (rintro _ _ _ ⟨_, rfl | rfl, _⟩ <;> rfl) | (rintro _ _ _ ⟨_, _, rfl | rfl, _⟩ <;> rfl) | (rintro _ _ _ ⟨_, _, _, rfl | rfl, _⟩ <;> rfl) | (rintro _ _ _ ⟨_, _, _, _, rfl | rfl, _⟩ <;> rfl) | (rintro _ _ _ ⟨_, _, ⟨rfl, _⟩ | ⟨rfl, _⟩, _⟩ <;> rfl) | (rintro _ _ _ ⟨_, ⟨rfl, _⟩ | ⟨rfl, _⟩, _⟩ <;> rfl) | (rintro _ _ _ (⟨_, _, rfl, _⟩ | ⟨_, _, _, rfl, _⟩) <;> rfl) | (rintro _ _ _ (⟨_, _, _, rfl | rfl, _⟩ | ⟨_, _, _, _, rfl, _⟩) <;> rfl)) fun cdv A outer s H E hr S₀ => ⟨w_restrict, (vss_one (vs_ret (ve_tupC (by rfl) T.m_tuple (va_cons (ve_lc (own := [("key", 3)]) rfl sc_restrict.nd (vi_seq (ve_var 0)) (blkOk_by (N := N_restrict) (sc := defScope s_restrict) (by decide +kernel)) (fun _ _ _ _ _ => (vg_name 3 sc_restrict.nd)) (fun _ _ _ _ _ => vts_one (vw_pt (vw_and (vw_pt (vw_or (vt_isN (ve_var 1) ve_non) (vw_or1 (vt_lt (ve_var 1) (ve_var 3))))) (vw_and1 (vw_pt (vw_or (vt_isN (ve_var 2) ve_non) (vw_or1 (vt_lt (ve_var 3) (ve_var 2))))))))) (fun _ _ _ _ _ => (ve_var 3))) va_nil)))), r_restrict⟩
theorem ok_subtree_at (T : Txt K mg) (G_bounds_of : FnOk P w K mg base (L2N.CX P w) 5 T.f_bounds_of T.fd_bounds_of ["shape", "key"] (spX K mg W_bounds_of)) (G_restrict : FnOk P w K mg base CX0 1 T.f_restrict T.fd_restrict ["shape", "low", "high"] (spW K W_restrict)) : FnOk P w K mg base (L2N.CX P w) 6 T.f_subtree_at T.fd_subtree_at ["shape", "key"] (spX K mg W_subtree_at) :=
  fnX (k := 5) T.F_subtree_at sc_subtree_at (by first | (rintro _ _ _ _ ⟨rfl, _⟩ <;> rfl) | (rintro _ _ _ _ ⟨_, rfl, _⟩ <;> rfl) | (rintro _ _ _ _ ⟨_, _, rfl, _⟩ <;> rfl) | (rintro _ _ _ _ ⟨_, _, _, rfl, _⟩ <;> rfl) | (rintro _ _ _ _ ⟨_, _, _, _, rfl, _⟩ <;> rfl) | (rintro _ _ _ _ ⟨_, _, _, _, _, rfl, _⟩ <;> rfl) | (rintro _ _ _ _ ⟨_, _, _, _, _, _, rfl, _⟩ <;> rfl) | (rintro _ _ _ _ ⟨_, _, _, _, _, _, _, rfl, _⟩ <;> rfl) | (rintro _ _ _ _ ⟨_, _, _, _, _, _, _, _, rfl, _⟩ <;> rfl) | (rintro _ _ _ _ ⟨_, _, _, _, _, _, _, _, _, rfl, _⟩ <;> rfl) | (rintro _ _ _ _ ⟨_, rfl | rfl, _⟩; rfl; rfl) | (rintro _ _ _ _ ⟨_, _, rfl | rfl, _⟩; rfl; rfl) | (rintro _ _ _ _ ⟨_, rfl | rfl, _⟩ <;> rfl) | (rintro _ _ _ _ ⟨_, _, rfl | rfl, _⟩ <;> rfl) | (rintro _ _ _ _ ⟨_, _, _, rfl | rfl, _⟩ <;> rfl) | (rintro _ _ _ _ ⟨_, _, _, _, rfl | rfl, _⟩ <;> rfl) | (rintro _ _ _ _ ⟨_, _, ⟨rfl, _⟩ | ⟨rfl, _⟩, _⟩ <;> rfl) | (rintro _ _ _ _ ⟨_, ⟨rfl, _⟩ | ⟨rfl, _⟩, _⟩ <;> rfl) | (rintro _ _ _ _ (⟨_, _, rfl, _⟩ | ⟨_, _, _, rfl, _⟩) <;> rfl) | (rintro _ _ _ _ (⟨_, _, _, rfl | rfl, _⟩ | ⟨_, _, _, _, rfl, _⟩) <;> rfl)) fun cdv A outer s H E hr S₀ Ψ hX => ⟨w_subtree_at Ψ, (vss_cons (vs_asg (ve_callX hX (L2N.takes_of rfl rfl rfl rfl) G_bounds_of (hr.mono (by omega)) (by rfl) T.g_bounds_of T.F_bounds_of.kp T.b_bounds_of (va_cons (ve_var 0) (va_cons (ve_var 1) va_nil))) (show VG _ _ _ _ [2, 3] from (vg_tup rfl (vgs_cons (vg_name 2 sc_subtree_at.nd) (vgs_cons (vg_name 3 sc_subtree_at.nd) vgs_nil)))))
    (vss_one (vs_ret (ve_callN G_restrict (hr.mono (by omega)) (by rfl) T.g_restrict T.F_restrict.kp (k_restrict_1_low_high T).choose_spec q_k_restrict_1_low_high (va_cons (ve_var 0) va_nil) (vk_cons (ve_var 2) (vk_cons (ve_var 3) vk_nil)))))), r_subtree_at Ψ⟩
theorem ok_rotated (T : Txt K mg) (G_restrict : FnOk P w K mg base CX0 1 T.f_restrict T.fd_restrict ["shape", "low", "high"] (spW K W_restrict)) : FnOk P w K mg base CX0 2 T.f_rotated T.fd_rotated ["piece", "key"] (spW K W_rotated) :=
  fnW (k := 1) T.F_rotated sc_rotated (by first | (rintro _ _ _ ⟨rfl, _⟩ <;> rfl) | (rintro _ _ _ ⟨_, rfl, _⟩ <;> rfl) | (rintro _ _ _ ⟨_, _, rfl, _⟩ <;> rfl) | (rintro _ _ _ ⟨_, _, _, rfl, _⟩ <;> rfl) | (rintro _ _ _ ⟨_, _, _, _, rfl, _⟩ <;> rfl) | (rintro _ _ _ ⟨_, _, _, _, _, rfl, _⟩ <;> rfl) | (rintro _ _ _ ⟨_, _, _, _, _, _, rfl, _⟩ <;> rfl) | (rintro _ _ _ ⟨_, _, _, _, _, _, _, rfl, _⟩ <;> rfl) | (rintro _ _ _ ⟨_, _, _, _, _, _, _, _, rfl, _⟩ <;> rfl) | (rintro _ _ _ ⟨_, _, _, _, _, _, _, _, _, rfl, _⟩ <;> rfl) | (rintro _ _ _ ⟨_, rfl | rfl, _⟩; rfl; rfl) | (rintro _ _ _ ⟨_, _, rfl | rfl, _⟩; rfl; rfl) | (rintro _ _ _ ⟨_, rfl | rfl, _⟩ <;> rfl) | (rintro _ _ _ ⟨_, _, rfl | rfl, _⟩ <;> rfl) | (rintro _ _ _ ⟨_, _, _, rfl | rfl, _⟩ <;> rfl) | (rintro _ _ _ ⟨_, _, _, _, rfl | rfl, _⟩ <;> rfl) | (rintro _ _ _ ⟨_, _, ⟨rfl, _⟩ | ⟨rfl, _⟩, _⟩ <;> rfl) | (rintro _ _ _ ⟨_, ⟨rfl, _⟩ | ⟨rfl, _⟩, _⟩ <;> rfl) | (rintro _ _ _ (⟨_, _, rfl, _⟩ | ⟨_, _, _, rfl, _⟩) <;> rfl) | (rintro _ _ _ (⟨_, _, _, rfl | rfl, _⟩ | ⟨_, _, _, _, rfl, _⟩) <;> rfl)) fun cdv A outer s H E hr S₀ => ⟨w_rotated, (vss_cons (vs_set 2 sc_rotated.nd (ve_ix (hu_of hr) (ve_var 0) ve_int))
    (vss_cons (vs_if (vt_lt (ve_var 1) (ve_var 2)) (vss_cons (vs_par 3 4 rfl sc_rotated.nd (va_cons (ve_callN G_restrict (hr.mono (by omega)) (by rfl) T.g_restrict T.F_restrict.kp (k_restrict_1_low_high T).choose_spec q_k_restrict_1_low_high (va_cons (ve_var 0) va_nil) (vk_cons (ve_var 1) (vk_cons (ve_var 2) vk_nil))) (va_cons (ve_callN G_restrict (hr.mono (by omega)) (by rfl) T.g_restrict T.F_restrict.kp (k_restrict_1_low T).choose_spec q_k_restrict_1_low (va_cons (ve_var 0) va_nil) (vk_cons (ve_var 2) vk_nil)) va_nil)))
    (vss_one (vs_ret (ve_addN (ve_addN (ve_addN (ve_addN (ve_tupDN (va_cons (ve_var 1) va_nil)) (ve_callN G_restrict (hr.mono (by omega)) (by rfl) T.g_restrict T.F_restrict.kp (k_restrict_1_high T).choose_spec q_k_restrict_1_high (va_cons (ve_var 0) va_nil) (vk_cons (ve_var 1) vk_nil))) (ve_tupDN (va_cons (ve_var 2) va_nil))) (ve_var 3)) (ve_var 4))))) vss_nil)
    (vss_cons (vs_par 5 3 rfl sc_rotated.nd (va_cons (ve_callN G_restrict (hr.mono (by omega)) (by rfl) T.g_restrict T.F_restrict.kp (k_restrict_1_high T).choose_spec q_k_restrict_1_high (va_cons (ve_var 0) va_nil) (vk_cons (ve_var 2) vk_nil)) (va_cons (ve_callN G_restrict (hr.mono (by omega)) (by rfl) T.g_restrict T.F_restrict.kp (k_restrict_1_low_high T).choose_spec q_k_restrict_1_low_high (va_cons (ve_var 0) va_nil) (vk_cons (ve_var 2) (vk_cons (ve_var 1) vk_nil))) va_nil)))
    (vss_one (vs_ret (ve_addN (ve_addN (ve_addN (ve_tupDN (va_cons (ve_var 1) (va_cons (ve_var 2) va_nil))) (ve_var 5)) (ve_var 3)) (ve_callN G_restrict (hr.mono (by omega)) (by rfl) T.g_restrict T.F_restrict.kp (k_restrict_1_low T).choose_spec q_k_restrict_1_low (va_cons (ve_var 0) va_nil) (vk_cons (ve_var 1) vk_nil)))))))), r_rotated⟩
theorem ok_rotate (T : Txt K mg) (G_parent_of : FnOk P w K mg base (L2N.CX P w) 5 T.f_parent_of T.fd_parent_of ["shape", "key"] (spX K mg W_parent_of)) (G_subtree_at : FnOk P w K mg base (L2N.CX P w) 6 T.f_subtree_at T.fd_subtree_at ["shape", "key"] (spX K mg W_subtree_at)) (G_rotated : FnOk P w K mg base CX0 2 T.f_rotated T.fd_rotated ["piece", "key"] (spW K W_rotated)) : FnOk P w K mg base (L2N.CX P w) 7 T.f_rotate T.fd_rotate ["shape", "key"] (spX K mg W_rotate) :=
  fnX (k := 6) T.F_rotate sc_rotate (by first | (rintro _ _ _ _ ⟨rfl, _⟩ <;> rfl) | (rintro _ _ _ _ ⟨_, rfl, _⟩ <;> rfl) | (rintro _ _ _ _ ⟨_, _, rfl, _⟩ <;> rfl) | (rintro _ _ _ _ ⟨_, _, _, rfl, _⟩ <;> rfl) | (rintro _ _ _ _ ⟨_, _, _, _, rfl, _⟩ <;> rfl) | (rintro _ _ _ _ ⟨_, _, _, _, _, rfl, _⟩ <;> rfl) | (rintro _ _ _ _ ⟨_, _, _, _, _, _, rfl, _⟩ <;> rfl) | (rintro _ _ _ _ ⟨_, _, _, _, _, _, _, rfl, _⟩ <;> rfl) | (rintro _ _ _ _ ⟨_, _, _, _, _, _, _, _, rfl, _⟩ <;> rfl) | (rintro _ _ _ _ ⟨_, _, _, _, _, _, _, _, _, rfl, _⟩ <;> rfl) | (rintro _ _ _ _ ⟨_, rfl | rfl, _⟩; rfl; rfl) | (rintro _ _ _ _ ⟨_, _, rfl | rfl, _⟩; rfl; rfl) | (rintro _ _ _ _ ⟨_, rfl | rfl, _⟩ <;> rfl) | (rintro _ _ _ _ ⟨_, _, rfl | rfl, _⟩ <;> rfl) | (rintro _ _ _ _ ⟨_, _, _, rfl | rfl, _⟩ <;> rfl) | (rintro _ _ _ _ ⟨_, _, _, _, rfl | rfl, _⟩ <;> rfl) | (rintro _ _ _ _ ⟨_, _, ⟨rfl, _⟩ | ⟨rfl, _⟩, _⟩ <;> rfl) | (rintro _ _ _ _ ⟨_, ⟨rfl, _⟩ | ⟨rfl, _⟩, _⟩ <;> rfl) | (rintro _ _ _ _ (⟨_, _, rfl, _⟩ | ⟨_, _, _, rfl, _⟩) <;> rfl) | (rintro _ _ _ _ (⟨_, _, _, rfl | rfl, _⟩ | ⟨_, _, _, _, rfl, _⟩) <;> rfl)) fun cdv A outer s H E hr S₀ Ψ hX => ⟨w_rotate Ψ, (vss_cons (vs_set 2 sc_rotate.nd (ve_callX hX (L2N.takes_of rfl rfl rfl rfl) G_parent_of (hr.mono (by omega)) (by rfl) T.g_parent_of T.F_parent_of.kp T.b_parent_of (va_cons (ve_up (ve_var 0)) (va_cons (ve_var 1) va_nil))))
    (vss_cons (vs_if (vt_isN (ve_var 2) ve_non) (vss_one (vs_raise rfl hX (L2N.takes_of rfl rfl rfl rfl) T.XK_AtRoot (okI_AtRoot T) (hr.mono (by omega)) T.bI_AtRoot (by rfl) T.g_AtRoot (va_cons (ve_var 1) va_nil))) vss_nil)
    (vss_cons (vs_par 3 4 rfl sc_rotate.nd (va_cons (ve_callX hX (L2N.takes_of rfl rfl rfl rfl) G_subtree_at (hr.mono (by omega)) (by rfl) T.g_subtree_at T.F_subtree_at.kp T.b_subtree_at (va_cons (ve_up (ve_var 0)) (va_cons (ve_var 2) va_nil))) (va_cons (ve_idx 0 (va_cons (ve_var 2) va_nil)) va_nil)))
    (vss_one (vs_ret (ve_addN (ve_addN (ve_slice (ve_up (ve_var 0)) vo_none (vo_some (ve_var 4))) (ve_call G_rotated (hr.mono (by omega)) (by rfl) T.g_rotated T.F_rotated.kp T.b_rotated (va_cons (ve_var 3) (va_cons (ve_var 1) va_nil)))) (ve_slice (ve_up (ve_var 0)) (vo_some (ve_add (ve_var 4) (ve_len (by rfl) T.m_len (va_cons (ve_var 3) va_nil)))) vo_none))))))), r_rotate Ψ⟩
theorem ok_l_hang (T : Txt K mg) : FnOk P w K mg base CX0 1 T.f_l_hang T.fd_l_hang ["_law_m", "_law_side", "_law_above_here", "_law_key_in"] (spW K W_l_hang) :=
  fnW (k := 0) T.F_l_hang sc_l_hang (by first | (rintro _ _ _ ⟨rfl, _⟩ <;> rfl) | (rintro _ _ _ ⟨_, rfl, _⟩ <;> rfl) | (rintro _ _ _ ⟨_, _, rfl, _⟩ <;> rfl) | (rintro _ _ _ ⟨_, _, _, rfl, _⟩ <;> rfl) | (rintro _ _ _ ⟨_, _, _, _, rfl, _⟩ <;> rfl) | (rintro _ _ _ ⟨_, _, _, _, _, rfl, _⟩ <;> rfl) | (rintro _ _ _ ⟨_, _, _, _, _, _, rfl, _⟩ <;> rfl) | (rintro _ _ _ ⟨_, _, _, _, _, _, _, rfl, _⟩ <;> rfl) | (rintro _ _ _ ⟨_, _, _, _, _, _, _, _, rfl, _⟩ <;> rfl) | (rintro _ _ _ ⟨_, _, _, _, _, _, _, _, _, rfl, _⟩ <;> rfl) | (rintro _ _ _ ⟨_, rfl | rfl, _⟩; rfl; rfl) | (rintro _ _ _ ⟨_, _, rfl | rfl, _⟩; rfl; rfl) | (rintro _ _ _ ⟨_, rfl | rfl, _⟩ <;> rfl) | (rintro _ _ _ ⟨_, _, rfl | rfl, _⟩ <;> rfl) | (rintro _ _ _ ⟨_, _, _, rfl | rfl, _⟩ <;> rfl) | (rintro _ _ _ ⟨_, _, _, _, rfl | rfl, _⟩ <;> rfl) | (rintro _ _ _ ⟨_, _, ⟨rfl, _⟩ | ⟨rfl, _⟩, _⟩ <;> rfl) | (rintro _ _ _ ⟨_, ⟨rfl, _⟩ | ⟨rfl, _⟩, _⟩ <;> rfl) | (rintro _ _ _ (⟨_, _, rfl, _⟩ | ⟨_, _, _, rfl, _⟩) <;> rfl) | (rintro _ _ _ (⟨_, _, _, rfl | rfl, _⟩ | ⟨_, _, _, _, rfl, _⟩) <;> rfl)) fun cdv A outer s H E hr S₀ => ⟨w_l_hang, (vss_one (vs_if (vt_isN (ve_var 3) ve_non) (vss_one (vs_if (vt_in (hu_of hr) (ve_var 2) (ve_ix (hu_of hr) (ve_var 0) (ve_var 1))) (vss_one (vs_expr (ve_popD (ve_ix (hu_of hr) (ve_var 0) (ve_var 1)) (ve_var 2) ⟨rfl, rfl, rfl, rfl⟩))) vss_nil)) (vss_cons (vs_asg (ve_var 3) (show VG _ _ _ _ [] from (vg_sub (hu_of hr) (ve_ix (hu_of hr) (ve_var 0) (ve_var 1)) (ve_var 2))))
    (vss_one (vs_asg (ve_var 2) (show VG _ _ _ _ [] from (vg_sub (hu_of hr) (ve_ix (hu_of hr) (ve_var 0) ve_str) (ve_var 3)))))))), r_l_hang⟩
theorem ok_l_rotate (T : Txt K mg) (G_l_hang : FnOk P w K mg base CX0 1 T.f_l_hang T.fd_l_hang ["_law_m", "_law_side", "_law_above_here", "_law_key_in"] (spW K W_l_hang)) : FnOk P w K mg base CX0 2 T.f_l_rotate T.fd_l_rotate ["_law_m", "_law_key_in"] (spW K W_l_rotate) :=
  fnW (k := 1) T.F_l_rotate sc_l_rotate (by first | (rintro _ _ _ ⟨rfl, _⟩ <;> rfl) | (rintro _ _ _ ⟨_, rfl, _⟩ <;> rfl) | (rintro _ _ _ ⟨_, _, rfl, _⟩ <;> rfl) | (rintro _ _ _ ⟨_, _, _, rfl, _⟩ <;> rfl) | (rintro _ _ _ ⟨_, _, _, _, rfl, _⟩ <;> rfl) | (rintro _ _ _ ⟨_, _, _, _, _, rfl, _⟩ <;> rfl) | (rintro _ _ _ ⟨_, _, _, _, _, _, rfl, _⟩ <;> rfl) | (rintro _ _ _ ⟨_, _, _, _, _, _, _, rfl, _⟩ <;> rfl) | (rintro _ _ _ ⟨_, _, _, _, _, _, _, _, rfl, _⟩ <;> rfl) | (rintro _ _ _ ⟨_, _, _, _, _, _, _, _, _, rfl, _⟩ <;> rfl) | (rintro _ _ _ ⟨_, rfl | rfl, _⟩; rfl; rfl) | (rintro _ _ _ ⟨_, _, rfl | rfl, _⟩; rfl; rfl) | (rintro _ _ _ ⟨_, rfl | rfl, _⟩ <;> rfl) | (rintro _ _ _ ⟨_, _, rfl | rfl, _⟩ <;> rfl) | (rintro _ _ _ ⟨_, _, _, rfl | rfl, _⟩ <;> rfl) | (rintro _ _ _ ⟨_, _, _, _, rfl | rfl, _⟩ <;> rfl) | (rintro _ _ _ ⟨_, _, ⟨rfl, _⟩ | ⟨rfl, _⟩, _⟩ <;> rfl) | (rintro _ _ _ ⟨_, ⟨rfl, _⟩ | ⟨rfl, _⟩, _⟩ <;> rfl) | (rintro _ _ _ (⟨_, _, rfl, _⟩ | ⟨_, _, _, rfl, _⟩) <;> rfl) | (rintro _ _ _ (⟨_, _, _, rfl | rfl, _⟩ | ⟨_, _, _, _, rfl, _⟩) <;> rfl)) fun cdv A outer s H E hr S₀ => ⟨w_l_rotate, (vss_cons (vs_set 2 sc_l_rotate.nd (ve_ix (hu_of hr) (ve_ix (hu_of hr) (ve_var 0) ve_str) (ve_var 1)))
    (vss_cons (vs_set 3 sc_l_rotate.nd (ve_get (hu_of hr) (ve_ix (hu_of hr) (ve_var 0) ve_str) (ve_var 2) ve_non ⟨rfl, rfl, rfl, rfl⟩))
    (vss_cons (vs_set 4 sc_l_rotate.nd (ve_ifE (vt_lt (ve_var 1) (ve_var 2)) ve_str ve_str))
    (vss_cons (vs_set 5 sc_l_rotate.nd (ve_ifE (vt_eq hr.units (ve_var 4) ve_str) ve_str ve_str))
    (vss_cons (vs_expr (ve_call G_l_hang (hr.mono (by omega)) (by rfl) T.g_l_hang T.F_l_hang.kp T.b_l_hang (va_cons (ve_var 0) (va_cons (ve_var 4) (va_cons (ve_var 2) (va_cons (ve_get (hu_of hr) (ve_ix (hu_of hr) (ve_var 0) (ve_var 5)) (ve_var 1) ve_non ⟨rfl, rfl, rfl, rfl⟩) va_nil))))))
    (vss_cons (vs_expr (ve_call G_l_hang (hr.mono (by omega)) (by rfl) T.g_l_hang T.F_l_hang.kp T.b_l_hang (va_cons (ve_var 0) (va_cons (ve_var 5) (va_cons (ve_var 1) (va_cons (ve_var 2) va_nil))))))
    (vss_one (vs_if (vt_isN (ve_var 3) ve_non) (vss_cons (vs_asg (ve_var 1) (show VG _ _ _ _ [] from (vg_sub (hu_of hr) (ve_var 0) ve_str)))
    (vss_one (vs_expr (ve_popD (ve_ix (hu_of hr) (ve_var 0) ve_str) (ve_var 1) ⟨rfl, rfl, rfl, rfl⟩)))) (vss_one (vs_expr (ve_call G_l_hang (hr.mono (by omega)) (by rfl) T.g_l_hang T.F_l_hang.kp T.b_l_hang (va_cons (ve_var 0) (va_cons (ve_ifE (vt_lt (ve_var 1) (ve_var 3)) ve_str ve_str) (va_cons (ve_var 3) (va_cons (ve_var 1) va_nil))))))))))))))), r_l_rotate⟩
theorem ok_l_same (T : Txt K mg) : ∀ n, FnOk P w K mg base CX0 (0 + 1 + n) T.f_l_same T.fd_l_same ["_law_found", "_law_due"] (spW K (W_l_same n)) := by
  intro n
  induction n with
  | zero => exact fnW (k := 0) T.F_l_same sc_l_same (by intro _ _ _ h; first | exact h.elim | (obtain ⟨_, _, h, _⟩ := h; exact h.elim) | (obtain ⟨_, h⟩ := h; exact h.elim) | (obtain ⟨_, h, _⟩ := h; exact h.elim)) fun cdv A outer s H E hr S₀ => ⟨sNever, vss_never, (by intro _ _ _ h; first | exact h.elim | (obtain ⟨_, _, h, _⟩ := h; exact h.elim) | (obtain ⟨_, h⟩ := h; exact h.elim) | (obtain ⟨_, h, _⟩ := h; exact h.elim))⟩
  | succ n G_l_same => exact fnW (k := 0 + 1 + n) T.F_l_same sc_l_same (by first | (rintro _ _ _ ⟨rfl, _⟩ <;> rfl) | (rintro _ _ _ ⟨_, rfl, _⟩ <;> rfl) | (rintro _ _ _ ⟨_, _, rfl, _⟩ <;> rfl) | (rintro _ _ _ ⟨_, _, _, rfl, _⟩ <;> rfl) | (rintro _ _ _ ⟨_, _, _, _, rfl, _⟩ <;> rfl) | (rintro _ _ _ ⟨_, _, _, _, _, rfl, _⟩ <;> rfl) | (rintro _ _ _ ⟨_, _, _, _, _, _, rfl, _⟩ <;> rfl) | (rintro _ _ _ ⟨_, _, _, _, _, _, _, rfl, _⟩ <;> rfl) | (rintro _ _ _ ⟨_, _, _, _, _, _, _, _, rfl, _⟩ <;> rfl) | (rintro _ _ _ ⟨_, _, _, _, _, _, _, _, _, rfl, _⟩ <;> rfl) | (rintro _ _ _ ⟨_, rfl | rfl, _⟩; rfl; rfl) | (rintro _ _ _ ⟨_, _, rfl | rfl, _⟩; rfl; rfl) | (rintro _ _ _ ⟨_, rfl | rfl, _⟩ <;> rfl) | (rintro _ _ _ ⟨_, _, rfl | rfl, _⟩ <;> rfl) | (rintro _ _ _ ⟨_, _, _, rfl | rfl, _⟩ <;> rfl) | (rintro _ _ _ ⟨_, _, _, _, rfl | rfl, _⟩ <;> rfl) | (rintro _ _ _ ⟨_, _, ⟨rfl, _⟩ | ⟨rfl, _⟩, _⟩ <;> rfl) | (rintro _ _ _ ⟨_, ⟨rfl, _⟩ | ⟨rfl, _⟩, _⟩ <;> rfl) | (rintro _ _ _ (⟨_, _, rfl, _⟩ | ⟨_, _, _, rfl, _⟩) <;> rfl) | (rintro _ _ _ (⟨_, _, _, rfl | rfl, _⟩ | ⟨_, _, _, _, rfl, _⟩) <;> rfl)) fun cdv A outer s H E hr S₀ => ⟨w_l_same (W_l_same n), (vss_cons (vs_if (vt_isN (ve_var 1) ve_non) (vss_one (vs_ret (ve_isN (ve_var 0) ve_non))) vss_nil)
    (vss_cons (vs_if (vt_val (ve_isi (by rfl) T.m_isinstance (va_cons (ve_var 1) (va_cons (ve_tup (va_cons (ve_bty (by rfl) T.m_list (by decide +kernel)) (va_cons (ve_bty (by rfl) T.m_tuple (by decide +kernel)) va_nil))) va_nil)))) (vss_cons (vs_if (vw_pt (vw_or (vt_ne hr.units (ve_isi (by rfl) T.m_isinstance (va_cons (ve_var 0) (va_cons (ve_bty (by rfl) T.m_list (by decide +kernel)) va_nil))) (ve_isi (by rfl) T.m_isinstance (va_cons (ve_var 1) (va_cons (ve_bty (by rfl) T.m_list (by decide +kernel)) va_nil)))) (vw_or1 (vt_ne hr.units (ve_isi (by rfl) T.m_isinstance (va_cons (ve_var 0) (va_cons (ve_bty (by rfl) T.m_tuple (by decide +kernel)) va_nil))) (ve_isi (by rfl) T.m_isinstance (va_cons (ve_var 1) (va_cons (ve_bty (by rfl) T.m_tuple (by decide +kernel)) va_nil))))))) (vss_one (vs_ret ve_bl)) vss_nil)
    (vss_one (vs_ret (ve_and (ve_eq hr.units (ve_len (by rfl) T.m_len (va_cons (ve_var 0) va_nil)) (ve_len (by rfl) T.m_len (va_cons (ve_var 1) va_nil))) (ve_one (ve_all rfl (by rfl) T.m_all (va_cons (ve_lc (own := [("_law_one", 2), ("_law_other", 3)]) rfl sc_l_same.nd (vi_zip (by rfl) T.m_zip (va_cons (ve_var 0) (va_cons (ve_var 1) va_nil))) (blkOk_by (N := N_l_same) (sc := defScope s_l_same) (by decide +kernel)) (fun _ _ _ _ _ => (vg_tup rfl (vgs_cons (vg_name 2 sc_l_same.nd) (vgs_cons (vg_name 3 sc_l_same.nd) vgs_nil)))) (fun _ _ _ _ _ => vts_nil) (fun _ _ _ _ _ => (ve_call G_l_same (hr.mono (by omega)) (by rfl) T.g_l_same T.F_l_same.kp T.b_l_same (va_cons (ve_var 2) (va_cons (ve_var 3) va_nil))))) va_nil))))))) vss_nil)
    (vss_cons (vs_if (vw_pt (vw_or (vt_ne hr.units (ve_isi (by rfl) T.m_isinstance (va_cons (ve_var 1) (va_cons (ve_bty (by rfl) T.m_bool (by decide +kernel)) va_nil))) (ve_isi (by rfl) T.m_isinstance (va_cons (ve_var 0) (va_cons (ve_bty (by rfl) T.m_bool (by decide +kernel)) va_nil)))) (vw_or1 (vt_ne hr.units (ve_isi (by rfl) T.m_isinstance (va_cons (ve_var 1) (va_cons (ve_bty (by rfl) T.m_int (by decide +kernel)) va_nil))) (ve_isi (by rfl) T.m_isinstance (va_cons (ve_var 0) (va_cons (ve_bty (by rfl) T.m_int (by decide +kernel)) va_nil))))))) (vss_one (vs_ret ve_bl)) vss_nil)
    (vss_one (vs_ret (ve_and (ve_eq hr.units (ve_isi (by rfl) T.m_isinstance (va_cons (ve_var 1) (va_cons (ve_bty (by rfl) T.m_str (by decide +kernel)) va_nil))) (ve_isi (by rfl) T.m_isinstance (va_cons (ve_var 0) (va_cons (ve_bty (by rfl) T.m_str (by decide +kernel)) va_nil)))) (ve_one (ve_eq hr.units (ve_var 0) (ve_var 1))))))))), r_l_same n⟩
theorem ok_l_strange (T : Txt K mg) (G_l_of : FnOk P w K mg base CX0 2 T.f_l_of T.fd_l_of ["_law_draw", "_law_some"] (spW K W_l_of)) : FnOk P w K mg base CX0 3 T.f_l_strange T.fd_l_strange ["_law_draw", "_law_keys_here"] (spW K W_l_strange) :=
  fnW (k := 2) T.F_l_strange sc_l_strange (by first | (rintro _ _ _ ⟨rfl, _⟩ <;> rfl) | (rintro _ _ _ ⟨_, rfl, _⟩ <;> rfl) | (rintro _ _ _ ⟨_, _, rfl, _⟩ <;> rfl) | (rintro _ _ _ ⟨_, _, _, rfl, _⟩ <;> rfl) | (rintro _ _ _ ⟨_, _, _, _, rfl, _⟩ <;> rfl) | (rintro _ _ _ ⟨_, _, _, _, _, rfl, _⟩ <;> rfl) | (rintro _ _ _ ⟨_, _, _, _, _, _, rfl, _⟩ <;> rfl) | (rintro _ _ _ ⟨_, _, _, _, _, _, _, rfl, _⟩ <;> rfl) | (rintro _ _ _ ⟨_, _, _, _, _, _, _, _, rfl, _⟩ <;> rfl) | (rintro _ _ _ ⟨_, _, _, _, _, _, _, _, _, rfl, _⟩ <;> rfl) | (rintro _ _ _ ⟨_, rfl | rfl, _⟩; rfl; rfl) | (rintro _ _ _ ⟨_, _, rfl | rfl, _⟩; rfl; rfl) | (rintro _ _ _ ⟨_, rfl | rfl, _⟩ <;> rfl) | (rintro _ _ _ ⟨_, _, rfl | rfl, _⟩ <;> rfl) | (rintro _ _ _ ⟨_, _, _, rfl | rfl, _⟩ <;> rfl) | (rintro _ _ _ ⟨_, _, _, _, rfl | rfl, _⟩ <;> rfl) | (rintro _ _ _ ⟨_, _, ⟨rfl, _⟩ | ⟨rfl, _⟩, _⟩ <;> rfl) | (rintro _ _ _ ⟨_, ⟨rfl, _⟩ | ⟨rfl, _⟩, _⟩ <;> rfl) | (rintro _ _ _ (⟨_, _, rfl, _⟩ | ⟨_, _, _, rfl, _⟩) <;> rfl) | (rintro _ _ _ (⟨_, _, _, rfl | rfl, _⟩ | ⟨_, _, _, _, rfl, _⟩) <;> rfl)) fun cdv A outer s H E hr S₀ => ⟨w_l_strange, (vss_cons (vs_set 2 sc_l_strange.nd (ve_ifE (vt_ne hr.units (ve_var 1) (ve_lst va_nil)) (ve_add (ve_call G_l_of (hr.mono (by omega)) (by rfl) T.g_l_of T.F_l_of.kp T.b_l_of (va_cons (ve_var 0) (va_cons (ve_var 1) va_nil))) (ve_call G_l_of (hr.mono (by omega)) (by rfl) T.g_l_of T.F_l_of.kp T.b_l_of (va_cons (ve_var 0) (va_cons (ve_lst (va_cons ve_int (va_cons (ve_sub ve_int ve_int) va_nil))) va_nil)))) ve_int))
    (vss_one (vs_ret (ve_ifE (vw_pt (vw_and (vt_nin (hu_of hr) (ve_var 2) (ve_var 1)) (vw_and1 (vt_le (ve_abs (by rfl) T.m_abs (va_cons (ve_var 2) va_nil)) (ve_pow ve_int ve_int))))) (ve_var 2) (ve_add (ve_maxA rfl (hu_of hr) (by rfl) T.m_max (va_cons (ve_add (ve_var 1) (ve_lst (va_cons ve_int va_nil))) va_nil)) ve_int))))), r_l_strange⟩
theorem ok_law (T : Txt K mg) {PT : Addr} (TB : TabB base mg T.c_law PT) (G_l_start : FnOk P w K mg base CX0 1 T.f_l_start T.fd_l_start ["_law_script"] (spW K W_l_start)) (G_l_keys : FnOk P w K mg base CX0 3 T.f_l_keys T.fd_l_keys ["_law_draw", "_law_many"] (spW K W_l_keys)) (G_l_size : FnOk P w K mg base CX0 3 T.f_l_size T.fd_l_size ["_law_draw", "_law_most"] (spW K W_l_size)) (G_l_some_shapeN : FnOk P w K mg base CX0 3 T.f_l_some_shapeN T.fd_l_some_shapeN ["_law_draw", "_law_keys_here"] (spW K W_l_some_shapeN)) (G_l_take : FnOk P w K mg base CX0 1 T.f_l_take T.fd_l_take ["_law_draw", "_law_many"] (spW K W_l_take)) (G_l_tree : FnOk P w K mg base CX0 2 T.f_l_tree T.fd_l_tree ["_law_order"] (spW K W_l_tree)) (G_l_of : FnOk P w K mg base CX0 2 T.f_l_of T.fd_l_of ["_law_draw", "_law_some"] (spW K W_l_of)) (G_l_above : FnOk P w K mg base CX0 1 T.f_l_above T.fd_l_above ["_law_m", "_law_key_in"] (spW K W_l_above)) (G_rotate : FnOk P w K mg base (L2N.CX P w) 7 T.f_rotate T.fd_rotate ["shape", "key"] (spX K mg W_rotate)) (G_l_rotate : FnOk P w K mg base CX0 2 T.f_l_rotate T.fd_l_rotate ["_law_m", "_law_key_in"] (spW K W_l_rotate)) (G_l_same : FnOk P w K mg base CX0 6 T.f_l_same T.fd_l_same ["_law_found", "_law_due"] (spW K (W_l_same 5))) (G_l_shapeN : FnOk P w K mg base CX0 1 T.f_l_shapeN T.fd_l_shapeN ["_law_m"] (spW K W_l_shapeN)) (G_l_strange : FnOk P w K mg base CX0 3 T.f_l_strange T.fd_l_strange ["_law_draw", "_law_keys_here"] (spW K W_l_strange)) : FnOk P w K mg base CX0 11 T.f_law T.fd_law ["_law_script"] (spW K (W_law PT)) :=
  fnWC (k := 10) T.F_law sc_law (by first | (rintro _ _ _ ⟨rfl, _⟩ <;> rfl) | (rintro _ _ _ ⟨_, rfl, _⟩ <;> rfl) | (rintro _ _ _ ⟨_, _, rfl, _⟩ <;> rfl) | (rintro _ _ _ ⟨_, _, _, rfl, _⟩ <;> rfl) | (rintro _ _ _ ⟨_, _, _, _, rfl, _⟩ <;> rfl) | (rintro _ _ _ ⟨_, _, _, _, _, rfl, _⟩ <;> rfl) | (rintro _ _ _ ⟨_, _, _, _, _, _, rfl, _⟩ <;> rfl) | (rintro _ _ _ ⟨_, _, _, _, _, _, _, rfl, _⟩ <;> rfl) | (rintro _ _ _ ⟨_, _, _, _, _, _, _, _, rfl, _⟩ <;> rfl) | (rintro _ _ _ ⟨_, _, _, _, _, _, _, _, _, rfl, _⟩ <;> rfl) | (rintro _ _ _ ⟨_, rfl | rfl, _⟩; rfl; rfl) | (rintro _ _ _ ⟨_, _, rfl | rfl, _⟩; rfl; rfl) | (rintro _ _ _ ⟨_, rfl | rfl, _⟩ <;> rfl) | (rintro _ _ _ ⟨_, _, rfl | rfl, _⟩ <;> rfl) | (rintro _ _ _ ⟨_, _, _, rfl | rfl, _⟩ <;> rfl) | (rintro _ _ _ ⟨_, _, _, _, rfl | rfl, _⟩ <;> rfl) | (rintro _ _ _ ⟨_, _, ⟨rfl, _⟩ | ⟨rfl, _⟩, _⟩ <;> rfl) | (rintro _ _ _ ⟨_, ⟨rfl, _⟩ | ⟨rfl, _⟩, _⟩ <;> rfl) | (rintro _ _ _ (⟨_, _, rfl, _⟩ | ⟨_, _, _, rfl, _⟩) <;> rfl) | (rintro _ _ _ (⟨_, _, _, rfl | rfl, _⟩ | ⟨_, _, _, _, rfl, _⟩) <;> rfl)) fun A outer s H E hr S₀ => ⟨w_law PT _ _, (vss_cons (vs_set 1 sc_law.nd (ve_call G_l_start (hr.mono (by omega)) (by rfl) T.g_l_start T.F_l_start.kp T.b_l_start (va_cons (ve_var 0) va_nil)))
    (vss_cons (vs_for PassesOwn.never rfl (vi_rng1 (by rfl) T.m_range (va_cons ve_int va_nil)) (show VG _ _ _ _ [2] from (vg_name 2 sc_law.nd)) (vss_cons (vs_set 3 sc_law.nd (ve_call G_l_keys (hr.mono (by omega)) (by rfl) T.g_l_keys T.F_l_keys.kp T.b_l_keys (va_cons (ve_var 1) (va_cons (ve_add ve_int (ve_call G_l_size (hr.mono (by omega)) (by rfl) T.g_l_size T.F_l_size.kp T.b_l_size (va_cons (ve_var 1) (va_cons ve_int va_nil)))) va_nil))))
    (vss_cons (vs_set 4 sc_law.nd (ve_call G_l_some_shapeN (hr.mono (by omega)) (by rfl) T.g_l_some_shapeN T.F_l_some_shapeN.kp T.b_l_some_shapeN (va_cons (ve_var 1) (va_cons (ve_var 3) va_nil))))
    (vss_cons (vs_for PassesOwn.never rfl (vi_rng1 (by rfl) T.m_range (va_cons (ve_call G_l_take (hr.mono (by omega)) (by rfl) T.g_l_take T.F_l_take.kp T.b_l_take (va_cons (ve_var 1) (va_cons ve_int va_nil))) va_nil)) (show VG _ _ _ _ [5] from (vg_name 5 sc_law.nd)) (vss_cons (vs_asg (ve_tup (va_cons (ve_call G_l_of (hr.mono (by omega)) (by rfl) T.g_l_of T.F_l_of.kp T.b_l_of (va_cons (ve_var 1) (va_cons (ve_var 3) va_nil))) (va_cons (ve_call (ok_up G_l_tree) (hr.mono (by omega)) (by rfl) T.g_l_tree T.F_l_tree.kp T.b_l_tree (va_cons (ve_var 4) va_nil)) va_nil))) (show VG _ _ _ _ [6, 7] from (vg_tup rfl (vgs_cons (vg_name 6 sc_law.nd) (vgs_cons (vg_name 7 sc_law.nd) vgs_nil)))))
    (vss_cons (vs_if (vt_eq hr.units (ve_call G_l_above (hr.mono (by omega)) (by rfl) T.g_l_above T.F_l_above.kp T.b_l_above (va_cons (ve_var 7) (va_cons (ve_var 6) va_nil))) (ve_lst va_nil)) (vss_cons (vs_if (vt_ne hr.units (ve_err (k := 7) (outF T) (errF T) (by rfl) TB rfl (hr.mono (by omega)) (lamS_by (sc := defScope s_law) (by decide +kernel)) rfl (fun _ _ _ _ _ => rfl) fun A outer s H E f c' hr S₂ Ψ hX => (ve_callX hX lamN_takes G_rotate (hr.mono (by omega)) (by rfl) T.g_rotate T.F_rotate.kp T.b_rotate (va_cons (ve_var 4) (va_cons (ve_var 6) va_nil)))) (ve_tup (va_cons ve_str (va_cons (ve_var 6) va_nil)))) (vss_one (vs_ret ve_bl)) vss_nil)
    (vss_one vs_continue)) vss_nil)
    (vss_cons (vs_set 8 sc_law.nd (ve_ix (hu_of hr) (ve_ix (hu_of hr) (ve_var 7) ve_str) (ve_var 6)))
    (vss_cons (vs_expr (ve_call G_l_rotate (hr.mono (by omega)) (by rfl) T.g_l_rotate T.F_l_rotate.kp T.b_l_rotate (va_cons (ve_var 7) (va_cons (ve_var 6) va_nil))))
    (vss_cons (vs_set 9 sc_law.nd (ve_callN0 (ok_quiet G_rotate) (hr.mono (by omega)) (by rfl) T.g_rotate T.F_rotate.kp (k_rotate_0_key_shape T).choose_spec q_k_rotate_0_key_shape (vk_cons (ve_var 6) (vk_cons (ve_var 4) vk_nil))))
    (vss_cons (vs_if (vw_pt (vw_or (vt_not (vt_val (ve_call (ok_up G_l_same) (hr.mono (by omega)) (by rfl) T.g_l_same T.F_l_same.kp T.b_l_same (va_cons (ve_var 9) (va_cons (ve_call G_l_shapeN (hr.mono (by omega)) (by rfl) T.g_l_shapeN T.F_l_shapeN.kp T.b_l_shapeN (va_cons (ve_var 7) va_nil)) va_nil))))) (vw_or1 (vt_not (vt_val (ve_call (ok_up G_l_same) (hr.mono (by omega)) (by rfl) T.g_l_same T.F_l_same.kp T.b_l_same (va_cons (ve_call (ok_quiet G_rotate) (hr.mono (by omega)) (by rfl) T.g_rotate T.F_rotate.kp T.b_rotate (va_cons (ve_var 9) (va_cons (ve_var 8) va_nil))) (va_cons (ve_var 4) va_nil)))))))) (vss_one (vs_ret ve_bl)) vss_nil)
    (vss_one (vs_set 4 sc_law.nd (ve_var 9))))))))))
    (vss_cons (vs_set 10 sc_law.nd (ve_call G_l_strange (hr.mono (by omega)) (by rfl) T.g_l_strange T.F_l_strange.kp T.b_l_strange (va_cons (ve_var 1) (va_cons (ve_var 3) va_nil))))
    (vss_one (vs_if (vt_ne hr.units (ve_err (k := 7) (outF T) (errF T) (by rfl) TB rfl (hr.mono (by omega)) (lamS_by (sc := defScope s_law) (by decide +kernel)) rfl (fun _ _ _ _ _ => rfl) fun A outer s H E f c' hr S₂ Ψ hX => (ve_callX hX lamN_takes G_rotate (hr.mono (by omega)) (by rfl) T.g_rotate T.F_rotate.kp T.b_rotate (va_cons (ve_var 4) (va_cons (ve_var 10) va_nil)))) (ve_tup (va_cons ve_str (va_cons (ve_var 10) va_nil)))) (vss_one (vs_ret ve_bl)) vss_nil)))))))
    (vss_one (vs_ret (ve_eq hr.units (ve_err (k := 7) (outF T) (errF T) (by rfl) TB rfl (hr.mono (by omega)) (lamS_by (sc := defScope s_law) (by decide +kernel)) rfl (fun _ _ _ _ _ => rfl) fun A outer s H E f c' hr S₂ Ψ hX => (ve_callX hX lamN_takes G_rotate (hr.mono (by omega)) (by rfl) T.g_rotate T.F_rotate.kp T.b_rotate (va_cons (ve_tup va_nil) (va_cons ve_int va_nil)))) (ve_tup (va_cons ve_str (va_cons ve_int va_nil)))))))), r_law PT⟩
theorem ok_all (T : Txt K mg) {PT : Addr} (TB : TabB base mg T.c_law PT) : FnOk P w K mg base CX0 11 T.f_law T.fd_law ["_law_script"] (spW K (W_law PT)) := by
  have G_l_start := ok_l_start (P := P) (w := w) (base := base) T 
  have G_l_take := ok_l_take (P := P) (w := w) (base := base) T 
  have G_l_of := ok_l_of (P := P) (w := w) (base := base) T G_l_take
  have G_l_keys := ok_l_keys (P := P) (w := w) (base := base) T G_l_of G_l_take
  have G_l_size := ok_l_size (P := P) (w := w) (base := base) T G_l_of G_l_take
  have G_l_shuffled := ok_l_shuffled (P := P) (w := w) (base := base) T G_l_take
  have G_l_shapeN := ok_l_shapeN (P := P) (w := w) (base := base) T 
  have G_l_empty := ok_l_empty (P := P) (w := w) (base := base) T 
  have G_l_place := ok_l_place (P := P) (w := w) (base := base) T 
  have G_l_tree := ok_l_tree (P := P) (w := w) (base := base) T G_l_empty G_l_place
  have G_l_some_shapeN := ok_l_some_shapeN (P := P) (w := w) (base := base) T G_l_take G_l_shuffled G_l_shapeN G_l_tree
  have G_l_above := ok_l_above (P := P) (w := w) (base := base) T 
  have G_need_key := ok_need_key (P := P) (w := w) (base := base) T 
  have G_search_path := ok_search_path (P := P) (w := w) (base := base) T 
  have G_path_to := ok_path_to (P := P) (w := w) (base := base) T G_need_key G_search_path
  have G_parent_of := ok_parent_of (P := P) (w := w) (base := base) T G_path_to
  have G_bounds_of := ok_bounds_of (P := P) (w := w) (base := base) T G_path_to
  have G_restrict := ok_restrict (P := P) (w := w) (base := base) T 
  have G_subtree_at := ok_subtree_at (P := P) (w := w) (base := base) T G_bounds_of G_restrict
  have G_rotated := ok_rotated (P := P) (w := w) (base := base) T G_restrict
  have G_rotate := ok_rotate (P := P) (w := w) (base := base) T G_parent_of G_subtree_at G_rotated
  have G_l_hang := ok_l_hang (P := P) (w := w) (base := base) T 
  have G_l_rotate := ok_l_rotate (P := P) (w := w) (base := base) T G_l_hang
  have G_l_same := ok_l_same (P := P) (w := w) (base := base) T  5
  have G_l_strange := ok_l_strange (P := P) (w := w) (base := base) T G_l_of
  have G_law := ok_law (P := P) (w := w) (base := base) T TB G_l_start G_l_keys G_l_size G_l_some_shapeN G_l_take G_l_tree G_l_of G_l_above G_rotate G_l_rotate G_l_same G_l_shapeN G_l_strange
  exact G_law
end
theorem law_inT {K : PySem.W.Frag} {H : Hp} {a PT : Addr} {q : Str} {ns : List Int} {W : W3} {E : XK} (hP : H PT = some (.tbl #[])) (hS : SqL K H a (ns.map V.int)) (h : W [.fz (ns.map D.int)] (fun b => if b = PT then some (.tab q) else none) (fun d _ => d = .bl true)) : spW K W [.ref a] H (fun v _ => v = .bl true) E :=
  law_inT0 hP hS h
theorem all_mk {l : PySem.W.OpenLaw} {w : World} {K : PySem.W.Frag} {h : Heap} {mg : Str → Option Value} {fa : Addr} (X : K.In h) (G : h.Ns mainGlobals mg) (hfa : mg "law" = some (.ref fa)) (own : LamX.OwnTab K fa h)
    {f0 : Addr} {od0 an0 : Option Addr} {sl0 : Array (Option Value)} {oc0 kV0 dc0 pm0 cd0 ct0 : Value}
    (a0 : PySem.W.nsIn K mainGlobals "_law_start" = some (some (.ref f0))) (l0 : K.lookup f0 = some ⟨oc0, od0, .func (PySem.W.fnOf "_law_start" "_law_start" (defArgs s_l_start) (defBody s_l_start) (defScope s_l_start) .none kV0 dc0 pm0 an0 cd0 ct0), sl0⟩) (c0 : PySem.W.codeIn K cd0 "_law_start" = true) (k0 : PySem.W.keepIn K (.ref f0) = true)
    {f1 : Addr} {od1 an1 : Option Addr} {sl1 : Array (Option Value)} {oc1 kV1 dc1 pm1 cd1 ct1 : Value}
    (a1 : PySem.W.nsIn K mainGlobals "_law_take" = some (some (.ref f1))) (l1 : K.lookup f1 = some ⟨oc1, od1, .func (PySem.W.fnOf "_law_take" "_law_take" (defArgs s_l_take) (defBody s_l_take) (defScope s_l_take) .none kV1 dc1 pm1 an1 cd1 ct1), sl1⟩) (c1 : PySem.W.codeIn K cd1 "_law_take" = true) (k1 : PySem.W.keepIn K (.ref f1) = true)
    {f2 : Addr} {od2 an2 : Option Addr} {sl2 : Array (Option Value)} {oc2 kV2 dc2 pm2 cd2 ct2 : Value}
    (a2 : PySem.W.nsIn K mainGlobals "_law_of" = some (some (.ref f2))) (l2 : K.lookup f2 = some ⟨oc2, od2, .func (PySem.W.fnOf "_law_of" "_law_of" (defArgs s_l_of) (defBody s_l_of) (defScope s_l_of) .none kV2 dc2 pm2 an2 cd2 ct2), sl2⟩) (c2 : PySem.W.codeIn K cd2 "_law_of" = true) (k2 : PySem.W.keepIn K (.ref f2) = true)
    {f3 : Addr} {od3 an3 : Option Addr} {sl3 : Array (Option Value)} {oc3 kV3 dc3 pm3 cd3 ct3 : Value}
    (a3 : PySem.W.nsIn K mainGlobals "_law_keys" = some (some (.ref f3))) (l3 : K.lookup f3 = some ⟨oc3, od3, .func (PySem.W.fnOf "_law_keys" "_law_keys" (defArgs s_l_keys) (defBody s_l_keys) (defScope s_l_keys) .none kV3 dc3 pm3 an3 cd3 ct3), sl3⟩) (c3 : PySem.W.codeIn K cd3 "_law_keys" = true) (k3 : PySem.W.keepIn K (.ref f3) = true)
    {f4 : Addr} {od4 an4 : Option Addr} {sl4 : Array (Option Value)} {oc4 kV4 dc4 pm4 cd4 ct4 : Value}
    (a4 : PySem.W.nsIn K mainGlobals "_law_size" = some (some (.ref f4))) (l4 : K.lookup f4 = some ⟨oc4, od4, .func (PySem.W.fnOf "_law_size" "_law_size" (defArgs s_l_size) (defBody s_l_size) (defScope s_l_size) .none kV4 dc4 pm4 an4 cd4 ct4), sl4⟩) (c4 : PySem.W.codeIn K cd4 "_law_size" = true) (k4 : PySem.W.keepIn K (.ref f4) = true)
    {f5 : Addr} {od5 an5 : Option Addr} {sl5 : Array (Option Value)} {oc5 kV5 dc5 pm5 cd5 ct5 : Value}
    (a5 : PySem.W.nsIn K mainGlobals "_law_shuffled" = some (some (.ref f5))) (l5 : K.lookup f5 = some ⟨oc5, od5, .func (PySem.W.fnOf "_law_shuffled" "_law_shuffled" (defArgs s_l_shuffled) (defBody s_l_shuffled) (defScope s_l_shuffled) .none kV5 dc5 pm5 an5 cd5 ct5), sl5⟩) (c5 : PySem.W.codeIn K cd5 "_law_shuffled" = true) (k5 : PySem.W.keepIn K (.ref f5) = true)
    {f6 : Addr} {od6 an6 : Option Addr} {sl6 : Array (Option Value)} {oc6 kV6 dc6 pm6 cd6 ct6 : Value}
    (a6 : PySem.W.nsIn K mainGlobals "_law_shape" = some (some (.ref f6))) (l6 : K.lookup f6 = some ⟨oc6, od6, .func (PySem.W.fnOf "_law_shape" "_law_shape" (defArgs s_l_shapeN) (defBody s_l_shapeN) (defScope s_l_shapeN) .none kV6 dc6 pm6 an6 cd6 ct6), sl6⟩) (c6 : PySem.W.codeIn K cd6 "_law_shape" = true) (k6 : PySem.W.keepIn K (.ref f6) = true)
    {f7 : Addr} {od7 an7 : Option Addr} {sl7 : Array (Option Value)} {oc7 kV7 dc7 pm7 cd7 ct7 : Value}
    (a7 : PySem.W.nsIn K mainGlobals "_law_empty" = some (some (.ref f7))) (l7 : K.lookup f7 = some ⟨oc7, od7, .func (PySem.W.fnOf "_law_empty" "_law_empty" (defArgs s_l_empty) (defBody s_l_empty) (defScope s_l_empty) .none kV7 dc7 pm7 an7 cd7 ct7), sl7⟩) (c7 : PySem.W.codeIn K cd7 "_law_empty" = true) (k7 : PySem.W.keepIn K (.ref f7) = true)
    {f8 : Addr} {od8 an8 : Option Addr} {sl8 : Array (Option Value)} {oc8 kV8 dc8 pm8 cd8 ct8 : Value}
    (a8 : PySem.W.nsIn K mainGlobals "_law_place" = some (some (.ref f8))) (l8 : K.lookup f8 = some ⟨oc8, od8, .func (PySem.W.fnOf "_law_place" "_law_place" (defArgs s_l_place) (defBody s_l_place) (defScope s_l_place) .none kV8 dc8 pm8 an8 cd8 ct8), sl8⟩) (c8 : PySem.W.codeIn K cd8 "_law_place" = true) (k8 : PySem.W.keepIn K (.ref f8) = true)
    {f9 : Addr} {od9 an9 : Option Addr} {sl9 : Array (Option Value)} {oc9 kV9 dc9 pm9 cd9 ct9 : Value}
    (a9 : PySem.W.nsIn K mainGlobals "_law_tree" = some (some (.ref f9))) (l9 : K.lookup f9 = some ⟨oc9, od9, .func (PySem.W.fnOf "_law_tree" "_law_tree" (defArgs s_l_tree) (defBody s_l_tree) (defScope s_l_tree) .none kV9 dc9 pm9 an9 cd9 ct9), sl9⟩) (c9 : PySem.W.codeIn K cd9 "_law_tree" = true) (k9 : PySem.W.keepIn K (.ref f9) = true)
    {f10 : Addr} {od10 an10 : Option Addr} {sl10 : Array (Option Value)} {oc10 kV10 dc10 pm10 cd10 ct10 : Value}
    (a10 : PySem.W.nsIn K mainGlobals "_law_some_shape" = some (some (.ref f10))) (l10 : K.lookup f10 = some ⟨oc10, od10, .func (PySem.W.fnOf "_law_some_shape" "_law_some_shape" (defArgs s_l_some_shapeN) (defBody s_l_some_shapeN) (defScope s_l_some_shapeN) .none kV10 dc10 pm10 an10 cd10 ct10), sl10⟩) (c10 : PySem.W.codeIn K cd10 "_law_some_shape" = true) (k10 : PySem.W.keepIn K (.ref f10) = true)
    {f11 : Addr} {od11 an11 : Option Addr} {sl11 : Array (Option Value)} {oc11 kV11 dc11 pm11 cd11 ct11 : Value}
    (a11 : PySem.W.nsIn K mainGlobals "_law_above" = some (some (.ref f11))) (l11 : K.lookup f11 = some ⟨oc11, od11, .func (PySem.W.fnOf "_law_above" "_law_above" (defArgs s_l_above) (defBody s_l_above) (defScope s_l_above) .none kV11 dc11 pm11 an11 cd11 ct11), sl11⟩) (c11 : PySem.W.codeIn K cd11 "_law_above" = true) (k11 : PySem.W.keepIn K (.ref f11) = true)
    {f12 : Addr} {od12 an12 : Option Addr} {sl12 : Array (Option Value)} {oc12 kV12 dc12 pm12 cd12 ct12 : Value}
    (a12 : PySem.W.nsIn K mainGlobals "need_key" = some (some (.ref f12))) (l12 : K.lookup f12 = some ⟨oc12, od12, .func (PySem.W.fnOf "need_key" "need_key" (defArgs s_need_key) (defBody s_need_key) (defScope s_need_key) .none kV12 dc12 pm12 an12 cd12 ct12), sl12⟩) (c12 : PySem.W.codeIn K cd12 "need_key" = true) (k12 : PySem.W.keepIn K (.ref f12) = true)
    {f13 : Addr} {od13 an13 : Option Addr} {sl13 : Array (Option Value)} {oc13 kV13 dc13 pm13 cd13 ct13 : Value}
    (a13 : PySem.W.nsIn K mainGlobals "search_path" = some (some (.ref f13))) (l13 : K.lookup f13 = some ⟨oc13, od13, .func (PySem.W.fnOf "search_path" "search_path" (defArgs s_search_path) (defBody s_search_path) (defScope s_search_path) .none kV13 dc13 pm13 an13 cd13 ct13), sl13⟩) (c13 : PySem.W.codeIn K cd13 "search_path" = true) (k13 : PySem.W.keepIn K (.ref f13) = true)
    {f14 : Addr} {od14 an14 : Option Addr} {sl14 : Array (Option Value)} {oc14 kV14 dc14 pm14 cd14 ct14 : Value}
    (a14 : PySem.W.nsIn K mainGlobals "path_to" = some (some (.ref f14))) (l14 : K.lookup f14 = some ⟨oc14, od14, .func (PySem.W.fnOf "path_to" "path_to" (defArgs s_path_to) (defBody s_path_to) (defScope s_path_to) .none kV14 dc14 pm14 an14 cd14 ct14), sl14⟩) (c14 : PySem.W.codeIn K cd14 "path_to" = true) (k14 : PySem.W.keepIn K (.ref f14) = true)
    {f15 : Addr} {od15 an15 : Option Addr} {sl15 : Array (Option Value)} {oc15 kV15 dc15 pm15 cd15 ct15 : Value}
    (a15 : PySem.W.nsIn K mainGlobals "parent_of" = some (some (.ref f15))) (l15 : K.lookup f15 = some ⟨oc15, od15, .func (PySem.W.fnOf "parent_of" "parent_of" (defArgs s_parent_of) (defBody s_parent_of) (defScope s_parent_of) .none kV15 dc15 pm15 an15 cd15 ct15), sl15⟩) (c15 : PySem.W.codeIn K cd15 "parent_of" = true) (k15 : PySem.W.keepIn K (.ref f15) = true)
    {f16 : Addr} {od16 an16 : Option Addr} {sl16 : Array (Option Value)} {oc16 kV16 dc16 pm16 cd16 ct16 : Value}
    (a16 : PySem.W.nsIn K mainGlobals "bounds_of" = some (some (.ref f16))) (l16 : K.lookup f16 = some ⟨oc16, od16, .func (PySem.W.fnOf "bounds_of" "bounds_of" (defArgs s_bounds_of) (defBody s_bounds_of) (defScope s_bounds_of) .none kV16 dc16 pm16 an16 cd16 ct16), sl16⟩) (c16 : PySem.W.codeIn K cd16 "bounds_of" = true) (k16 : PySem.W.keepIn K (.ref f16) = true)
    {D17 : Addr}    {f17 : Addr} {od17 an17 : Option Addr} {sl17 : Array (Option Value)} {oc17 dc17 pm17 cd17 ct17 : Value}
    (a17 : PySem.W.nsIn K mainGlobals "restrict" = some (some (.ref f17))) (l17 : K.lookup f17 = some ⟨oc17, od17, .func (PySem.W.fnOf "restrict" "restrict" (defArgs s_restrict) (defBody s_restrict) (defScope s_restrict) .none (.ref D17) dc17 pm17 an17 cd17 ct17), sl17⟩) (c17 : PySem.W.codeIn K cd17 "restrict" = true) (k17 : PySem.W.keepIn K (.ref f17) = true)
    (q17_0 : PySem.W.nsIn K D17 "low" = some (some .none))
    (q17_1 : PySem.W.nsIn K D17 "high" = some (some .none))
    {f18 : Addr} {od18 an18 : Option Addr} {sl18 : Array (Option Value)} {oc18 kV18 dc18 pm18 cd18 ct18 : Value}
    (a18 : PySem.W.nsIn K mainGlobals "subtree_at" = some (some (.ref f18))) (l18 : K.lookup f18 = some ⟨oc18, od18, .func (PySem.W.fnOf "subtree_at" "subtree_at" (defArgs s_subtree_at) (defBody s_subtree_at) (defScope s_subtree_at) .none kV18 dc18 pm18 an18 cd18 ct18), sl18⟩) (c18 : PySem.W.codeIn K cd18 "subtree_at" = true) (k18 : PySem.W.keepIn K (.ref f18) = true)
    {f19 : Addr} {od19 an19 : Option Addr} {sl19 : Array (Option Value)} {oc19 kV19 dc19 pm19 cd19 ct19 : Value}
    (a19 : PySem.W.nsIn K mainGlobals "rotated" = some (some (.ref f19))) (l19 : K.lookup f19 = some ⟨oc19, od19, .func (PySem.W.fnOf "rotated" "rotated" (defArgs s_rotated) (defBody s_rotated) (defScope s_rotated) .none kV19 dc19 pm19 an19 cd19 ct19), sl19⟩) (c19 : PySem.W.codeIn K cd19 "rotated" = true) (k19 : PySem.W.keepIn K (.ref f19) = true)
    {f20 : Addr} {od20 an20 : Option Addr} {sl20 : Array (Option Value)} {oc20 kV20 dc20 pm20 cd20 ct20 : Value}
    (a20 : PySem.W.nsIn K mainGlobals "rotate" = some (some (.ref f20))) (l20 : K.lookup f20 = some ⟨oc20, od20, .func (PySem.W.fnOf "rotate" "rotate" (defArgs s_rotate) (defBody s_rotate) (defScope s_rotate) .none kV20 dc20 pm20 an20 cd20 ct20), sl20⟩) (c20 : PySem.W.codeIn K cd20 "rotate" = true) (k20 : PySem.W.keepIn K (.ref f20) = true)
    {f21 : Addr} {od21 an21 : Option Addr} {sl21 : Array (Option Value)} {oc21 kV21 dc21 pm21 cd21 ct21 : Value}
    (a21 : PySem.W.nsIn K mainGlobals "_law_hang" = some (some (.ref f21))) (l21 : K.lookup f21 = some ⟨oc21, od21, .func (PySem.W.fnOf "_law_hang" "_law_hang" (defArgs s_l_hang) (defBody s_l_hang) (defScope s_l_hang) .none kV21 dc21 pm21 an21 cd21 ct21), sl21⟩) (c21 : PySem.W.codeIn K cd21 "_law_hang" = true) (k21 : PySem.W.keepIn K (.ref f21) = true)
    {f22 : Addr} {od22 an22 : Option Addr} {sl22 : Array (Option Value)} {oc22 kV22 dc22 pm22 cd22 ct22 : Value}
    (a22 : PySem.W.nsIn K mainGlobals "_law_rotate" = some (some (.ref f22))) (l22 : K.lookup f22 = some ⟨oc22, od22, .func (PySem.W.fnOf "_law_rotate" "_law_rotate" (defArgs s_l_rotate) (defBody s_l_rotate) (defScope s_l_rotate) .none kV22 dc22 pm22 an22 cd22 ct22), sl22⟩) (c22 : PySem.W.codeIn K cd22 "_law_rotate" = true) (k22 : PySem.W.keepIn K (.ref f22) = true)
    {f23 : Addr} {od23 an23 : Option Addr} {sl23 : Array (Option Value)} {oc23 kV23 dc23 pm23 cd23 ct23 : Value}
    (a23 : PySem.W.nsIn K mainGlobals "_law_same" = some (some (.ref f23))) (l23 : K.lookup f23 = some ⟨oc23, od23, .func (PySem.W.fnOf "_law_same" "_law_same" (defArgs s_l_same) (defBody s_l_same) (defScope s_l_same) .none kV23 dc23 pm23 an23 cd23 ct23), sl23⟩) (c23 : PySem.W.codeIn K cd23 "_law_same" = true) (k23 : PySem.W.keepIn K (.ref f23) = true)
    {f24 : Addr} {od24 an24 : Option Addr} {sl24 : Array (Option Value)} {oc24 kV24 dc24 pm24 cd24 ct24 : Value}
    (a24 : PySem.W.nsIn K mainGlobals "_law_strange" = some (some (.ref f24))) (l24 : K.lookup f24 = some ⟨oc24, od24, .func (PySem.W.fnOf "_law_strange" "_law_strange" (defArgs s_l_strange) (defBody s_l_strange) (defScope s_l_strange) .none kV24 dc24 pm24 an24 cd24 ct24), sl24⟩) (c24 : PySem.W.codeIn K cd24 "_law_strange" = true) (k24 : PySem.W.keepIn K (.ref f24) = true)
    {f25 cc PT : Addr} {od25 an25 : Option Addr} {sl25 : Array (Option Value)} {oc25 kV25 dc25 pm25 ct25 : Value}
    (a25 : PySem.W.nsIn K mainGlobals "law" = some (some (.ref f25))) (l25 : K.lookup f25 = some ⟨oc25, od25, .func (PySem.W.fnOf "law" "law" (defArgs s_law) (defBody s_law) (defScope s_law) .none kV25 dc25 pm25 an25 (.ref cc) ct25), sl25⟩) (c25 : PySem.W.codeIn K (.ref cc) "law" = true) (k25 : PySem.W.keepIn K (.ref f25) = true)
    {ud : Option Addr} {uv : Array Value} {us : Array (Option Value)} (t0 : K.lookup cc = some ⟨.type "code", ud, .fields uv, us⟩) (t1 : uv[11]? = some (.ref PT)) (t2 : K.lookup PT = none) (t3 : codeHdB uv cc PT = true)
    {f26 : Addr} {od26 an26 : Option Addr} {sl26 : Array (Option Value)} {oc26 kV26 dc26 pm26 cd26 ct26 : Value}
    (a26 : PySem.W.nsIn K mainGlobals "_law_field" = some (some (.ref f26))) (l26 : K.lookup f26 = some ⟨oc26, od26, .func (PySem.W.fnOf "_law_field" "_law_field" (defArgs s_l_field) (defBody s_l_field) (defScope s_l_field) .none kV26 dc26 pm26 an26 cd26 ct26), sl26⟩) (c26 : PySem.W.codeIn K cd26 "_law_field" = true) (k26 : PySem.W.keepIn K (.ref f26) = true)
    {f27 : Addr} {od27 an27 : Option Addr} {sl27 : Array (Option Value)} {oc27 kV27 dc27 pm27 cd27 ct27 : Value}
    (a27 : PySem.W.nsIn K mainGlobals "_law_outcome" = some (some (.ref f27))) (l27 : K.lookup f27 = some ⟨oc27, od27, .func (PySem.W.fnOf "_law_outcome" "_law_outcome" (defArgs s_l_outcome) (defBody s_l_outcome) (defScope s_l_outcome) .none kV27 dc27 pm27 an27 cd27 ct27), sl27⟩) (c27 : PySem.W.codeIn K cd27 "_law_outcome" = true) (k27 : PySem.W.keepIn K (.ref f27) = true)
    {f28 : Addr} {od28 an28 : Option Addr} {sl28 : Array (Option Value)} {oc28 kV28 dc28 pm28 cd28 ct28 : Value}
    (a28 : PySem.W.nsIn K mainGlobals "_law_error" = some (some (.ref f28))) (l28 : K.lookup f28 = some ⟨oc28, od28, .func (PySem.W.fnOf "_law_error" "_law_error" (defArgs s_l_error) (defBody s_l_error) (defScope s_l_error) .none kV28 dc28 pm28 an28 cd28 ct28), sl28⟩) (c28 : PySem.W.codeIn K cd28 "_law_error" = true) (k28 : PySem.W.keepIn K (.ref f28) = true)
    {C0 : Addr} (x0 : PySem.W.nsIn K mainGlobals "AtRoot" = some (some (.ref C0)))
    {C1 : Addr} (x1 : PySem.W.nsIn K mainGlobals "NoKey" = some (some (.ref C1)))
    {C2 : Addr} (x2 : PySem.W.nsIn K mainGlobals "TreeError" = some (some (.ref C2)))
    {C3 : Addr} (x3 : PySem.W.nsIn K mainGlobals "Missing" = some (some (.ref C3)))
    {C4 : Addr} (x4 : PySem.W.nsIn K mainGlobals "EmptyHistory" = some (some (.ref C4)))
    {wd2 : Option Addr} {wc2 : ClassData} {wx2 : Array (Option Value)} {we2 : Value}
    (wl2 : K.lookup C2 = some ⟨we2, wd2, .cls wc2, wx2⟩)
    (ws2 : PySem.W.subIn K (.ref C2) (.type "BaseException") = some true)
    (wt2 : PySem.W.typeIn K (.ref C2) = some (.type "type"))
    {wd3 : Option Addr} {wc3 : ClassData} {wx3 : Array (Option Value)} {we3 : Value}
    (wl3 : K.lookup C3 = some ⟨we3, wd3, .cls wc3, wx3⟩)
    (ws3 : PySem.W.subIn K (.ref C3) (.type "BaseException") = some true)
    (wt3 : PySem.W.typeIn K (.ref C3) = some (.type "type"))
    {wd4 : Option Addr} {wc4 : ClassData} {wx4 : Array (Option Value)} {we4 : Value}
    (wl4 : K.lookup C4 = some ⟨we4, wd4, .cls wc4, wx4⟩)
    (ws4 : PySem.W.subIn K (.ref C4) (.type "BaseException") = some true)
    (wt4 : PySem.W.typeIn K (.ref C4) = some (.type "type"))
    {I0 : Addr} {iod0 ian0 : Option Addr} {isl0 : Array (Option Value)} {ioc0 ikV0 idc0 ipm0 icd0 ict0 : Value} {xd0 : Option Addr} {xc0 : ClassData} {xl0 : Array (Option Value)} {xb0 xe0 : Bool}
    (y00 : PySem.W.findIn K (.ref C0) "__init__" = some (some (.ref I0)))
    (y10 : K.lookup I0 = some ⟨ioc0, iod0, .func (PySem.W.fnOf "__init__" "AtRoot.__init__" (defArgs sI_AtRoot) (defBody sI_AtRoot) (defScope sI_AtRoot) .none ikV0 idc0 ipm0 ian0 icd0 ict0), isl0⟩)
    (y20 : PySem.W.codeIn K icd0 "AtRoot.__init__" = true)
    (y30 : PySem.W.keepIn K (.ref I0) = true)
    (yl0 : K.lookup C0 = some ⟨.type "type", xd0, .cls xc0, xl0⟩)
    (y40 : excInitB xc0 xl0 C0 [.type "ValueError", .type "Exception", .type "BaseException", .type "object"] "ValueError.__new__" = true)
    (y50 : excOverB xc0 C0 [.type "ValueError", .type "Exception", .type "BaseException", .type "object"] = true)
    (y60 : PySem.W.hasDictIn K C0 = true)
    (y70 : PySem.W.findIn K (.ref C0) "__setattr__" = some (some (.builtin "object.__setattr__")))
    (y80 : PySem.W.subIn K (.ref C0) (.type "BaseException") = some true)
    (y90 : PySem.W.typeIn K (.ref C0) = some (.type "type"))
    (ya0 : PySem.W.keepIn K (.ref C0) = true)
    (yb0 : PySem.W.typeIn K (.ref I0) = some (.type "function"))
    (yc0 : PySem.W.findIn K (.ref C0) "tag" = some none)
    (ye0 : PySem.W.findIn K (.ref C0) "__getattribute__" = some (some (.builtin "BaseException.__getattribute__")))
    (yf0 : PySem.W.findIn K (.ref C0) "__getattr__" = some none)
    (yd0 : PySem.W.findIn K (.ref C0) "key" = some none)
    (yg0 : PySem.W.subIn K (.ref C0) (.ref C2) = some xb0)
    (yi0 : PySem.W.subIn K (.ref C0) (.ref C3) = some xe0)
    (yj0 : (xb0 || xe0) = true)
    {I1 : Addr} {iod1 ian1 : Option Addr} {isl1 : Array (Option Value)} {ioc1 ikV1 idc1 ipm1 icd1 ict1 : Value} {xd1 : Option Addr} {xc1 : ClassData} {xl1 : Array (Option Value)} {xb1 xe1 : Bool}
    (y01 : PySem.W.findIn K (.ref C1) "__init__" = some (some (.ref I1)))
    (y11 : K.lookup I1 = some ⟨ioc1, iod1, .func (PySem.W.fnOf "__init__" "NoKey.__init__" (defArgs sI_NoKey) (defBody sI_NoKey) (defScope sI_NoKey) .none ikV1 idc1 ipm1 ian1 icd1 ict1), isl1⟩)
    (y21 : PySem.W.codeIn K icd1 "NoKey.__init__" = true)
    (y31 : PySem.W.keepIn K (.ref I1) = true)
    (yl1 : K.lookup C1 = some ⟨.type "type", xd1, .cls xc1, xl1⟩)
    (y41 : excInitB xc1 xl1 C1 [.type "LookupError", .type "Exception", .type "BaseException", .type "object"] "LookupError.__new__" = true)
    (y51 : excOverB xc1 C1 [.type "LookupError", .type "Exception", .type "BaseException", .type "object"] = true)
    (y61 : PySem.W.hasDictIn K C1 = true)
    (y71 : PySem.W.findIn K (.ref C1) "__setattr__" = some (some (.builtin "object.__setattr__")))
    (y81 : PySem.W.subIn K (.ref C1) (.type "BaseException") = some true)
    (y91 : PySem.W.typeIn K (.ref C1) = some (.type "type"))
    (ya1 : PySem.W.keepIn K (.ref C1) = true)
    (yb1 : PySem.W.typeIn K (.ref I1) = some (.type "function"))
    (yc1 : PySem.W.findIn K (.ref C1) "tag" = some none)
    (ye1 : PySem.W.findIn K (.ref C1) "__getattribute__" = some (some (.builtin "BaseException.__getattribute__")))
    (yf1 : PySem.W.findIn K (.ref C1) "__getattr__" = some none)
    (yd1 : PySem.W.findIn K (.ref C1) "key" = some none)
    (yg1 : PySem.W.subIn K (.ref C1) (.ref C2) = some xb1)
    (yi1 : PySem.W.subIn K (.ref C1) (.ref C3) = some xe1)
    (yj1 : (xb1 || xe1) = true)
    (z0 : PySem.W.nsIn K mainGlobals "abs" = some none)
    (z1 : PySem.W.nsIn K mainGlobals "all" = some none)
    (z2 : PySem.W.nsIn K mainGlobals "bool" = some none)
    (z3 : PySem.W.nsIn K mainGlobals "int" = some none)
    (z4 : PySem.W.nsIn K mainGlobals "isinstance" = some none)
    (z5 : PySem.W.nsIn K mainGlobals "len" = some none)
    (z6 : PySem.W.nsIn K mainGlobals "list" = some none)
    (z7 : PySem.W.nsIn K mainGlobals "max" = some none)
    (z8 : PySem.W.nsIn K mainGlobals "min" = some none)
    (z9 : PySem.W.nsIn K mainGlobals "range" = some none)
    (z10 : PySem.W.nsIn K mainGlobals "str" = some none)
    (z11 : PySem.W.nsIn K mainGlobals "tuple" = some none)
    (z12 : PySem.W.nsIn K mainGlobals "zip" = some none)
    : LamX.LawAtS l w K CX0 11 63 "_law_script" mg fa h := by
  have e := hfa.symm.trans (PySem.W.mg_of X G a25)
  cases e
  have F0 := fun_mk (st := s_l_start) l0 c0 k0
  have b0 := F0.binds (ps := ["_law_script"]) fun _ _ _ _ _ _ us hl => match us, hl with | [_], _ => rfl
  have F1 := fun_mk (st := s_l_take) l1 c1 k1
  have b1 := F1.binds (ps := ["_law_draw", "_law_many"]) fun _ _ _ _ _ _ us hl => match us, hl with | [_, _], _ => rfl
  have F2 := fun_mk (st := s_l_of) l2 c2 k2
  have b2 := F2.binds (ps := ["_law_draw", "_law_some"]) fun _ _ _ _ _ _ us hl => match us, hl with | [_, _], _ => rfl
  have F3 := fun_mk (st := s_l_keys) l3 c3 k3
  have b3 := F3.binds (ps := ["_law_draw", "_law_many"]) fun _ _ _ _ _ _ us hl => match us, hl with | [_, _], _ => rfl
  have F4 := fun_mk (st := s_l_size) l4 c4 k4
  have b4 := F4.binds (ps := ["_law_draw", "_law_most"]) fun _ _ _ _ _ _ us hl => match us, hl with | [_, _], _ => rfl
  have F5 := fun_mk (st := s_l_shuffled) l5 c5 k5
  have b5 := F5.binds (ps := ["_law_draw", "_law_some"]) fun _ _ _ _ _ _ us hl => match us, hl with | [_, _], _ => rfl
  have F6 := fun_mk (st := s_l_shapeN) l6 c6 k6
  have b6 := F6.binds (ps := ["_law_m"]) fun _ _ _ _ _ _ us hl => match us, hl with | [_], _ => rfl
  have F7 := fun_mk (st := s_l_empty) l7 c7 k7
  have b7 := F7.binds (ps := []) fun _ _ _ _ _ _ us hl => match us, hl with | [], _ => rfl
  have F8 := fun_mk (st := s_l_place) l8 c8 k8
  have b8 := F8.binds (ps := ["_law_m", "_law_key_in"]) fun _ _ _ _ _ _ us hl => match us, hl with | [_, _], _ => rfl
  have F9 := fun_mk (st := s_l_tree) l9 c9 k9
  have b9 := F9.binds (ps := ["_law_order"]) fun _ _ _ _ _ _ us hl => match us, hl with | [_], _ => rfl
  have F10 := fun_mk (st := s_l_some_shapeN) l10 c10 k10
  have b10 := F10.binds (ps := ["_law_draw", "_law_keys_here"]) fun _ _ _ _ _ _ us hl => match us, hl with | [_, _], _ => rfl
  have F11 := fun_mk (st := s_l_above) l11 c11 k11
  have b11 := F11.binds (ps := ["_law_m", "_law_key_in"]) fun _ _ _ _ _ _ us hl => match us, hl with | [_, _], _ => rfl
  have F12 := fun_mk (st := s_need_key) l12 c12 k12
  have b12 := F12.binds (ps := ["shape", "key"]) fun _ _ _ _ _ _ us hl => match us, hl with | [_, _], _ => rfl
  have F13 := fun_mk (st := s_search_path) l13 c13 k13
  have b13 := F13.binds (ps := ["shape", "key"]) fun _ _ _ _ _ _ us hl => match us, hl with | [_, _], _ => rfl
  have F14 := fun_mk (st := s_path_to) l14 c14 k14
  have b14 := F14.binds (ps := ["shape", "key"]) fun _ _ _ _ _ _ us hl => match us, hl with | [_, _], _ => rfl
  have F15 := fun_mk (st := s_parent_of) l15 c15 k15
  have b15 := F15.binds (ps := ["shape", "key"]) fun _ _ _ _ _ _ us hl => match us, hl with | [_, _], _ => rfl
  have F16 := fun_mk (st := s_bounds_of) l16 c16 k16
  have b16 := F16.binds (ps := ["shape", "key"]) fun _ _ _ _ _ _ us hl => match us, hl with | [_, _], _ => rfl
  have F17 : FunD K "restrict" "restrict" (defArgs s_restrict) (defBody s_restrict) (defScope s_restrict) [] [("low", V.non), ("high", V.non)] f17 _ := ⟨⟨_, _, _, _, _, _, _, _, _, _, rfl, l17, c17, .inl ⟨rfl, rfl⟩, .inr ⟨D17, rfl, fun q hq => by
    simp only [List.mem_cons, List.not_mem_nil, or_false] at hq
    rcases hq with rfl | rfl
    · exact ⟨_, q17_0, rfl⟩
    · exact ⟨_, q17_1, rfl⟩
    ⟩⟩, k17⟩
  have F18 := fun_mk (st := s_subtree_at) l18 c18 k18
  have b18 := F18.binds (ps := ["shape", "key"]) fun _ _ _ _ _ _ us hl => match us, hl with | [_, _], _ => rfl
  have F19 := fun_mk (st := s_rotated) l19 c19 k19
  have b19 := F19.binds (ps := ["piece", "key"]) fun _ _ _ _ _ _ us hl => match us, hl with | [_, _], _ => rfl
  have F20 := fun_mk (st := s_rotate) l20 c20 k20
  have b20 := F20.binds (ps := ["shape", "key"]) fun _ _ _ _ _ _ us hl => match us, hl with | [_, _], _ => rfl
  have F21 := fun_mk (st := s_l_hang) l21 c21 k21
  have b21 := F21.binds (ps := ["_law_m", "_law_side", "_law_above_here", "_law_key_in"]) fun _ _ _ _ _ _ us hl => match us, hl with | [_, _, _, _], _ => rfl
  have F22 := fun_mk (st := s_l_rotate) l22 c22 k22
  have b22 := F22.binds (ps := ["_law_m", "_law_key_in"]) fun _ _ _ _ _ _ us hl => match us, hl with | [_, _], _ => rfl
  have F23 := fun_mk (st := s_l_same) l23 c23 k23
  have b23 := F23.binds (ps := ["_law_found", "_law_due"]) fun _ _ _ _ _ _ us hl => match us, hl with | [_, _], _ => rfl
  have F24 := fun_mk (st := s_l_strange) l24 c24 k24
  have b24 := F24.binds (ps := ["_law_draw", "_law_keys_here"]) fun _ _ _ _ _ _ us hl => match us, hl with | [_, _], _ => rfl
  have F25 : FunC K "law" "law" s_law _ _ cc := ⟨⟨_, _, _, _, _, _, _, _, rfl, l25, c25⟩, k25⟩
  have F26 := fun_mk (st := s_l_field) l26 c26 k26
  have b26 := F26.binds (ps := ["_law_e"]) fun _ _ _ _ _ _ us hl => match us, hl with | [_], _ => rfl
  have F27 := fun_mk (st := s_l_outcome) l27 c27 k27
  have b27 := F27.binds (ps := ["_law_ask"]) fun _ _ _ _ _ _ us hl => match us, hl with | [_], _ => rfl
  have F28 := fun_mk (st := s_l_error) l28 c28 k28
  have b28 := F28.binds (ps := ["_law_ask"]) fun _ _ _ _ _ _ us hl => match us, hl with | [_], _ => rfl
  have FI0 := fun_mk (st := sI_AtRoot) y10 y20 y30
  have bI0 := FI0.binds (ps := ["self", "key"]) fun _ _ _ _ _ _ us hl => match us, hl with | [_, _], _ => rfl
  have rd0 : XfC K C0 := ⟨ye0, yf0, y80, y60⟩
  have XK0 : XKnown K "AtRoot" C0 I0 := ⟨⟨⟨_, _, _, _, PySem.F.excBase_ValueError, PySem.F.store_ValueError, excInit_look yl0 y40, excOver_look yl0 y50⟩, y60, y70, y80, y90, ya0, y00, yb0⟩, yc0, fun f hf => by cases hf; exact yd0, rd0⟩
  have XM0 : XMatch K "AtRoot" C0 C2 C3 C4 := ⟨exmAny_look (exmOne_look wl2 ws2 wt2 yg0) (exmOne_look wl3 ws3 wt3 yi0) yj0, (fun hf => nomatch hf), rd0, yc0⟩
  have FI1 := fun_mk (st := sI_NoKey) y11 y21 y31
  have bI1 := FI1.binds (ps := ["self", "key"]) fun _ _ _ _ _ _ us hl => match us, hl with | [_, _], _ => rfl
  have rd1 : XfC K C1 := ⟨ye1, yf1, y81, y61⟩
  have XK1 : XKnown K "NoKey" C1 I1 := ⟨⟨⟨_, _, _, _, PySem.F.excBase_LookupError, PySem.F.store_LookupError, excInit_look yl1 y41, excOver_look yl1 y51⟩, y61, y71, y81, y91, ya1, y01, yb1⟩, yc1, fun f hf => by cases hf; exact yd1, rd1⟩
  have XM1 : XMatch K "NoKey" C1 C2 C3 C4 := ⟨exmAny_look (exmOne_look wl2 ws2 wt2 yg1) (exmOne_look wl3 ws3 wt3 yi1) yj1, (fun hf => nomatch hf), rd1, yc1⟩
  let T : Txt K mg := ⟨_, _, F0, PySem.W.mg_of X G a0, b0, _, _, F1, PySem.W.mg_of X G a1, b1, _, _, F2, PySem.W.mg_of X G a2, b2, _, _, F3, PySem.W.mg_of X G a3, b3, _, _, F4, PySem.W.mg_of X G a4, b4, _, _, F5, PySem.W.mg_of X G a5, b5, _, _, F6, PySem.W.mg_of X G a6, b6, _, _, F7, PySem.W.mg_of X G a7, b7, _, _, F8, PySem.W.mg_of X G a8, b8, _, _, F9, PySem.W.mg_of X G a9, b9, _, _, F10, PySem.W.mg_of X G a10, b10, _, _, F11, PySem.W.mg_of X G a11, b11, _, _, F12, PySem.W.mg_of X G a12, b12, _, _, F13, PySem.W.mg_of X G a13, b13, _, _, F14, PySem.W.mg_of X G a14, b14, _, _, F15, PySem.W.mg_of X G a15, b15, _, _, F16, PySem.W.mg_of X G a16, b16, _, _, F17, PySem.W.mg_of X G a17, _, _, F18, PySem.W.mg_of X G a18, b18, _, _, F19, PySem.W.mg_of X G a19, b19, _, _, F20, PySem.W.mg_of X G a20, b20, _, _, F21, PySem.W.mg_of X G a21, b21, _, _, F22, PySem.W.mg_of X G a22, b22, _, _, F23, PySem.W.mg_of X G a23, b23, _, _, F24, PySem.W.mg_of X G a24, b24, _, _, _, F25, PySem.W.mg_of X G a25, _, _, F26, PySem.W.mg_of X G a26, b26, _, _, F27, PySem.W.mg_of X G a27, b27, _, _, F28, PySem.W.mg_of X G a28, b28, _, PySem.W.mg_of X G x0, _, PySem.W.mg_of X G x1, _, PySem.W.mg_of X G x2, _, PySem.W.mg_of X G x3, _, PySem.W.mg_of X G x4, _, _, FI0, bI0, XK0, XM0, _, _, FI1, bI1, XK1, XM1, PySem.W.mg_none_of X G z0, PySem.W.mg_none_of X G z1, PySem.W.mg_none_of X G z2, PySem.W.mg_none_of X G z3, PySem.W.mg_none_of X G z4, PySem.W.mg_none_of X G z5, PySem.W.mg_none_of X G z6, PySem.W.mg_none_of X G z7, PySem.W.mg_none_of X G z8, PySem.W.mg_none_of X G z9, PySem.W.mg_none_of X G z10, PySem.W.mg_none_of X G z11, PySem.W.mg_none_of X G z12⟩
  refine ⟨PySem.W.fnOf "law" "law" (defArgs s_law) (defBody s_law) (defScope s_law) .none kV25 dc25 pm25 an25 (.ref cc) ct25, [(cc, PT)], spW K (W_law PT), ?_, ?_, ?_, fun s v => .of_eq rfl, fun H a ns hl _ hP hS => law_inT (hP _ (List.mem_cons_self ..)) hS ⟨ns, rfl, hl, if_pos rfl, fun _ => rfl⟩, fun base _ _ hT => ok_all T (hT _ (List.mem_cons_self ..))⟩
  · intro p hp; rw [List.mem_singleton.mp hp]; exact own cc PT _ _ _ _ _ _ l25 rfl rfl t0 t1
  · intro p hp; rw [List.mem_singleton.mp hp]; exact t2
  · intro p hp; rw [List.mem_singleton.mp hp]; exact PySem.W.codeHd_of_K X (codeHd_look t0 t3)
end VL
open PySem PySem.W PyProof.Rows
set_option maxHeartbeats 0 in
theorem PySem.Challenge.cw_touchtrees_k07_single_rotations_holds : PySem.Challenge.rw_touchtrees_k07_single_rotations.Holds := by
  w_on; o_law; k_head; (case hw => w_witness2)
  k_fill
  refine LamX.walk_ofOwn (l := PySem.Challenge.rw_touchtrees_k07_single_rotations) (n := 63) (k := 11) (x := "_law_script") (CX := fun _ => L2.CX0) rfl (by decide) rfl ⟨by decide, by decide, by decide⟩ (by decide +kernel) (fun w h Y => PySem.W.km_in_of Y) ?F (fun _ _ _ _ _ h => h)
  case F =>
    intro w mg fa h KX KI G hmg own
    refine' VL.all_mk KI G hmg own ?a0 ?l0 ?c0 ?k0 ?a1 ?l1 ?c1 ?k1 ?a2 ?l2 ?c2 ?k2 ?a3 ?l3 ?c3 ?k3 ?a4 ?l4 ?c4 ?k4 ?a5 ?l5 ?c5 ?k5 ?a6 ?l6 ?c6 ?k6 ?a7 ?l7 ?c7 ?k7 ?a8 ?l8 ?c8 ?k8 ?a9 ?l9 ?c9 ?k9 ?a10 ?l10 ?c10 ?k10 ?a11 ?l11 ?c11 ?k11 ?a12 ?l12 ?c12 ?k12 ?a13 ?l13 ?c13 ?k13 ?a14 ?l14 ?c14 ?k14 ?a15 ?l15 ?c15 ?k15 ?a16 ?l16 ?c16 ?k16 ?a17 ?l17 ?c17 ?k17 ?q17_0 ?q17_1 ?a18 ?l18 ?c18 ?k18 ?a19 ?l19 ?c19 ?k19 ?a20 ?l20 ?c20 ?k20 ?a21 ?l21 ?c21 ?k21 ?a22 ?l22 ?c22 ?k22 ?a23 ?l23 ?c23 ?k23 ?a24 ?l24 ?c24 ?k24 ?a25 ?l25 ?c25 ?k25 ?t0 ?t1 ?t2 ?t3 ?a26 ?l26 ?c26 ?k26 ?a27 ?l27 ?c27 ?k27 ?a28 ?l28 ?c28 ?k28 ?x0 ?x1 ?x2 ?x3 ?x4 ?wl2 ?ws2 ?wt2 ?wl3 ?ws3 ?wt3 ?wl4 ?ws4 ?wt4 ?y00 ?y10 ?y20 ?y30 ?yl0 ?y40 ?y50 ?y60 ?y70 ?y80 ?y90 ?ya0 ?yb0 ?yc0 ?ye0 ?yf0 ?yd0 ?yg0 ?yi0 ?yj0 ?y01 ?y11 ?y21 ?y31 ?yl1 ?y41 ?y51 ?y61 ?y71 ?y81 ?y91 ?ya1 ?yb1 ?yc1 ?ye1 ?yf1 ?yd1 ?yg1 ?yi1 ?yj1 ?z0 ?z1 ?z2 ?z3 ?z4 ?z5 ?z6 ?z7 ?z8 ?z9 ?z10 ?z11 ?z12
    (case a0 => k_is); (case l0 => k_is); (case c0 => k_is); (case k0 => k_is); (case a1 => k_is); (case l1 => k_is); (case c1 => k_is); (case k1 => k_is); (case a2 => k_is); (case l2 => k_is); (case c2 => k_is); (case k2 => k_is); (case a3 => k_is); (case l3 => k_is); (case c3 => k_is); (case k3 => k_is); (case a4 => k_is); (case l4 => k_is); (case c4 => k_is); (case k4 => k_is); (case a5 => k_is); (case l5 => k_is); (case c5 => k_is); (case k5 => k_is); (case a6 => k_is); (case l6 => k_is); (case c6 => k_is); (case k6 => k_is); (case a7 => k_is); (case l7 => k_is); (case c7 => k_is); (case k7 => k_is); (case a8 => k_is); (case l8 => k_is); (case c8 => k_is); (case k8 => k_is); (case a9 => k_is); (case l9 => k_is); (case c9 => k_is); (case k9 => k_is); (case a10 => k_is); (case l10 => k_is); (case c10 => k_is); (case k10 => k_is); (case a11 => k_is); (case l11 => k_is); (case c11 => k_is); (case k11 => k_is); (case a12 => k_is); (case l12 => k_is); (case c12 => k_is); (case k12 => k_is); (case a13 => k_is); (case l13 => k_is); (case c13 => k_is); (case k13 => k_is); (case a14 => k_is); (case l14 => k_is); (case c14 => k_is); (case k14 => k_is); (case a15 => k_is); (case l15 => k_is); (case c15 => k_is); (case k15 => k_is); (case a16 => k_is); (case l16 => k_is); (case c16 => k_is); (case k16 => k_is); (case a17 => k_is); (case l17 => k_is); (case c17 => k_is); (case k17 => k_is); (case q17_0 => k_is); (case q17_1 => k_is); (case a18 => k_is); (case l18 => k_is); (case c18 => k_is); (case k18 => k_is); (case a19 => k_is); (case l19 => k_is); (case c19 => k_is); (case k19 => k_is); (case a20 => k_is); (case l20 => k_is); (case c20 => k_is); (case k20 => k_is); (case a21 => k_is); (case l21 => k_is); (case c21 => k_is); (case k21 => k_is); (case a22 => k_is); (case l22 => k_is); (case c22 => k_is); (case k22 => k_is); (case a23 => k_is); (case l23 => k_is); (case c23 => k_is); (case k23 => k_is); (case a24 => k_is); (case l24 => k_is); (case c24 => k_is); (case k24 => k_is); (case a25 => k_is); (case l25 => k_is); (case c25 => k_is); (case k25 => k_is); (case t0 => k_is); (case t1 => rfl); (case t2 => rfl); (case t3 => rfl); (case a26 => k_is); (case l26 => k_is); (case c26 => k_is); (case k26 => k_is); (case a27 => k_is); (case l27 => k_is); (case c27 => k_is); (case k27 => k_is); (case a28 => k_is); (case l28 => k_is); (case c28 => k_is); (case k28 => k_is); (case x0 => k_is); (case x1 => k_is); (case x2 => k_is); (case x3 => k_is); (case x4 => k_is); (case wl2 => k_is); (case ws2 => k_is); (case wt2 => k_is); (case wl3 => k_is); (case ws3 => k_is); (case wt3 => k_is); (case wl4 => k_is); (case ws4 => k_is); (case wt4 => k_is); (case y00 => k_is); (case y10 => k_is); (case y20 => k_is); (case y30 => k_is); (case yl0 => k_is); (case y40 => rfl); (case y50 => rfl); (case y60 => k_is); (case y70 => k_is); (case y80 => k_is); (case y90 => k_is); (case ya0 => k_is); (case yb0 => k_is); (case yc0 => k_is); (case ye0 => k_is); (case yf0 => k_is); (case yd0 => k_is); (case yg0 => k_is); (case yi0 => k_is); (case yj0 => rfl); (case y01 => k_is); (case y11 => k_is); (case y21 => k_is); (case y31 => k_is); (case yl1 => k_is); (case y41 => rfl); (case y51 => rfl); (case y61 => k_is); (case y71 => k_is); (case y81 => k_is); (case y91 => k_is); (case ya1 => k_is); (case yb1 => k_is); (case yc1 => k_is); (case ye1 => k_is); (case yf1 => k_is); (case yd1 => k_is); (case yg1 => k_is); (case yi1 => k_is); (case yj1 => rfl); (case z0 => k_is); (case z1 => k_is); (case z2 => k_is); (case z3 => k_is); (case z4 => k_is); (case z5 => k_is); (case z6 => k_is); (case z7 => k_is); (case z8 => k_is); (case z9 => k_is); (case z10 => k_is); (case z11 => k_is); (case z12 => k_is)
