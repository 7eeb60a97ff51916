import PyProof.Rows.All
import Wide.All
import OpenK.AllK
import Wide.FinOn
import HandS.ForMost
import HandS.Wide
import HandS.Defaults
import HandS.TupAny
import HandS.Flow
import HandS.Style
import HandS.Sort
import HandS.SortRule
import HandS.IsInst
import HandS.Zip
import HandS.Conv
import HandS.NoneIn
import HandS.More
import HandS.MakeKwOnly
import KE.KUnpackStar
import HandS.Lambda
import HandS.Evl
import KE.DatumOrd
import KE.KExcInit
import HandS.ForExc
import HandS.ExcInit
import HandS.ExcField
import HandS.TryMany
import HandS.EndTab
import HandS.HotCalls
import HandS.ExcIs
import HandS.ExcCtx
import HandS.WordsExc
import HandS.Hot
import PyProof.Rows.TupIter
import HandS.EndOwn
import HandS.MakeKw
import HandS.FStr
import HandS.SortKw
import PyProof.Rows.NestShow
import PyProof.Rows.RegStrFacts
import HandS.WideMore
import KE.GoesEnum
import KE.KIndexWalk
import PyProof.IsRules
import HandS.Text
import HandS.Nested
import KE.KDflt
import HandS.Finally
import HandS.RaiseFrom
import HandS.SuiteRaise
import HandS.ExcInitHot
import HandS.Codes
import PySem.Challenge.RW_touchtrees_k57_texts_that_are_no_histori
set_option Elab.async false
set_option linter.all false
set_option maxRecDepth 100000
set_option maxHeartbeats 4000000
namespace VL
open PySem PySem.Spec PyProof.Rows L2
abbrev St := L2.St
inductive D where
  | non | bl (b : Bool) | int (i : Int) | str (x : Str) | ref (a : Addr) | ty (n : String)
  | tup (ds : List D) | lst (ds : List D) | fz (ds : List D) | tn (ns : List Int) | tk (ns : List Int)
inductive MO where
  | lst (ds : List D) | dK (kvs : List (Key × D)) | dT (kvs : List (List Key × D)) | set (S : Int → Bool) (n : Nat) | ins (nm : Str) (fs : List (Str × D))
  | lk (od : Obj) (vs : List (Key × V)) (kvs : List (Key × D)) | tab (q : Str)
  | lkT (od : Obj) (vs : List (List Key × V)) (kvs : List (List Key × D))
  | fn (q : Str) (G : Addr → Addr → List Value → Obj → Prop)
abbrev Mem := Addr → Option MO
abbrev Sg := List (Option D)
def put (M : Mem) (a : Addr) (o : MO) : Mem := fun b => if b = a then some o else M b
def del (M : Mem) (a : Addr) : Mem := fun b => if b = a then none else M b
theorem put_same {M : Mem} {a : Addr} {o : MO} : put M a o a = some o := by unfold put; rw [if_pos rfl]
theorem put_ne {M : Mem} {a b : Addr} {o : MO} (h : b ≠ a) : put M a o b = M b := by unfold put; rw [if_neg h]
theorem put_put {M : Mem} {a : Addr} {o u : MO} : put (put M a o) a u = put M a u := by funext b; unfold put; split <;> rfl
theorem del_put {M : Mem} {a : Addr} {o : MO} (h : M a = none) : del (put M a o) a = M := by
  funext b; unfold del put; split
  · rename_i e; rw [e, h]
  · rfl
theorem del_same {M : Mem} {a : Addr} : del M a a = none := by unfold del; rw [if_pos rfl]
theorem del_ne {M : Mem} {a b : Addr} (h : b ≠ a) : del M a b = M b := by unfold del; rw [if_neg h]
theorem ne_mem {M : Mem} {a b : Addr} {o : MO} (h : M a = some o) (h' : M b = none) : a ≠ b := by
  intro e; subst e; rw [h] at h'; cases h'
abbrev Ex (H H' : Hp) : Prop := Evl.Ex H H'
theorem Ex.refl (H : Hp) : Ex H H := Evl.Ex.refl H
theorem Ex.trans {H H1 H2 : Hp} (a : Ex H H1) (b : Ex H1 H2) : Ex H H2 := Evl.Ex.trans a b
theorem Ex.new {H : Hp} {p : Addr} {o : HO} (h : H p = none) : Ex H (upd H p o) := Evl.Ex.new h
theorem ex_l {K : PySem.W.Frag} {H H' : Hp} {a : Addr} {xs : List V} (e : Ex H H') (h : SqL K H a xs) : SqL K H' a xs := Evl.ex_l e h
theorem ex_t {K : PySem.W.Frag} {H H' : Hp} {a : Addr} {xs : List V} (e : Ex H H') (h : SqT K H a xs) : SqT K H' a xs := Evl.ex_t e h
def TupAt (K : PySem.W.Frag) (H : Hp) (a : Addr) (xs : List V) : Prop :=
  H a = some (.tup xs) ∨ (∃ (o : Obj) (ns : List Int), H a = some (.frz o (.tup xs)) ∧ xs = ns.map V.int) ∨ ∃ (o : Obj) (its : Array Value) (n : Nat), K.lookup a = some o ∧ o.cls = .type "tuple" ∧ o.data = .seq its n ∧ its.size ≤ sizeLine ∧ Vals xs its.toList
theorem TupAt.sq {K : PySem.W.Frag} {H : Hp} {a : Addr} {xs : List V} (h : TupAt K H a xs) : SqT K H a xs := by
  rcases h with h | ⟨o, _, h, _⟩ | h
  · exact Or.inl (Or.inl h)
  · exact Or.inl (Or.inr ⟨o, h⟩)
  · exact Or.inr h
theorem TupAt.up {K : PySem.W.Frag} {H H' : Hp} {a : Addr} {xs : List V} (h : TupAt K H a xs) (e : Ex H H') : TupAt K H' a xs := by
  rcases h with h | ⟨o, ns, h, h2⟩ | h
  · exact Or.inl (e a _ h)
  · exact Or.inr (Or.inl ⟨o, ns, e a _ h, h2⟩)
  · exact Or.inr (Or.inr h)
mutual
def IsD (K : PySem.W.Frag) (Hf : Hp) : D → V → Prop
  | .non, v => v = .non
  | .bl b, v => v = .bl b
  | .int i, v => v = .int i
  | .str x, v => v = .str x
  | .ref a, v => v = .ref a
  | .ty n, v => v = .ty n
  | .tup ds, v => ∃ a xs, v = .ref a ∧ TupAt K Hf a xs ∧ IsDs K Hf ds xs
  | .lst ds, v => ∃ a xs, v = .ref a ∧ Hf a = some (.lst xs) ∧ IsDs K Hf ds xs
  | .fz ds, v => ∃ a xs, v = .ref a ∧ SqL K Hf a xs ∧ IsDs K Hf ds xs
  | .tn ns, v => ∃ (a : Addr) (o : Obj), v = .ref a ∧ Hf a = some (.frz o (.tup (ns.map V.int))) ∧ o.cls = .type "tuple" ∧ o.dict = none
  | .tk ns, v => ∃ a : Addr, v = .ref a ∧ Hf a = some (.tup (ns.map V.int))
def IsDs (K : PySem.W.Frag) (Hf : Hp) : List D → List V → Prop
  | [], vs => vs = []
  | d :: ds, vs => ∃ v r, vs = v :: r ∧ IsD K Hf d v ∧ IsDs K Hf ds r
end
section
variable {K : PySem.W.Frag} {Hf Hf' : Hp}
mutual
theorem IsD.mono (e : Ex Hf Hf') : ∀ (d : D) (v : V), IsD K Hf d v → IsD K Hf' d v
  | .non, _, h => h
  | .bl _, _, h => h
  | .int _, _, h => h
  | .str _, _, h => h
  | .ref _, _, h => h
  | .ty _, _, h => h
  | .tup ds, v, h => by
    unfold IsD at h ⊢
    obtain ⟨a, xs, h1, h2, h3⟩ := h
    exact ⟨a, xs, h1, h2.up e, IsDs.mono e ds xs h3⟩
  | .lst ds, v, h => by
    unfold IsD at h ⊢
    obtain ⟨a, xs, h1, h2, h3⟩ := h
    exact ⟨a, xs, h1, e _ _ h2, IsDs.mono e ds xs h3⟩
  | .fz ds, v, h => by
    unfold IsD at h ⊢
    obtain ⟨a, xs, h1, h2, h3⟩ := h
    exact ⟨a, xs, h1, ex_l e h2, IsDs.mono e ds xs h3⟩
  | .tn ns, v, h => by
    unfold IsD at h ⊢
    obtain ⟨a, o, h1, h2, h3⟩ := h
    exact ⟨a, o, h1, e _ _ h2, h3⟩
  | .tk ns, v, h => by
    unfold IsD at h ⊢
    obtain ⟨a, h1, h2⟩ := h
    exact ⟨a, h1, e _ _ h2⟩
theorem IsDs.mono (e : Ex Hf Hf') : ∀ (ds : List D) (vs : List V), IsDs K Hf ds vs → IsDs K Hf' ds vs
  | [], _, h => h
  | d :: ds, vs, h => by
    unfold IsDs at h ⊢
    obtain ⟨v, r, h1, h2, h3⟩ := h
    exact ⟨v, r, h1, IsD.mono e d v h2, IsDs.mono e ds r h3⟩
end
theorem isDs_nil : IsDs K Hf [] [] := by unfold IsDs; rfl
theorem isDs_cons {d : D} {v : V} {ds : List D} {vs : List V} (h : IsD K Hf d v) (t : IsDs K Hf ds vs) : IsDs K Hf (d :: ds) (v :: vs) := by
  unfold IsDs; exact ⟨v, vs, rfl, h, t⟩
theorem isDs_nil_inv {vs : List V} (h : IsDs K Hf [] vs) : vs = [] := by unfold IsDs at h; exact h
theorem isDs_cons_inv {d : D} {ds : List D} {vs : List V} (h : IsDs K Hf (d :: ds) vs) : ∃ v r, vs = v :: r ∧ IsD K Hf d v ∧ IsDs K Hf ds r := by unfold IsDs at h; exact h
theorem IsDs.len : ∀ {ds : List D} {vs : List V}, IsDs K Hf ds vs → ds.length = vs.length
  | [], vs, h => by rw [isDs_nil_inv h]; rfl
  | d :: ds, vs, h => by
    obtain ⟨v, r, rfl, _, h3⟩ := isDs_cons_inv h
    rw [List.length_cons, List.length_cons, IsDs.len h3]
theorem IsDs.get : ∀ {ds : List D} {vs : List V} {i : Nat} {d : D}, IsDs K Hf ds vs → ds[i]? = some d → ∃ v, vs[i]? = some v ∧ IsD K Hf d v
  | [], vs, i, d, _, e => by simp at e
  | d0 :: ds, vs, 0, d, h, e => by
    obtain ⟨v, r, rfl, h2, _⟩ := isDs_cons_inv h
    have e2 : d0 = d := by simpa using e
    subst e2
    exact ⟨v, rfl, h2⟩
  | d0 :: ds, vs, i + 1, d, h, e => by
    obtain ⟨v, r, rfl, _, h3⟩ := isDs_cons_inv h
    obtain ⟨u, h4, h5⟩ := IsDs.get (i := i) (d := d) h3 (by simpa using e)
    exact ⟨u, by simpa using h4, h5⟩
theorem IsDs.app : ∀ {ds es : List D} {vs us : List V}, IsDs K Hf ds vs → IsDs K Hf es us → IsDs K Hf (ds ++ es) (vs ++ us)
  | [], _, vs, _, h, k => by rw [isDs_nil_inv h]; exact k
  | d :: ds, es, vs, us, h, k => by
    obtain ⟨v, r, rfl, h2, h3⟩ := isDs_cons_inv h
    exact isDs_cons h2 (IsDs.app h3 k)
theorem IsDs.setAt : ∀ {ds : List D} {vs : List V} (i : Nat) {d : D} {v : V}, IsDs K Hf ds vs → IsD K Hf d v → IsDs K Hf (ds.set i d) (vs.set i v)
  | [], vs, i, d, v, h, _ => by rw [isDs_nil_inv h]; exact isDs_nil
  | d0 :: ds, vs, 0, d, v, h, k => by
    obtain ⟨v0, r, rfl, _, h3⟩ := isDs_cons_inv h
    exact isDs_cons k h3
  | d0 :: ds, vs, i + 1, d, v, h, k => by
    obtain ⟨v0, r, rfl, h2, h3⟩ := isDs_cons_inv h
    exact isDs_cons h2 (IsDs.setAt i h3 k)
theorem IsDs.takeN : ∀ {ds : List D} {vs : List V} (i : Nat), IsDs K Hf ds vs → IsDs K Hf (ds.take i) (vs.take i)
  | [], vs, i, h => by rw [isDs_nil_inv h]; simp; exact isDs_nil
  | d0 :: ds, vs, 0, h => by simp; exact isDs_nil
  | d0 :: ds, vs, i + 1, h => by
    obtain ⟨v0, r, rfl, h2, h3⟩ := isDs_cons_inv h
    exact isDs_cons h2 (IsDs.takeN i h3)
theorem IsDs.dropN : ∀ {ds : List D} {vs : List V} (i : Nat), IsDs K Hf ds vs → IsDs K Hf (ds.drop i) (vs.drop i)
  | [], vs, i, h => by rw [isDs_nil_inv h]; simp; exact isDs_nil
  | d0 :: ds, vs, 0, h => by simpa using h
  | d0 :: ds, vs, i + 1, h => by
    obtain ⟨v0, r, rfl, h2, h3⟩ := isDs_cons_inv h
    exact IsDs.dropN i h3
theorem IsDs.ints : ∀ {ns : List Int} {vs : List V}, IsDs K Hf (ns.map D.int) vs → vs = ns.map V.int
  | [], vs, h => isDs_nil_inv h
  | n :: ns, vs, h => by
    obtain ⟨v, r, rfl, h2, h3⟩ := isDs_cons_inv (d := .int n) (ds := ns.map D.int) h
    unfold IsD at h2
    rw [h2, IsDs.ints h3]; rfl
theorem IsDs.of_ints : ∀ (ns : List Int), IsDs K Hf (ns.map D.int) (ns.map V.int)
  | [] => isDs_nil
  | n :: ns => isDs_cons (by unfold IsD; rfl) (IsDs.of_ints ns)
theorem IsDs.bls : ∀ {ns : List Bool} {vs : List V}, IsDs K Hf (ns.map D.bl) vs → vs = ns.map V.bl
  | [], vs, h => isDs_nil_inv h
  | n :: ns, vs, h => by
    obtain ⟨v, r, rfl, h2, h3⟩ := isDs_cons_inv (d := .bl n) (ds := ns.map D.bl) h
    unfold IsD at h2
    rw [h2, IsDs.bls h3]; rfl
end
section
variable {κ : Type} [DecidableEq κ]
def look (kvs : List (κ × D)) (k : κ) : Option D := (kvs.find? fun kv => decide (kv.1 = k)).map (·.2)
def putKD (kvs : List (κ × D)) (k : κ) (v : D) : List (κ × D) :=
  if (kvs.any fun kv => decide (kv.1 = k)) = true then kvs.map (fun kv => if kv.1 = k then (kv.1, v) else kv) else kvs ++ [(k, v)]
def dropKD (kvs : List (κ × D)) (k : κ) : List (κ × D) := kvs.filter fun kv => decide (kv.1 ≠ k)
end
def IsKs (K : PySem.W.Frag) (Hf : Hp) {κ : Type} : List (κ × D) → List (κ × V) → Prop
  | [], vs => vs = []
  | (k, d) :: r, vs => ∃ v t, vs = (k, v) :: t ∧ IsD K Hf d v ∧ IsKs K Hf r t
section
variable {K : PySem.W.Frag} {Hf Hf' : Hp} {κ : Type}
theorem IsKs.mono (e : Ex Hf Hf') : ∀ {kvs : List (κ × D)} {vs : List (κ × V)}, IsKs K Hf kvs vs → IsKs K Hf' kvs vs
  | [], _, h => h
  | (k, d) :: r, vs, h => by
    obtain ⟨v, t, h1, h2, h3⟩ := h
    exact ⟨v, t, h1, IsD.mono e d v h2, IsKs.mono e h3⟩
theorem IsKs.len : ∀ {kvs : List (κ × D)} {vs : List (κ × V)}, IsKs K Hf kvs vs → kvs.length = vs.length
  | [], vs, h => by have h : vs = [] := h; rw [h]; rfl
  | (k, d) :: r, vs, h => by
    obtain ⟨v, t, rfl, h2, h3⟩ := h
    rw [List.length_cons, List.length_cons, IsKs.len h3]
theorem IsKs.app : ∀ {kvs ks : List (κ × D)} {vs us : List (κ × V)}, IsKs K Hf kvs vs → IsKs K Hf ks us → IsKs K Hf (kvs ++ ks) (vs ++ us)
  | [], _, vs, _, h, k => by have h : vs = [] := h; rw [h]; exact k
  | (k, d) :: r, ks, vs, us, h, q => by
    obtain ⟨v, t, rfl, h2, h3⟩ := h
    exact ⟨v, t ++ us, rfl, h2, IsKs.app h3 q⟩
variable [DecidableEq κ]
theorem IsKs.val (k : κ) : ∀ {kvs : List (κ × D)} {vs : List (κ × V)}, IsKs K Hf kvs vs →
    (look kvs k = none → valV vs k = none) ∧ (∀ d, look kvs k = some d → ∃ v, valV vs k = some v ∧ IsD K Hf d v)
  | [], vs, h => by
    have h : vs = [] := h
    subst h
    exact ⟨fun _ => rfl, fun d e => by simp [look] at e⟩
  | (k0, d) :: r, vs, h => by
    obtain ⟨v, t, rfl, h2, h3⟩ := h
    by_cases e : k0 = k
    · have e1 : look ((k0, d) :: r) k = some d := by simp [look, e]
      have e2 : valV ((k0, v) :: t) k = some v := valV_pos e
      rw [e1, e2]
      refine ⟨(fun z => nomatch z), fun d' z => ⟨v, rfl, ?_⟩⟩
      cases z; exact h2
    · have e1 : look ((k0, d) :: r) k = look r k := by simp [look, e]
      have e2 : valV ((k0, v) :: t) k = valV t k := valV_neg e
      rw [e1, e2]
      exact IsKs.val k h3
theorem IsKs.any (k : κ) : ∀ {kvs : List (κ × D)} {vs : List (κ × V)}, IsKs K Hf kvs vs → (kvs.any fun kv => decide (kv.1 = k)) = (vs.any fun kv => decide (kv.1 = k))
  | [], vs, h => by have h : vs = [] := h; rw [h]; rfl
  | (k0, d) :: r, vs, h => by
    obtain ⟨v, t, rfl, h2, h3⟩ := h
    rw [List.any_cons, List.any_cons, IsKs.any k h3]
theorem IsKs.repl (k : κ) {d : D} {u : V} (hd : IsD K Hf d u) : ∀ {kvs : List (κ × D)} {vs : List (κ × V)}, IsKs K Hf kvs vs →
    IsKs K Hf (kvs.map fun kv => if kv.1 = k then (kv.1, d) else kv) (vs.map fun kv => if kv.1 = k then (kv.1, u) else kv)
  | [], vs, h => by have h : vs = [] := h; rw [h]; exact rfl
  | (k0, d0) :: r, vs, h => by
    obtain ⟨v, t, rfl, h2, h3⟩ := h
    rw [List.map_cons, List.map_cons]
    by_cases e : k0 = k
    · simp only [e, if_true]
      exact ⟨u, _, rfl, hd, by subst e; exact IsKs.repl k0 hd h3⟩
    · simp only [e, if_false]
      exact ⟨v, _, rfl, h2, IsKs.repl k hd h3⟩
theorem IsKs.put {kvs : List (κ × D)} {vs : List (κ × V)} (h : IsKs K Hf kvs vs) (k : κ) {d : D} {u : V} (hd : IsD K Hf d u) : IsKs K Hf (putKD kvs k d) (putK vs k u) := by
  unfold putKD putK
  rw [IsKs.any k h]
  split
  · exact IsKs.repl k hd h
  · exact IsKs.app h ⟨u, [], rfl, hd, rfl⟩
theorem IsKs.drop (k : κ) : ∀ {kvs : List (κ × D)} {vs : List (κ × V)}, IsKs K Hf kvs vs → IsKs K Hf (dropKD kvs k) (dropK vs k)
  | [], vs, h => by have h : vs = [] := h; rw [h]; exact rfl
  | (k0, d0) :: r, vs, h => by
    obtain ⟨v, t, rfl, h2, h3⟩ := h
    unfold dropKD dropK
    rw [List.filter_cons, List.filter_cons]
    by_cases e : k0 = k
    · simp only [e, ne_eq, not_true, decide_false, Bool.false_eq_true, if_false]
      subst e
      exact IsKs.drop k0 h3
    · simp only [e, ne_eq, not_false_eq_true, decide_true, if_true]
      exact ⟨v, _, rfl, h2, IsKs.drop k h3⟩
end
def RelM (K : PySem.W.Frag) (Hf : Hp) (a : Addr) : MO → HO → Prop
  | .lst ds, o => ∃ xs, o = .lst xs ∧ IsDs K Hf ds xs
  | .dK kvs, o => ∃ vs, o = .dK vs ∧ IsKs K Hf kvs vs
  | .dT kvs, o => ∃ vs, o = .dT vs ∧ IsKs K Hf kvs vs
  | .set S n, o => o = .set S n
  | .ins nm fs, o => ∃ C dx vs, o = .ins C dx vs ∧ PySem.W.nsIn K mainGlobals nm = some (some (.ref C)) ∧ Hf dx = some (.own a) ∧ IsKs K Hf fs vs
  | .lk od vs kvs, o => o = .frz od (.dK vs) ∧ IsKs K Hf kvs vs
  | .lkT od vs kvs, o => o = .frz od (.dT vs) ∧ IsKs K Hf kvs vs
  | .tab q, o => ∃ ps : Array Value, o = .tbl ps ∧ TriplesOk ps.toList ∧ ∀ (pos : Pos) (cv : Value), codeAmong pos ps.toList = some cv → ∃ c, cv = .ref c ∧ Hf c = some (LamX.CodeO c q)
  | .fn q G, o => ∃ (c T : Addr) (dv : List Value) (ob : Obj), G c T dv ob ∧ o = .frz ob (.own 0) ∧ Hf c = some (LamX.CodeO c q) ∧ (dv = [] ∨ Hf T = some (.frz { cls := .type "tuple", data := .seq dv.toArray } (.own 0)))
theorem RelM.mono {K : PySem.W.Frag} {Hf Hf' : Hp} {a : Addr} (e : Ex Hf Hf') : ∀ {m : MO} {o : HO}, RelM K Hf a m o → RelM K Hf' a m o
  | .lst ds, o, h => by obtain ⟨xs, h1, h2⟩ := h; exact ⟨xs, h1, IsDs.mono e _ _ h2⟩
  | .dK kvs, o, h => by obtain ⟨xs, h1, h2⟩ := h; exact ⟨xs, h1, IsKs.mono e h2⟩
  | .dT kvs, o, h => by obtain ⟨xs, h1, h2⟩ := h; exact ⟨xs, h1, IsKs.mono e h2⟩
  | .set S n, o, h => h
  | .ins nm fs, o, h => by obtain ⟨C, dx, vs, h1, hn, h2, h3⟩ := h; exact ⟨C, dx, vs, h1, hn, e _ _ h2, IsKs.mono e h3⟩
  | .lk od vs kvs, o, h => ⟨h.1, IsKs.mono e h.2⟩
  | .lkT od vs kvs, o, h => ⟨h.1, IsKs.mono e h.2⟩
  | .fn q G, o, h => by obtain ⟨c, T, dv, ob, h1, h2, h3, h4⟩ := h; exact ⟨c, T, dv, ob, h1, h2, e c _ h3, h4.imp id fun z => e T _ z⟩
  | .tab q, o, h => by obtain ⟨ps, h1, h2, h3⟩ := h; exact ⟨ps, h1, h2, fun pos cv hc => by obtain ⟨c, e1, e2⟩ := h3 pos cv hc; exact ⟨c, e1, e c _ e2⟩⟩
abbrev Tups (Hf H : Hp) : Prop := ∀ a (ns : List Int), H a = some (.tup (ns.map V.int)) → Hf a = some (.tup (ns.map V.int))
structure Wr (K : PySem.W.Frag) (Hf : Hp) (M : Mem) (H : Hp) : Prop where
  fro : Ex Hf H
  mem : ∀ a m, M a = some m → Hf a = none ∧ ∃ o, H a = some o ∧ RelM K Hf a m o
  tps : Tups Hf H
theorem relM_tup {K : PySem.W.Frag} {Hf : Hp} {a : Addr} {m : MO} {xs : List V} (h : RelM K Hf a m (.tup xs)) : False := by
  cases m with
  | lst ds => obtain ⟨_, e, _⟩ := h; cases e
  | dK kvs => obtain ⟨_, e, _⟩ := h; cases e
  | dT kvs => obtain ⟨_, e, _⟩ := h; cases e
  | set S n => cases h
  | ins nm fs => obtain ⟨_, _, _, e, _⟩ := h; cases e
  | lk od vs kvs => obtain ⟨e, _⟩ := h; cases e
  | lkT od vs kvs => obtain ⟨e, _⟩ := h; cases e
  | tab q => obtain ⟨_, e, _⟩ := h; cases e
  | fn q G => obtain ⟨_, _, _, _, _, e, _⟩ := h; cases e
theorem tups_new {Hf H : Hp} {p : Addr} {o : HO} (h : Tups Hf H) : Tups (upd Hf p o) (upd H p o) := fun a ns e => by
  by_cases q : a = p
  · subst q; rw [upd_same] at e ⊢; exact e
  · rw [upd_ne q] at e ⊢; exact h a ns e
theorem tups_upd {Hf H : Hp} {p : Addr} {o : HO} (h : Tups Hf H) (n : ∀ xs, o ≠ .tup xs) : Tups Hf (upd H p o) := fun a ns e => by
  by_cases q : a = p
  · subst q
    rw [upd_same] at e
    exact absurd (Option.some.inj e) (n _)
  · rw [upd_ne q] at e
    exact h a ns e
structure Stp (Hf : Hp) (M : Mem) (H : Hp) (Hf' : Hp) (M' : Mem) (H' : Hp) : Prop where
  ex : Ex Hf Hf'
  out : ∀ a o, H a = some o → Hf a = none → M a = none → H' a = some o ∧ Hf' a = none ∧ M' a = none
structure W0 where
  Hf : Hp
  M : Mem
  H : Hp
structure Wd (K : PySem.W.Frag) (S₀ : W0) (Hf : Hp) (M : Mem) (H : Hp) : Prop extends Wr K Hf M H where
  st : Stp S₀.Hf S₀.M S₀.H Hf M H
def EnvOk (K : PySem.W.Frag) (Hf : Hp) (σ : St) (ρ : Sg) : Prop := σ.length = ρ.length ∧ ∀ (i : Nat) (d : D), ρ[i]? = some (some d) → ∃ v, σ[i]? = some (some v) ∧ IsD K Hf d v
section
variable {K : PySem.W.Frag} {S₀ : W0} {Hf Hf' Hf2 : Hp} {M M' M2 : Mem} {H H' H2 : Hp} {σ σ' : St} {ρ ρ' : Sg}
theorem Stp.refl : Stp Hf M H Hf M H := ⟨Ex.refl _, fun _ _ h1 h2 h3 => ⟨h1, h2, h3⟩⟩
theorem Stp.trans (a : Stp Hf M H Hf' M' H') (b : Stp Hf' M' H' Hf2 M2 H2) : Stp Hf M H Hf2 M2 H2 :=
  ⟨a.ex.trans b.ex, fun p o h1 h2 h3 => by
    obtain ⟨k1, k2, k3⟩ := a.out p o h1 h2 h3
    exact b.out p o k1 k2 k3⟩
theorem EnvOk.mono (e : Ex Hf Hf') (h : EnvOk K Hf σ ρ) : EnvOk K Hf' σ ρ := ⟨h.1, fun i d q => by
  obtain ⟨v, h1, h2⟩ := h.2 i d q
  exact ⟨v, h1, IsD.mono e d v h2⟩⟩
theorem EnvOk.set (h : EnvOk K Hf σ ρ) (i : Nat) {d : D} {v : V} (hd : IsD K Hf d v) : EnvOk K Hf (σ.set i (some v)) (ρ.set i (some d)) := by
  refine ⟨by rw [List.length_set, List.length_set]; exact h.1, fun j e q => ?_⟩
  rw [List.getElem?_set] at q ⊢
  by_cases hij : i = j
  · rw [if_pos hij] at q ⊢
    by_cases hl : i < ρ.length
    · rw [if_pos hl] at q
      rw [if_pos (by rw [h.1]; exact hl)]
      cases q
      exact ⟨v, rfl, hd⟩
    · rw [if_neg hl] at q
      cases q
  · rw [if_neg hij] at q ⊢
    exact h.2 j e q
theorem EnvOk.unset (h : EnvOk K Hf σ ρ) (i : Nat) : EnvOk K Hf (σ.set i none) (ρ.set i none) := by
  refine ⟨by rw [List.length_set, List.length_set]; exact h.1, fun j e q => ?_⟩
  rw [List.getElem?_set] at q ⊢
  by_cases hij : i = j
  · rw [if_pos hij] at q
    split at q <;> cases q
  · rw [if_neg hij] at q ⊢
    exact h.2 j e q
theorem Wd.fresh_f (W : Wd K S₀ Hf M H) {p : Addr} (h : H p = none) : Hf p = none := by
  cases e : Hf p with
  | none => rfl
  | some o => rw [W.fro p o e] at h; cases h
theorem Wd.fresh_m (W : Wd K S₀ Hf M H) {p : Addr} (h : H p = none) : M p = none := by
  cases e : M p with
  | none => rfl
  | some o => obtain ⟨_, o', e1, _⟩ := W.mem p o e; rw [e1] at h; cases h
theorem Wd.newF (W : Wd K S₀ Hf M H) {p : Addr} {o : HO} (h : H p = none) : Wd K S₀ (upd Hf p o) M (upd H p o) ∧ Stp Hf M H (upd Hf p o) M (upd H p o) := by
  have hf := W.fresh_f h
  have hm := W.fresh_m h
  suffices h : Wr K (upd Hf p o) M (upd H p o) ∧ Stp Hf M H (upd Hf p o) M (upd H p o) from ⟨⟨h.1, W.st.trans h.2⟩, h.2⟩
  refine ⟨⟨fun a u e => ?_, fun a m e => ?_, fun a ns e => ?_⟩, ⟨Ex.new hf, fun a u e1 e2 e3 => ?_⟩⟩
  · by_cases q : a = p
    · subst q; rw [upd_same] at e ⊢; exact e
    · rw [upd_ne q] at e ⊢; exact W.fro a u e
  · have q : a ≠ p := fun z => by subst z; rw [hm] at e; cases e
    obtain ⟨h1, u, h2, h3⟩ := W.mem a m e
    exact ⟨by rw [upd_ne q]; exact h1, u, by rw [upd_ne q]; exact h2, h3.mono (Ex.new hf)⟩
  · by_cases q : a = p
    · subst q; rw [upd_same] at e ⊢; exact e
    · rw [upd_ne q] at e ⊢; exact W.tps a ns e
  · have q : a ≠ p := fun z => by subst z; rw [h] at e1; cases e1
    exact ⟨by rw [upd_ne q]; exact e1, by rw [upd_ne q]; exact e2, e3⟩
theorem Wd.newM (W : Wd K S₀ Hf M H) {p : Addr} {o : HO} {m : MO} (h : H p = none) (r : RelM K Hf p m o) : Wd K S₀ Hf (put M p m) (upd H p o) ∧ Stp Hf M H Hf (put M p m) (upd H p o) := by
  have hf := W.fresh_f h
  suffices h : Wr K Hf (put M p m) (upd H p o) ∧ Stp Hf M H Hf (put M p m) (upd H p o) from ⟨⟨h.1, W.st.trans h.2⟩, h.2⟩
  refine ⟨⟨fun a u e => ?_, fun a m' e => ?_, tups_upd W.tps fun xs z => relM_tup (z ▸ r)⟩, ⟨Ex.refl _, fun a u e1 e2 e3 => ?_⟩⟩
  · have q : a ≠ p := fun z => by subst z; rw [hf] at e; cases e
    rw [upd_ne q]; exact W.fro a u e
  · by_cases q : a = p
    · subst q; rw [put_same] at e; cases e; exact ⟨hf, o, upd_same, r⟩
    · rw [put_ne q] at e
      obtain ⟨h1, u, h2, h3⟩ := W.mem a m' e
      exact ⟨h1, u, by rw [upd_ne q]; exact h2, h3⟩
  · have q : a ≠ p := fun z => by subst z; rw [h] at e1; cases e1
    exact ⟨by rw [upd_ne q]; exact e1, e2, by rw [put_ne q]; exact e3⟩
theorem Wd.chg (W : Wd K S₀ Hf M H) {p : Addr} {o : HO} {m m0 : MO} (h : M p = some m0) (r : RelM K Hf p m o) : Wd K S₀ Hf (put M p m) (upd H p o) ∧ Stp Hf M H Hf (put M p m) (upd H p o) := by
  obtain ⟨hf, _⟩ := W.mem p m0 h
  suffices h : Wr K Hf (put M p m) (upd H p o) ∧ Stp Hf M H Hf (put M p m) (upd H p o) from ⟨⟨h.1, W.st.trans h.2⟩, h.2⟩
  refine ⟨⟨fun a u e => ?_, fun a m' e => ?_, tups_upd W.tps fun xs z => relM_tup (z ▸ r)⟩, ⟨Ex.refl _, fun a u e1 e2 e3 => ?_⟩⟩
  · have q : a ≠ p := fun z => by subst z; rw [hf] at e; cases e
    rw [upd_ne q]; exact W.fro a u e
  · by_cases q : a = p
    · subst q; rw [put_same] at e; cases e; exact ⟨hf, o, upd_same, r⟩
    · rw [put_ne q] at e
      obtain ⟨h1, u, h2, h3⟩ := W.mem a m' e
      exact ⟨h1, u, by rw [upd_ne q]; exact h2, h3⟩
  · have q : a ≠ p := fun z => by subst z; rw [h] at e3; cases e3
    exact ⟨by rw [upd_ne q]; exact e1, e2, by rw [put_ne q]; exact e3⟩
theorem Wd.freeze (W : Wd K S₀ Hf M H) {p : Addr} {ds : List D} (h : M p = some (.lst ds)) : ∃ Hf', Wd K S₀ Hf' (del M p) H ∧ Stp Hf M H Hf' (del M p) H ∧ IsD K Hf' (.lst ds) (.ref p) := by
  obtain ⟨hf, o, ho, xs, rfl, hx⟩ := W.mem p _ h
  have e := Ex.new (o := .lst xs) hf
  suffices h : Wr K (upd Hf p (.lst xs)) (del M p) H ∧ Stp Hf M H (upd Hf p (.lst xs)) (del M p) H ∧ IsD K (upd Hf p (.lst xs)) (.lst ds) (.ref p) from ⟨_, ⟨h.1, W.st.trans h.2.1⟩, h.2⟩
  refine ⟨⟨fun a u z => ?_, fun a m z => ?_, fun a ns z => ?_⟩, ⟨e, fun a u e1 e2 e3 => ?_⟩, ?_⟩
  · by_cases q : a = p
    · subst q; rw [upd_same] at z; rw [ho]; exact z
    · rw [upd_ne q] at z; exact W.fro a u z
  · have q : a ≠ p := fun y => by subst y; rw [del_same] at z; cases z
    rw [del_ne q] at z
    obtain ⟨h1, u, h2, h3⟩ := W.mem a m z
    exact ⟨by rw [upd_ne q]; exact h1, u, h2, h3.mono e⟩
  · have q : a ≠ p := fun y => by subst y; rw [ho] at z; cases z
    rw [upd_ne q]; exact W.tps a ns z
  · have q : a ≠ p := fun z => by subst z; rw [h] at e3; cases e3
    exact ⟨e1, by rw [upd_ne q]; exact e2, by rw [del_ne q]; exact e3⟩
  · unfold IsD
    exact ⟨p, xs, rfl, upd_same, IsDs.mono e _ _ hx⟩
end
abbrev KD := D → Mem → Prop
abbrev WE := Sg → Mem → KD → Prop
abbrev WT := Sg → Mem → (Bool → Mem → Prop) → Prop
abbrev WA := Sg → Mem → (List D → Mem → Prop) → Prop
abbrev WI := Sg → Mem → (List D → Mem → Prop) → Prop
abbrev WG := D → Sg → Mem → (Sg → Mem → Prop) → Prop
abbrev WO := Sg → Mem → (Option Int → Mem → Prop) → Prop
structure WN where
  nx : Sg → Mem → Prop
  rt : KD
  bk : Sg → Mem → Prop
  ct : Sg → Mem → Prop
abbrev WS := WN → Sg → Mem → Prop
section
variable (K : PySem.W.Frag) (S₀ : W0)
def Knt (Hf : Hp) (M : Mem) (H : Hp) (Φ : KD) (Q : VK) : Prop := ∀ d M' v Hf' H', Φ d M' → Wd K S₀ Hf' M' H' → Stp Hf M H Hf' M' H' → IsD K Hf' d v → Q v H'
def KntT (Hf : Hp) (M : Mem) (H : Hp) (Φ : Bool → Mem → Prop) (Q : Bool → Hp → Prop) : Prop := ∀ b M' Hf' H', Φ b M' → Wd K S₀ Hf' M' H' → Stp Hf M H Hf' M' H' → Q b H'
def KntA (Hf : Hp) (M : Mem) (H : Hp) (Φ : List D → Mem → Prop) (Q : List V → Hp → Prop) : Prop := ∀ d M' v Hf' H', Φ d M' → Wd K S₀ Hf' M' H' → Stp Hf M H Hf' M' H' → IsDs K Hf' d v → Q v H'
def KntO (Hf : Hp) (M : Mem) (H : Hp) (Φ : Option Int → Mem → Prop) (Q : Option Int → Hp → Prop) : Prop := ∀ b M' Hf' H', Φ b M' → Wd K S₀ Hf' M' H' → Stp Hf M H Hf' M' H' → Q b H'
def KntN (Hf : Hp) (M : Mem) (H : Hp) (Φ : Sg → Mem → Prop) (Q : St → Hp → Prop) : Prop := ∀ ρ' M' σ' Hf' H', Φ ρ' M' → Wd K S₀ Hf' M' H' → Stp Hf M H Hf' M' H' → EnvOk K Hf' σ' ρ' → Q σ' H'
structure KntS (Hf : Hp) (M : Mem) (H : Hp) (De : WN) (Dn : Ends) : Prop where
  nx : KntN K S₀ Hf M H De.nx Dn.nx
  rt : Knt K S₀ Hf M H De.rt Dn.rt
  bk : KntN K S₀ Hf M H De.bk Dn.bk
  ct : KntN K S₀ Hf M H De.ct Dn.ct
def liftE (w : WE) : TE := fun σ H Q => ∃ Hf ρ M Φ, Wd K S₀ Hf M H ∧ EnvOk K Hf σ ρ ∧ w ρ M Φ ∧ Knt K S₀ Hf M H Φ Q
def liftT (w : WT) : TT := fun σ H Q => ∃ Hf ρ M Φ, Wd K S₀ Hf M H ∧ EnvOk K Hf σ ρ ∧ w ρ M Φ ∧ KntT K S₀ Hf M H Φ Q
def liftA (w : WA) : TA := fun σ H Q => ∃ Hf ρ M Φ, Wd K S₀ Hf M H ∧ EnvOk K Hf σ ρ ∧ w ρ M Φ ∧ KntA K S₀ Hf M H Φ Q
def liftO (w : WO) : TO := fun σ H Q => ∃ Hf ρ M Φ, Wd K S₀ Hf M H ∧ EnvOk K Hf σ ρ ∧ w ρ M Φ ∧ KntO K S₀ Hf M H Φ Q
def liftS (w : WS) : TS := fun Dn σ H => ∃ Hf ρ M De, Wd K S₀ Hf M H ∧ EnvOk K Hf σ ρ ∧ w De ρ M ∧ KntS K S₀ Hf M H De Dn
def liftG (w : WG) (vs : List Nat) : TG := fun v σ H Q => ∃ Hf ρ M Φ d, Wd K S₀ Hf M H ∧ EnvOk K Hf σ ρ ∧ IsD K Hf d v ∧ w d ρ M Φ ∧
  ∀ ρ' M' σ' Hf' H', Φ ρ' M' → Wd K S₀ Hf' M' H' → Stp Hf M H Hf' M' H' → EnvOk K Hf' σ' ρ' → wipe σ' vs = wipe σ vs → Q σ' H'
end
section
variable {K : PySem.W.Frag} {S₀ : W0} {Hf Hf1 : Hp} {M M1 : Mem} {H H1 : Hp}
theorem Knt.at {Φ : KD} {Q : VK} (k : Knt K S₀ Hf M H Φ Q) (s : Stp Hf M H Hf1 M1 H1) : Knt K S₀ Hf1 M1 H1 Φ Q := fun d M' v Hf' H' p W s' i => k d M' v Hf' H' p W (s.trans s') i
theorem KntT.at {Φ : Bool → Mem → Prop} {Q : Bool → Hp → Prop} (k : KntT K S₀ Hf M H Φ Q) (s : Stp Hf M H Hf1 M1 H1) : KntT K S₀ Hf1 M1 H1 Φ Q := fun d M' Hf' H' p W s' => k d M' Hf' H' p W (s.trans s')
theorem KntA.at {Φ : List D → Mem → Prop} {Q : List V → Hp → Prop} (k : KntA K S₀ Hf M H Φ Q) (s : Stp Hf M H Hf1 M1 H1) : KntA K S₀ Hf1 M1 H1 Φ Q := fun d M' v Hf' H' p W s' i => k d M' v Hf' H' p W (s.trans s') i
theorem KntN.at {Φ : Sg → Mem → Prop} {Q : St → Hp → Prop} (k : KntN K S₀ Hf M H Φ Q) (s : Stp Hf M H Hf1 M1 H1) : KntN K S₀ Hf1 M1 H1 Φ Q := fun d M' v Hf' H' p W s' i => k d M' v Hf' H' p W (s.trans s') i
theorem KntS.at {De : WN} {Dn : Ends} (k : KntS K S₀ Hf M H De Dn) (s : Stp Hf M H Hf1 M1 H1) : KntS K S₀ Hf1 M1 H1 De Dn := ⟨k.nx.at s, k.rt.at s, k.bk.at s, k.ct.at s⟩
end
def VE (X : Cx) (S₀ : W0) (e : Expr) (w : WE) : Prop := PE X e (liftE X.K S₀ w)
def VT (X : Cx) (S₀ : W0) (e : Expr) (w : WT) : Prop := PT X e (liftT X.K S₀ w)
def VW (X : Cx) (S₀ : W0) (e : Expr) (w : WT) : Prop := PW X e (liftT X.K S₀ w)
def VA (X : Cx) (S₀ : W0) (es : List Expr) (w : WA) : Prop := PA X es (liftA X.K S₀ w)
def VO (X : Cx) (S₀ : W0) (e : Option Expr) (w : WO) : Prop := PO X e (liftO X.K S₀ w)
def VS (X : Cx) (S₀ : W0) (s : Stmt) (w : WS) : Prop := PS X s (liftS X.K S₀ w)
def VSs (X : Cx) (S₀ : W0) (ss : List Stmt) (w : WS) : Prop := PSs X ss (liftS X.K S₀ w)
def VG (X : Cx) (S₀ : W0) (e : Expr) (w : WG) (vs : List Nat) : Prop := PG X e (liftG X.K S₀ w vs)
section
variable {X : Cx} {e : Expr}
theorem PE.imp {t t' : TE} (h : PE X e t) (i : ∀ σ H Q, t' σ H Q → t σ H Q) : PE X e t' := ⟨fun pins s σ H Q I q => h.run pins s σ H Q I (i σ H Q q)⟩
theorem PT.imp {t t' : TT} (h : PT X e t) (i : ∀ σ H Q, t' σ H Q → t σ H Q) : PT X e t' := ⟨fun pins s σ H Q I q => h.run pins s σ H Q I (i σ H Q q)⟩
theorem PW.imp {t t' : TT} (h : PW X e t) (i : ∀ σ H Q, t' σ H Q → t σ H Q) : PW X e t' := ⟨fun w pins s σ H Q I q => h.run w pins s σ H Q I (i σ H Q q)⟩
theorem PA.imp {es : List Expr} {t t' : TA} (h : PA X es t) (i : ∀ σ H Q, t' σ H Q → t σ H Q) : PA X es t' := ⟨fun p pins s σ H Q I q => h.run p pins s σ H Q I (i σ H Q q)⟩
theorem PO.imp {eo : Option Expr} {t t' : TO} (h : PO X eo t) (i : ∀ σ H Q, t' σ H Q → t σ H Q) : PO X eo t' := ⟨fun pins s σ H Q I q => h.run pins s σ H Q I (i σ H Q q)⟩
theorem PS.imp {st : Stmt} {t t' : TS} (h : PS X st t) (i : ∀ D σ H, t' D σ H → t D σ H) : PS X st t' := ⟨fun pins s σ H D I q => h.run pins s σ H D I (i D σ H q)⟩
theorem PSs.imp {st : List Stmt} {t t' : TS} (h : PSs X st t) (i : ∀ D σ H, t' D σ H → t D σ H) : PSs X st t' := ⟨fun pins s σ H D I q => h.run pins s σ H D I (i D σ H q)⟩
theorem PG.imp {t t' : TG} (h : PG X e t) (i : ∀ v σ H Q, t' v σ H Q → t v σ H Q) : PG X e t' := ⟨fun pins s σ H v u Q I r q => h.run pins s σ H v u Q I r (i v σ H Q q)⟩
theorem PI.imp {tg : Expr} {t t' : TI} (h : PI X tg e t) (i : ∀ σ H Q, t' σ H Q → t σ H Q) : PI X tg e t' := ⟨fun pins s σ H Q I q => h.run pins s σ H Q I (i σ H Q q)⟩
theorem PTs.imp {es : List Expr} {t t' : TT} (h : PTs X es t) (i : ∀ σ H Q, t' σ H Q → t σ H Q) : PTs X es t' := ⟨fun pins s σ H Q I q => h.run pins s σ H Q I (i σ H Q q)⟩
end
def grw (Hf H H' : Hp) : Hp := fun b => match H b with | some _ => Hf b | none => H' b
theorem grw_new {Hf H H' : Hp} {b : Addr} (h : H b = none) : grw Hf H H' b = H' b := by unfold grw; rw [h]
theorem grw_old {Hf H H' : Hp} {b : Addr} {o : HO} (h : H b = some o) : grw Hf H H' b = Hf b := by unfold grw; rw [h]
theorem grw_tups {Hf H H' : Hp} (t : Tups Hf H) (e : Ex H H') : Tups (grw Hf H H') H' := fun b ns q => by
  cases hb : H b with
  | none => rw [grw_new hb]; exact q
  | some o =>
    rw [grw_old hb]
    have := e b o hb
    rw [q] at this
    cases this
    exact t b ns hb
theorem Wd.grow {K : PySem.W.Frag} {S₀ : W0} {Hf : Hp} {M : Mem} {H H' : Hp} (W : Wd K S₀ Hf M H) (e : Ex H H') : Wd K S₀ (grw Hf H H') M H' ∧ Stp Hf M H (grw Hf H H') M H' := by
  have up : Ex Hf (grw Hf H H') := fun b o h => by rw [grw_old (W.fro b o h)]; exact h
  have st : Stp Hf M H (grw Hf H H') M H' := ⟨up, fun a o h1 h2 h3 => ⟨e a o h1, by rw [grw_old h1]; exact h2, h3⟩⟩
  refine ⟨⟨⟨fun b o h => ?_, fun a m h => ?_, grw_tups W.tps e⟩, W.st.trans st⟩, st⟩
  · cases hb : H b with
    | none => rw [grw_new hb] at h; exact h
    | some o2 =>
      rw [grw_old hb] at h
      exact e b o (W.fro b o h)
  · obtain ⟨h1, o, h2, h3⟩ := W.mem a m h
    exact ⟨by rw [grw_old h2]; exact h1, o, e a o h2, h3.mono up⟩
end VL
namespace VL
variable {S₀ : W0}
open PySem PySem.Spec PyProof.Rows L2
def at_ : Sg → Nat → Option D
  | [], _ => none
  | d :: _, 0 => d
  | _ :: r, n + 1 => at_ r n
theorem at_get : ∀ {ρ : Sg} {i : Nat} {d : D}, at_ ρ i = some d → ρ[i]? = some (some d)
  | [], i, d, h => by cases i <;> cases h
  | x :: r, 0, d, h => by have h : x = some d := h; simp [h]
  | x :: r, n + 1, d, h => by simpa using at_get (ρ := r) (i := n) h
section
variable {K : PySem.W.Frag} {Hf Hf' : Hp} {M M' : Mem} {H H' : Hp} {σ : St} {ρ : Sg} {v : V}
theorem EnvOk.at (e : EnvOk K Hf σ ρ) {i : Nat} {d : D} (h : at_ ρ i = some d) : ∃ v, σ[i]? = some (some v) ∧ IsD K Hf d v := e.2 i d (at_get h)
theorem isD_non : IsD K Hf .non v ↔ v = .non := by unfold IsD; exact Iff.rfl
theorem isD_bl {b : Bool} : IsD K Hf (.bl b) v ↔ v = .bl b := by unfold IsD; exact Iff.rfl
theorem isD_int {b : Int} : IsD K Hf (.int b) v ↔ v = .int b := by unfold IsD; exact Iff.rfl
theorem isD_str {b : Str} : IsD K Hf (.str b) v ↔ v = .str b := by unfold IsD; exact Iff.rfl
theorem isD_ref {b : Addr} : IsD K Hf (.ref b) v ↔ v = .ref b := by unfold IsD; exact Iff.rfl
theorem isD_ty {b : String} : IsD K Hf (.ty b) v ↔ v = .ty b := by unfold IsD; exact Iff.rfl
theorem isD_tup {ds : List D} : IsD K Hf (.tup ds) v ↔ ∃ a xs, v = .ref a ∧ TupAt K Hf a xs ∧ IsDs K Hf ds xs := by
  constructor
  · intro h; unfold IsD at h; exact h
  · intro h; unfold IsD; exact h
theorem isD_lst {ds : List D} : IsD K Hf (.lst ds) v ↔ ∃ a xs, v = .ref a ∧ Hf a = some (.lst xs) ∧ IsDs K Hf ds xs := by
  constructor
  · intro h; unfold IsD at h; exact h
  · intro h; unfold IsD; exact h
theorem isD_fz {ds : List D} : IsD K Hf (.fz ds) v ↔ ∃ a xs, v = .ref a ∧ SqL K Hf a xs ∧ IsDs K Hf ds xs := by
  constructor
  · intro h; unfold IsD at h; exact h
  · intro h; unfold IsD; exact h
theorem isD_tn {ns : List Int} : IsD K Hf (.tn ns) v ↔ ∃ (a : Addr) (o : Obj), v = .ref a ∧ Hf a = some (.frz o (.tup (ns.map V.int))) ∧ o.cls = .type "tuple" ∧ o.dict = none := by
  constructor
  · intro h; unfold IsD at h; exact h
  · intro h; unfold IsD; exact h
theorem isD_tk {ns : List Int} : IsD K Hf (.tk ns) v ↔ ∃ a : Addr, v = .ref a ∧ Hf a = some (.tup (ns.map V.int)) := by unfold IsD; exact Iff.rfl
def seqM (M : Mem) : D → Option (List D)
  | .tup ds => some ds
  | .lst ds => some ds
  | .fz ds => some ds
  | .ref a => match M a with | some (.lst ds) => some ds | _ => none
  | _ => none
def lstM (M : Mem) : D → Option (List D)
  | .lst ds => some ds
  | .ref a => match M a with | some (.lst ds) => some ds | _ => none
  | _ => none
def lstF (M : Mem) : D → Option (List D)
  | .lst ds => some ds
  | .fz ds => some ds
  | .ref a => match M a with | some (.lst ds) => some ds | _ => none
  | _ => none
theorem seqM_some (W : Wd K S₀ Hf M H) {x : D} {v : V} {ds : List D} (i : IsD K Hf x v) (h : seqM M x = some ds) : ∃ a xs, v = .ref a ∧ (SqL K H a xs ∨ SqT K H a xs) ∧ IsDs K Hf ds xs := by
  cases x <;> simp only [seqM] at h
  case tup es => cases h; obtain ⟨a, xs, h1, h2, h3⟩ := isD_tup.mp i; exact ⟨a, xs, h1, .inr (h2.up W.fro).sq, h3⟩
  case lst es => cases h; obtain ⟨a, xs, h1, h2, h3⟩ := isD_lst.mp i; exact ⟨a, xs, h1, .inl (SqL.of (W.fro _ _ h2)), h3⟩
  case fz es => cases h; obtain ⟨a, xs, h1, h2, h3⟩ := isD_fz.mp i; exact ⟨a, xs, h1, .inl (ex_l W.fro h2), h3⟩
  case ref a =>
    split at h <;> cases h
    rename_i e
    obtain ⟨_, o, h1, xs, rfl, h2⟩ := W.mem a _ e
    exact ⟨a, xs, isD_ref.mp i, .inl (SqL.of h1), h2⟩
  all_goals cases h
theorem lstM_some (W : Wd K S₀ Hf M H) {x : D} {v : V} {ds : List D} (i : IsD K Hf x v) (h : lstM M x = some ds) : ∃ a xs, v = .ref a ∧ H a = some (.lst xs) ∧ IsDs K Hf ds xs := by
  cases x <;> simp only [lstM] at h
  case lst es => cases h; obtain ⟨a, xs, h1, h2, h3⟩ := isD_lst.mp i; exact ⟨a, xs, h1, W.fro _ _ h2, h3⟩
  case ref a =>
    split at h <;> cases h
    rename_i e
    obtain ⟨_, o, h1, xs, rfl, h2⟩ := W.mem a _ e
    exact ⟨a, xs, isD_ref.mp i, h1, h2⟩
  all_goals cases h
theorem lstF_some (W : Wd K S₀ Hf M H) {x : D} {v : V} {ds : List D} (i : IsD K Hf x v) (h : lstF M x = some ds) : ∃ a xs, v = .ref a ∧ SqL K H a xs ∧ IsDs K Hf ds xs := by
  cases x <;> simp only [lstF] at h
  case lst es => cases h; obtain ⟨a, xs, h1, h2, h3⟩ := isD_lst.mp i; exact ⟨a, xs, h1, SqL.of (W.fro _ _ h2), h3⟩
  case fz es => cases h; obtain ⟨a, xs, h1, h2, h3⟩ := isD_fz.mp i; exact ⟨a, xs, h1, ex_l W.fro h2, h3⟩
  case ref a =>
    split at h <;> cases h
    rename_i e
    obtain ⟨_, o, h1, xs, rfl, h2⟩ := W.mem a _ e
    exact ⟨a, xs, isD_ref.mp i, SqL.of h1, h2⟩
  all_goals cases h
theorem Wd.newLst (W : Wd K S₀ Hf M H) {p : Addr} {ds : List D} {xs : List V} (h : H p = none) (i : IsDs K Hf ds xs) :
    Wd K S₀ (upd Hf p (.lst xs)) M (upd H p (.lst xs)) ∧ Stp Hf M H (upd Hf p (.lst xs)) M (upd H p (.lst xs)) ∧ IsD K (upd Hf p (.lst xs)) (.lst ds) (.ref p) := by
  obtain ⟨w, s⟩ := W.newF (o := .lst xs) h
  exact ⟨w, s, isD_lst.mpr ⟨p, xs, rfl, upd_same, IsDs.mono s.ex _ _ i⟩⟩
theorem Wd.newTup (W : Wd K S₀ Hf M H) {p : Addr} {ds : List D} {xs : List V} (h : H p = none) (i : IsDs K Hf ds xs) :
    Wd K S₀ (upd Hf p (.tup xs)) M (upd H p (.tup xs)) ∧ Stp Hf M H (upd Hf p (.tup xs)) M (upd H p (.tup xs)) ∧ IsD K (upd Hf p (.tup xs)) (.tup ds) (.ref p) := by
  obtain ⟨w, s⟩ := W.newF (o := .tup xs) h
  exact ⟨w, s, isD_tup.mpr ⟨p, xs, rfl, .inl upd_same, IsDs.mono s.ex _ _ i⟩⟩
theorem Knt.go {Φ : KD} {Q : VK} (k : Knt K S₀ Hf M H Φ Q) (W : Wd K S₀ Hf M H) {d : D} {v : V} (p : Φ d M) (i : IsD K Hf d v) : Q v H := k d M v Hf H p W Stp.refl i
end
def lim : Nat := 1000000
theorem lim_ok {n : Nat} (h : n ≤ lim) : n ≤ sizeLine := Nat.le_trans h (by decide)
theorem lim_lt {n : Nat} (h : n < lim) : n < sizeLine := Nat.lt_of_lt_of_le h (by decide)
def wVar (i : Nat) : WE := fun ρ M Φ => match at_ ρ i with | some d => Φ d M | none => False
def wC (d : D) : WE := fun _ M Φ => Φ d M
section
variable {X : Cx} {pos : Pos}
theorem ve_var (i : Nat) {x : Str} (hN : X.N[i]? = some x := by rfl) (hv : Vis X.env.scope x := by first | exact Or.inl rfl | exact Or.inr (Or.inl rfl) | exact Or.inr (Or.inr rfl)) (hd : (x == ("__debug__" : Str)) = false := by decide)
    (hcd : (x == ("__classdict__" : Str)) = false := by decide) : VE X S₀ (.Name x pos) (wVar i) :=
  PE.imp (pv i hN hv hd hcd) fun σ H Q ⟨Hf, ρ, M, Φ, W, e, h, k⟩ => by
    unfold wVar at h
    split at h
    · rename_i d hd
      obtain ⟨v, h1, h2⟩ := e.at hd
      exact ⟨v, h1, k.go W h h2⟩
    · exact h.elim
theorem ve_of_c {e : Expr} {v : V} {d : D} (h : PE X e (tC v)) (hd : ∀ Hf, IsD X.K Hf d v) : VE X S₀ e (wC d) :=
  PE.imp h fun σ H Q ⟨Hf, ρ, M, Φ, W, e, h, k⟩ => k.go W h (hd Hf)
theorem ve_int {i : Int} {j} : VE X S₀ (.Constant (.int i) j pos) (wC (.int i)) := ve_of_c pe_int fun _ => isD_int.mpr rfl
theorem ve_bl {b : Bool} {j} : VE X S₀ (.Constant (.bool b) j pos) (wC (.bl b)) := ve_of_c pe_bl fun _ => isD_bl.mpr rfl
theorem ve_non {j} : VE X S₀ (.Constant .none j pos) (wC .non) := ve_of_c pe_non fun _ => isD_non.mpr rfl
theorem ve_str {x : Str} {j} : VE X S₀ (.Constant (.str x) j pos) (wC (.str x)) := ve_of_c pe_str fun _ => isD_str.mpr rfl
theorem ve_gint {x : Str} {i : Int} {t : Tok} (hg : Gl X x) (hm : X.mg x = some (.int i t)) (hd : (x == ("__debug__" : Str)) = false := by decide) : VE X S₀ (.Name x pos) (wC (.int i)) :=
  ve_of_c (pe_glob (v := .int i) hg hm ⟨t, rfl⟩ hd) fun _ => isD_int.mpr rfl
theorem ve_bty {x : Str} {n : String} (hg : Gl X x) (hm : X.mg x = none) (hv : bootBuiltins x = some (.type n)) (hn : x ≠ "__name__" := by decide) (hd : (x == ("__debug__" : Str)) = false := by decide) : VE X S₀ (.Name x pos) (wC (.ty n)) :=
  ve_of_c (pe_bltn (v := .ty n) hg hm hv rfl hn hd) fun _ => isD_ty.mpr rfl
end
abbrev WR := D → D → Mem → KD → Prop
def LkR (K : PySem.W.Frag) (r : R2) (wr : WR) : Prop := ∀ (S₀ : W0) Hf M H x y v u Φ Q, Wd K S₀ Hf M H → IsD K Hf x v → IsD K Hf y u → wr x y M Φ → Knt K S₀ Hf M H Φ Q → r v u H Q
def kOp2 (wr : WR) (x : D) (Φ : KD) : KD := fun y M => wr x y M Φ
def kOp1 (wr : WR) (wb : WE) (ρ : Sg) (Φ : KD) : KD := fun x M => wb ρ M (kOp2 wr x Φ)
def wOp (wr : WR) (wa wb : WE) : WE := fun ρ M Φ => wa ρ M (kOp1 wr wb ρ Φ)
theorem lift_op {K : PySem.W.Frag} {r : R2} {wr : WR} {wa wb : WE} (lk : LkR K r wr) {σ : St} {H : Hp} {Q : VK} (h : liftE K S₀ (wOp wr wa wb) σ H Q) : tOp r (liftE K S₀ wa) (liftE K S₀ wb) σ H Q := by
  obtain ⟨Hf, ρ, M, Φ, W, e, h, k⟩ := h
  refine ⟨Hf, ρ, M, _, W, e, h, fun x M1 v Hf1 H1 h1 W1 s1 i1 => ?_⟩
  refine ⟨Hf1, ρ, M1, _, W1, e.mono s1.ex, h1, fun y M2 u Hf2 H2 h2 W2 s2 i2 => ?_⟩
  exact lk _ Hf2 M2 H2 x y v u Φ Q W2 (IsD.mono s2.ex _ _ i1) i2 h2 (k.at (s1.trans s2))
section
variable {X : Cx} {a b : Expr} {wa wb : WE} {pos : Pos} {r : R2} {wr : WR}
theorem ve_op {op : Operator} (ho : OpR X (binaryOp op) r) (lk : LkR X.K r wr) (ha : VE X S₀ a wa) (hb : VE X S₀ b wb) : VE X S₀ (.BinOp a op b pos) (wOp wr wa wb) := PE.imp (pe_op ho ha hb) fun _ _ _ h => lift_op lk h
theorem ve_cmp {op : CmpOp} (ho : OpR X (compareOp op) r) (lk : LkR X.K r wr) (ha : VE X S₀ a wa) (hb : VE X S₀ b wb) (hm : behindInMarks op b = false) : VE X S₀ (.Compare a [op] [b] pos) (wOp wr wa wb) := PE.imp (pe_cmpR ho ha hb hm) fun _ _ _ h => lift_op lk h
theorem ve_ixR (hr : IxR X r) (lk : LkR X.K r wr) (ha : VE X S₀ a wa) (hb : VE X S₀ b wb) (hs : PlainIx b) : VE X S₀ (.Subscript a b pos) (wOp wr wa wb) := PE.imp (pe_ix hr ha hb hs) fun _ _ _ h => lift_op lk h
end
def wrI (g : Int → Int → D) : WR := fun x y M Φ => match x, y with | .int i, .int j => Φ (g i j) M | _, _ => False
def wrIC (C : Int → Int → Prop) (g : Int → Int → D) : WR := fun x y M Φ => match x, y with | .int i, .int j => C i j ∧ Φ (g i j) M | _, _ => False
theorem lk_I0 {K : PySem.W.Frag} {gV : Int → Int → V} {gD : Int → Int → D} (hg : ∀ Hf i j, IsD K Hf (gD i j) (gV i j)) : LkR K (rI0 gV) (wrI gD) := by
  intro S₀ Hf M H x y v u Φ Q W ix iy h k
  cases x <;> cases y <;> try exact h.elim
  rename_i i j
  exact ⟨i, j, isD_int.mp ix, isD_int.mp iy, k.go W h (hg _ _ _)⟩
theorem lk_I {K : PySem.W.Frag} {C : Int → Int → Prop} {gV : Int → Int → V} {gD : Int → Int → D} (hg : ∀ Hf i j, IsD K Hf (gD i j) (gV i j)) : LkR K (rI C gV) (wrIC C gD) := by
  intro S₀ Hf M H x y v u Φ Q W ix iy h k
  cases x <;> cases y <;> try exact h.elim
  rename_i i j
  exact ⟨i, j, isD_int.mp ix, isD_int.mp iy, h.1, k.go W h.2 (hg _ _ _)⟩
def wrAdd : WR := fun x y M Φ => match x, y with
  | .int i, .int j => Φ (.int (i + j)) M
  | .tup a, .tup b => a.length + b.length ≤ lim ∧ Φ (.tup (a ++ b)) M
  | .str a, .str b => a.length + b.length ≤ lim ∧ Φ (.str (a ++ b)) M
  | x, y => match lstM M x, lstM M y with
    | some a, some b => a.length + b.length ≤ lim ∧ Φ (.lst (a ++ b)) M
    | _, _ => False
def rPlus (K : PySem.W.Frag) : R2 := fun x y H Q => rI0 (fun i j => .int (i + j)) x y H Q ∨ rCatA K x y H Q ∨ rCat x y H Q ∨ (∃ i j, x = .str i ∧ y = .str j ∧ i.length + j.length ≤ sizeLine ∧ Q (.str (i ++ j)) H)
theorem op_plus {X : Cx} : OpR X (binaryOp .Add) (rPlus X.K) := OpR.or op_add (OpR.or op_catA (OpR.or op_cat op_add_str))
theorem lk_lcat {K : PySem.W.Frag} {Hf : Hp} {M : Mem} {H : Hp} {x y : D} {v u : V} {Φ : KD} {Q : VK} (W : Wd K S₀ Hf M H) (ix : IsD K Hf x v) (iy : IsD K Hf y u) (k : Knt K S₀ Hf M H Φ Q)
    (h : match lstM M x, lstM M y with | some a, some b => a.length + b.length ≤ lim ∧ Φ (.lst (a ++ b)) M | _, _ => False) : rCat v u H Q := by
  split at h
  · rename_i a b e1 e2
    obtain ⟨p, xs, rfl, h1, i1⟩ := lstM_some W ix e1
    obtain ⟨q, ys, rfl, h2, i2⟩ := lstM_some W iy e2
    refine ⟨p, q, xs, ys, rfl, rfl, h1, h2, by rw [← i1.len, ← i2.len]; exact lim_ok h.1, fun l hl => ?_⟩
    obtain ⟨w, s, i⟩ := W.newLst hl (i1.app i2)
    exact k _ _ _ _ _ h.2 w s i
  · exact h.elim
theorem lk_add {K : PySem.W.Frag} : LkR K (rPlus K) wrAdd := by
  intro S₀ Hf M H x y v u Φ Q W ix iy h k
  unfold wrAdd at h
  split at h
  · exact .inl ⟨_, _, isD_int.mp ix, isD_int.mp iy, k.go W h (isD_int.mpr rfl)⟩
  · rename_i a b
    obtain ⟨p, xs, rfl, h1, i1⟩ := isD_tup.mp ix
    obtain ⟨q, ys, rfl, h2, i2⟩ := isD_tup.mp iy
    refine .inr (.inl ⟨p, q, xs, ys, rfl, rfl, (h1.up W.fro).sq, (h2.up W.fro).sq, by rw [← i1.len, ← i2.len]; exact lim_ok h.1, fun e => ?_, fun _ e => ?_, fun _ _ l hl => ?_⟩)
    · subst e
      have e1 : a = [] := List.eq_nil_of_length_eq_zero i1.len
      subst e1
      exact k.go W h.2 iy
    · subst e
      have e1 : b = [] := List.eq_nil_of_length_eq_zero i2.len
      subst e1
      have h2 := h.2
      rw [List.append_nil] at h2
      exact k.go W h2 ix
    · obtain ⟨w, s, i⟩ := W.newTup hl (i1.app i2)
      exact k _ _ _ _ _ h.2 w s i
  · exact .inr (.inr (.inr ⟨_, _, isD_str.mp ix, isD_str.mp iy, lim_ok h.1, k.go W h.2 (isD_str.mpr rfl)⟩))
  · exact .inr (.inr (.inl (lk_lcat W ix iy k h)))
def wrMul : WR := fun x y M Φ => match x, y with
  | .int i, .int j => CMulW i j ∧ Φ (.int (i * j)) M
  | x, .int j => match lstM M x with
    | some a => (-(2 ^ 63) ≤ j ∧ j < 2 ^ 63 ∧ a.length * j.toNat ≤ lim) ∧ Φ (.lst (List.replicate j.toNat a).flatten) M
    | _ => False
  | _, _ => False
theorem IsDs.rep {K : PySem.W.Frag} {Hf : Hp} {ds : List D} {vs : List V} (h : IsDs K Hf ds vs) : ∀ k : Nat, IsDs K Hf (List.replicate k ds).flatten (List.replicate k vs).flatten
  | 0 => isDs_nil
  | k + 1 => by rw [List.replicate_succ, List.replicate_succ, List.flatten_cons, List.flatten_cons]; exact h.app (IsDs.rep h k)
theorem lk_mul {K : PySem.W.Frag} : LkR K (fun x y H Q => rI CMulW (fun i j => .int (i * j)) x y H Q ∨ rRep x y H Q) wrMul := by
  intro S₀ Hf M H x y v u Φ Q W ix iy h k
  unfold wrMul at h
  split at h
  · exact .inl ⟨_, _, isD_int.mp ix, isD_int.mp iy, h.1, k.go W h.2 (isD_int.mpr rfl)⟩
  · split at h
    · rename_i a e1
      obtain ⟨p, xs, rfl, h1, i1⟩ := lstM_some W ix e1
      refine .inr ⟨p, _, xs, rfl, isD_int.mp iy, h1, h.1.1, h.1.2.1, by rw [← i1.len]; exact lim_ok h.1.2.2, fun l hl => ?_⟩
      obtain ⟨w, s, i⟩ := W.newLst hl (i1.rep _)
      exact k _ _ _ _ _ h.2 w s i
    · exact h.elim
  · exact h.elim
theorem op_mult {X : Cx} : OpR X (binaryOp .Mult) (fun x y H Q => rI CMulW (fun i j => .int (i * j)) x y H Q ∨ rRep x y H Q) := OpR.or op_mulW op_rep
mutual
def py : D → Option PyData
  | .non => some .none
  | .bl b => some (.bool b)
  | .int i => some (.int i)
  | .str x => some (.str x)
  | .tup ds => (pys ds).map .tuple
  | .lst ds => (pys ds).map .list
  | _ => none
def pys : List D → Option (List PyData)
  | [] => some []
  | d :: ds => match py d, pys ds with | some p, some ps => some (p :: ps) | _, _ => none
end
def pyM (M : Mem) (d : D) : Option PyData := match d with
  | .ref a => match M a with | some (.lst ds) => (pys ds).map .list | _ => none
  | d => py d
section
variable {K : PySem.W.Frag} {Hf : Hp} {M : Mem} {H : Hp}
mutual
theorem dp_of (fro : Ex Hf H) : ∀ (d : D) (v : V) (p : PyData), IsD K Hf d v → py d = some p → Dp K H v p
  | .non, v, p, i, h => by cases h; rw [isD_non.mp i]; exact .non
  | .bl b, v, p, i, h => by cases h; rw [isD_bl.mp i]; exact .bl b
  | .int b, v, p, i, h => by cases h; rw [isD_int.mp i]; exact .int b
  | .str b, v, p, i, h => by cases h; rw [isD_str.mp i]; exact .str b
  | .ref _, _, _, _, h => by cases h
  | .ty _, _, _, _, h => by cases h
  | .fz _, _, _, _, h => by cases h
  | .tn _, _, _, _, h => by cases h
  | .tk _, _, _, _, h => by cases h
  | .tup ds, v, p, i, h => by
    obtain ⟨a, xs, rfl, h1, h2⟩ := isD_tup.mp i
    rw [py] at h
    cases e : pys ds with
    | none => rw [e] at h; cases h
    | some ps => rw [e] at h; cases h; exact .tup (h1.up fro).sq (dps_of fro ds xs ps h2 e)
  | .lst ds, v, p, i, h => by
    obtain ⟨a, xs, rfl, h1, h2⟩ := isD_lst.mp i
    rw [py] at h
    cases e : pys ds with
    | none => rw [e] at h; cases h
    | some ps => rw [e] at h; cases h; exact .lst (SqL.of (fro _ _ h1)) (dps_of fro ds xs ps h2 e)
theorem dps_of (fro : Ex Hf H) : ∀ (ds : List D) (vs : List V) (ps : List PyData), IsDs K Hf ds vs → pys ds = some ps → DpAll K H vs ps
  | [], vs, ps, i, h => by cases h; rw [isDs_nil_inv i]; exact .nil
  | d :: ds, vs, ps, i, h => by
    obtain ⟨v, r, rfl, h1, h2⟩ := isDs_cons_inv i
    rw [pys] at h
    cases e : py d with
    | none => rw [e] at h; cases h
    | some p =>
      cases e2 : pys ds with
      | none => rw [e, e2] at h; cases h
      | some ps' => rw [e, e2] at h; cases h; exact .cons (dp_of fro d v p h1 e) (dps_of fro ds r ps' h2 e2)
end
theorem dpM_of (W : Wd K S₀ Hf M H) {d : D} {v : V} {p : PyData} (i : IsD K Hf d v) (h : pyM M d = some p) : Dp K H v p := by
  unfold pyM at h
  split at h
  · split at h
    · rename_i a e ds e2
      obtain ⟨_, o, h1, xs, rfl, h2⟩ := W.mem a _ e2
      rw [isD_ref.mp i]
      cases e3 : pys ds with
      | none => rw [e3] at h; cases h
      | some ps => rw [e3] at h; cases h; exact .lst (SqL.of h1) (dps_of W.fro ds xs ps h2 e3)
    · cases h
  · exact dp_of W.fro _ _ _ i h
end
def wrEq : WR := fun x y M Φ => match pyM M x, pyM M y with | some p, some q => (SeqAt.shaped p = true ∧ SeqAt.shaped q = true) ∧ Φ (.bl (PyData.eqv p q)) M | _, _ => False
def wrNe : WR := fun x y M Φ => match pyM M x, pyM M y with | some p, some q => (SeqAt.shaped p = true ∧ SeqAt.shaped q = true) ∧ Φ (.bl (!PyData.eqv p q)) M | _, _ => False
theorem lk_eq {K : PySem.W.Frag} : LkR K (rEqD K) wrEq := by
  intro S₀ Hf M H x y v u Φ Q W ix iy h k
  unfold wrEq at h
  split at h
  · rename_i p q e1 e2
    exact ⟨p, q, dpM_of W ix e1, dpM_of W iy e2, h.1.1, h.1.2, k.go W h.2 (isD_bl.mpr rfl)⟩
  · exact h.elim
theorem lk_ne {K : PySem.W.Frag} : LkR K (rNeD K) wrNe := by
  intro S₀ Hf M H x y v u Φ Q W ix iy h k
  unfold wrNe at h
  split at h
  · rename_i p q e1 e2
    exact ⟨p, q, dpM_of W ix e1, dpM_of W iy e2, h.1.1, h.1.2, k.go W h.2 (isD_bl.mpr rfl)⟩
  · exact h.elim
def isN : D → Bool
  | .non => true
  | _ => false
def wrIsN : WR := fun x y M Φ => match y with | .non => Φ (.bl (isN x)) M | _ => False
def wrNotN : WR := fun x y M Φ => match y with | .non => Φ (.bl (!isN x)) M | _ => False
theorem dec_non {K : PySem.W.Frag} {Hf : Hp} {x : D} {v : V} (i : IsD K Hf x v) : decide (v = .non) = isN x := by
  cases x
  case non => rw [isD_non.mp i]; rfl
  case bl => rw [isD_bl.mp i]; rfl
  case int => rw [isD_int.mp i]; rfl
  case str => rw [isD_str.mp i]; rfl
  case ref => rw [isD_ref.mp i]; rfl
  case ty => rw [isD_ty.mp i]; rfl
  case tup => obtain ⟨a, xs, rfl, _⟩ := isD_tup.mp i; rfl
  case lst => obtain ⟨a, xs, rfl, _⟩ := isD_lst.mp i; rfl
  case fz => obtain ⟨a, xs, rfl, _⟩ := isD_fz.mp i; rfl
  case tn => obtain ⟨a, o, rfl, _⟩ := isD_tn.mp i; rfl
  case tk => obtain ⟨a, rfl, _⟩ := isD_tk.mp i; rfl
theorem lk_isN {K : PySem.W.Frag} : LkR K (fun x y H Q => y = .non ∧ Q (.bl (decide (x = .non))) H) wrIsN := by
  intro S₀ Hf M H x y v u Φ Q W ix iy h k
  unfold wrIsN at h
  split at h
  · refine ⟨isD_non.mp iy, k.go W h (isD_bl.mpr ?_)⟩
    rw [dec_non ix]
  · exact h.elim
def flatD : D → Bool
  | .non => true | .bl _ => true | .int _ => true | .str _ => true | _ => false
def eqF : D → D → Bool
  | .non, .non => true
  | .bl a, .bl b => a == b
  | .bl a, .int b => (if a then 1 else 0) == b
  | .int a, .bl b => a == (if b then 1 else 0)
  | .int a, .int b => a == b
  | .str a, .str b => a == b
  | _, _ => false
def inF (x : D) (ds : List D) : Bool := ds.any fun y => eqF y x
def toV : D → V
  | .non => .non | .bl b => .bl b | .int i => .int i | .str x => .str x | _ => .non
section
variable {K : PySem.W.Frag} {Hf : Hp}
theorem flat_val {x : D} {v : V} (f : flatD x = true) (i : IsD K Hf x v) : v = toV x ∧ flatV v = true := by
  cases x <;> try cases f
  case non => rw [isD_non.mp i]; exact ⟨rfl, rfl⟩
  case bl => rw [isD_bl.mp i]; exact ⟨rfl, rfl⟩
  case int => rw [isD_int.mp i]; exact ⟨rfl, rfl⟩
  case str => rw [isD_str.mp i]; exact ⟨rfl, rfl⟩
theorem eqF_V {x y : D} (f : flatD x = true) (g : flatD y = true) : eqV (toV x) (toV y) = eqF x y := by
  cases x <;> cases y <;> first | (exact absurd g Bool.false_ne_true) | (exact absurd f Bool.false_ne_true) | rfl
theorem flat_vals : ∀ {ds : List D} {vs : List V}, ds.all flatD = true → IsDs K Hf ds vs → vs = ds.map toV ∧ vs.all flatV = true
  | [], vs, _, i => by rw [isDs_nil_inv i]; exact ⟨rfl, rfl⟩
  | d :: ds, vs, f, i => by
    obtain ⟨v, r, rfl, h1, h2⟩ := isDs_cons_inv i
    rw [List.all_cons, Bool.and_eq_true] at f
    obtain ⟨e1, e2⟩ := flat_val f.1 h1
    obtain ⟨e3, e4⟩ := flat_vals f.2 h2
    rw [e3] at e4 ⊢
    refine ⟨by rw [e1]; rfl, ?_⟩
    rw [List.all_cons, e2, e4]; rfl
theorem inF_V {x : D} (f : flatD x = true) : ∀ {ds : List D}, ds.all flatD = true → inV (toV x) (ds.map toV) = inF x ds
  | [], _ => rfl
  | d :: ds, g => by
    rw [List.all_cons, Bool.and_eq_true] at g
    have ih := inF_V f g.2
    unfold inV inF at *
    rw [List.map_cons, List.any_cons, List.any_cons, eqF_V g.1 f, ih]
end
def keyD : D → Option Key
  | .int i => some (.inl i)
  | .str x => some (.inr x)
  | _ => none
theorem keyD_V {K : PySem.W.Frag} {Hf : Hp} {x : D} {v : V} {k : Key} (h : keyD x = some k) (i : IsD K Hf x v) : v = kV k := by
  cases x <;> cases h
  · exact isD_int.mp i
  · exact isD_str.mp i
def dkM (M : Mem) : D → Option (List (Key × D))
  | .ref a => match M a with | some (.dK kvs) => some kvs | some (.lk _ _ kvs) => some kvs | _ => none
  | _ => none
theorem dkM_some {K : PySem.W.Frag} {Hf : Hp} {M : Mem} {H : Hp} (W : Wd K S₀ Hf M H) {x : D} {v : V} {kvs : List (Key × D)} (i : IsD K Hf x v) (h : dkM M x = some kvs) : ∃ a vs, x = .ref a ∧ v = .ref a ∧ Rd H a (.dK vs) ∧ IsKs K Hf kvs vs := by
  cases x <;> simp only [dkM] at h
  case ref a =>
    split at h <;> cases h
    · rename_i e
      obtain ⟨_, o, h1, xs, rfl, h2⟩ := W.mem a _ e
      exact ⟨a, xs, rfl, isD_ref.mp i, .inl h1, h2⟩
    · rename_i od xs e
      obtain ⟨_, o, h1, rfl, h2⟩ := W.mem a _ e
      exact ⟨a, xs, rfl, isD_ref.mp i, .inr ⟨od, h1⟩, h2⟩
  all_goals cases h
def wrIn (neg : Bool) : WR := fun x y M Φ => match seqM M y with
  | some ds => (flatD x = true ∧ ds.all flatD = true) ∧ Φ (.bl (if neg then !inF x ds else inF x ds)) M
  | none => match dkM M y, keyD x with
    | some kvs, some k => Φ (.bl (if neg then !(look kvs k).isSome else (look kvs k).isSome)) M
    | _, _ => False
def rInD (neg : Bool) : R2 := fun y x H Q => ∃ a o, x = .ref a ∧ DGet H a y o ∧ Q (.bl (if neg then !o.isSome else o.isSome)) H
theorem op_inD {X : Cx} (hu : X.A.units + 1 < cLine) : OpR X (compareOp .In) (rInD false) := by
  intro pins s σ H x y v u Q I rx ry h
  obtain ⟨a, o, rfl, g, q⟩ := h
  obtain rfl : u = Value.ref a := ry
  exact d_in hu I g rx fun s3 I3 => ⟨.bl o.isSome, H, I3, rfl, q⟩
theorem look_rel {K : PySem.W.Frag} {Hf : Hp} {kvs : List (Key × D)} {vs : List (Key × V)} (i : IsKs K Hf kvs vs) (k : Key) : (valV vs k).isSome = (look kvs k).isSome := by
  obtain ⟨h1, h2⟩ := i.val k
  cases e : look kvs k with
  | none => rw [h1 e]; rfl
  | some d => obtain ⟨v, e2, _⟩ := h2 d e; rw [e2]; rfl
theorem lk_in {K : PySem.W.Frag} {neg : Bool} : LkR K (fun x y H Q => rIn K neg x y H Q ∨ rInD neg x y H Q) (wrIn neg) := by
  intro S₀ Hf M H x y v u Φ Q W ix iy h k
  unfold wrIn at h
  split at h
  · rename_i ds e
    obtain ⟨a, xs, rfl, h1, h2⟩ := seqM_some W iy e
    obtain ⟨e1, e2⟩ := flat_val h.1.1 ix
    obtain ⟨e3, e4⟩ := flat_vals h.1.2 h2
    subst e1 e3
    refine .inl ⟨a, _, rfl, h1, e2, e4, ?_⟩
    rw [inF_V h.1.1 h.1.2]
    exact k.go W h.2 (isD_bl.mpr rfl)
  · split at h
    · rename_i kvs key e1 e2
      obtain ⟨a, vs, rfl, rfl, h1, h2⟩ := dkM_some W iy e1
      rw [keyD_V e2 ix]
      refine .inr ⟨a, _, rfl, .inl ⟨vs, key, h1, rfl, rfl⟩, ?_⟩
      rw [look_rel h2]
      exact k.go W h (isD_bl.mpr rfl)
    · exact h.elim
theorem op_in {X : Cx} (hu : X.A.units + 1 < cLine) : OpR X (compareOp .In) (fun x y H Q => rIn X.K false x y H Q ∨ rInD false x y H Q) := OpR.or op_in_seq (op_inD hu)
def atD (ds : List D) (i : Int) : Option D := (ixN ds.length i).bind fun j => ds[j]?
def wrIx : WR := fun x y M Φ => match seqM M x, y with
  | some ds, .int i => match atD ds i with | some d => Φ d M | none => False
  | _, _ => match dkM M x, keyD y with
    | some kvs, some k => match look kvs k with | some d => Φ d M | none => False
    | _, _ => False
def rIxD : R2 := fun x y H Q => ∃ a v, x = .ref a ∧ DGet H a y (some v) ∧ Q v H
theorem ix_dict {X : Cx} (hu : X.A.units + 1 < cLine) : IxR X rIxD := by
  intro value slice pins s σ H x y v u Q I rx ry h hs
  obtain ⟨a, z, rfl, g, q⟩ := h
  obtain rfl : v = Value.ref a := rx
  have hT := dict_typeIs I g
  unfold subscriptTail
  refine wpAny_bind ?_
  rw [getitemInPython_of_ne hT.not_modules]
  refine wpAny_bind (wpAny_specialOf hT PySem.F.slot_dict_getitem.lookup ?_)
  have fin : wpAny (model X.prog X.w) X.A (subscripted slice false (.ref a) u) (fun r s₃ => wpAny (model X.prog X.w) X.A (letTemporaryGo value (.ref a) r >>= fun _ => pure r) (EP X pins σ Q) X.xe s₃) X.xe s := by
    rw [hs]
    exact wpAny_operating (wpAny_mono (d_getItem hu I g ry fun w' s3 I3 rw' => (⟨z, H, I3, rw', q⟩ : EP X pins σ Q w' s3)) (fun r s₃ h₃ => wpAny_bind (wpAny_letTemporaryGo (wpAny_pure h₃))) fun _ _ x => x)
  exact wpAny_pure (wpAny_bind fin)
theorem atD_V {K : PySem.W.Frag} {Hf : Hp} {ds : List D} {vs : List V} {i : Int} {d : D} (h : IsDs K Hf ds vs) (e : atD ds i = some d) : ∃ v, atI vs i = some v ∧ IsD K Hf d v := by
  unfold atD at e
  unfold atI
  rw [← h.len]
  cases e2 : ixN ds.length i with
  | none => rw [e2] at e; cases e
  | some j => rw [e2] at e; exact h.get e
theorem lk_ix {K : PySem.W.Frag} : LkR K (fun x y H Q => rIx K x y H Q ∨ rIxD x y H Q) wrIx := by
  intro S₀ Hf M H x y v u Φ Q W ix iy h k
  unfold wrIx at h
  split at h
  · rename_i ds i e
    split at h
    · rename_i d e2
      obtain ⟨a, xs, rfl, h1, h2⟩ := seqM_some W ix e
      obtain ⟨z, e3, i3⟩ := atD_V h2 e2
      rcases h1 with h1 | h1
      · exact .inl (.inl ⟨a, xs, i, z, rfl, isD_int.mp iy, h1, e3, k.go W h i3⟩)
      · exact .inl (.inr (.inl ⟨a, xs, i, z, rfl, isD_int.mp iy, h1, e3, k.go W h i3⟩))
    · exact h.elim
  · split at h
    · rename_i kvs key e1 e2
      split at h
      · rename_i d e3
        obtain ⟨a, vs, rfl, rfl, h1, h2⟩ := dkM_some W ix e1
        obtain ⟨z, e4, i4⟩ := (h2.val key).2 d e3
        rw [keyD_V e2 iy]
        refine .inr ⟨a, z, rfl, ?_, k.go W h i4⟩
        rw [← e4]
        exact .inl ⟨vs, key, h1, rfl, rfl⟩
      · exact h.elim
    · exact h.elim
theorem ix_all {X : Cx} (hu : X.A.units + 1 < cLine) : IxR X (fun x y H Q => rIx X.K x y H Q ∨ rIxD x y H Q) := IxR.or ix_seq (ix_dict hu)
section
variable {X : Cx} {a b : Expr} {wa wb : WE} {pos : Pos}
theorem ve_add (ha : VE X S₀ a wa) (hb : VE X S₀ b wb) : VE X S₀ (.BinOp a .Add b pos) (wOp wrAdd wa wb) := ve_op op_plus lk_add ha hb
theorem ve_sub (ha : VE X S₀ a wa) (hb : VE X S₀ b wb) : VE X S₀ (.BinOp a .Sub b pos) (wOp (wrI fun i j => .int (i - j)) wa wb) := ve_op op_sub (lk_I0 fun _ _ _ => isD_int.mpr rfl) ha hb
theorem ve_mul (ha : VE X S₀ a wa) (hb : VE X S₀ b wb) : VE X S₀ (.BinOp a .Mult b pos) (wOp wrMul wa wb) := ve_op op_mult lk_mul ha hb
theorem ve_fdiv (ha : VE X S₀ a wa) (hb : VE X S₀ b wb) : VE X S₀ (.BinOp a .FloorDiv b pos) (wOp (wrIC CDivW fun i j => .int (i / j)) wa wb) := ve_op op_fdivW (lk_I fun _ _ _ => isD_int.mpr rfl) ha hb
theorem ve_mod (ha : VE X S₀ a wa) (hb : VE X S₀ b wb) : VE X S₀ (.BinOp a .Mod b pos) (wOp (wrIC (fun _ j => 0 < j) fun i j => .int (i % j)) wa wb) := ve_op op_mod (lk_I fun _ _ _ => isD_int.mpr rfl) ha hb
theorem ve_pow (ha : VE X S₀ a wa) (hb : VE X S₀ b wb) : VE X S₀ (.BinOp a .Pow b pos) (wOp (wrIC CPow fun i j => .int (i ^ j.toNat)) wa wb) := ve_op op_pow (lk_I fun _ _ _ => isD_int.mpr rfl) ha hb
theorem ve_eq (hu : X.A.units + 64 < cLine) (ha : VE X S₀ a wa) (hb : VE X S₀ b wb) : VE X S₀ (.Compare a [.Eq] [b] pos) (wOp wrEq wa wb) := ve_cmp (op_eqD hu) lk_eq ha hb (nomark _)
theorem ve_isN (ha : VE X S₀ a wa) (hb : VE X S₀ b wb) : VE X S₀ (.Compare a [.Is] [b] pos) (wOp wrIsN wa wb) := ve_cmp op_isN lk_isN ha hb (nomark _)
theorem ve_ix (hu : X.A.units + 1 < cLine) (ha : VE X S₀ a wa) (hb : VE X S₀ b wb) (hs : PlainIx b := by exact fun _ _ => rfl) : VE X S₀ (.Subscript a b pos) (wOp wrIx wa wb) := ve_ixR (ix_all hu) lk_ix ha hb hs
end
def kNeg (Φ : KD) : KD := fun x M => match x with | .int i => Φ (.int (-i)) M | _ => False
def wNeg (wa : WE) : WE := fun ρ M Φ => wa ρ M (kNeg Φ)
theorem ve_neg {X : Cx} {a : Expr} {wa : WE} {pos : Pos} (ha : VE X S₀ a wa) : VE X S₀ (.UnaryOp .USub a pos) (wNeg wa) := PE.imp (pe_un un_neg ha) fun σ H Q ⟨Hf, ρ, M, Φ, W, e, h, k⟩ => by
  refine ⟨Hf, ρ, M, _, W, e, h, fun x M1 v Hf1 H1 h1 W1 s1 i1 => ?_⟩
  unfold kNeg at h1
  split at h1
  · exact ⟨_, isD_int.mp i1, (k.at s1).go W1 h1 (isD_int.mpr rfl)⟩
  · exact h1.elim
def kTest (Φ : Bool → Mem → Prop) : KD := fun x M => match x with | .bl b => Φ b M | _ => False
def wTest (w : WE) : WT := fun ρ M Φ => w ρ M (kTest Φ)
def kAnd (u : WT) (ρ : Sg) (Φ : Bool → Mem → Prop) : Bool → Mem → Prop := fun b M => match b with | true => u ρ M Φ | false => Φ false M
def wAnd (t u : WT) : WT := fun ρ M Φ => t ρ M (kAnd u ρ Φ)
def kOr (u : WT) (ρ : Sg) (Φ : Bool → Mem → Prop) : Bool → Mem → Prop := fun b M => match b with | true => Φ true M | false => u ρ M Φ
def wOr (t u : WT) : WT := fun ρ M Φ => t ρ M (kOr u ρ Φ)
def kNot (Φ : Bool → Mem → Prop) : Bool → Mem → Prop := fun b M => Φ (!b) M
def wNot (t : WT) : WT := fun ρ M Φ => t ρ M (kNot Φ)
def kIfE (wa wb : WE) (ρ : Sg) (Φ : KD) : Bool → Mem → Prop := fun c M => match c with | true => wa ρ M Φ | false => wb ρ M Φ
def wIfE (t : WT) (wa wb : WE) : WE := fun ρ M Φ => t ρ M (kIfE wa wb ρ Φ)
def kAndV (wb : WE) (ρ : Sg) (Φ : KD) : KD := fun x M => match x with | .bl true => wb ρ M Φ | .bl false => Φ (.bl false) M | _ => False
def wAndV (wa wb : WE) : WE := fun ρ M Φ => wa ρ M (kAndV wb ρ Φ)
def kOrV (wb : WE) (ρ : Sg) (Φ : KD) : KD := fun x M => match x with | .bl true => Φ (.bl true) M | .bl false => wb ρ M Φ | _ => False
def wOrV (wa wb : WE) : WE := fun ρ M Φ => wa ρ M (kOrV wb ρ Φ)
def kNotV (Φ : KD) : KD := fun x M => match x with | .bl b => Φ (.bl (!b)) M | _ => False
def wNotV (wa : WE) : WE := fun ρ M Φ => wa ρ M (kNotV Φ)
section
variable {X : Cx} {a b c e : Expr} {wa wb we : WE} {pos : Pos} {t u : WT} {rest : List Expr}
theorem lift_test {σ : St} {H : Hp} {Q : Bool → Hp → Prop} (h : liftT X.K S₀ (wTest we) σ H Q) : tB (liftE X.K S₀ we) σ H Q := by
  obtain ⟨Hf, ρ, M, Φ, W, e, h, k⟩ := h
  refine ⟨Hf, ρ, M, _, W, e, h, fun x M1 v Hf1 H1 h1 W1 s1 i1 => ?_⟩
  unfold kTest at h1
  split at h1
  · exact ⟨_, isD_bl.mp i1, k _ _ _ _ h1 W1 s1⟩
  · exact h1.elim
theorem vt_val (h : VE X S₀ e we) (he : ∀ whole, isTrue e X.env whole = (do let v ← whole; standAt e.pos; holding [v] (truthy v)) := by intro _; rfl) : VT X S₀ e (wTest we) :=
  PT.imp (pt_val h he) fun _ _ _ h => lift_test h
theorem vt_cmp {op : CmpOp} {r : R2} {wr : WR} (ho : OpR X (compareOp op) r) (lk : LkR X.K r wr) (ha : VE X S₀ a wa) (hb : VE X S₀ b wb) (hm : behindInMarks op b = false) : VT X S₀ (.Compare a [op] [b] pos) (wTest (wOp wr wa wb)) :=
  PT.imp (pt_cmpR ho ha hb hm) fun σ H Q h => by
    obtain ⟨Hf, ρ, M, Φ, W, e, h, k⟩ := h
    refine lift_op lk ⟨Hf, ρ, M, _, W, e, h, fun x M1 v Hf1 H1 h1 W1 s1 i1 => ?_⟩
    unfold kTest at h1
    split at h1
    · exact ⟨_, isD_bl.mp i1, k _ _ _ _ h1 W1 s1⟩
    · exact h1.elim
theorem vt_lt (ha : VE X S₀ a wa) (hb : VE X S₀ b wb) : VT X S₀ (.Compare a [.Lt] [b] pos) (wTest (wOp (wrI fun i j => .bl (decide (i < j))) wa wb)) := vt_cmp op_lt (lk_I0 fun _ _ _ => isD_bl.mpr rfl) ha hb (nomark _)
theorem vt_gt (ha : VE X S₀ a wa) (hb : VE X S₀ b wb) : VT X S₀ (.Compare a [.Gt] [b] pos) (wTest (wOp (wrI fun i j => .bl (decide (j < i))) wa wb)) := vt_cmp op_gt (lk_I0 fun _ _ _ => isD_bl.mpr rfl) ha hb (nomark _)
theorem vt_ge (ha : VE X S₀ a wa) (hb : VE X S₀ b wb) : VT X S₀ (.Compare a [.GtE] [b] pos) (wTest (wOp (wrI fun i j => .bl (decide (j ≤ i))) wa wb)) := vt_cmp op_ge (lk_I0 fun _ _ _ => isD_bl.mpr rfl) ha hb (nomark _)
theorem vt_eq (hu : X.A.units + 64 < cLine) (ha : VE X S₀ a wa) (hb : VE X S₀ b wb) : VT X S₀ (.Compare a [.Eq] [b] pos) (wTest (wOp wrEq wa wb)) := vt_cmp (op_eqD hu) lk_eq ha hb (nomark _)
theorem vt_ne (hu : X.A.units + 64 < cLine) (ha : VE X S₀ a wa) (hb : VE X S₀ b wb) : VT X S₀ (.Compare a [.NotEq] [b] pos) (wTest (wOp wrNe wa wb)) := vt_cmp (op_neD hu) lk_ne ha hb (nomark _)
theorem vt_isN (ha : VE X S₀ a wa) (hb : VE X S₀ b wb) : VT X S₀ (.Compare a [.Is] [b] pos) (wTest (wOp wrIsN wa wb)) := vt_cmp op_isN lk_isN ha hb (nomark _)
theorem vt_in (hu : X.A.units + 1 < cLine) (ha : VE X S₀ a wa) (hb : VE X S₀ b wb) (hm : behindInMarks .In b = false := by rfl) : VT X S₀ (.Compare a [.In] [b] pos) (wTest (wOp (wrIn false) wa wb)) := vt_cmp (op_in hu) lk_in ha hb hm
theorem vw_pt (h : VW X S₀ e t) : VT X S₀ e t := PW.pt h
theorem vw_and1 (h : VT X S₀ a t) : VW X S₀ (.BoolOp .And [a] pos) t := pw_and1 h
theorem vw_or1 (h : VT X S₀ a t) : VW X S₀ (.BoolOp .Or [a] pos) t := pw_or1 h
theorem vw_and (h : VT X S₀ a t) (g : VW X S₀ (.BoolOp .And (b :: rest) pos) u) : VW X S₀ (.BoolOp .And (a :: b :: rest) pos) (wAnd t u) := PW.imp (pw_and h g) fun σ H Q ⟨Hf, ρ, M, Φ, W, e, h, k⟩ => by
  refine ⟨Hf, ρ, M, _, W, e, h, fun b M1 Hf1 H1 h1 W1 s1 => ?_⟩
  cases b with
  | true => rw [if_pos rfl]; exact ⟨Hf1, ρ, M1, Φ, W1, e.mono s1.ex, h1, k.at s1⟩
  | false => rw [if_neg (by decide)]; exact k _ _ _ _ h1 W1 s1
theorem vw_or (h : VT X S₀ a t) (g : VW X S₀ (.BoolOp .Or (b :: rest) pos) u) : VW X S₀ (.BoolOp .Or (a :: b :: rest) pos) (wOr t u) := PW.imp (pw_or h g) fun σ H Q ⟨Hf, ρ, M, Φ, W, e, h, k⟩ => by
  refine ⟨Hf, ρ, M, _, W, e, h, fun b M1 Hf1 H1 h1 W1 s1 => ?_⟩
  cases b with
  | true => rw [if_pos rfl]; exact k _ _ _ _ h1 W1 s1
  | false => rw [if_neg (by decide)]; exact ⟨Hf1, ρ, M1, Φ, W1, e.mono s1.ex, h1, k.at s1⟩
theorem vt_not (h : VT X S₀ a t) : VT X S₀ (.UnaryOp .Not a pos) (wNot t) := PT.imp (pt_not h) fun σ H Q ⟨Hf, ρ, M, Φ, W, e, h, k⟩ =>
  ⟨Hf, ρ, M, _, W, e, h, fun b M1 Hf1 H1 h1 W1 s1 => k _ _ _ _ h1 W1 s1⟩
theorem ve_ifE (h : VT X S₀ c t) (ha : VE X S₀ a wa) (hb : VE X S₀ b wb) : VE X S₀ (.IfExp c a b pos) (wIfE t wa wb) := PE.imp (pe_ifExp h ha hb) fun σ H Q ⟨Hf, ρ, M, Φ, W, e, h, k⟩ => by
  refine ⟨Hf, ρ, M, _, W, e, h, fun b M1 Hf1 H1 h1 W1 s1 => ?_⟩
  cases b with
  | true => rw [if_pos rfl]; exact ⟨Hf1, ρ, M1, Φ, W1, e.mono s1.ex, h1, k.at s1⟩
  | false => rw [if_neg (by decide)]; exact ⟨Hf1, ρ, M1, Φ, W1, e.mono s1.ex, h1, k.at s1⟩
theorem ve_one {op} (h : VE X S₀ a wa) : VE X S₀ (.BoolOp op [a] pos) wa := pe_one h
theorem ve_and (h : VE X S₀ a wa) (g : VE X S₀ (.BoolOp .And (b :: rest) pos) wb) : VE X S₀ (.BoolOp .And (a :: b :: rest) pos) (wAndV wa wb) := PE.imp (pe_and h g) fun σ H Q ⟨Hf, ρ, M, Φ, W, e, h, k⟩ => by
  refine ⟨Hf, ρ, M, _, W, e, h, fun x M1 v Hf1 H1 h1 W1 s1 i1 => ?_⟩
  unfold kAndV at h1
  split at h1
  · exact ⟨true, isD_bl.mp i1, by rw [if_pos rfl]; exact ⟨Hf1, ρ, M1, Φ, W1, e.mono s1.ex, h1, k.at s1⟩⟩
  · exact ⟨false, isD_bl.mp i1, by rw [if_neg (by decide)]; exact (k.at s1).go W1 h1 (isD_bl.mpr rfl)⟩
  · exact h1.elim
end
end VL
namespace VL
variable {S₀ : W0}
open PySem PySem.Spec PyProof.Rows L2
def wNil : WA := fun _ M Φ => Φ [] M
def kCons2 (x : D) (Φ : List D → Mem → Prop) : List D → Mem → Prop := fun xs M => Φ (x :: xs) M
def kCons1 (wr : WA) (ρ : Sg) (Φ : List D → Mem → Prop) : KD := fun x M => wr ρ M (kCons2 x Φ)
def wCons (wa : WE) (wr : WA) : WA := fun ρ M Φ => wa ρ M (kCons1 wr ρ Φ)
def kTup (Φ : KD) : List D → Mem → Prop := fun ds M => ds.length ≤ lim ∧ Φ (.tup ds) M
def wTup (wa : WA) : WE := fun ρ M Φ => wa ρ M (kTup Φ)
def kLst (Φ : KD) : List D → Mem → Prop := fun ds M => ds.length ≤ lim ∧ Φ (.lst ds) M
def wLst (wa : WA) : WE := fun ρ M Φ => wa ρ M (kLst Φ)
def kLstM (Φ : KD) : List D → Mem → Prop := fun ds M => ds.length ≤ lim ∧ ∀ p, M p = none → Φ (.ref p) (put M p (.lst ds))
def wLstM (wa : WA) : WE := fun ρ M Φ => wa ρ M (kLstM Φ)
section
variable {X : Cx} {e : Expr} {es : List Expr} {we : WE} {wa : WA} {pos : Pos}
theorem va_nil : VA X S₀ [] wNil := PA.imp pa_nil fun σ H Q ⟨Hf, ρ, M, Φ, W, e, h, k⟩ => k _ _ _ _ _ h W Stp.refl isDs_nil
theorem va_cons (h : VE X S₀ e we) (t : VA X S₀ es wa) (hs : starEach (e :: es) X.env = (false, eval e X.env) :: starEach es X.env := by rfl) : VA X S₀ (e :: es) (wCons we wa) := PA.imp (pa_cons h t hs) fun σ H Q ⟨Hf, ρ, M, Φ, W, e, h, k⟩ => by
  refine ⟨Hf, ρ, M, _, W, e, h, fun x M1 v Hf1 H1 h1 W1 s1 i1 => ?_⟩
  refine ⟨Hf1, ρ, M1, _, W1, e.mono s1.ex, h1, fun xs M2 vs Hf2 H2 h2 W2 s2 i2 => ?_⟩
  exact k _ _ _ _ _ h2 W2 (s1.trans s2) (isDs_cons (IsD.mono s2.ex _ _ i1) i2)
theorem ve_tup {x1} (h : VA X S₀ es wa) : VE X S₀ (.Tuple es x1 pos) (wTup wa) := PE.imp (pe_tup h) fun σ H Q ⟨Hf, ρ, M, Φ, W, e, h, k⟩ => by
  refine ⟨Hf, ρ, M, _, W, e, h, fun xs M1 vs Hf1 H1 h1 W1 s1 i1 => ?_⟩
  refine ⟨by rw [← i1.len]; exact lim_ok h1.1, fun p hp => ?_⟩
  obtain ⟨w, s, i⟩ := W1.newTup hp i1
  exact k _ _ _ _ _ h1.2 w (s1.trans s) i
theorem ve_lst (h : VA X S₀ es wa) : VE X S₀ (.List es pos) (wLst wa) := PE.imp (pe_lst h) fun σ H Q ⟨Hf, ρ, M, Φ, W, e, h, k⟩ => by
  refine ⟨Hf, ρ, M, _, W, e, h, fun xs M1 vs Hf1 H1 h1 W1 s1 i1 => ?_⟩
  refine ⟨by rw [← i1.len]; exact lim_ok h1.1, fun p hp => ?_⟩
  obtain ⟨w, s, i⟩ := W1.newLst hp i1
  exact k _ _ _ _ _ h1.2 w (s1.trans s) i
theorem ve_lstM (h : VA X S₀ es wa) : VE X S₀ (.List es pos) (wLstM wa) := PE.imp (pe_lst h) fun σ H Q ⟨Hf, ρ, M, Φ, W, e, h, k⟩ => by
  refine ⟨Hf, ρ, M, _, W, e, h, fun xs M1 vs Hf1 H1 h1 W1 s1 i1 => ?_⟩
  refine ⟨by rw [← i1.len]; exact lim_ok h1.1, fun p hp => ?_⟩
  obtain ⟨w, s⟩ := W1.newM (o := .lst vs) (m := .lst xs) hp ⟨vs, rfl, i1⟩
  exact k _ _ _ _ _ (h1.2 p (W1.fresh_m hp)) w (s1.trans s) (isD_ref.mpr rfl)
end
def cutD (xs : List D) (lo hi : Option Int) : List D := (xs.drop (HT.sIx xs.length 0 lo)).take (HT.sIx xs.length xs.length hi - HT.sIx xs.length 0 lo)
theorem isDs_cut {K : PySem.W.Frag} {Hf : Hp} {ds : List D} {vs : List V} (h : IsDs K Hf ds vs) (lo hi : Option Int) : IsDs K Hf (cutD ds lo hi) (cutV vs lo hi) := by
  unfold cutD cutV
  rw [h.len]
  exact (h.dropN _).takeN _
def wNoPart : WO := fun _ M Φ => Φ none M
def kPart (Φ : Option Int → Mem → Prop) : KD := fun x M => match x with | .int i => Φ (some i) M | _ => False
def wPart (w : WE) : WO := fun ρ M Φ => w ρ M (kPart Φ)
def kSl3 (x : D) (lo : Option Int) (Φ : KD) : Option Int → Mem → Prop := fun hi M => match x with
  | .tup ds => Φ (.tup (cutD ds lo hi)) M
  | x => match lstF M x with | some ds => Φ (.lst (cutD ds lo hi)) M | none => False
def kSl2 (wh : WO) (ρ : Sg) (x : D) (Φ : KD) : Option Int → Mem → Prop := fun lo M => wh ρ M (kSl3 x lo Φ)
def kSl1 (wl wh : WO) (ρ : Sg) (Φ : KD) : KD := fun x M => wl ρ M (kSl2 wh ρ x Φ)
def wSl (we : WE) (wl wh : WO) : WE := fun ρ M Φ => we ρ M (kSl1 wl wh ρ Φ)
section
variable {X : Cx} {e : Expr} {we : WE} {pos p2 : Pos} {lo hi : Option Expr} {wl wh : WO}
theorem vo_none : VO X S₀ none wNoPart := PO.imp po_none fun σ H Q ⟨Hf, ρ, M, Φ, W, e, h, k⟩ => k _ _ _ _ h W Stp.refl
theorem vo_some (h : VE X S₀ e we) : VO X S₀ (some e) (wPart we) := PO.imp (po_some h) fun σ H Q ⟨Hf, ρ, M, Φ, W, e, h, k⟩ => by
  refine ⟨Hf, ρ, M, _, W, e, h, fun x M1 v Hf1 H1 h1 W1 s1 i1 => ?_⟩
  unfold kPart at h1
  split at h1
  · exact ⟨_, isD_int.mp i1, k _ _ _ _ h1 W1 s1⟩
  · exact h1.elim
theorem ve_slice (he : VE X S₀ e we) (hl : VO X S₀ lo wl) (hh : VO X S₀ hi wh) : VE X S₀ (.Subscript e (.Slice lo hi none p2) pos) (wSl we wl wh) := PE.imp (pe_slice (SlR.or sl_tupA sl_list) he hl hh) fun σ H Q ⟨Hf, ρ, M, Φ, W, e, h, k⟩ => by
  refine ⟨Hf, ρ, M, _, W, e, h, fun x M1 v Hf1 H1 h1 W1 s1 i1 => ?_⟩
  refine ⟨Hf1, ρ, M1, _, W1, e.mono s1.ex, h1, fun a M2 Hf2 H2 h2 W2 s2 => ?_⟩
  refine ⟨Hf2, ρ, M2, _, W2, e.mono (s1.ex.trans s2.ex), h2, fun b M3 Hf3 H3 h3 W3 s3 => ?_⟩
  have i3 := IsD.mono (s2.ex.trans s3.ex) _ _ i1
  have k3 := k.at ((s1.trans s2).trans s3)
  unfold kSl3 at h3
  split at h3
  · rename_i ds
    obtain ⟨p, xs, rfl, q1, q2⟩ := isD_tup.mp i3
    refine .inl ⟨p, xs, rfl, (q1.up W3.fro).sq, fun z => ?_, fun _ l hl => ?_⟩
    · have ec : cutD ds a b = ds := by
        unfold cutD
        rw [q2.len, z.1, z.2, List.drop_zero, ← q2.len]
        exact List.take_length
      rw [ec] at h3
      exact k3.go W3 h3 i3
    · obtain ⟨w, s, i⟩ := W3.newTup hl (isDs_cut q2 a b)
      exact k3 _ _ _ _ _ h3 w s i
  · split at h3
    · rename_i ds e2
      obtain ⟨p, xs, rfl, q1, q2⟩ := lstF_some W3 i3 e2
      refine .inr ⟨p, xs, rfl, q1, fun l hl => ?_⟩
      obtain ⟨w, s, i⟩ := W3.newLst hl (isDs_cut q2 a b)
      exact k3 _ _ _ _ _ h3 w s i
    · exact h3.elim
end
def kRevL (Φ : KD) : KD := fun x M => match lstF M x with | some ds => Φ (.lst ds.reverse) M | none => False
def wRevL (we : WE) : WE := fun ρ M Φ => we ρ M (kRevL Φ)
abbrev WC := List D → Mem → KD → Prop
def LkC (K : PySem.W.Frag) (r : List V → Hp → VK → Prop) (wr : WC) : Prop := ∀ (S₀ : W0) Hf M H ds vs Φ Q, Wd K S₀ Hf M H → IsDs K Hf ds vs → wr ds M Φ → Knt K S₀ Hf M H Φ Q → r vs H Q
def kCB (wr : WC) (Φ : KD) : List D → Mem → Prop := fun ds M => wr ds M Φ
def wCB (wr : WC) (wa : WA) : WE := fun ρ M Φ => wa ρ M (kCB wr Φ)
section
variable {X : Cx} {x : Str} {p pos : Pos} {e : Expr} {es : List Expr} {wa : WA} {id T : String} {r : List V → Hp → VK → Prop} {wr : WC}
theorem lift_cb {K : PySem.W.Frag} (lk : LkC K r wr) {σ : St} {H : Hp} {Q : VK} (h : liftE K S₀ (wCB wr wa) σ H Q) : tCB r (liftA K S₀ wa) σ H Q := by
  obtain ⟨Hf, ρ, M, Φ, W, e, h, k⟩ := h
  exact ⟨Hf, ρ, M, _, W, e, h, fun ds M1 vs Hf1 H1 h1 W1 s1 i1 => lk _ _ _ _ _ _ _ _ W1 i1 h1 (k.at s1)⟩
theorem ve_callB (hc : CallR X (.builtin id) r) (lk : LkC X.K r wr) (hg : Gl X x) (hm : X.mg x = none) (hv : bootBuiltins x = some (.builtin id)) (ha : VA X S₀ (e :: es) wa) (hn : x ≠ "__name__" := by decide) (hdb : (x == ("__debug__" : Str)) = false := by decide)
    (he : starEach (e :: es) X.env = (false, eval e X.env) :: starEach es X.env := by rfl) (hpl : (backTo pos (starEach es X.env)).any (·.1) = false := by rfl) : VE X S₀ (.Call (.Name x p) (e :: es) [] pos) (wCB wr wa) :=
  PE.imp (pe_callB hc hg hm hv ha hn hdb he hpl) fun _ _ _ h => lift_cb lk h
theorem ve_callTy (hc : CallR X (.type T) r) (lk : LkC X.K r wr) (hg : Gl X x) (hm : X.mg x = none) (hv : bootBuiltins x = some (.type T)) (ha : VA X S₀ (e :: es) wa) (hn : x ≠ "__name__" := by decide) (hdb : (x == ("__debug__" : Str)) = false := by decide)
    (he : starEach (e :: es) X.env = (false, eval e X.env) :: starEach es X.env := by rfl) (hpl : (backTo pos (starEach es X.env)).any (·.1) = false := by rfl) : VE X S₀ (.Call (.Name x p) (e :: es) [] pos) (wCB wr wa) :=
  PE.imp (pe_callTy hc hg hm hv ha hn hdb he hpl) fun _ _ _ h => lift_cb lk h
end
def one (ds : List D) : Option D := match ds with | [x] => some x | _ => none
theorem one_some {K : PySem.W.Frag} {Hf : Hp} {ds : List D} {vs : List V} {x : D} (i : IsDs K Hf ds vs) (h : one ds = some x) : ∃ v, vs = [v] ∧ IsD K Hf x v := by
  unfold one at h
  split at h
  · cases h
    obtain ⟨v, r, rfl, h1, h2⟩ := isDs_cons_inv i
    rw [isDs_nil_inv h2]
    exact ⟨v, rfl, h1⟩
  · cases h
def wrLen : WC := fun ds M Φ => match one ds with
  | some (.str z) => z.length ≤ lim ∧ Φ (.int z.length) M
  | some x => match seqM M x with
    | some es => Φ (.int es.length) M
    | none => match x with
      | .ref a => match M a with | some (.dK kvs) => Φ (.int kvs.length) M | _ => False
      | _ => False
  | none => False
def rLenA (K : PySem.W.Frag) : List V → Hp → VK → Prop := fun xs H Q => (∃ p ys, xs = [.ref p] ∧ (SqL K H p ys ∨ SqT K H p ys) ∧ Q (.int ys.length) H) ∨ (∃ a kvs, xs = [V.ref a] ∧ H a = some (.dK kvs) ∧ Q (.int kvs.length) H) ∨ (∃ z, xs = [.str z] ∧ z.length ≤ sizeLine ∧ Q (.int z.length) H)
theorem call_lenA {X : Cx} : CallR X (.builtin "len") (rLenA X.K) := CallR.or call_len_seq (CallR.or call_lenD call_len_str)
theorem lk_len {K : PySem.W.Frag} : LkC K (rLenA K) wrLen := by
  intro S₀ Hf M H ds vs Φ Q W i h k
  unfold wrLen at h
  split at h
  · rename_i z e
    obtain ⟨v, rfl, i1⟩ := one_some i e
    exact .inr (.inr ⟨z, by rw [isD_str.mp i1], lim_ok h.1, k.go W h.2 (isD_int.mpr rfl)⟩)
  · rename_i x _ e
    obtain ⟨v, rfl, i1⟩ := one_some i e
    split at h
    · rename_i es e2
      obtain ⟨a, xs, rfl, h1, h2⟩ := seqM_some W i1 e2
      refine .inl ⟨a, xs, rfl, h1, ?_⟩
      rw [← h2.len]
      exact k.go W h (isD_int.mpr rfl)
    · split at h
      · split at h
        · rename_i kvs e3
          obtain ⟨_, o, h1, ks, rfl, h2⟩ := W.mem _ _ e3
          rw [isD_ref.mp i1]
          refine .inr (.inl ⟨_, ks, rfl, h1, ?_⟩)
          rw [← h2.len]
          exact k.go W h (isD_int.mpr rfl)
        · exact h.elim
      · exact h.elim
  · exact h.elim
def wrTupC : WC := fun ds M Φ => match one ds with
  | some x => match seqM M x with | some es => Φ (.tup es) M | none => False
  | none => False
theorem lk_tupC {K : PySem.W.Frag} : LkC K (fun xs H Q => ∃ p ys, xs = [.ref p] ∧ ((SqL K H p ys ∧ ∀ l, H l = none → Q (.ref l) (upd H l (.tup ys))) ∨ (SqT K H p ys ∧ Q (.ref p) H))) wrTupC := by
  intro S₀ Hf M H ds vs Φ Q W i h k
  unfold wrTupC at h
  split at h
  · rename_i x e
    obtain ⟨v, rfl, i1⟩ := one_some i e
    split at h
    · rename_i es e2
      by_cases ht : x = .tup es
      · subst ht
        obtain ⟨a, xs, rfl, h1, h2⟩ := isD_tup.mp i1
        exact ⟨a, xs, rfl, .inr ⟨(h1.up W.fro).sq, k.go W h i1⟩⟩
      · have hl : lstF M x = some es := by
          cases x <;> simp only [seqM] at e2 <;> simp only [lstF] <;> try exact e2
          · cases e2; exact absurd rfl ht
        obtain ⟨a, xs, rfl, h1, h2⟩ := lstF_some W i1 hl
        refine ⟨a, xs, rfl, .inl ⟨h1, fun l hl => ?_⟩⟩
        obtain ⟨w, s, i⟩ := W.newTup hl h2
        exact k _ _ _ _ _ h w s i
    · exact h.elim
  · exact h.elim
def wrLstC : WC := fun ds M Φ => match one ds with
  | some x => match seqM M x with | some es => Φ (.lst es) M | none => False
  | none => False
def rLstC (K : PySem.W.Frag) : List V → Hp → VK → Prop := fun xs H Q => ∃ p ys, xs = [.ref p] ∧ (SqL K H p ys ∨ SqT K H p ys) ∧ ∀ l, H l = none → Q (.ref l) (upd H l (.lst ys))
theorem lk_lstC {K : PySem.W.Frag} : LkC K (rLstC K) wrLstC := by
  intro S₀ Hf M H ds vs Φ Q W i h k
  unfold wrLstC at h
  split at h
  · rename_i x e
    obtain ⟨v, rfl, i1⟩ := one_some i e
    split at h
    · rename_i es e2
      obtain ⟨a, xs, rfl, h1, h2⟩ := seqM_some W i1 e2
      refine ⟨a, xs, rfl, h1, fun l hl => ?_⟩
      obtain ⟨w, s, i⟩ := W.newLst hl h2
      exact k _ _ _ _ _ h w s i
    · exact h.elim
  · exact h.elim
def intsD : List D → Option (List Int)
  | [] => some []
  | .int i :: r => (intsD r).map (i :: ·)
  | _ :: _ => none
def blsD : List D → Option (List Bool)
  | [] => some []
  | .bl i :: r => (blsD r).map (i :: ·)
  | _ :: _ => none
theorem intsD_map : ∀ ns : List Int, intsD (ns.map D.int) = some ns
  | [] => rfl
  | n :: r => by rw [List.map_cons, intsD, intsD_map r]; rfl
theorem blsD_map : ∀ ns : List Bool, blsD (ns.map D.bl) = some ns
  | [] => rfl
  | n :: r => by rw [List.map_cons, blsD, blsD_map r]; rfl
theorem intsD_eq : ∀ {ds : List D} {ns : List Int}, intsD ds = some ns → ds = ns.map D.int
  | [], ns, h => by cases h; rfl
  | d :: r, ns, h => by
    cases d <;> try cases h
    rename_i i
    simp only [intsD] at h
    cases e : intsD r with
    | none => rw [e] at h; cases h
    | some ms => rw [e] at h; cases h; rw [intsD_eq e]; rfl
theorem blsD_eq : ∀ {ds : List D} {ns : List Bool}, blsD ds = some ns → ds = ns.map D.bl
  | [], ns, h => by cases h; rfl
  | d :: r, ns, h => by
    cases d <;> try cases h
    rename_i i
    simp only [blsD] at h
    cases e : blsD r with
    | none => rw [e] at h; cases h
    | some ms => rw [e] at h; cases h; rw [blsD_eq e]; rfl
def lst1 (M : Mem) (ds : List D) : Option (List D) := (one ds).bind (lstF M)
theorem lst1_some {K : PySem.W.Frag} {Hf : Hp} {M : Mem} {H : Hp} (W : Wd K S₀ Hf M H) {ds es : List D} {vs : List V} (i : IsDs K Hf ds vs) (h : lst1 M ds = some es) : ∃ a xs, vs = [.ref a] ∧ SqL K H a xs ∧ IsDs K Hf es xs := by
  unfold lst1 at h
  cases e : one ds with
  | none => rw [e] at h; cases h
  | some x =>
    rw [e] at h
    obtain ⟨v, rfl, i1⟩ := one_some i e
    obtain ⟨a, xs, rfl, h1, h2⟩ := lstF_some W i1 h
    exact ⟨a, xs, rfl, h1, h2⟩
def ints1 (M : Mem) (ds : List D) : Option (List Int) := (lst1 M ds).bind intsD
theorem ints1_some {K : PySem.W.Frag} {Hf : Hp} {M : Mem} {H : Hp} (W : Wd K S₀ Hf M H) {ds : List D} {ns : List Int} {vs : List V} (i : IsDs K Hf ds vs) (h : ints1 M ds = some ns) : ∃ a, vs = [.ref a] ∧ SqL K H a (ns.map V.int) := by
  unfold ints1 at h
  cases e : lst1 M ds with
  | none => rw [e] at h; cases h
  | some es =>
    rw [e] at h
    obtain ⟨a, xs, rfl, h1, h2⟩ := lst1_some W i e
    rw [intsD_eq h] at h2
    rw [h2.ints] at h1
    exact ⟨a, rfl, h1⟩
def bls1 (M : Mem) (ds : List D) : Option (List Bool) := (lst1 M ds).bind blsD
theorem bls1_some {K : PySem.W.Frag} {Hf : Hp} {M : Mem} {H : Hp} (W : Wd K S₀ Hf M H) {ds : List D} {ns : List Bool} {vs : List V} (i : IsDs K Hf ds vs) (h : bls1 M ds = some ns) : ∃ a, vs = [.ref a] ∧ SqL K H a (ns.map V.bl) := by
  unfold bls1 at h
  cases e : lst1 M ds with
  | none => rw [e] at h; cases h
  | some es =>
    rw [e] at h
    obtain ⟨a, xs, rfl, h1, h2⟩ := lst1_some W i e
    rw [blsD_eq h] at h2
    rw [h2.bls] at h1
    exact ⟨a, rfl, h1⟩
def wrSum : WC := fun ds M Φ => match ints1 M ds with | some ns => Φ (.int ns.sum) M | none => False
theorem lk_sum {K : PySem.W.Frag} : LkC K (rSum K) wrSum := by
  intro S₀ Hf M H ds vs Φ Q W i h k
  unfold wrSum at h
  split at h
  · rename_i ns e
    obtain ⟨a, rfl, h1⟩ := ints1_some W i e
    exact ⟨a, ns, rfl, h1, k.go W h (isD_int.mpr rfl)⟩
  · exact h.elim
def wrAll : WC := fun ds M Φ => match bls1 M ds with | some bs => Φ (.bl (bs.all id)) M | none => False
theorem lk_all {K : PySem.W.Frag} : LkC K (rAll K) wrAll := by
  intro S₀ Hf M H ds vs Φ Q W i h k
  unfold wrAll at h
  split at h
  · rename_i ns e
    obtain ⟨a, rfl, h1⟩ := bls1_some W i e
    exact ⟨a, ns, rfl, h1, k.go W h (isD_bl.mpr rfl)⟩
  · exact h.elim
def two (ds : List D) : Option (Int × Int) := match ds with | [.int i, .int j] => some (i, j) | _ => none
def wrMax2 : WC := fun ds M Φ => match two ds with | some (i, j) => Φ (.int (if j > i then j else i)) M | none => False
def wrMin2 : WC := fun ds M Φ => match two ds with | some (i, j) => Φ (.int (if j < i then j else i)) M | none => False
def wrInt : WC := fun ds M Φ => match one ds with | some (.int i) => Φ (.int i) M | some (.bl b) => Φ (.int (if b then 1 else 0)) M | _ => False
theorem lk_int {K : PySem.W.Frag} : LkC K (fun xs H Q => (∃ i, xs = [.int i] ∧ Q (.int i) H) ∨ ∃ k, xs = [.bl k] ∧ Q (.int (if k then 1 else 0)) H) wrInt := by
  intro S₀ Hf M H ds vs Φ Q W i h k
  unfold wrInt at h
  split at h
  · rename_i a e
    obtain ⟨v, rfl, i1⟩ := one_some i e
    exact .inl ⟨a, by rw [isD_int.mp i1], k.go W h (isD_int.mpr rfl)⟩
  · rename_i a e
    obtain ⟨v, rfl, i1⟩ := one_some i e
    exact .inr ⟨a, by rw [isD_bl.mp i1], k.go W h (isD_int.mpr rfl)⟩
  · exact h.elim
def wrAbs : WC := fun ds M Φ => match one ds with | some (.int i) => Φ (.int (if i < 0 then -i else i)) M | _ => False
theorem lk_abs {K : PySem.W.Frag} : LkC K (fun xs H Q => ∃ i, xs = [.int i] ∧ Q (.int (if i < 0 then -i else i)) H) wrAbs := by
  intro S₀ Hf M H ds vs Φ Q W i h k
  unfold wrAbs at h
  split at h
  · rename_i a e
    obtain ⟨v, rfl, i1⟩ := one_some i e
    exact ⟨a, by rw [isD_int.mp i1], k.go W h (isD_int.mpr rfl)⟩
  · exact h.elim
section
variable {X : Cx} {p pos : Pos} {e e2 : Expr} {wa : WA}
theorem ve_len (hg : Gl X "len") (hm : X.mg "len" = none) (ha : VA X S₀ [e] wa) (he : starEach [e] X.env = (false, eval e X.env) :: starEach [] X.env := by rfl) : VE X S₀ (.Call (.Name "len" p) [e] [] pos) (wCB wrLen wa) :=
  ve_callB call_lenA lk_len hg hm PySem.boot_len ha (he := he)
theorem ve_tupC (hg : Gl X "tuple") (hm : X.mg "tuple" = none) (ha : VA X S₀ [e] wa) (he : starEach [e] X.env = (false, eval e X.env) :: starEach [] X.env := by rfl) : VE X S₀ (.Call (.Name "tuple" p) [e] [] pos) (wCB wrTupC wa) :=
  ve_callTy call_tuple_of lk_tupC hg hm (by decide +kernel) ha (he := he)
theorem ve_lstC (hg : Gl X "list") (hm : X.mg "list" = none) (ha : VA X S₀ [e] wa) (he : starEach [e] X.env = (false, eval e X.env) :: starEach [] X.env := by rfl) : VE X S₀ (.Call (.Name "list" p) [e] [] pos) (wCB wrLstC wa) :=
  ve_callTy call_list_of lk_lstC hg hm (by decide +kernel) ha (he := he)
theorem ve_intC (hg : Gl X "int") (hm : X.mg "int" = none) (ha : VA X S₀ [e] wa) (he : starEach [e] X.env = (false, eval e X.env) :: starEach [] X.env := by rfl) : VE X S₀ (.Call (.Name "int" p) [e] [] pos) (wCB wrInt wa) :=
  ve_callTy call_int1 lk_int hg hm (by decide +kernel) ha (he := he)
theorem ve_abs (hg : Gl X "abs") (hm : X.mg "abs" = none) (ha : VA X S₀ [e] wa) (he : starEach [e] X.env = (false, eval e X.env) :: starEach [] X.env := by rfl) : VE X S₀ (.Call (.Name "abs" p) [e] [] pos) (wCB wrAbs wa) :=
  ve_callB call_abs lk_abs hg hm (by decide +kernel) ha (he := he)
theorem ve_sum (hc : X.calm = true) (hg : Gl X "sum") (hm : X.mg "sum" = none) (ha : VA X S₀ [e] wa) (he : starEach [e] X.env = (false, eval e X.env) :: starEach [] X.env := by rfl) : VE X S₀ (.Call (.Name "sum" p) [e] [] pos) (wCB wrSum wa) :=
  ve_callB (cr_sum hc) lk_sum hg hm (by decide +kernel) ha (he := he)
theorem ve_all (hc : X.calm = true) (hg : Gl X "all") (hm : X.mg "all" = none) (ha : VA X S₀ [e] wa) (he : starEach [e] X.env = (false, eval e X.env) :: starEach [] X.env := by rfl) : VE X S₀ (.Call (.Name "all" p) [e] [] pos) (wCB wrAll wa) :=
  ve_callB (cr_all hc) lk_all hg hm (by decide +kernel) ha (he := he)
end
abbrev WM := D → List D → Mem → KD → Prop
def LkM (K : PySem.W.Frag) (r : V → List V → Hp → VK → Prop) (wr : WM) : Prop := ∀ (S₀ : W0) Hf M H x v ds vs Φ Q, Wd K S₀ Hf M H → IsD K Hf x v → IsDs K Hf ds vs → wr x ds M Φ → Knt K S₀ Hf M H Φ Q → r v vs H Q
def kBM2 (wr : WM) (x : D) (Φ : KD) : List D → Mem → Prop := fun ds M => wr x ds M Φ
def kBM1 (wr : WM) (wa : WA) (ρ : Sg) (Φ : KD) : KD := fun x M => (lstF M x).isSome = true ∧ wa ρ M (kBM2 wr x Φ)
def wBM (wr : WM) (wo : WE) (wa : WA) : WE := fun ρ M Φ => wo ρ M (kBM1 wr wa ρ Φ)
section
variable {X : Cx} {o e : Expr} {es : List Expr} {wo : WE} {wa : WA} {name : Str} {apos cpos : Pos} {id : String} {r : V → List V → Hp → VK → Prop} {wr : WM}
theorem tyL {K : PySem.W.Frag} {Hf : Hp} {M : Mem} {H : Hp} (W : Wd K S₀ Hf M H) {x : D} {v : V} (i : IsD K Hf x v) (h : (lstF M x).isSome = true) : tyV K "list" v H := by
  obtain ⟨ds, e⟩ := Option.isSome_iff_exists.mp h
  obtain ⟨a, xs, rfl, h1, h2⟩ := lstF_some W i e
  exact .inl ⟨rfl, xs, h1⟩
theorem ve_bm (slot : Slot "list" name id) (hty : typeOf (.builtin id) = pure (.type "method_descriptor")) (hm : MtR X id r) (lk : LkM X.K r wr) (ho : VE X S₀ o wo) (ha : VA X S₀ (e :: es) wa)
    (hbase : attributeBase o name X.env (eval o X.env) = eval o X.env := by rfl)
    (hfew : ((backTo cpos (starEach (e :: es) X.env)).all (fun x => !x.1) && (backToKw cpos (keywordEach [] X.env)).all (fun x => x.1.isSome)
      && decide ((e :: es).length + ([] : List Keyword).length + (if ([] : List Keyword).isEmpty then 0 else 1) < 30)) = true := by rfl)
    (hline : (apos.endLine == cpos.line) = true := by rfl) (hs : starEach (e :: es) X.env = (false, eval e X.env) :: starEach es X.env := by rfl) (hplain : (backTo cpos (starEach es X.env)).any (·.1) = false := by rfl) :
    VE X S₀ (.Call (.Attribute o name apos) (e :: es) [] cpos) (wBM wr wo wa) :=
  PE.imp (pe_bm PySem.F.plainAttrs_list slot hty hm ho ha hbase hfew hline hs hplain) fun σ H Q ⟨Hf, ρ, M, Φ, W, e, h, k⟩ => by
    refine ⟨Hf, ρ, M, _, W, e, h, fun x M1 v Hf1 H1 h1 W1 s1 i1 => ⟨tyL W1 i1 h1.1, ?_⟩⟩
    exact ⟨Hf1, ρ, M1, _, W1, e.mono s1.ex, h1.2, fun ds M2 vs Hf2 H2 h2 W2 s2 i2 => lk _ _ _ _ _ _ _ _ _ _ W2 (IsD.mono s2.ex _ _ i1) i2 h2 (k.at (s1.trans s2))⟩
end
def memL (M : Mem) : D → Option (Addr × List D)
  | .ref a => match M a with | some (.lst ds) => some (a, ds) | _ => none
  | _ => none
theorem memL_some {K : PySem.W.Frag} {Hf : Hp} {M : Mem} {H : Hp} (W : Wd K S₀ Hf M H) {x : D} {v : V} {a : Addr} {ds : List D} (i : IsD K Hf x v) (h : memL M x = some (a, ds)) : M a = some (.lst ds) ∧ v = .ref a ∧ ∃ xs, H a = some (.lst xs) ∧ IsDs K Hf ds xs := by
  cases x <;> simp only [memL] at h
  case ref b =>
    split at h <;> cases h
    rename_i e
    obtain ⟨_, o, h1, xs, rfl, h2⟩ := W.mem _ _ e
    exact ⟨e, isD_ref.mp i, xs, h1, h2⟩
  all_goals cases h
def wrAppend : WM := fun x ds M Φ => match memL M x, one ds with | some (a, es), some d => es.length < lim ∧ Φ .non (put M a (.lst (es ++ [d]))) | _, _ => False
theorem lk_append {K : PySem.W.Frag} : LkM K rAppend wrAppend := by
  intro S₀ Hf M H x v ds vs Φ Q W ix i h k
  unfold wrAppend at h
  split at h
  · rename_i a es d e1 e2
    obtain ⟨hm, rfl, xs, h1, h2⟩ := memL_some W ix e1
    obtain ⟨y, rfl, i1⟩ := one_some i e2
    refine ⟨a, xs, y, rfl, rfl, h1, by rw [← h2.len]; exact lim_lt h.1, ?_⟩
    obtain ⟨w, s⟩ := W.chg (o := .lst (xs ++ [y])) (m := .lst (es ++ [d])) hm ⟨_, rfl, h2.app (isDs_cons i1 isDs_nil)⟩
    exact k _ _ _ _ _ h.2 w s (isD_non.mpr rfl)
  · exact h.elim
def iv2 (ds : List D) : Option (Int × D) := match ds with | [.int i, d] => some (i, d) | _ => none
def wrInsert : WM := fun x ds M Φ => match memL M x, iv2 ds with
  | some (a, es), some (i, d) => (es.length < lim ∧ 0 ≤ i ∧ i < 2 ^ 63) ∧ Φ .non (put M a (.lst (es.take i.toNat ++ [d] ++ es.drop i.toNat)))
  | _, _ => False
def wrPop : WM := fun x ds M Φ => match memL M x with
  | some (a, es) => match es[es.length - 1]? with | some d => ds = [] ∧ Φ d (put M a (.lst es.dropLast)) | none => False
  | none => False
def wrExtend : WM := fun x ds M Φ => match memL M x, (one ds).bind (lstM M) with
  | some (a, es), some fs => es.length + fs.length ≤ lim ∧ Φ .non (put M a (.lst (es ++ fs)))
  | _, _ => False
section
variable {X : Cx} {o e e2 : Expr} {wo : WE} {wa : WA} {apos cpos : Pos}
theorem ve_append (ho : VE X S₀ o wo) (ha : VA X S₀ [e] wa) (hbase : attributeBase o "append" X.env (eval o X.env) = eval o X.env := by rfl)
    (hfew : ((backTo cpos (starEach [e] X.env)).all (fun x => !x.1) && (backToKw cpos (keywordEach [] X.env)).all (fun x => x.1.isSome)
      && decide (([e] : List Expr).length + ([] : List Keyword).length + (if ([] : List Keyword).isEmpty then 0 else 1) < 30)) = true := by rfl)
    (hline : (apos.endLine == cpos.line) = true := by rfl) (hs : starEach [e] X.env = (false, eval e X.env) :: starEach [] X.env := by rfl) :
    VE X S₀ (.Call (.Attribute o "append" apos) [e] [] cpos) (wBM wrAppend wo wa) :=
  ve_bm PySem.F.slot_list_append PySem.F.type_list_append mt_append lk_append ho ha hbase hfew hline hs
end
section
variable {X : Cx} {o e f : Expr} {wo we wf : WE} {apos cpos : Pos}
def kGet3 (x k : D) (Φ : KD) : KD := fun z M => match dkM M x, keyD k with | some kvs, some key => Φ ((look kvs key).getD z) M | _, _ => False
def kGet2 (wf : WE) (ρ : Sg) (x : D) (Φ : KD) : KD := fun k M => wf ρ M (kGet3 x k Φ)
def kGet1 (we wf : WE) (ρ : Sg) (Φ : KD) : KD := fun x M => (dkM M x).isSome = true ∧ we ρ M (kGet2 wf ρ x Φ)
def wGet (wo we wf : WE) : WE := fun ρ M Φ => wo ρ M (kGet1 we wf ρ Φ)
end
abbrev WP := Sg → Mem → (List (Key × D) → Mem → Prop) → Prop
def wpNil : WP := fun _ M Φ => Φ [] M
def kp3 (k : Key) (d : D) (Φ : List (Key × D) → Mem → Prop) : List (Key × D) → Mem → Prop := fun r M => Φ ((k, d) :: r) M
def kp2 (wr : WP) (ρ : Sg) (x : D) (Φ : List (Key × D) → Mem → Prop) : KD := fun d M => match keyD x with | some k => wr ρ M (kp3 k d Φ) | none => False
def kp1 (wv : WE) (wr : WP) (ρ : Sg) (Φ : List (Key × D) → Mem → Prop) : KD := fun x M => wv ρ M (kp2 wr ρ x Φ)
def wpCons (wk wv : WE) (wr : WP) : WP := fun ρ M Φ => wk ρ M (kp1 wv wr ρ Φ)
def mergeD (kvs : List (Key × D)) : List (Key × D) := kvs.foldl (fun acc kv => putKD acc kv.1 kv.2) []
def kDisp (Φ : KD) : List (Key × D) → Mem → Prop := fun kvs M => kvs.length ≤ 15 ∧ ∀ p, M p = none → Φ (.ref p) (put M p (.dK (mergeD kvs)))
def wDisp (w : WP) : WE := fun ρ M Φ => w ρ M (kDisp Φ)
section
variable {X : Cx} {pos : Pos} {k v : Expr} {ks : List (Option Expr)} {vs : List Expr} {wk wv : WE} {wr : WP}
def wDict0 : WE := fun _ M Φ => ∀ p, M p = none → Φ (.ref p) (put M p (.dK []))
end
end VL
namespace VL
variable {S₀ : W0}
open PySem PySem.Spec PyProof.Rows L2
def wgName (i : Nat) : WG := fun d ρ M P => P (ρ.set i (some d)) M
theorem wipe_set {σ : St} {i : Nat} {x : Option V} : ∀ {vs : List Nat}, i ∈ vs → wipe (σ.set i x) vs = wipe σ vs
  | [], h => by cases h
  | v :: vs, h => by
    show (wipe (σ.set i x) vs).set v none = (wipe σ vs).set v none
    by_cases hi : i ∈ vs
    · rw [wipe_set hi]
    · have e : i = v := by
        rcases List.mem_cons.mp h with e | e
        · exact e
        · exact absurd e hi
      subst e
      have g : ∀ (vs : List Nat), i ∉ vs → (wipe (σ.set i x) vs).set i none = (wipe σ vs).set i none := by
        intro vs
        induction vs with
        | nil => intro _; show (σ.set i x).set i none = σ.set i none; rw [List.set_set]
        | cons u us ih =>
          intro hu
          have n : i ≠ u := fun z => hu (List.mem_cons.mpr (.inl z))
          have m : i ∉ us := fun z => hu (List.mem_cons.mpr (.inr z))
          show ((wipe (σ.set i x) us).set u none).set i none = ((wipe σ us).set u none).set i none
          rw [List.set_comm _ _ (Ne.symm n), List.set_comm (l := wipe σ us) _ _ (Ne.symm n), ih m]
      exact g vs hi
theorem wipe_wipe (σ : St) : ∀ vs : List Nat, wipe (wipe σ vs) vs = wipe σ vs := by
  intro vs
  suffices h : ∀ (us vs : List Nat), (∀ i ∈ us, i ∈ vs) → wipe (wipe σ us) vs = wipe σ vs from h vs vs fun _ h => h
  intro us
  induction us with
  | nil => intro vs _; rfl
  | cons u us ih =>
    intro vs h
    show wipe ((wipe σ us).set u none) vs = wipe σ vs
    rw [wipe_set (h u (List.mem_cons_self ..))]
    exact ih vs fun i hi => h i (List.mem_cons_of_mem _ hi)
def wipeD (ρ : Sg) : List Nat → Sg
  | [] => ρ
  | v :: vs => (wipeD ρ vs).set v none
theorem EnvOk.wipe {K : PySem.W.Frag} {Hf : Hp} {σ : St} {ρ : Sg} (e : EnvOk K Hf σ ρ) : ∀ vs : List Nat, EnvOk K Hf (wipe σ vs) (wipeD ρ vs)
  | [] => e
  | v :: vs => (EnvOk.wipe e vs).unset v
section
variable {X : Cx} {pos : Pos}
theorem vg_name {vs : List Nat} (i : Nat) {x : Str} (hN : X.N.Nodup) (hi : X.N[i]? = some x := by rfl) (hx : Loc X.env.scope x := by first | exact .inl rfl | exact .inr rfl) (hv : i ∈ vs := by decide)
    (hf : X.fn x = true ∨ X.env.scope.names.lookup x = some .local := by first | exact .inl rfl | exact .inr rfl | assumption) : VG X S₀ (.Name x pos) (wgName i) vs :=
  PG.imp (pg_name hN hi hx hf) fun v σ H Q ⟨Hf, ρ, M, Φ, d, W, e, i1, h, k⟩ => k _ _ _ _ _ h W Stp.refl (e.set i i1) (wipe_set hv)
abbrev WGs := List D → Sg → Mem → (Sg → Mem → Prop) → Prop
def liftGs (K : PySem.W.Frag) (S₀ : W0) (w : WGs) (vs : List Nat) : TGs := fun us σ H Q => ∃ Hf ρ M Φ ds, Wd K S₀ Hf M H ∧ EnvOk K Hf σ ρ ∧ IsDs K Hf ds us ∧ w ds ρ M Φ ∧
  ∀ ρ' M' σ' Hf' H', Φ ρ' M' → Wd K S₀ Hf' M' H' → Stp Hf M H Hf' M' H' → EnvOk K Hf' σ' ρ' → wipe σ' vs = wipe σ vs → Q σ' H'
def VGs (X : Cx) (S₀ : W0) (es : List Expr) (w : WGs) (vs : List Nat) : Prop := PGs X es (liftGs X.K S₀ w vs)
def wgNil : WGs := fun ds ρ M P => ds = [] ∧ P ρ M
def kg1 (u : WGs) (r : List D) (P : Sg → Mem → Prop) : Sg → Mem → Prop := fun ρ M => u r ρ M P
def wgCons (t : WG) (u : WGs) : WGs := fun ds ρ M P => match ds with | d :: r => t d ρ M (kg1 u r P) | [] => False
theorem PGs.imp {es : List Expr} {t t' : TGs} (h : PGs X es t) (i : ∀ v σ H Q, t' v σ H Q → t v σ H Q) : PGs X es t' := ⟨fun pins s σ H v u Q I r q => h.run pins s σ H v u Q I r (i v σ H Q q)⟩
theorem vgs_nil {vs : List Nat} : VGs X S₀ [] wgNil vs := PGs.imp pgs_nil fun v σ H Q ⟨Hf, ρ, M, Φ, ds, W, e, i1, h, k⟩ => by
  obtain ⟨rfl, h⟩ := h
  exact ⟨isDs_nil_inv i1, k _ _ _ _ _ h W Stp.refl e rfl⟩
theorem vgs_cons {vs : List Nat} {e : Expr} {es : List Expr} {t : WG} {u : WGs} (h1 : VG X S₀ e t vs) (h2 : VGs X S₀ es u vs) (hs : (assignEach (e :: es) X.env).map (·.2) = assign e X.env :: (assignEach es X.env).map (·.2) := by rfl) : VGs X S₀ (e :: es) (wgCons t u) vs :=
  PGs.imp (pgs_cons h1 h2 hs) fun v σ H Q ⟨Hf, ρ, M, Φ, ds, W, e, i1, h, k⟩ => by
    cases ds with
    | nil => exact h.elim
    | cons d r =>
      obtain ⟨x, us, rfl, i2, i3⟩ := isDs_cons_inv i1
      refine ⟨x, us, rfl, Hf, ρ, M, _, d, W, e, i2, h, fun ρ1 M1 σ1 Hf1 H1 h1 W1 s1 e1 w1 => ?_⟩
      refine ⟨Hf1, ρ1, M1, Φ, r, W1, e1, IsDs.mono s1.ex _ _ i3, h1, fun ρ2 M2 σ2 Hf2 H2 h2 W2 s2 e2 w2 => ?_⟩
      exact k _ _ _ _ _ h2 W2 (s1.trans s2) e2 (w2.trans w1)
def wgTup (n : Nat) (u : WGs) : WG := fun d ρ M P => match d with | .tup ds => ds.length = n ∧ u ds ρ M P | _ => False
theorem vg_tup {vs : List Nat} {es : List Expr} {k : Nat} {u : WGs} {n : Nat} (hc : X.calm = true) (h : VGs X S₀ es u vs) (hn : (assignEach es X.env).length = n := by rfl) (hst : (assignEach es X.env).findIdx? (·.1) = none := by rfl) : VG X S₀ (.Tuple es k pos) (wgTup n u) vs :=
  PG.imp (pg_tup hc h hn hst) fun v σ H Q ⟨Hf, ρ, M, Φ, d, W, e, i1, h, k⟩ => by
    unfold wgTup at h
    split at h
    · obtain ⟨a, xs, rfl, q1, q2⟩ := isD_tup.mp i1
      exact ⟨a, xs, rfl, (q1.up W.fro).sq, by rw [← q2.len]; exact h.1, Hf, ρ, M, Φ, _, W, e, q2, h.2, k⟩
    · exact h.elim
end
section
variable {X : Cx} {pos : Pos}
end
end VL
namespace VL
variable {S₀ : W0}
open PySem PySem.Spec PyProof.Rows L2
section
variable {K : PySem.W.Frag} {Hf Hf' : Hp} {M M' : Mem} {H H' : Hp} {σ : St} {ρ : Sg}
theorem KntN.go {Φ : Sg → Mem → Prop} {Q : St → Hp → Prop} (k : KntN K S₀ Hf M H Φ Q) (W : Wd K S₀ Hf M H) (p : Φ ρ M) (e : EnvOk K Hf σ ρ) : Q σ H := k _ _ _ _ _ p W Stp.refl e
end
def sNext : WS := fun D ρ M => D.nx ρ M
def sSeq (t u : WS) : WS := fun D ρ M => t ⟨u D, D.rt, D.bk, D.ct⟩ ρ M
def sBreak : WS := fun D ρ M => D.bk ρ M
def sCont : WS := fun D ρ M => D.ct ρ M
def kDrop (D : WN) (ρ : Sg) : KD := fun _ M => D.nx ρ M
def sDrop (w : WE) : WS := fun D ρ M => w ρ M (kDrop D ρ)
def sRet (w : WE) : WS := fun D ρ M => w ρ M D.rt
def kFz (Φ : KD) : KD := fun d M => match memL M d with | some (a, ds) => Φ (.lst ds) (del M a) | none => Φ d M
def sRetF (w : WE) : WS := fun D ρ M => w ρ M (kFz D.rt)
def sRetN : WS := fun D _ M => D.rt .non M
def kIf (t u : WS) (D : WN) (ρ : Sg) : Bool → Mem → Prop := fun b M => match b with | true => t D ρ M | false => u D ρ M
def sIf (c : WT) (t u : WS) : WS := fun D ρ M => c ρ M (kIf t u D ρ)
def sNever : WS := fun _ _ _ => False
def kAsg (g : WG) (D : WN) (ρ : Sg) : KD := fun d M => g d ρ M D.nx
def sAsg (w : WE) (g : WG) : WS := fun D ρ M => w ρ M (kAsg g D ρ)
def kPar (i j : Nat) (De : WN) (ρ : Sg) : List D → Mem → Prop := fun ds M => match ds with | [x, y] => De.nx ((ρ.set i (some x)).set j (some y)) M | _ => False
def sPar (i j : Nat) (w : WA) : WS := fun D ρ M => w ρ M (kPar i j D ρ)
def kPar3 (i j l : Nat) (De : WN) (ρ : Sg) : List D → Mem → Prop := fun ds M => match ds with | [x, y, z] => De.nx (((ρ.set i (some x)).set j (some y)).set l (some z)) M | _ => False
def sPar3 (i j l : Nat) (w : WA) : WS := fun D ρ M => w ρ M (kPar3 i j l D ρ)
section
variable {X : Cx} {st : Stmt} {rest : List Stmt} {t u : WS} {e : Expr} {we : WE} {pos : Pos}
theorem vss_nil : VSs X S₀ [] sNext := PSs.imp pss_nil fun D σ H ⟨Hf, ρ, M, De, W, e, h, k⟩ => k.nx.go W h e
theorem vss_cons (h1 : VS X S₀ st t) (h2 : VSs X S₀ rest u) : VSs X S₀ (st :: rest) (sSeq t u) := PSs.imp (pss_cons h1 h2) fun D σ H ⟨Hf, ρ, M, De, W, e, h, k⟩ =>
  ⟨Hf, ρ, M, _, W, e, h, ⟨fun ρ1 M1 σ1 Hf1 H1 h1 W1 s1 e1 => ⟨Hf1, ρ1, M1, De, W1, e1, h1, k.at s1⟩, k.rt, k.bk, k.ct⟩⟩
theorem vss_one (h : VS X S₀ st t) : VSs X S₀ [st] t := pss_one h
theorem vs_expr (he : VE X S₀ e we) (hs : swapsWith e none pos.line X.env = pure false := by rfl) : VS X S₀ (.Expr e pos) (sDrop we) := PS.imp (ps_expr he hs) fun D σ H ⟨Hf, ρ, M, De, W, e, h, k⟩ =>
  ⟨Hf, ρ, M, _, W, e, h, fun d M1 v Hf1 H1 h1 W1 s1 i1 => (k.nx.at s1).go W1 h1 (e.mono s1.ex)⟩
theorem vs_ret (he : VE X S₀ e we) : VS X S₀ (.Return (some e) pos) (sRet we) := PS.imp (ps_ret he) fun D σ H ⟨Hf, ρ, M, De, W, e, h, k⟩ => ⟨Hf, ρ, M, _, W, e, h, k.rt⟩
theorem vs_retF (he : VE X S₀ e we) : VS X S₀ (.Return (some e) pos) (sRetF we) := PS.imp (ps_ret he) fun D σ H ⟨Hf, ρ, M, De, W, e, h, k⟩ => ⟨Hf, ρ, M, _, W, e, h, fun d M1 v Hf1 H1 h1 W1 s1 i1 => by
  unfold kFz at h1
  split at h1
  · rename_i a ds e2
    obtain ⟨hm, rfl, _⟩ := memL_some W1 i1 e2
    obtain ⟨Hf2, W2, s2, i2⟩ := W1.freeze hm
    exact k.rt _ _ _ _ _ h1 W2 (s1.trans s2) i2
  · exact (k.rt.at s1).go W1 h1 i1⟩
theorem vs_if {c : Expr} {a b : List Stmt} {tc : WT} (hc : VT X S₀ c tc) (ha : VSs X S₀ a t) (hb : VSs X S₀ b u) : VS X S₀ (.If c a b pos) (sIf tc t u) := PS.imp (ps_if hc ha hb) fun D σ H ⟨Hf, ρ, M, De, W, e, h, k⟩ => by
  refine ⟨Hf, ρ, M, _, W, e, h, fun b M1 Hf1 H1 h1 W1 s1 => ?_⟩
  cases b with
  | true => rw [if_pos rfl]; exact ⟨Hf1, ρ, M1, De, W1, e.mono s1.ex, h1, k.at s1⟩
  | false => rw [if_neg (by decide)]; exact ⟨Hf1, ρ, M1, De, W1, e.mono s1.ex, h1, k.at s1⟩
theorem vss_never : VSs X S₀ rest sNever := PSs.imp pss_never fun D σ H ⟨Hf, ρ, M, De, W, e, h, k⟩ => h
theorem vs_asg {tg : Expr} {g : WG} {vs : List Nat} (he : VE X S₀ e we) (hg : VG X S₀ tg g vs) (hs : swapsWithSole [tg] e pos.line X.env = pure false := by rfl) (hw : swappedStores [tg] e X.env = pure none := by rfl)
    (h1 : (assignEach [tg] X.env).map (·.2) = [assign tg X.env] := by rfl) : VS X S₀ (.Assign [tg] e pos) (sAsg we g) := PS.imp (ps_asg he hg hs hw h1) fun D σ H ⟨Hf, ρ, M, De, W, e, h, k⟩ =>
  ⟨Hf, ρ, M, _, W, e, h, fun d M1 v Hf1 H1 h1 W1 s1 i1 => ⟨Hf1, ρ, M1, _, d, W1, e.mono s1.ex, i1, h1, fun ρ2 M2 σ2 Hf2 H2 h2 W2 s2 e2 _ => k.nx _ _ _ _ _ h2 W2 (s1.trans s2) e2⟩⟩
theorem vs_set (i : Nat) {x : Str} {pos' : Pos} (hN : X.N.Nodup) (he : VE X S₀ e we) (hi : X.N[i]? = some x := by rfl) (hx : Loc X.env.scope x := by first | exact .inl rfl | exact .inr rfl) (hs : swapsWith e (some (.Name x pos')) pos.line X.env = pure false := by rfl)
    (hf : X.fn x = true ∨ X.env.scope.names.lookup x = some .local := by first | exact .inl rfl | exact .inr rfl | assumption) : VS X S₀ (.Assign [.Name x pos'] e pos) (sAsg we (wgName i)) := PS.imp (ps_set hN hi hx he hs hf) fun D σ H ⟨Hf, ρ, M, De, W, e, h, k⟩ =>
  ⟨Hf, ρ, M, _, W, e, h, fun d M1 v Hf1 H1 h1 W1 s1 i1 => k.nx _ _ _ _ _ h1 W1 s1 ((e.mono s1.ex).set i i1)⟩
theorem vs_par (i j : Nat) {x y : Str} {a b : Expr} {wa : WA} {px py pt : Pos} {kt k2 pt2} (hc : X.calm = true) (hN : X.N.Nodup) (ha : VA X S₀ [a, b] wa)
    (hw : swappedStores [.Tuple [.Name x px, .Name y py] kt pt] (.Tuple [a, b] k2 pt2) X.env = pure (some [x, y]) := by rfl)
    (hi : X.N[i]? = some x := by rfl) (hj : X.N[j]? = some y := by rfl) (hij : i ≠ j := by decide)
    (hx : X.env.scope.names.lookup x = some .local := by rfl) (hy : X.env.scope.names.lookup y = some .local := by rfl)
    (hs : swapsWithSole [.Tuple [.Name x px, .Name y py] kt pt] (.Tuple [a, b] k2 pt2) pos.line X.env = pure false := by rfl) :
    VS X S₀ (.Assign [.Tuple [.Name x px, .Name y py] kt pt] (.Tuple [a, b] k2 pt2) pos) (sPar i j wa) := PS.imp (ps_par hc hN hi hj hij hx hy ha hw hs) fun D σ H ⟨Hf, ρ, M, De, W, e, h, k⟩ => by
  refine ⟨Hf, ρ, M, _, W, e, h, fun ds M1 vs Hf1 H1 h1 W1 s1 i1 => ?_⟩
  unfold kPar at h1
  split at h1
  · obtain ⟨v, r, rfl, q1, q2⟩ := isDs_cons_inv i1
    obtain ⟨w, r, rfl, q3, q4⟩ := isDs_cons_inv q2
    rw [isDs_nil_inv q4]
    exact ⟨v, w, rfl, k.nx _ _ _ _ _ h1 W1 s1 (((e.mono s1.ex).set i q1).set j q3)⟩
  · exact h1.elim
end
def putS (M : Mem) (o i v : D) : Option (Addr × MO) := match o with
  | .ref a => match M a with
    | some (.lst ds) => match i with | .int j => (ixN ds.length j).map fun n => (a, .lst (ds.set n v)) | _ => none
    | some (.dK kvs) => if kvs.length < lim then (keyD i).map fun k => (a, .dK (putKD kvs k v)) else none
    | _ => none
  | _ => none
def kSub2 (o v : D) (P : Mem → Prop) : KD := fun i M => match putS M o i v with | some (a, mo) => P (put M a mo) | none => False
def kSub1 (wi : WE) (v : D) (ρ : Sg) (P : Mem → Prop) : KD := fun o M => wi ρ M (kSub2 o v P)
def wgSub (wo wi : WE) : WG := fun v ρ M P => wo ρ M (kSub1 wi v ρ (P ρ))
def rSetA (o i v : V) (H : Hp) (Q : Hp → Prop) : Prop := (∃ p xs k j, o = .ref p ∧ i = .int k ∧ H p = some (.lst xs) ∧ ixN xs.length k = some j ∧ Q (upd H p (.lst (xs.set j v)))) ∨ ∃ a H4, o = .ref a ∧ DPut H a i v H4 ∧ Q H4
theorem set_any {X : Cx} (hu : X.A.units + 1 < cLine) : PSet X rSetA := by
  intro pins s σ H o i v ov iv u Q I ro ri rv h
  rcases h with h | ⟨a, H4, rfl, g, q⟩
  · exact set_list pins s σ H o i v ov iv u Q I ro ri rv h
  · obtain rfl : ov = Value.ref a := ro
    exact d_setItem hu I g ri rv fun s' I' => ⟨H4, I', q⟩
theorem putS_some {K : PySem.W.Frag} {Hf : Hp} {M : Mem} {H : Hp} (W : Wd K S₀ Hf M H) {o i v : D} {ov iv vv : V} {a : Addr} {mo : MO} (io : IsD K Hf o ov) (ii : IsD K Hf i iv) (iv' : IsD K Hf v vv) (h : putS M o i v = some (a, mo)) {Q : Hp → Prop}
    (k : ∀ H', Wd K S₀ Hf (put M a mo) H' → Stp Hf M H Hf (put M a mo) H' → Q H') : rSetA ov iv vv H Q := by
  cases o <;> simp only [putS] at h <;> try cases h
  rename_i b
  split at h
  · rename_i ds e
    obtain ⟨_, o, h1, xs, rfl, h2⟩ := W.mem _ _ e
    split at h
    · rename_i j
      cases e2 : ixN ds.length j with
      | none => rw [e2] at h; cases h
      | some n =>
        rw [e2] at h
        cases h
        refine .inl ⟨_, xs, j, n, isD_ref.mp io, isD_int.mp ii, h1, by rw [← h2.len]; exact e2, ?_⟩
        obtain ⟨w, s⟩ := W.chg (o := .lst (xs.set n vv)) (m := .lst (ds.set n v)) e ⟨_, rfl, h2.setAt n iv'⟩
        exact k _ w s
    · cases h
  · rename_i kvs e
    obtain ⟨_, o, h1, xs, rfl, h2⟩ := W.mem _ _ e
    split at h
    · rename_i hl
      cases e2 : keyD i with
      | none => rw [e2] at h; cases h
      | some key =>
        rw [e2] at h
        cases h
        refine .inr ⟨a, upd H a (.dK (putK xs key vv)), isD_ref.mp io, ?_, ?_⟩
        · rw [keyD_V e2 ii]
          exact DPut.k h1 (by rw [← h2.len]; exact lim_lt hl)
        · obtain ⟨w, s⟩ := W.chg (o := .dK (putK xs key vv)) (m := .dK (putKD kvs key v)) e ⟨_, rfl, h2.put key iv'⟩
          exact k _ w s
    · cases h
  · cases h
theorem vg_sub {X : Cx} {o i : Expr} {wo wi : WE} {pos : Pos} {vs : List Nat} (hu : X.A.units + 1 < cLine) (ho : VE X S₀ o wo) (hi : VE X S₀ i wi)
    (ha : ∀ v, assign (.Subscript o i pos) X.env v = (do
      let ov ← holding [v] (eval o X.env)
      let iv ← holding [v, ov] (eval i X.env)
      standAt pos
      holding [v, ov, iv] (setItem ov iv v)
      release [v, ov, iv] []) := by intro _; rfl) : VG X S₀ (.Subscript o i pos) (wgSub wo wi) vs :=
  PG.imp (pg_sub ho hi (set_any hu) ha) fun v σ H Q ⟨Hf, ρ, M, Φ, d, W, e, i1, h, k⟩ => by
    refine ⟨Hf, ρ, M, _, W, e, h, fun x M1 u Hf1 H1 h1 W1 s1 i2 => ?_⟩
    refine ⟨Hf1, ρ, M1, _, W1, e.mono s1.ex, h1, fun y M2 w Hf2 H2 h2 W2 s2 i3 => ?_⟩
    unfold kSub2 at h2
    split at h2
    · rename_i a mo e2
      refine putS_some W2 (IsD.mono s2.ex _ _ i2) i3 (IsD.mono (s1.ex.trans s2.ex) _ _ i1) e2 fun H3 W3 s3 => ?_
      exact k _ _ _ _ _ h2 W3 ((s1.trans s2).trans s3) (e.mono ((s1.ex.trans s2.ex).trans s3.ex)) rfl
    · exact h2.elim
def kAug (i : Nat) (x : D) (wr : WR) (D : WN) (ρ : Sg) : KD := fun y M => wr x y M (kAsg (wgName i) D ρ)
def sAug (i : Nat) (w : WE) (wr : WR) : WS := fun D ρ M => match at_ ρ i with | some x => w ρ M (kAug i x wr D ρ) | none => False
theorem vs_aug (i : Nat) {X : Cx} {x : Str} {e : Expr} {we : WE} {op : Operator} {r : R2} {wr : WR} {pos pos' : Pos} (hN : X.N.Nodup) (ho : OpR X (inplaceOp op) r) (lk : LkR X.K r wr) (he : VE X S₀ e we) (hi : X.N[i]? = some x := by rfl) (hx : Loc X.env.scope x := by first | exact .inl rfl | exact .inr rfl)
    (hf : X.fn x = true ∨ X.env.scope.names.lookup x = some .local := by first | exact .inl rfl | exact .inr rfl | assumption) : VS X S₀ (.AugAssign (.Name x pos') op e pos) (sAug i we wr) :=
  PS.imp (ps_aug (ti := r) hN hi hx he (fun pins s σ H x y v u Q I rx ry q => ho pins s σ H x y v u Q I rx ry q) hf) fun D σ H ⟨Hf, ρ, M, De, W, e, h, k⟩ => by
    unfold sAug at h
    split at h
    · rename_i d hd
      obtain ⟨v, h1, h2⟩ := e.at hd
      refine ⟨v, h1, Hf, ρ, M, _, W, e, h, fun y M1 u Hf1 H1 h1 W1 s1 i1 => ?_⟩
      refine lk _ Hf1 M1 H1 d y v u _ _ W1 (IsD.mono s1.ex _ _ h2) i1 h1 fun z M2 w Hf2 H2 h2 W2 s2 i2 => ?_
      exact k.nx _ _ _ _ _ h2 W2 (s1.trans s2) ((e.mono (s1.ex.trans s2.ex)).set i i2)
    · exact h.elim
theorem vs_augAdd (i : Nat) {X : Cx} {x : Str} {e : Expr} {we : WE} {pos pos' : Pos} (hN : X.N.Nodup) (he : VE X S₀ e we) (hi : X.N[i]? = some x := by rfl) (hx : Loc X.env.scope x := by first | exact .inl rfl | exact .inr rfl)
    (hf : X.fn x = true ∨ X.env.scope.names.lookup x = some .local := by first | exact .inl rfl | exact .inr rfl | assumption) : VS X S₀ (.AugAssign (.Name x pos') .Add e pos) (sAug i we (wrI fun i j => .int (i + j))) :=
  vs_aug i hN iop_add (lk_I0 fun _ _ _ => isD_int.mpr rfl) he hi hx hf
structure Wk (K : PySem.W.Frag) (J : It) (items : List D) (Hf0 : Hp) : Prop where
  go : ∀ i H, i < items.length → Ex Hf0 H → J.go i H
  stop : ∀ i H, items.length ≤ i → Ex Hf0 H → J.stop i H
  yld : ∀ i H x H' Hf d, Ex Hf0 Hf → Ex Hf H → J.yld i H x H' → items[i]? = some d → ∃ Hf', Ex Hf Hf' ∧ Ex Hf' H' ∧ (∀ a o, Hf' a = some o → Hf a = some o ∨ H a = none) ∧ Ex H H' ∧ (Tups Hf H → Tups Hf' H') ∧ IsD K Hf' d x
def liftI (K : PySem.W.Frag) (S₀ : W0) (w : WI) : TI := fun σ H R => ∃ Hf ρ M Φ, Wd K S₀ Hf M H ∧ EnvOk K Hf σ ρ ∧ w ρ M Φ ∧ ∀ items M' J Hf' H', Φ items M' → Wd K S₀ Hf' M' H' → Stp Hf M H Hf' M' H' → Wk K J items Hf' → R J H'
def VI (X : Cx) (S₀ : W0) (tg iter : Expr) (w : WI) : Prop := PI X tg iter (liftI X.K S₀ w)
section
variable {K : PySem.W.Frag} {Hf Hf0 : Hp} {M : Mem} {H : Hp}
theorem Wk.take {J : It} {items : List D} (k : Wk K J items Hf0) (W : Wd K S₀ Hf M H) (e0 : Ex Hf0 Hf) {i : Nat} {d : D} {x : V} {H' : Hp} (y : J.yld i H x H') (hd : items[i]? = some d) :
    ∃ Hf', Wd K S₀ Hf' M H' ∧ Stp Hf M H Hf' M H' ∧ IsD K Hf' d x := by
  obtain ⟨Hf', q1, q2, q3, q4, qt, q5⟩ := k.yld i H x H' Hf d e0 W.fro y hd
  suffices h : Wr K Hf' M H' ∧ Stp Hf M H Hf' M H' from ⟨Hf', ⟨h.1, W.st.trans h.2⟩, h.2, q5⟩
  refine ⟨⟨q2, fun a m e => ?_, qt W.tps⟩, ⟨q1, fun a o e1 e2 e3 => ⟨q4 a o e1, ?_, e3⟩⟩⟩
  · obtain ⟨h1, o, h2, h3⟩ := W.mem a m e
    refine ⟨?_, o, q4 a o h2, h3.mono q1⟩
    cases z : Hf' a with
    | none => rfl
    | some u =>
      rcases q3 a u z with z | z
      · rw [h1] at z; cases z
      · rw [h2] at z; cases z
  · cases z : Hf' a with
    | none => rfl
    | some u =>
      rcases q3 a u z with z | z
      · rw [e2] at z; cases z
      · rw [e1] at z; cases z
theorem wk_list {a : Addr} {xs : List V} {items : List D} (h : SqL K Hf0 a xs) (i : IsDs K Hf0 items xs) : Wk K (Itl K a) items Hf0 where
  go := fun j H hj e => by
    have l := i.len
    exact ⟨xs, xs[j], ex_l e h, List.getElem?_eq_getElem (by omega)⟩
  stop := fun j H hj e => ⟨xs, ex_l e h, by rw [← i.len]; exact hj⟩
  yld := fun j H x H' Hf d e1 e2 y hd => by
    obtain ⟨rfl, y⟩ := y
    obtain ⟨v, q1, q2⟩ := i.get hd
    have z := y xs (ex_l (e1.trans e2) h)
    rw [q1] at z
    cases z
    exact ⟨Hf, Ex.refl _, e2, fun _ _ q => .inl q, Ex.refl _, id, IsD.mono e1 _ _ q2⟩
theorem wk_tup {a : Addr} {xs : List V} {items : List D} (h : SqT K Hf0 a xs) (i : IsDs K Hf0 items xs) : Wk K (Itt K a) items Hf0 where
  go := fun j H hj e => by
    have l := i.len
    exact ⟨xs, xs[j], ex_t e h, List.getElem?_eq_getElem (by omega)⟩
  stop := fun j H hj e => ⟨xs, ex_t e h, by rw [← i.len]; exact hj⟩
  yld := fun j H x H' Hf d e1 e2 y hd => by
    obtain ⟨rfl, y⟩ := y
    obtain ⟨v, q1, q2⟩ := i.get hd
    have z := y xs (ex_t (e1.trans e2) h)
    rw [q1] at z
    cases z
    exact ⟨Hf, Ex.refl _, e2, fun _ _ q => .inl q, Ex.refl _, id, IsD.mono e1 _ _ q2⟩
def rgD (lo : Int) (n : Nat) : List D := (List.range n).map fun (i : Nat) => D.int (lo + i)
theorem rgD_at {lo : Int} {n i : Nat} {d : D} (h : (rgD lo n)[i]? = some d) : i < n ∧ d = .int (lo + i) := by
  unfold rgD at h
  rw [List.getElem?_map] at h
  by_cases hi : i < n
  · rw [List.getElem?_eq_getElem (by rw [List.length_range]; exact hi)] at h
    simp at h
    exact ⟨hi, h.symm⟩
  · rw [List.getElem?_eq_none (by rw [List.length_range]; omega)] at h
    cases h
theorem rgD_len (lo : Int) (n : Nat) : (rgD lo n).length = n := by unfold rgD; simp
theorem wk_rng {lo : Int} {n : Nat} : Wk K (Itr lo n) (rgD lo n) Hf0 where
  go := fun j H hj e => by rw [rgD_len] at hj; exact hj
  stop := fun j H hj e => by rw [rgD_len] at hj; exact hj
  yld := fun j H x H' Hf d e1 e2 y hd => by
    obtain ⟨rfl, y⟩ := y
    obtain ⟨q1, rfl⟩ := rgD_at hd
    exact ⟨Hf, Ex.refl _, e2, fun _ _ q => .inl q, Ex.refl _, id, isD_int.mpr y⟩
def zipD (xs ys : List D) : List D := (xs.zip ys).map fun p => D.tup [p.1, p.2]
theorem zipD_at : ∀ {xs ys : List D} {i : Nat} {d : D}, (zipD xs ys)[i]? = some d → ∃ x y, xs[i]? = some x ∧ ys[i]? = some y ∧ d = .tup [x, y] := by
  intro xs ys i d h
  unfold zipD at h
  rw [List.getElem?_map] at h
  cases e : (xs.zip ys)[i]? with
  | none => rw [e] at h; cases h
  | some p =>
    rw [e] at h
    cases h
    rw [List.getElem?_zip_eq_some] at e
    exact ⟨p.1, p.2, e.1, e.2, rfl⟩
theorem zipD_len (xs ys : List D) : (zipD xs ys).length = min xs.length ys.length := by unfold zipD; simp
theorem wk_zipL {a b : Addr} {xs ys : List V} {ds es : List D} (h1 : SqL K Hf0 a xs) (i1 : IsDs K Hf0 ds xs) (h2 : SqL K Hf0 b ys) (i2 : IsDs K Hf0 es ys) : Wk K (Itz K a b) (zipD ds es) Hf0 where
  go := fun j H hj e => by
    rw [zipD_len] at hj
    have l1 := i1.len
    have l2 := i2.len
    exact ⟨xs, ys, xs[j], ys[j], ex_l e h1, ex_l e h2, List.getElem?_eq_getElem (by omega), List.getElem?_eq_getElem (by omega)⟩
  stop := fun j H hj e => by
    rw [zipD_len] at hj
    have l1 := i1.len
    have l2 := i2.len
    exact ⟨xs, ys, ex_l e h1, ex_l e h2, by omega⟩
  yld := fun j H x H' Hf d e1 e2 y hd => by
    obtain ⟨T, u, v, rfl, nT, rfl, y1, y2⟩ := y
    obtain ⟨dx, dy, g1, g2, rfl⟩ := zipD_at hd
    obtain ⟨u', q1, q2⟩ := i1.get g1
    obtain ⟨v', q3, q4⟩ := i2.get g2
    have z1 := y1 xs (ex_l (e1.trans e2) h1)
    have z2 := y2 ys (ex_l (e1.trans e2) h2)
    rw [q1] at z1
    rw [q3] at z2
    cases z1
    cases z2
    have hf : Hf T = none := by
      cases e : Hf T with
      | none => rfl
      | some o => rw [e2 _ _ e] at nT; cases nT
    refine ⟨upd Hf T (.tup [u, v]), Ex.new hf, fun c o q => ?_, fun c o q => ?_, Ex.new nT, tups_new, isD_tup.mpr ⟨T, _, rfl, .inl upd_same, isDs_cons (IsD.mono (e1.trans (Ex.new hf)) _ _ q2) (isDs_cons (IsD.mono (e1.trans (Ex.new hf)) _ _ q4) isDs_nil)⟩⟩
    · by_cases n : c = T
      · subst n; rw [upd_same] at q ⊢; exact q
      · rw [upd_ne n] at q ⊢; exact e2 _ _ q
    · by_cases n : c = T
      · subst n; exact .inr nT
      · rw [upd_ne n] at q; exact .inl q
theorem wk_zipT {a b : Addr} {xs ys : List V} {ds es : List D} (h1 : SqT K Hf0 a xs) (i1 : IsDs K Hf0 ds xs) (h2 : SqT K Hf0 b ys) (i2 : IsDs K Hf0 es ys) : Wk K (RZ.ItzT K a b) (zipD ds es) Hf0 where
  go := fun j H hj e => by
    rw [zipD_len] at hj
    have l1 := i1.len
    have l2 := i2.len
    exact ⟨xs, ys, xs[j], ys[j], ex_t e h1, ex_t e h2, List.getElem?_eq_getElem (by omega), List.getElem?_eq_getElem (by omega)⟩
  stop := fun j H hj e => by
    rw [zipD_len] at hj
    have l1 := i1.len
    have l2 := i2.len
    exact ⟨xs, ys, ex_t e h1, ex_t e h2, by omega⟩
  yld := fun j H x H' Hf d e1 e2 y hd => by
    obtain ⟨T, u, v, rfl, nT, rfl, y1, y2⟩ := y
    obtain ⟨dx, dy, g1, g2, rfl⟩ := zipD_at hd
    obtain ⟨u', q1, q2⟩ := i1.get g1
    obtain ⟨v', q3, q4⟩ := i2.get g2
    have z1 := y1 xs (ex_t (e1.trans e2) h1)
    have z2 := y2 ys (ex_t (e1.trans e2) h2)
    rw [q1] at z1
    rw [q3] at z2
    cases z1
    cases z2
    have hf : Hf T = none := by
      cases e : Hf T with
      | none => rfl
      | some o => rw [e2 _ _ e] at nT; cases nT
    refine ⟨upd Hf T (.tup [u, v]), Ex.new hf, fun c o q => ?_, fun c o q => ?_, Ex.new nT, tups_new, isD_tup.mpr ⟨T, _, rfl, .inl upd_same, isDs_cons (IsD.mono (e1.trans (Ex.new hf)) _ _ q2) (isDs_cons (IsD.mono (e1.trans (Ex.new hf)) _ _ q4) isDs_nil)⟩⟩
    · by_cases n : c = T
      · subst n; rw [upd_same] at q ⊢; exact q
      · rw [upd_ne n] at q ⊢; exact e2 _ _ q
    · by_cases n : c = T
      · subst n; exact .inr nT
      · rw [upd_ne n] at q; exact .inl q
end
def frzS : D → Option (List D)
  | .tup ds => some ds
  | .lst ds => some ds
  | .fz ds => some ds
  | _ => none
def kSeqI (Φ : List D → Mem → Prop) : KD := fun x M => match frzS x with | some ds => Φ ds M | none => False
def wiSeq (w : WE) : WI := fun ρ M Φ => w ρ M (kSeqI Φ)
def kRng1 (Φ : List D → Mem → Prop) : List D → Mem → Prop := fun ds M => match one ds with | some (.int j) => (-(2 ^ 62) ≤ j ∧ j < 2 ^ 62) ∧ Φ (rgD 0 j.toNat) M | _ => False
def wiRng1 (w : WA) : WI := fun ρ M Φ => w ρ M (kRng1 Φ)
def kRng2 (Φ : List D → Mem → Prop) : List D → Mem → Prop := fun ds M => match two ds with | some (i, j) => (-(2 ^ 62) ≤ i ∧ i < 2 ^ 62 ∧ -(2 ^ 62) ≤ j ∧ j < 2 ^ 62) ∧ Φ (rgD i (j - i).toNat) M | _ => False
def wiRng2 (w : WA) : WI := fun ρ M Φ => w ρ M (kRng2 Φ)
def zip2 (ds : List D) : Option (List D) := match ds with
  | [.lst xs, .lst ys] => some (zipD xs ys)
  | [.tup xs, .tup ys] => some (zipD xs ys)
  | _ => none
def kZip (Φ : List D → Mem → Prop) : List D → Mem → Prop := fun ds M => match zip2 ds with | some es => Φ es M | none => False
def wiZip (w : WA) : WI := fun ρ M Φ => w ρ M (kZip Φ)
section
variable {X : Cx} {tg : Expr} {l e e2 : Expr} {wl : WE} {wa : WA} {p pos : Pos}
def iSeq (K : PySem.W.Frag) (tl : TE) : TI := fun σ H R => tl σ H fun x H1 => ∃ a, x = .ref a ∧ (((∃ xs, SqL K H1 a xs) ∧ R (Itl K a) H1) ∨ ((∃ xs, SqT K H1 a xs) ∧ R (Itt K a) H1))
theorem pi_seq {tl : TE} (hl : PE X l tl) : PI X tg l (iSeq X.K tl) := by
  refine ⟨fun pins s σ H R I h => ?_⟩
  refine thn (hl.run pins s σ H _ I h) fun v s1 ⟨x, H1, I1, r1, a, ex, q⟩ => ?_
  have A := fun (X' : Cx) (e : X' = X) => e
  rcases q with ⟨hq, q⟩ | ⟨hq, q⟩
  · have g : PE X l (fun σ' H' Q => ∃ y, RelV y v ∧ Q y H') → True := fun _ => trivial
    obtain ⟨xs, hq⟩ := hq
    subst ex
    cases r1
    obtain ⟨its, rv, p, hz⟩ := I1.list hq
    refine wpAny_pyIter_list p.isList (pi_one I1 _ (turn_list a _) ⟨_, Heap.get?_push_size _ rfl, rfl, rfl⟩ q)
  · obtain ⟨xs, hq⟩ := hq
    subst ex
    cases r1
    obtain ⟨its, rv, p, hz⟩ := I1.tuple hq
    exact iter_tuple p (pi_one I1 _ (turn_tuple a _) ⟨_, Heap.get?_push_size _ rfl, rfl, rfl⟩ q)
theorem vi_seq (hl : VE X S₀ l wl) : VI X S₀ tg l (wiSeq wl) := PI.imp (pi_seq hl) fun σ H R ⟨Hf, ρ, M, Φ, W, e, h, k⟩ => by
  refine ⟨Hf, ρ, M, _, W, e, h, fun x M1 v Hf1 H1 h1 W1 s1 i1 => ?_⟩
  unfold kSeqI at h1
  split at h1
  · rename_i ds e2
    cases x <;> simp only [frzS] at e2 <;> cases e2
    · obtain ⟨a, xs, rfl, q1, q2⟩ := isD_tup.mp i1
      exact ⟨a, rfl, .inr ⟨⟨xs, (q1.up W1.fro).sq⟩, k _ _ _ _ _ h1 W1 s1 (wk_tup q1.sq q2)⟩⟩
    · obtain ⟨a, xs, rfl, q1, q2⟩ := isD_lst.mp i1
      exact ⟨a, rfl, .inl ⟨⟨xs, ex_l W1.fro (SqL.of q1)⟩, k _ _ _ _ _ h1 W1 s1 (wk_list (SqL.of q1) q2)⟩⟩
    · obtain ⟨a, xs, rfl, q1, q2⟩ := isD_fz.mp i1
      exact ⟨a, rfl, .inl ⟨⟨xs, ex_l W1.fro q1⟩, k _ _ _ _ _ h1 W1 s1 (wk_list q1 q2)⟩⟩
  · exact h1.elim
theorem vi_rng1 (hg : Gl X "range") (hm : X.mg "range" = none) (ha : VA X S₀ [e] wa) (hs : starEach [e] X.env = [(false, eval e X.env)] := by rfl) : VI X S₀ tg (.Call (.Name "range" p) [e] [] pos) (wiRng1 wa) :=
  PI.imp (pi_range1 hg hm ha hs) fun σ H R ⟨Hf, ρ, M, Φ, W, e, h, k⟩ => by
    refine ⟨Hf, ρ, M, _, W, e, h, fun ds M1 vs Hf1 H1 h1 W1 s1 i1 => ?_⟩
    unfold kRng1 at h1
    split at h1
    · rename_i j e2
      obtain ⟨v, rfl, i2⟩ := one_some i1 e2
      exact ⟨j, by rw [isD_int.mp i2], h1.1.1, h1.1.2, k _ _ _ _ _ h1.2 W1 s1 wk_rng⟩
    · exact h1.elim
theorem vi_zip {elts : List Expr} {kk : Nat} {tpos : Pos} (hg : Gl X "zip") (hm : X.mg "zip" = none) (ha : VA X S₀ [e, e2] wa) (hs : starEach [e, e2] X.env = (false, eval e X.env) :: starEach [e2] X.env := by rfl) (hpl : (backTo pos (starEach [e2] X.env)).any (·.1) = false := by rfl) :
    VI X S₀ (.Tuple elts kk tpos) (.Call (.Name "zip" p) [e, e2] [] pos) (wiZip wa) :=
  PI.imp (RZ.pi_zipA hg hm ha hs hpl) fun σ H R ⟨Hf, ρ, M, Φ, W, e, h, k⟩ => by
    refine ⟨Hf, ρ, M, _, W, e, h, fun ds M1 vs Hf1 H1 h1 W1 s1 i1 => ?_⟩
    unfold kZip at h1
    split at h1
    · rename_i es e2
      unfold zip2 at e2
      split at e2
      · cases e2
        obtain ⟨v, r, rfl, i2, i3⟩ := isDs_cons_inv i1
        obtain ⟨u, r, rfl, i4, i5⟩ := isDs_cons_inv i3
        rw [isDs_nil_inv i5]
        obtain ⟨a, xs, rfl, q1, q2⟩ := isD_lst.mp i2
        obtain ⟨b, ys, rfl, q3, q4⟩ := isD_lst.mp i4
        exact ⟨a, b, xs, ys, rfl, .inl ⟨ex_l W1.fro (SqL.of q1), ex_l W1.fro (SqL.of q3), k _ _ _ _ _ h1 W1 s1 (wk_zipL (SqL.of q1) q2 (SqL.of q3) q4)⟩⟩
      · cases e2
        obtain ⟨v, r, rfl, i2, i3⟩ := isDs_cons_inv i1
        obtain ⟨u, r, rfl, i4, i5⟩ := isDs_cons_inv i3
        rw [isDs_nil_inv i5]
        obtain ⟨a, xs, rfl, q1, q2⟩ := isD_tup.mp i2
        obtain ⟨b, ys, rfl, q3, q4⟩ := isD_tup.mp i4
        exact ⟨a, b, xs, ys, rfl, .inr ⟨(q1.up W1.fro).sq, (q3.up W1.fro).sq, k _ _ _ _ _ h1 W1 s1 (wk_zipT q1.sq q2 q3.sq q4)⟩⟩
      · cases e2
    · exact h1.elim
end
def sLoop (g : WG) (body : WS) (De : WN) : List D → Sg → Mem → Prop
  | [] => De.nx
  | x :: r => fun ρ M => g x ρ M (body ⟨sLoop g body De r, De.rt, De.nx, sLoop g body De r⟩)
def kFor (g : WG) (body : WS) (De : WN) (ρ : Sg) : List D → Mem → Prop := fun items M => sLoop g body De items ρ M
def sFor (wi : WI) (g : WG) (body : WS) : WS := fun D ρ M => wi ρ M (kFor g body D ρ)
theorem vs_for {X : Cx} {tg iter : Expr} {body : List Stmt} {wi : WI} {g : WG} {wb : WS} {vs : List Nat} {pos : Pos} (hp : PassesOwn (model X.prog X.w) X.A X.env X.xe) (hc : X.calm = true) (hi : VI X S₀ tg iter wi) (hg : VG X S₀ tg g vs) (hb : VSs X S₀ body wb)
    (hs : ∀ x, foldedSetIterable iter X.env x = pure x := by intro _; rfl) : VS X S₀ (.For tg iter body [] pos) (sFor wi g wb) :=
  PS.imp (ps_for hp hc hi hg hb hs) fun D σ H ⟨Hf, ρ, M, De, W, e, h, k⟩ => by
    refine ⟨Hf, ρ, M, _, W, e, h, fun items M0 J Hf0 H0 h0 W0 s0 wk => ?_⟩
    refine ⟨fun i m σ' H' => m = items.length - i ∧ i ≤ items.length ∧ ∃ Hf' ρ' M', Wd X.K S₀ Hf' M' H' ∧ EnvOk X.K Hf' σ' ρ' ∧ Ex Hf0 Hf' ∧ Stp Hf M H Hf' M' H' ∧ sLoop g wb De (items.drop i) ρ' M',
      ⟨items.length, by omega, by omega, Hf0, ρ, M0, W0, e.mono s0.ex, Ex.refl _, s0, h0⟩, fun i m σ' H' hW => ?_⟩
    obtain ⟨em, hi, Hf', ρ', M', W', e', x', s', hl⟩ := hW
    by_cases hlt : i < items.length
    · obtain ⟨d, hd⟩ : ∃ d, items[i]? = some d := ⟨_, List.getElem?_eq_getElem hlt⟩
      have ed : items.drop i = d :: items.drop (i + 1) := by
        rw [List.drop_eq_getElem_cons hlt]
        rw [List.getElem?_eq_getElem hlt] at hd
        cases hd; rfl
      rw [ed] at hl
      refine .inr ⟨wk.go i H' hlt (x'.trans W'.fro), _, fun σ2 H2 n => n, fun x H2 y => ?_⟩
      · obtain ⟨Hf2, W2, s2, i2⟩ := wk.take W' x' y hd
        refine ⟨Hf2, ρ', M', _, d, W2, e'.mono s2.ex, i2, hl, fun ρ3 M3 σ3 Hf3 H3 h3 W3 s3 e3 _ => ?_⟩
        have s4 := (s'.trans s2).trans s3
        have nxt : ∀ ρ5 M5 σ5 Hf5 H5, sLoop g wb De (items.drop (i + 1)) ρ5 M5 → Wd X.K S₀ Hf5 M5 H5 → Stp Hf3 M3 H3 Hf5 M5 H5 → EnvOk X.K Hf5 σ5 ρ5 →
            ∃ m', m' < m ∧ m' = items.length - (i + 1) ∧ i + 1 ≤ items.length ∧ ∃ Hf' ρ' M', Wd X.K S₀ Hf' M' H5 ∧ EnvOk X.K Hf' σ5 ρ' ∧ Ex Hf0 Hf' ∧ Stp Hf M H Hf' M' H5 ∧ sLoop g wb De (items.drop (i + 1)) ρ' M' :=
          fun ρ5 M5 σ5 Hf5 H5 h5 W5 s5 e5 => ⟨_, by omega, rfl, hlt, Hf5, ρ5, M5, W5, e5, ((x'.trans s2.ex).trans s3.ex).trans s5.ex, s4.trans s5, h5⟩
        exact ⟨Hf3, ρ3, M3, _, W3, e3, h3, ⟨nxt, k.rt.at s4, k.nx.at s4, nxt⟩⟩
    · have ei : i = items.length := by omega
      subst ei
      rw [List.drop_length] at hl
      exact .inl ⟨wk.stop _ H' (Nat.le_refl _) (x'.trans W'.fro), k.nx _ _ _ _ _ hl W' s' e'⟩
theorem loop_inv {g : WG} {body : WS} {De : WN} {items : List D} {ρ : Sg} {M : Mem} (P : List D → List D → Sg → Mem → Prop) (h0 : P [] items ρ M)
    (hs : ∀ pre x post ρ M (bk : Sg → Mem → Prop) (nx : Sg → Mem → Prop), items = pre ++ x :: post → P pre (x :: post) ρ M → bk = De.nx → (∀ ρ M, P (pre ++ [x]) post ρ M → nx ρ M) → g x ρ M (body ⟨nx, De.rt, bk, nx⟩))
    (hd : ∀ ρ M, P items [] ρ M → De.nx ρ M) : sLoop g body De items ρ M := by
  suffices h : ∀ (post pre : List D) ρ M, items = pre ++ post → P pre post ρ M → sLoop g body De post ρ M from h items [] ρ M rfl h0
  intro post
  induction post with
  | nil => intro pre ρ M e p; rw [List.append_nil] at e; subst e; exact hd ρ M p
  | cons x post ih =>
    intro pre ρ M e p
    exact hs pre x post ρ M _ _ e p rfl fun ρ' M' p' => ih (pre ++ [x]) ρ' M' (by rw [e, List.append_assoc]; rfl) p'
def kWhile (body : WS) (D : WN) (P : Nat → Sg → Mem → Prop) (m : Nat) (ρ : Sg) : Bool → Mem → Prop := fun b M => match b with
  | true => body ⟨fun ρ' M' => ∃ m', m' < m ∧ P m' ρ' M', D.rt, D.nx, fun ρ' M' => ∃ m', m' < m ∧ P m' ρ' M'⟩ ρ M
  | false => D.nx ρ M
def sWhile (c : WT) (body : WS) : WS := fun D ρ M => ∃ P : Nat → Sg → Mem → Prop, (∃ m, P m ρ M) ∧ ∀ m ρ M, P m ρ M → c ρ M (kWhile body D P m ρ)
theorem vs_while {X : Cx} {c : Expr} {body : List Stmt} {tc : WT} {wb : WS} {pos : Pos} (hp : PassesOwn (model X.prog X.w) X.A X.env X.xe) (hc : VT X S₀ c tc) (hb : VSs X S₀ body wb) : VS X S₀ (.While c body [] pos) (sWhile tc wb) :=
  PS.imp (ps_while hp hc hb) fun D σ H ⟨Hf, ρ, M, De, W, e, ⟨P, h0, hP⟩, k⟩ => by
    refine ⟨fun m σ' H' => ∃ Hf' ρ' M', Wd X.K S₀ Hf' M' H' ∧ EnvOk X.K Hf' σ' ρ' ∧ Stp Hf M H Hf' M' H' ∧ P m ρ' M', ?_, fun m σ' H' hW => ?_⟩
    · obtain ⟨m, h0⟩ := h0
      exact ⟨m, Hf, ρ, M, W, e, Stp.refl, h0⟩
    · obtain ⟨Hf', ρ', M', W', e', s', p'⟩ := hW
      refine ⟨Hf', ρ', M', _, W', e', hP m ρ' M' p', fun b M1 Hf1 H1 h1 W1 s1 => ?_⟩
      cases b with
      | true =>
        rw [if_pos rfl]
        refine ⟨fun σ2 H2 => ∃ m', m' < m ∧ ∃ Hf' ρ' M', Wd X.K S₀ Hf' M' H2 ∧ EnvOk X.K Hf' σ2 ρ' ∧ Stp Hf M H Hf' M' H2 ∧ P m' ρ' M', fun _ _ n => n, Hf1, ρ', M1, _, W1, e'.mono s1.ex, h1, ⟨?_, (k.rt.at s').at s1, (k.nx.at s').at s1, ?_⟩⟩
        · exact fun ρ5 M5 σ5 Hf5 H5 ⟨m', hm, h5⟩ W5 s5 e5 => ⟨m', hm, Hf5, ρ5, M5, W5, e5, (s'.trans s1).trans s5, h5⟩
        · exact fun ρ5 M5 σ5 Hf5 H5 ⟨m', hm, h5⟩ W5 s5 e5 => ⟨m', hm, Hf5, ρ5, M5, W5, e5, (s'.trans s1).trans s5, h5⟩
      | false =>
        rw [if_neg (by decide)]
        exact k.nx _ _ _ _ _ h1 W1 (s'.trans s1) (e'.mono s1.ex)
end VL
namespace VL
variable {S₀ : W0}
open PySem PySem.Spec PyProof.Rows L2
def wYes : WT := fun _ M Φ => Φ true M
def VTs (X : Cx) (S₀ : W0) (es : List Expr) (w : WT) : Prop := PTs X es (liftT X.K S₀ w)
theorem vts_nil {X : Cx} : VTs X S₀ [] wYes := PTs.imp pts_nil fun σ H Q ⟨Hf, ρ, M, Φ, W, e, h, k⟩ => k _ _ _ _ h W Stp.refl
def kLc3 (acc : List D) (k : List D → Mem → Prop) : KD := fun y M => k (acc ++ [y]) M
def kLc2 (te : WE) (ρ : Sg) (acc : List D) (k : List D → Mem → Prop) : Bool → Mem → Prop := fun b M => match b with | true => te ρ M (kLc3 acc k) | false => k acc M
def kLc1 (tt : WT) (te : WE) (acc : List D) (k : List D → Mem → Prop) : Sg → Mem → Prop := fun ρ M => tt ρ M (kLc2 te ρ acc k)
def wLcGo (g : WG) (tt : WT) (te : WE) (ρ : Sg) (k : List D → Mem → Prop) : List D → List D → Mem → Prop
  | [] => k
  | x :: r => fun acc M => g x ρ M (kLc1 tt te acc (wLcGo g tt te ρ k r))
def kLcF (Φ : KD) : List D → Mem → Prop := fun acc M => Φ (.lst acc) M
def kLc0 (g : WG) (tt : WT) (te : WE) (ρ : Sg) (k : List D → Mem → Prop) : List D → Mem → Prop := fun items M => items.length ≤ lim ∧ wLcGo g tt te ρ k items [] M
def wLc (wi : WI) (g : WG) (tt : WT) (te : WE) (vs : List Nat) : WE := fun ρ M Φ => wi ρ M (kLc0 g tt te (wipeD ρ vs) (kLcF Φ))
theorem lift_lc {K : PySem.W.Frag} {wi : WI} {g : WG} {tt : WT} {te : WE} {vs : List Nat} {σ : St} {H : Hp} {Q : VK} {Hf : Hp} {ρ : Sg} {M : Mem} {k : List D → Mem → Prop} (W : Wd K S₀ Hf M H) (e : EnvOk K Hf σ ρ) (h : wi ρ M (kLc0 g tt te (wipeD ρ vs) k))
    (fin : ∀ acc M' H' Hf' D us, k acc M' → Wd K S₀ Hf' M' H' → Stp Hf M H Hf' M' H' → (∀ o, H D = some o → Hf D = none → M D = none → False) → H' D = some (.lst us) → Hf' D = none → M' D = none → IsDs K Hf' acc us → Q (.ref D) H') :
    tLc (liftI K S₀ wi) (liftG K S₀ g vs) (liftT K S₀ tt) (liftE K S₀ te) vs σ H Q := by
  refine ⟨Hf, ρ, M, _, W, e, h, fun items M0 J Hf0 H0 h0 W0 s0 wk => fun D hD => ?_⟩
  obtain ⟨hlim, h0⟩ := h0
  have hDf := W0.fresh_f hD
  have hDm := W0.fresh_m hD
  have nd : ∀ o, H D = some o → Hf D = none → M D = none → False := fun o q1 q2 q3 => by
    have := (s0.out D o q1 q2 q3).1
    rw [hD] at this; cases this
  have up2 : ∀ {Hf1 M1 H1 o}, Stp Hf M H Hf1 M1 H1 → Stp Hf M H Hf1 M1 (upd H1 D o) := fun {Hf1 M1 H1 o} s1 => ⟨s1.ex, fun a u q1 q2 q3 => by
      have n : a ≠ D := fun z => by subst z; exact nd u q1 q2 q3
      rw [upd_ne n]; exact s1.out a u q1 q2 q3⟩
  have up1 : ∀ {Hf1 M1 H1 us}, Wd K S₀ Hf1 M1 H1 → Hf1 D = none → M1 D = none → Stp Hf M H Hf1 M1 H1 → Wd K S₀ Hf1 M1 (upd H1 D (.lst us)) := fun {Hf1 M1 H1 us} W1 z1 z2 s1 => ⟨⟨fun a u q => by
      have n : a ≠ D := fun z => by subst z; rw [z1] at q; cases q
      rw [upd_ne n]; exact W1.fro a u q, fun a m q => by
      have n : a ≠ D := fun z => by subst z; rw [z2] at q; cases q
      obtain ⟨q1, o, q2, q3⟩ := W1.mem a m q
      exact ⟨q1, o, by rw [upd_ne n]; exact q2, q3⟩, tups_upd W1.tps fun _ z => nomatch z⟩, W.st.trans (up2 s1)⟩
  refine ⟨fun i m H' => m = items.length - i ∧ i ≤ items.length ∧ ∃ Hf' M' acc us, Wd K S₀ Hf' M' H' ∧ Ex Hf0 Hf' ∧ Stp Hf M H Hf' M' H' ∧ H' D = some (.lst us) ∧ Hf' D = none ∧ M' D = none ∧ IsDs K Hf' acc us ∧ acc.length ≤ i ∧ wLcGo g tt te (wipeD ρ vs) k (items.drop i) acc M',
    ⟨items.length, by omega, by omega, Hf0, M0, [], [], up1 W0 hDf hDm s0, Ex.refl _, up2 s0, upd_same, hDf, hDm, isDs_nil, Nat.le_refl _, h0⟩, fun i m H' hW => ?_⟩
  obtain ⟨em, hi, Hf', M', acc, us, W', x', s', d1, d2, d3, ia, la, hl⟩ := hW
  by_cases hlt : i < items.length
  · obtain ⟨d, hd⟩ : ∃ d, items[i]? = some d := ⟨_, List.getElem?_eq_getElem hlt⟩
    have ed : items.drop i = d :: items.drop (i + 1) := by
      rw [List.drop_eq_getElem_cons hlt]
      rw [List.getElem?_eq_getElem hlt] at hd
      cases hd; rfl
    rw [ed] at hl
    refine .inr ⟨wk.go i H' hlt (x'.trans W'.fro), _, fun H2 n => n, fun x H2 y => ?_⟩
    obtain ⟨Hf2, W2, s2, i2⟩ := wk.take W' x' y hd
    obtain ⟨d4, d5, d6⟩ := s2.out D _ d1 d2 d3
    refine ⟨Hf2, wipeD ρ vs, M', _, d, W2, (e.wipe vs).mono (s'.ex.trans s2.ex), i2, hl, fun ρ3 M3 σ3 Hf3 H3 h3 W3 s3 e3 w3 => ⟨by rw [w3, wipe_wipe], ?_⟩⟩
    obtain ⟨d7, d8, d9⟩ := s3.out D _ d4 d5 d6
    refine ⟨Hf3, ρ3, M3, _, W3, e3, h3, fun b M4 Hf4 H4 h4 W4 s4 => ?_⟩
    obtain ⟨d10, d11, d12⟩ := s4.out D _ d7 d8 d9
    have s5 := ((s'.trans s2).trans s3).trans s4
    have x5 := ((x'.trans s2.ex).trans s3.ex).trans s4.ex
    cases b with
    | true =>
      rw [if_pos rfl]
      refine ⟨Hf4, ρ3, M4, _, W4, e3.mono s4.ex, h4, fun y M6 v Hf6 H6 h6 W6 s6 i6 => ?_⟩
      obtain ⟨d13, d14, d15⟩ := s6.out D _ d10 d11 d12
      have ia6 := IsDs.mono (((s2.ex.trans s3.ex).trans s4.ex).trans s6.ex) _ _ ia
      refine ⟨us, d13, by rw [← ia.len]; exact lim_lt (by omega), _, ?_, rfl, hlt, Hf6, M6, acc ++ [y], us ++ [v], up1 W6 d14 d15 (s5.trans s6), x5.trans s6.ex, up2 (s5.trans s6), upd_same, d14, d15, ia6.app (isDs_cons i6 isDs_nil), by simp; omega, h6⟩
      omega
    | false =>
      rw [if_neg (by decide)]
      exact ⟨_, by omega, rfl, hlt, Hf4, M4, acc, us, W4, x5, s5, d10, d11, d12, IsDs.mono ((s2.ex.trans s3.ex).trans s4.ex) _ _ ia, by omega, h4⟩
  · have ei : i = items.length := by omega
    subst ei
    rw [List.drop_length] at hl
    exact .inl ⟨wk.stop _ H' (Nat.le_refl _) (x'.trans W'.fro), fin acc M' H' Hf' D us hl W' s' nd d1 d2 d3 ia⟩
section
variable {K : PySem.W.Frag} {Hf Hf' : Hp} {M M' : Mem} {H H' : Hp}
theorem lc_finF {Φ : KD} {Q : VK} (W₀ : Stp S₀.Hf S₀.M S₀.H Hf M H) (kn : Knt K S₀ Hf M H Φ Q) : ∀ acc M' H' Hf' D us, kLcF Φ acc M' → Wd K S₀ Hf' M' H' → Stp Hf M H Hf' M' H' → (∀ o, H D = some o → Hf D = none → M D = none → False) → H' D = some (.lst us) → Hf' D = none → M' D = none → IsDs K Hf' acc us → Q (.ref D) H' := by
  intro acc M' H' Hf' D us h W s nd d1 d2 d3 i
  have e := Ex.new (o := .lst us) d2
  suffices z : Wr K (upd Hf' D (.lst us)) M' H' ∧ Stp Hf M H (upd Hf' D (.lst us)) M' H' from kn _ _ _ (upd Hf' D (.lst us)) H' h ⟨z.1, W₀.trans z.2⟩ z.2 (isD_lst.mpr ⟨D, us, rfl, upd_same, IsDs.mono e _ _ i⟩)
  refine ⟨⟨fun a u q => ?_, fun a m q => ?_, fun a ns q => ?_⟩, ⟨s.ex.trans e, fun a u q1 q2 q3 => ?_⟩⟩
  · by_cases n : a = D
    · subst n; rw [upd_same] at q; rw [d1]; exact q
    · rw [upd_ne n] at q; exact W.fro a u q
  · have n : a ≠ D := fun z => by subst z; rw [d3] at q; cases q
    obtain ⟨q1, o, q2, q3⟩ := W.mem a m q
    exact ⟨by rw [upd_ne n]; exact q1, o, q2, q3.mono e⟩
  · have n : a ≠ D := fun z => by subst z; rw [d1] at q; cases q
    rw [upd_ne n]; exact W.tps a ns q
  · have n : a ≠ D := fun z => by subst z; exact nd u q1 q2 q3
    obtain ⟨z1, z2, z3⟩ := s.out a u q1 q2 q3
    exact ⟨z1, by rw [upd_ne n]; exact z2, z3⟩
end
section
variable {X : Cx} {elt tg iter : Expr} {ifs : List Expr} {scope : Scope} {own : List (Str × Nat)} {pos : Pos} {wi : WI} {g : WG} {tt : WT} {te : WE}
theorem ve_lc (hc : X.calm = true) (hN : X.N.Nodup) (hi : VI X S₀ tg iter wi) (ok : BlkOk X.N X.env.scope scope own)
    (hg : ∀ (s : Shared) (H : Hp) (C : Addr) (cl : List (Str × Addr)) (fp : List Addr), VG (X.blk s H scope (compEnvC scope cl C X.env) fp) S₀ tg g (own.map (·.2))) (ht : ∀ (s : Shared) (H : Hp) (C : Addr) (cl : List (Str × Addr)) (fp : List Addr), VTs (X.blk s H scope (compEnvC scope cl C X.env) fp) S₀ ifs tt)
    (he : ∀ (s : Shared) (H : Hp) (C : Addr) (cl : List (Str × Addr)) (fp : List Addr), VE (X.blk s H scope (compEnvC scope cl C X.env) fp) S₀ elt te) (hs : ∀ x, foldedSetIterable iter X.env x = pure x := by intro _; rfl) :
    VE X S₀ (.ListComp elt [⟨tg, iter, ifs, 0⟩] scope pos) (wLc wi g tt te (own.map (·.2))) :=
  PE.imp (pe_lc (g := liftG X.K S₀ g (own.map fun (x : Str × Nat) => x.2)) (tt := liftT X.K S₀ tt) (te := liftE X.K S₀ te) hc hN hi ok hg ht he hs) fun σ H Q ⟨Hf, ρ, M, Φ, W, e, h, k⟩ => lift_lc W e h (lc_finF W.st k)
theorem vs_setLc (i : Nat) {y : Str} {py spos : Pos} (hc : X.calm = true) (hN : X.N.Nodup) (hi : VI X S₀ tg iter wi) (ok : BlkOk X.N X.env.scope scope own)
    (hg : ∀ (s : Shared) (H : Hp) (C : Addr) (cl : List (Str × Addr)) (fp : List Addr), VG (X.blk s H scope (compEnvC scope cl C X.env) fp) S₀ tg g (own.map (·.2))) (ht : ∀ (s : Shared) (H : Hp) (C : Addr) (cl : List (Str × Addr)) (fp : List Addr), VTs (X.blk s H scope (compEnvC scope cl C X.env) fp) S₀ ifs tt)
    (he : ∀ (s : Shared) (H : Hp) (C : Addr) (cl : List (Str × Addr)) (fp : List Addr), VE (X.blk s H scope (compEnvC scope cl C X.env) fp) S₀ elt te)
    (hsw : swapsWith (.ListComp elt [⟨tg, iter, ifs, 0⟩] scope pos) (some (.Name y py)) spos.line X.env = pure true) (hy : X.N[i]? = some y := by rfl) (hyl : X.env.scope.names.lookup y = some .local := by rfl) (hs : ∀ x, foldedSetIterable iter X.env x = pure x := by intro _; rfl) :
    VS X S₀ (.Assign [.Name y py] (.ListComp elt [⟨tg, iter, ifs, 0⟩] scope pos) spos) (sAsg (wLc wi g tt te (own.map (·.2))) (wgName i)) :=
  PS.imp (ps_setLc (g := liftG X.K S₀ g (own.map fun (x : Str × Nat) => x.2)) (tt := liftT X.K S₀ tt) (te := liftE X.K S₀ te) hc hN hy hyl hsw hi ok hg ht he hs) fun D σ H ⟨Hf, ρ, M, De, W, e, h, k⟩ => by
    refine lift_lc (Q := fun x H1 => D.nx (σ.set i (some x)) H1) W e h (lc_finF W.st (Φ := kAsg (wgName i) De ρ) (Q := fun x H1 => D.nx (σ.set i (some x)) H1) ?_)
    exact fun d M' v Hf' H' p W' s' i' => k.nx _ _ _ _ _ p W' s' ((e.mono s'.ex).set i i')
end
theorem lcGo_map {g : WG} {tt : WT} {te : WE} {ρ : Sg} {k : List D → Mem → Prop} {M : Mem} (b : D → Bool) (f : D → D) : ∀ (items acc : List D),
    (∀ x ∈ items, ∀ Ψ : List D → Mem → Prop, ∀ acc, (b x = true → Ψ (acc ++ [f x]) M) → (b x = false → Ψ acc M) → g x ρ M (kLc1 tt te acc Ψ)) → k (acc ++ (items.filter b).map f) M → wLcGo g tt te ρ k items acc M
  | [], acc, _, h => by
    show k acc M
    simpa using h
  | x :: r, acc, hx, h => by
    refine hx x (List.mem_cons_self ..) _ _ (fun hb => ?_) (fun hb => ?_)
    · refine lcGo_map b f r _ (fun y hy => hx y (List.mem_cons_of_mem _ hy)) ?_
      rw [List.append_assoc]
      rw [List.filter_cons, if_pos hb] at h
      exact h
    · refine lcGo_map b f r _ (fun y hy => hx y (List.mem_cons_of_mem _ hy)) ?_
      rw [List.filter_cons, if_neg (by rw [hb]; decide)] at h
      exact h
theorem lcGo_inv {g : WG} {tt : WT} {te : WE} {ρ : Sg} {k : List D → Mem → Prop} {items : List D} {M : Mem} (P : List D → List D → List D → Mem → Prop) (h0 : P [] items [] M)
    (hs : ∀ pre x post acc M (Ψ : List D → Mem → Prop), items = pre ++ x :: post → P pre (x :: post) acc M → (∀ acc M, P (pre ++ [x]) post acc M → Ψ acc M) → g x ρ M (kLc1 tt te acc Ψ))
    (hd : ∀ acc M, P items [] acc M → k acc M) : wLcGo g tt te ρ k items [] M := by
  suffices h : ∀ (post pre acc : List D) M, items = pre ++ post → P pre post acc M → wLcGo g tt te ρ k post acc M from h items [] [] M rfl h0
  intro post
  induction post with
  | nil => intro pre acc M e p; rw [List.append_nil] at e; subst e; exact hd acc M p
  | cons x post ih =>
    intro pre acc M e p
    exact hs pre x post acc M _ e p fun acc' M' p' => ih (pre ++ [x]) acc' M' (by rw [e, List.append_assoc]; rfl) p'
abbrev W3 := List D → Mem → KD → Prop
def Knr (K : PySem.W.Frag) (Hf : Hp) (M : Mem) (H : Hp) (Φ : KD) (Q : VK) : Prop := ∀ d M' v Hf' H', Φ d M' → Wr K Hf' M' H' → Stp Hf M H Hf' M' H' → IsD K Hf' d v → Q v H'
theorem Knt.raw {K : PySem.W.Frag} {Hf : Hp} {M : Mem} {H : Hp} {Φ : KD} {Q : VK} (k : Knt K S₀ Hf M H Φ Q) (W : Wd K S₀ Hf M H) : Knr K Hf M H Φ Q := fun d M' v Hf' H' p W' s i => k d M' v Hf' H' p ⟨W', W.st.trans s⟩ s i
theorem Knr.of {K : PySem.W.Frag} {Hf : Hp} {M : Mem} {H : Hp} {Φ : KD} {Q : VK} (k : Knr K Hf M H Φ Q) : Knt K ⟨Hf, M, H⟩ Hf M H Φ Q := fun d M' v Hf' H' p W' s i => k d M' v Hf' H' p W'.toWr s i
theorem Wr.begin {K : PySem.W.Frag} {Hf : Hp} {M : Mem} {H : Hp} (W : Wr K Hf M H) : Wd K ⟨Hf, M, H⟩ Hf M H := ⟨W, Stp.refl⟩
def spW (K : PySem.W.Frag) (Wf : W3) : Sp := fun vs H Q _ => ∃ Hf M ds Φ, Wr K Hf M H ∧ IsDs K Hf ds vs ∧ Wf ds M Φ ∧ Knr K Hf M H Φ Q
def startD (n : Nat) (ds : List D) : Sg := ds.map some ++ List.replicate (n - ds.length) none
theorem env_start {K : PySem.W.Frag} {Hf : Hp} : ∀ {ds : List D} {vs : List V} (n : Nat), IsDs K Hf ds vs → EnvOk K Hf (vs.map some ++ List.replicate n none) (ds.map some ++ List.replicate n none) := by
  intro ds vs n h
  refine ⟨by simp [h.len], fun i d q => ?_⟩
  by_cases hi : i < ds.length
  · rw [List.getElem?_append_left (by simpa using hi), List.getElem?_map] at q
    cases e : ds[i]? with
    | none => rw [e] at q; cases q
    | some d' =>
      rw [e] at q
      cases q
      obtain ⟨v, h1, h2⟩ := h.get e
      refine ⟨v, ?_, h2⟩
      rw [List.getElem?_append_left (by rw [List.length_map, ← h.len]; exact hi), List.getElem?_map, h1]
      rfl
  · rw [List.getElem?_append_right (by rw [List.length_map]; omega)] at q
    rw [List.getElem?_replicate] at q
    split at q <;> cases q
def endsD (Φ : KD) : WN := ⟨fun _ M => Φ .non M, Φ, fun _ _ => False, fun _ _ => False⟩
section
variable {P : Program} {w : World} {K : PySem.W.Frag} {mg : Str → Option Value} {base : Heap}
theorem fnW {x qual : Str} {st : Stmt} {f : Addr} {fd : FuncData} {N ps : List Str} {k : Nat} {Wf : W3} (F : Fun K x qual st f fd) (S : FnScope N ps (defScope st)) (len : ∀ ds M Φ, Wf ds M Φ → ds.length = ps.length)
    (h : ∀ (cdv : Value) (A : Around) (outer : List Env) (s : Shared) (H : Hp) (E : XK), Room k (A.deeper (envOfC qual (defScope st) s.heap.objs.size f cdv)) →
      ∀ S₀ : W0, ∃ w', VSs (cxOf CX0 P w K mg base N qual (defScope st) f cdv A outer s H E).nox S₀ (defBody st) w' ∧ ∀ ds M Φ, Wf ds M Φ → w' (endsD Φ) (startD N.length ds) M) : FnOk P w K mg base CX0 (k + 1) f fd ps (spW K Wf) := by
  refine F.ok S (fun vs H Q E h => ?_) (fun cdv A outer s H vs Q E hr hsp => ?_)
  · obtain ⟨Hf, M, ds, Φ, _, i, hw, _⟩ := h
    rw [← i.len]
    exact len ds M Φ hw
  · obtain ⟨Hf, M, ds, Φ, W, i, hw, kn⟩ := hsp
    have kn := kn.of
    obtain ⟨w', hv, hw'⟩ := h cdv A outer s H E hr ⟨Hf, M, H⟩
    refine ⟨_, hv, ?_⟩
    refine ⟨Hf, startD N.length ds, M, endsD Φ, W.begin, ?_, hw' ds M Φ hw, ⟨fun ρ' M' σ' Hf' H' p W' s' e' => kn _ _ _ _ _ p W' s' (isD_non.mpr rfl), kn, (fun ρ' M' σ' Hf' H' p W' s' e' => (p : False).elim), (fun ρ' M' σ' Hf' H' p W' s' e' => (p : False).elim)⟩⟩
    have e := env_start (K := K) (Hf := Hf) (N.length - ds.length) i
    unfold startD
    rw [show start N vs = vs.map some ++ List.replicate (N.length - vs.length) none from rfl, ← i.len]
    exact e
end
def kCall (Wf : W3) (Φ : KD) : List D → Mem → Prop := fun ds M => Wf ds M Φ
def wCall (Wf : W3) (wa : WA) : WE := fun ρ M Φ => wa ρ M (kCall Wf Φ)
def kCallD (Wf : W3) (dds : List D) (Φ : KD) : List D → Mem → Prop := fun ds M => Wf (ds ++ dds) M Φ
def wCallD (Wf : W3) (dds : List D) (wa : WA) : WE := fun ρ M Φ => wa ρ M (kCallD Wf dds Φ)
section
variable {X : Cx} {k : Nat} {f : Addr} {fd : FuncData} {ps : List Str} {Wf : W3} {x : Str} {p pos : Pos} {e : Expr} {es : List Expr} {wa : WA} {dvs : List V} {ds : List Value}
theorem ve_call (F : FnOk X.prog X.w X.K X.mg X.base CX0 k f fd ps (spW X.K Wf)) (hr : Room k X.A) (hg : Gl X x) (hm : X.mg x = some (.ref f)) (hk : PySem.W.keepIn X.K (.ref f) = true) (hb : Binds X.K fd ps [])
    (ha : VA X S₀ (e :: es) wa) (hdb : (x == ("__debug__" : Str)) = false := by decide) (he : starEach (e :: es) X.env = (false, eval e X.env) :: starEach es X.env := by rfl) (hpl : (backTo pos (starEach es X.env)).any (·.1) = false := by rfl) :
    VE X S₀ (.Call (.Name x p) (e :: es) [] pos) (wCall Wf wa) :=
  PE.imp (pe_call F hr hg hm hk hb .nil pass0 ha hdb he hpl) fun σ H Q ⟨Hf, ρ, M, Φ, W, e, h, k⟩ =>
    ⟨Hf, ρ, M, _, W, e, h, fun dd M1 vs Hf1 H1 h1 W1 s1 i1 => ⟨Hf1, M1, dd, Φ, W1.toWr, by rw [List.append_nil]; exact i1, h1, (k.at s1).raw W1⟩⟩
theorem PK.imp {kws : List Keyword} {t t' : TA} (h : PK X kws t) (i : ∀ σ H Q, t' σ H Q → t σ H Q) : PK X kws t' := ⟨fun p pins s σ H Q I q => h.run p pins s σ H Q I (i σ H Q q)⟩
def kCallK2 (n m : Nat) (Wf : W3) (gD : List D → List D → List D) (ds : List D) (Φ : KD) : List D → Mem → Prop := fun zs M => (ds.length = n ∧ zs.length = m) ∧ Wf (gD ds zs) M Φ
def kCallK1 (n m : Nat) (Wf : W3) (gD : List D → List D → List D) (wk : WA) (ρ : Sg) (Φ : KD) : List D → Mem → Prop := fun ds M => wk ρ M (kCallK2 n m Wf gD ds Φ)
def wCallK (n m : Nat) (Wf : W3) (gD : List D → List D → List D) (wa wk : WA) : WE := fun ρ M Φ => wa ρ M (kCallK1 n m Wf gD wk ρ Φ)
end
def tyN (M : Mem) : D → Option String
  | .non => some "NoneType" | .bl _ => some "bool" | .int _ => some "int" | .str _ => some "str" | .tup _ => some "tuple" | .lst _ => some "list" | .fz _ => some "list"
  | .ref a => match M a with | some (.lst _) => some "list" | some (.dK _) => some "dict" | some (.dT _) => some "dict" | _ => none
  | _ => none
def isiB (t n : String) : Bool := t == n || (t == "bool" && n == "int")
def tyNames : List String := ["NoneType", "bool", "int", "str", "tuple", "list", "dict"]
theorem isi_kit : ∀ t ∈ tyNames, ∀ n ∈ tyNames, kitB t n = some (isiB t n) := by decide +kernel
def clsN : D → Option (List String)
  | .ty n => some [n]
  | .tup (d :: ds) => tysD (d :: ds)
  | _ => none
where tysD : List D → Option (List String)
  | [] => some []
  | .ty n :: r => (tysD r).map (n :: ·)
  | _ :: _ => none
def wrIsi : WC := fun ds M Φ => match ds with
  | [x, c] => match tyN M x, clsN c with
    | some t, some ns => (ns.all (tyNames.contains ·)) = true ∧ Φ (.bl (ns.any (isiB t))) M
    | _, _ => False
  | _ => False
section
variable {K : PySem.W.Frag} {Hf : Hp} {M : Mem} {H : Hp}
theorem tyN_x (W : Wd K S₀ Hf M H) {x : D} {v : V} {t : String} (i : IsD K Hf x v) (h : tyN M x = some t) : TyX K H v (.type t) ∧ t ∈ tyNames := by
  cases x <;> simp only [tyN] at h
  case non => cases h; rw [isD_non.mp i]; exact ⟨.base .non, by decide⟩
  case bl => cases h; rw [isD_bl.mp i]; exact ⟨.base (.bl _), by decide⟩
  case int => cases h; rw [isD_int.mp i]; exact ⟨.base (.int _), by decide⟩
  case str => cases h; rw [isD_str.mp i]; exact ⟨.base (.str _), by decide⟩
  case tup =>
    cases h
    obtain ⟨a, xs, rfl, h1, _⟩ := isD_tup.mp i
    refine ⟨?_, by decide⟩
    rcases h1 with h1 | ⟨o, ns, h1, _⟩ | ⟨o, its, n, h1, h2, _⟩
    · exact .base (.tup (W.fro _ _ h1))
    · exact .fTuple (W.fro _ _ h1)
    · exact .kTuple h1 h2
  case lst =>
    cases h
    obtain ⟨a, xs, rfl, h1, _⟩ := isD_lst.mp i
    exact ⟨.base (.lst (W.fro _ _ h1)), by decide⟩
  case fz =>
    cases h
    obtain ⟨a, xs, rfl, h1, _⟩ := isD_fz.mp i
    refine ⟨?_, by decide⟩
    rcases h1 with (h1 | ⟨o, h1⟩) | ⟨o, its, n, h1, h2, _⟩
    · exact .base (.lst (W.fro _ _ h1))
    · exact .base (.frz (W.fro _ _ h1))
    · exact .kList h1 h2
  case ref a =>
    rw [isD_ref.mp i]
    split at h <;> cases h
    · rename_i e; obtain ⟨_, o, h1, xs, rfl, _⟩ := W.mem _ _ e; exact ⟨.base (.lst h1), by decide⟩
    · rename_i e; obtain ⟨_, o, h1, xs, rfl, _⟩ := W.mem _ _ e; exact ⟨.base (.dK h1), by decide⟩
    · rename_i e; obtain ⟨_, o, h1, xs, rfl, _⟩ := W.mem _ _ e; exact ⟨.base (.dT h1), by decide⟩
  all_goals cases h
theorem kit_any {t : String} (ht : t ∈ tyNames) : ∀ {ns : List String}, (ns.all (tyNames.contains ·)) = true → PySem.W.kitAny K (.type t) (ns.map Value.type) = some (ns.any (isiB t))
  | [], _ => kitAny_nil
  | n :: r, h => by
    rw [List.all_cons, Bool.and_eq_true] at h
    have hn : n ∈ tyNames := by simpa using h.1
    have ih := kit_any ht h.2
    have e := kit_ty (K := K) (isi_kit t ht n hn)
    rw [List.map_cons, List.any_cons]
    refine kitAny_cons e (fun hb => ?_) (fun hb => by rw [hb]; rfl)
    rw [hb, Bool.false_or]
    exact ih
theorem tys_vals : ∀ {ds : List D} {vs : List V} {ns : List String}, IsDs K Hf ds vs → clsN.tysD ds = some ns → vs = ns.map V.ty
  | [], vs, ns, i, h => by cases h; exact isDs_nil_inv i
  | d :: r, vs, ns, i, h => by
    obtain ⟨v, t, rfl, h1, h2⟩ := isDs_cons_inv i
    cases d <;> try cases h
    rename_i n
    simp only [clsN.tysD] at h
    cases e : clsN.tysD r with
    | none => rw [e] at h; cases h
    | some ms => rw [e] at h; cases h; rw [tys_vals h2 e, isD_ty.mp h1]; rfl
theorem clsV_all : ∀ ns : List String, Paired ClsV (ns.map V.ty) (ns.map Value.type)
  | [] => .nil
  | n :: r => .cons (.ty n) (clsV_all r)
theorem lk_isi : LkC K (fun xs H Q => rIsi K xs H Q ∨ rIsiT K xs H Q ∨ rIsiK K xs H Q) wrIsi := by
  intro S₀ Hf M H ds vs Φ Q W i h k
  unfold wrIsi at h
  split at h
  · rename_i x c
    split at h
    · rename_i t ns e1 e2
      obtain ⟨v, r, rfl, i1, i2⟩ := isDs_cons_inv i
      obtain ⟨u, r, rfl, i3, i4⟩ := isDs_cons_inv i2
      rw [isDs_nil_inv i4]
      obtain ⟨tx, ht⟩ := tyN_x W i1 e1
      have ka := kit_any (K := K) ht h.1
      have q := k.go W h.2 (isD_bl.mpr rfl)
      cases c <;> simp only [clsN] at e2 <;> try cases e2
      · rw [isD_ty.mp i3]
        refine .inl ⟨v, _, _, _, _, rfl, .ty _, tx, ?_, q⟩
        rw [List.any_cons, List.any_nil, Bool.or_false]
        rw [List.all_cons, Bool.and_eq_true] at h
        exact kit_ty (isi_kit t ht _ (by simpa using h.1.1))
      · rename_i cs
        have e2 : cs ≠ [] ∧ clsN.tysD cs = some ns := by
          cases cs with
          | nil => cases e2
          | cons d cs => exact ⟨List.cons_ne_nil _ _, e2⟩
        obtain ⟨ne, e2⟩ := e2
        obtain ⟨a, xs, rfl, h1, h2⟩ := isD_tup.mp i3
        have hxs := tys_vals h2 e2
        have hlen := h2.len
        rw [hxs] at h1
        rcases h1 with h1 | ⟨o, ms, h1, hm⟩ | ⟨o, its, n, h1, hc, hd, hz, hv⟩
        · exact .inr (.inl ⟨v, a, _, _, _, _, rfl, W.fro _ _ h1, clsV_all ns, tx, ka, q⟩)
        · exfalso
          cases ns with
          | nil =>
            rw [hxs] at hlen
            exact ne (List.length_eq_zero_iff.mp hlen)
          | cons n ns =>
            cases ms with
            | nil => cases hm
            | cons m ms => cases hm
        · refine .inr (.inr ⟨v, a, o.dict, ns.map Value.type, n, o.slots, _, _, rfl, ?_, tx, ka, q⟩)
          have e := ClsV.all (clsV_all ns) hv
          have e2 : its = (ns.map Value.type).toArray := by rw [← e]
          rw [h1]
          cases o
          simp only at hc hd
          rw [hc, hd, e2]
    · exact h.elim
  · exact h.elim
end
theorem call_isiA {X : Cx} : CallR X (.builtin "isinstance") (fun xs H Q => rIsi X.K xs H Q ∨ rIsiT X.K xs H Q ∨ rIsiK X.K xs H Q) := CallR.or call_isi (CallR.or call_isiT call_isiK)
theorem ve_isi {X : Cx} {p pos : Pos} {e e2 : Expr} {wa : WA} (hg : Gl X "isinstance") (hm : X.mg "isinstance" = none) (ha : VA X S₀ [e, e2] wa) (he : starEach [e, e2] X.env = (false, eval e X.env) :: starEach [e2] X.env := by rfl) (hpl : (backTo pos (starEach [e2] X.env)).any (·.1) = false := by rfl) :
    VE X S₀ (.Call (.Name "isinstance" p) [e, e2] [] pos) (wCB wrIsi wa) := ve_callB call_isiA lk_isi hg hm (by decide +kernel) ha (he := he) (hpl := hpl)
end VL
namespace VL
variable {S₀ : W0}
open PySem PySem.Spec PyProof.Rows L2
def wrAddM : WR := fun x y M Φ => match lstM M x, lstM M y with
  | some a, some b => a.length + b.length ≤ lim ∧ ∀ p, M p = none → Φ (.ref p) (put M p (.lst (a ++ b)))
  | _, _ => False
def kCh4 (wr' : WR) (y : D) (Φ : KD) : KD := fun z M => wr' y z M Φ
def kCh3 (wr' : WR) (wc : WE) (ρ : Sg) (y : D) (Φ : KD) : KD := fun k M => match k with | .bl true => wc ρ M (kCh4 wr' y Φ) | .bl false => Φ (.bl false) M | _ => False
def kCh2 (wr wr' : WR) (wc : WE) (ρ : Sg) (x : D) (Φ : KD) : KD := fun y M => wr x y M (kCh3 wr' wc ρ y Φ)
def kCh1 (wr wr' : WR) (wb wc : WE) (ρ : Sg) (Φ : KD) : KD := fun x M => wb ρ M (kCh2 wr wr' wc ρ x Φ)
def wChain (wr wr' : WR) (wa wb wc : WE) : WE := fun ρ M Φ => wa ρ M (kCh1 wr wr' wb wc ρ Φ)
theorem lift_chain {K : PySem.W.Frag} {r r' : R2} {wr wr' : WR} {wa wb wc : WE} (lk : LkR K r wr) (lk' : LkR K r' wr') {σ : St} {H : Hp} {Q : VK} (h : liftE K S₀ (wChain wr wr' wa wb wc) σ H Q) : tChain r r' (liftE K S₀ wa) (liftE K S₀ wb) (liftE K S₀ wc) σ H Q := by
  obtain ⟨Hf, ρ, M, Φ, W, e, h, k⟩ := h
  refine ⟨Hf, ρ, M, _, W, e, h, fun x M1 v Hf1 H1 h1 W1 s1 i1 => ?_⟩
  refine ⟨Hf1, ρ, M1, _, W1, e.mono s1.ex, h1, fun y M2 u Hf2 H2 h2 W2 s2 i2 => ?_⟩
  refine lk _ Hf2 M2 H2 x y v u _ _ W2 (IsD.mono s2.ex _ _ i1) i2 h2 fun z M3 t Hf3 H3 h3 W3 s3 i3 => ?_
  have k3 := k.at ((s1.trans s2).trans s3)
  unfold kCh3 at h3
  split at h3
  · refine ⟨true, isD_bl.mp i3, ?_⟩
    rw [if_pos rfl]
    refine ⟨Hf3, ρ, M3, _, W3, e.mono ((s1.ex.trans s2.ex).trans s3.ex), h3, fun z M4 t2 Hf4 H4 h4 W4 s4 i4 => ?_⟩
    exact lk' _ Hf4 M4 H4 y z u t2 Φ Q W4 (IsD.mono (s3.ex.trans s4.ex) _ _ i2) i4 h4 (k3.at s4)
  · refine ⟨false, isD_bl.mp i3, ?_⟩
    rw [if_neg (by decide)]
    exact k3.go W3 h3 (isD_bl.mpr rfl)
  · exact h3.elim
abbrev wch_le : WR := wrI fun i j => .bl (decide (i ≤ j))
structure Ch (op : CmpOp) (r : R2) (wr : WR) : Prop where
  op_ : ∀ X : Cx, OpR X (compareOp op) r
  lk : ∀ K, LkR K r wr
theorem ch_le : Ch .LtE (rI0 fun i j => .bl (decide (i ≤ j))) wch_le := ⟨fun _ => op_le, fun _ => lk_I0 fun _ _ _ => isD_bl.mpr rfl⟩
section
variable {X : Cx} {op op' : CmpOp} {r r' : R2} {wr wr' : WR} {a b c : Expr} {wa wb wc : WE} {pos : Pos}
theorem ve_chain (h1 : Ch op r wr) (h2 : Ch op' r' wr') (ha : VE X S₀ a wa) (hb : VE X S₀ b wb) (hc : VE X S₀ c wc) (hm : lastMarks [op, op'] [b, c] = false := by with_unfolding_all rfl) : VE X S₀ (.Compare a [op, op'] [b, c] pos) (wChain wr wr' wa wb wc) :=
  PE.imp (pe_chain (h1.op_ X) (h2.op_ X) ha hb hc hm) fun _ _ _ h => lift_chain (h1.lk _) (h2.lk _) h
theorem vt_chain (h1 : Ch op r wr) (h2 : Ch op' r' wr') (ha : VE X S₀ a wa) (hb : VE X S₀ b wb) (hc : VE X S₀ c wc) (hm : lastMarks [op, op'] [b, c] = false := by with_unfolding_all rfl) : VT X S₀ (.Compare a [op, op'] [b, c] pos) (wTest (wChain wr wr' wa wb wc)) :=
  PT.imp (pt_chain (h1.op_ X) (h2.op_ X) ha hb hc hm) fun σ H Q ⟨Hf, ρ, M, Φ, W, e, h, k⟩ => by
    refine lift_chain (h1.lk _) (h2.lk _) ⟨Hf, ρ, M, _, W, e, h, fun x M1 v Hf1 H1 h1 W1 s1 i1 => ?_⟩
    unfold kTest at h1
    split at h1
    · exact ⟨_, isD_bl.mp i1, k _ _ _ _ h1 W1 s1⟩
    · exact h1.elim
end
section
variable {K : PySem.W.Frag} {Hf Hf0 : Hp} {M : Mem} {H : Hp}
end
end VL
namespace VL
open PySem PySem.Spec PyProof.Rows L2
section
variable {ρ : Sg} {M : Mem} {Φ : KD} {i j : Nat} {d x y z : D} {r ds es xs : List D} {wa wb wc we wf wo : WE} {wr : WR} {wt wu : WT} {wA wB : WA} {wl wh : WO} {De : WN} {a : Addr} {n m : Int} {b : Bool} {ΦT : Bool → Mem → Prop} {ΦA : List D → Mem → Prop}
theorem e_var : wVar i ρ M Φ = match at_ ρ i with | some d => Φ d M | none => False := rfl
theorem e_at0 : at_ (some d :: ρ) 0 = some d := rfl
theorem e_at0n : at_ (none :: ρ) 0 = none := rfl
theorem e_atS {o : Option D} : at_ (o :: ρ) (i + 1) = at_ ρ i := rfl
theorem e_c : wC d ρ M Φ = Φ d M := rfl
theorem e_op : wOp wr wa wb ρ M Φ = wa ρ M (kOp1 wr wb ρ Φ) := rfl
theorem e_op1 : kOp1 wr wb ρ Φ x M = wb ρ M (kOp2 wr x Φ) := rfl
theorem e_op2 : kOp2 wr x Φ y M = wr x y M Φ := rfl
theorem e_I {g : Int → Int → D} : wrI g (.int n) (.int m) M Φ = Φ (g n m) M := rfl
theorem e_IC {C : Int → Int → Prop} {g : Int → Int → D} : wrIC C g (.int n) (.int m) M Φ = (C n m ∧ Φ (g n m) M) := rfl
theorem e_addI : wrAdd (.int n) (.int m) M Φ = Φ (.int (n + m)) M := rfl
theorem e_addT : wrAdd (.tup ds) (.tup es) M Φ = (ds.length + es.length ≤ lim ∧ Φ (.tup (ds ++ es)) M) := rfl
theorem e_addL : wrAdd (.lst ds) (.lst es) M Φ = (ds.length + es.length ≤ lim ∧ Φ (.lst (ds ++ es)) M) := rfl
theorem e_mulI : wrMul (.int n) (.int m) M Φ = (CMulW n m ∧ Φ (.int (n * m)) M) := rfl
theorem e_isN : wrIsN x .non M Φ = Φ (.bl (isN x)) M := rfl
theorem e_notN : wrNotN x .non M Φ = Φ (.bl (!isN x)) M := rfl
theorem e_isN_non : isN .non = true := rfl
theorem e_isN_int : isN (.int n) = false := rfl
theorem e_isN_bl : isN (.bl b) = false := rfl
theorem e_isN_str {s : Str} : isN (.str s) = false := rfl
theorem e_isN_tup : isN (.tup ds) = false := rfl
theorem e_isN_lst : isN (.lst ds) = false := rfl
theorem e_isN_ref : isN (.ref a) = false := rfl
theorem e_test : wTest we ρ M ΦT = we ρ M (kTest ΦT) := rfl
theorem e_testK : kTest ΦT (.bl b) M = ΦT b M := rfl
theorem e_and : wAnd wt wu ρ M ΦT = wt ρ M (kAnd wu ρ ΦT) := rfl
theorem e_andT : kAnd wu ρ ΦT true M = wu ρ M ΦT := rfl
theorem e_andF : kAnd wu ρ ΦT false M = ΦT false M := rfl
theorem e_or : wOr wt wu ρ M ΦT = wt ρ M (kOr wu ρ ΦT) := rfl
theorem e_orT : kOr wu ρ ΦT true M = ΦT true M := rfl
theorem e_orF : kOr wu ρ ΦT false M = wu ρ M ΦT := rfl
theorem e_not : wNot wt ρ M ΦT = wt ρ M (kNot ΦT) := rfl
theorem e_notK : kNot ΦT b M = ΦT (!b) M := rfl
theorem e_ifE : wIfE wt wa wb ρ M Φ = wt ρ M (kIfE wa wb ρ Φ) := rfl
theorem e_ifET : kIfE wa wb ρ Φ true M = wa ρ M Φ := rfl
theorem e_ifEF : kIfE wa wb ρ Φ false M = wb ρ M Φ := rfl
theorem e_andV : wAndV wa wb ρ M Φ = wa ρ M (kAndV wb ρ Φ) := rfl
theorem e_andVT : kAndV wb ρ Φ (.bl true) M = wb ρ M Φ := rfl
theorem e_andVF : kAndV wb ρ Φ (.bl false) M = Φ (.bl false) M := rfl
theorem e_orV : wOrV wa wb ρ M Φ = wa ρ M (kOrV wb ρ Φ) := rfl
theorem e_orVT : kOrV wb ρ Φ (.bl true) M = Φ (.bl true) M := rfl
theorem e_orVF : kOrV wb ρ Φ (.bl false) M = wb ρ M Φ := rfl
theorem e_notV : wNotV wa ρ M Φ = wa ρ M (kNotV Φ) := rfl
theorem e_notVK : kNotV Φ (.bl b) M = Φ (.bl (!b)) M := rfl
theorem e_neg : wNeg wa ρ M Φ = wa ρ M (kNeg Φ) := rfl
theorem e_negK : kNeg Φ (.int n) M = Φ (.int (-n)) M := rfl
theorem e_nil : wNil ρ M ΦA = ΦA [] M := rfl
theorem e_cons : wCons wa wA ρ M ΦA = wa ρ M (kCons1 wA ρ ΦA) := rfl
theorem e_cons1 : kCons1 wA ρ ΦA x M = wA ρ M (kCons2 x ΦA) := rfl
theorem e_cons2 : kCons2 x ΦA xs M = ΦA (x :: xs) M := rfl
theorem e_tup : wTup wA ρ M Φ = wA ρ M (kTup Φ) := rfl
theorem e_tupK : kTup Φ ds M = (ds.length ≤ lim ∧ Φ (.tup ds) M) := rfl
theorem e_lst : wLst wA ρ M Φ = wA ρ M (kLst Φ) := rfl
theorem e_lstK : kLst Φ ds M = (ds.length ≤ lim ∧ Φ (.lst ds) M) := rfl
theorem e_lstM : wLstM wA ρ M Φ = wA ρ M (kLstM Φ) := rfl
theorem e_lstMK : kLstM Φ ds M = (ds.length ≤ lim ∧ ∀ p, M p = none → Φ (.ref p) (put M p (.lst ds))) := rfl
theorem e_cb {wr : WC} : wCB wr wA ρ M Φ = wA ρ M (kCB wr Φ) := rfl
theorem e_cbK {wr : WC} : kCB wr Φ ds M = wr ds M Φ := rfl
theorem e_lenT : wrLen [.tup ds] M Φ = Φ (.int ds.length) M := rfl
theorem e_lenL : wrLen [.lst ds] M Φ = Φ (.int ds.length) M := rfl
theorem e_lenF : wrLen [.fz ds] M Φ = Φ (.int ds.length) M := rfl
theorem e_lenR (h : M a = some (.lst ds)) : wrLen [.ref a] M Φ = Φ (.int ds.length) M := by simp only [wrLen, one, seqM, h]
theorem e_tupCL : wrTupC [.lst ds] M Φ = Φ (.tup ds) M := rfl
theorem e_tupCT : wrTupC [.tup ds] M Φ = Φ (.tup ds) M := rfl
theorem e_tupCR (h : M a = some (.lst ds)) : wrTupC [.ref a] M Φ = Φ (.tup ds) M := by simp only [wrTupC, one, seqM, h]
theorem e_lstCL : wrLstC [.lst ds] M Φ = Φ (.lst ds) M := rfl
theorem e_lstCT : wrLstC [.tup ds] M Φ = Φ (.lst ds) M := rfl
theorem e_min2 : wrMin2 [.int n, .int m] M Φ = Φ (.int (if m < n then m else n)) M := rfl
theorem e_max2 : wrMax2 [.int n, .int m] M Φ = Φ (.int (if m > n then m else n)) M := rfl
theorem e_allL {bs : List Bool} : wrAll [.lst (bs.map D.bl)] M Φ = Φ (.bl (bs.all id)) M := by simp only [wrAll, bls1, lst1, one, Option.bind, lstF, blsD_map]
theorem e_sumL {ns : List Int} : wrSum [.lst (ns.map D.int)] M Φ = Φ (.int ns.sum) M := by simp only [wrSum, ints1, lst1, one, Option.bind, lstF, intsD_map]
theorem e_sl : wSl we wl wh ρ M Φ = we ρ M (kSl1 wl wh ρ Φ) := rfl
theorem e_sl1 : kSl1 wl wh ρ Φ x M = wl ρ M (kSl2 wh ρ x Φ) := rfl
theorem e_sl2 {lo : Option Int} : kSl2 wh ρ x Φ lo M = wh ρ M (kSl3 x lo Φ) := rfl
theorem e_sl3T {lo hi : Option Int} : kSl3 (.tup ds) lo Φ hi M = Φ (.tup (cutD ds lo hi)) M := rfl
theorem e_sl3L {lo hi : Option Int} : kSl3 (.lst ds) lo Φ hi M = Φ (.lst (cutD ds lo hi)) M := rfl
theorem e_sl3F {lo hi : Option Int} : kSl3 (.fz ds) lo Φ hi M = Φ (.lst (cutD ds lo hi)) M := rfl
theorem e_noPart {ΦO : Option Int → Mem → Prop} : wNoPart ρ M ΦO = ΦO none M := rfl
theorem e_part {ΦO : Option Int → Mem → Prop} : wPart we ρ M ΦO = we ρ M (kPart ΦO) := rfl
theorem e_partK {ΦO : Option Int → Mem → Prop} : kPart ΦO (.int n) M = ΦO (some n) M := rfl
theorem e_revL : wRevL we ρ M Φ = we ρ M (kRevL Φ) := rfl
theorem e_revLK : kRevL Φ (.lst ds) M = Φ (.lst ds.reverse) M := rfl
theorem e_call {Wf : W3} : wCall Wf wA ρ M Φ = wA ρ M (kCall Wf Φ) := rfl
theorem e_callK {Wf : W3} : kCall Wf Φ ds M = Wf ds M Φ := rfl
theorem e_callD {Wf : W3} : wCallD Wf es wA ρ M Φ = wA ρ M (kCallD Wf es Φ) := rfl
theorem e_callDK {Wf : W3} : kCallD Wf es Φ ds M = Wf (ds ++ es) M Φ := rfl
theorem e_callKw {Wf : W3} {n m : Nat} {g : List D → List D → List D} : wCallK n m Wf g wA wB ρ M Φ = wA ρ M (kCallK1 n m Wf g wB ρ Φ) := rfl
theorem e_callKw1 {Wf : W3} {n m : Nat} {g : List D → List D → List D} : kCallK1 n m Wf g wB ρ Φ ds M = wB ρ M (kCallK2 n m Wf g ds Φ) := rfl
theorem e_callKw2 {Wf : W3} {n m : Nat} {g : List D → List D → List D} : kCallK2 n m Wf g ds Φ es M = ((ds.length = n ∧ es.length = m) ∧ Wf (g ds es) M Φ) := rfl
theorem e_bm {wr : WM} : wBM wr wo wA ρ M Φ = wo ρ M (kBM1 wr wA ρ Φ) := rfl
theorem e_bm1 {wr : WM} (h : M a = some (.lst ds)) : kBM1 wr wA ρ Φ (.ref a) M = wA ρ M (kBM2 wr (.ref a) Φ) := by simp only [kBM1, lstF, h, Option.isSome, true_and]
theorem e_bm2 {wr : WM} : kBM2 wr x Φ ds M = wr x ds M Φ := rfl
theorem e_append (h : M a = some (.lst es)) : wrAppend (.ref a) [x] M Φ = (es.length < lim ∧ Φ .non (put M a (.lst (es ++ [x])))) := by simp only [wrAppend, memL, one, h]
theorem e_insert (h : M a = some (.lst es)) : wrInsert (.ref a) [.int n, x] M Φ = ((es.length < lim ∧ 0 ≤ n ∧ n < 2 ^ 63) ∧ Φ .non (put M a (.lst (es.take n.toNat ++ [x] ++ es.drop n.toNat)))) := by simp only [wrInsert, memL, iv2, h]
theorem e_ixR (h : M a = some (.lst ds)) : wrIx (.ref a) (.int n) M Φ = match atD ds n with | some d => Φ d M | none => False := by simp only [wrIx, seqM, h]; try rfl
theorem e_ixL : wrIx (.lst ds) (.int n) M Φ = match atD ds n with | some d => Φ d M | none => False := rfl
theorem e_ixT : wrIx (.tup ds) (.int n) M Φ = match atD ds n with | some d => Φ d M | none => False := rfl
theorem e_ixD {kvs : List (Key × D)} (h : M a = some (.dK kvs)) {s : Str} : wrIx (.ref a) (.str s) M Φ = match look kvs (.inr s) with | some d => Φ d M | none => False := by simp only [wrIx, seqM, h, dkM, keyD]; try rfl
theorem e_ixDi {kvs : List (Key × D)} (h : M a = some (.dK kvs)) : wrIx (.ref a) (.int n) M Φ = match look kvs (.inl n) with | some d => Φ d M | none => False := by simp only [wrIx, seqM, h, dkM, keyD]; try rfl
theorem e_dr0 {c p q s : D} (h : M a = some (.lst [c, p, q, s])) : wrIx (.ref a) (.int 0) M Φ = Φ c M := by rw [e_ixR h]; rfl
theorem e_dr1 {c p q s : D} (h : M a = some (.lst [c, p, q, s])) : wrIx (.ref a) (.int 1) M Φ = Φ p M := by rw [e_ixR h]; rfl
theorem e_dr2 {c p q s : D} (h : M a = some (.lst [c, p, q, s])) : wrIx (.ref a) (.int 2) M Φ = Φ q M := by rw [e_ixR h]; rfl
theorem e_dr3 {c p q s : D} (h : M a = some (.lst [c, p, q, s])) : wrIx (.ref a) (.int 3) M Φ = Φ s M := by rw [e_ixR h]; rfl
variable {t u : WS} {g : WG} {P : Sg → Mem → Prop}
theorem e_next : sNext De ρ M = De.nx ρ M := rfl
theorem e_seq : sSeq t u De ρ M = t ⟨u De, De.rt, De.bk, De.ct⟩ ρ M := rfl
theorem e_drop : sDrop we De ρ M = we ρ M (kDrop De ρ) := rfl
theorem e_dropK : kDrop De ρ x M = De.nx ρ M := rfl
theorem e_ret : sRet we De ρ M = we ρ M De.rt := rfl
theorem e_retF : sRetF we De ρ M = we ρ M (kFz De.rt) := rfl
theorem e_fz (h : M a = some (.lst ds)) : kFz Φ (.ref a) M = Φ (.lst ds) (del M a) := by simp only [kFz, memL, h]
theorem e_if : sIf wt t u De ρ M = wt ρ M (kIf t u De ρ) := rfl
theorem e_ifT : kIf t u De ρ true M = t De ρ M := rfl
theorem e_ifF : kIf t u De ρ false M = u De ρ M := rfl
theorem e_asg : sAsg we g De ρ M = we ρ M (kAsg g De ρ) := rfl
theorem e_asgK : kAsg g De ρ x M = g x ρ M De.nx := rfl
theorem e_gname : wgName i x ρ M P = P (ρ.set i (some x)) M := rfl
theorem e_par : sPar i j wA De ρ M = wA ρ M (kPar i j De ρ) := rfl
theorem e_parK : kPar i j De ρ [x, y] M = De.nx ((ρ.set i (some x)).set j (some y)) M := rfl
theorem e_par3 {l : Nat} : sPar3 i j l wA De ρ M = wA ρ M (kPar3 i j l De ρ) := rfl
theorem e_par3K {l : Nat} : kPar3 i j l De ρ [x, y, z] M = De.nx (((ρ.set i (some x)).set j (some y)).set l (some z)) M := rfl
theorem e_gsub {wi : WE} : wgSub wo wi x ρ M P = wo ρ M (kSub1 wi x ρ (P ρ)) := rfl
theorem e_gsub1 {wi : WE} {PM : Mem → Prop} : kSub1 wi x ρ PM y M = wi ρ M (kSub2 y x PM) := rfl
theorem e_gsub2L {PM : Mem → Prop} (h : M a = some (.lst ds)) : kSub2 (.ref a) x PM (.int n) M = match ixN ds.length n with | some k => PM (put M a (.lst (ds.set k x))) | none => False := by
  simp only [kSub2, putS, h]; cases ixN ds.length n <;> rfl
theorem e_gsub2S {PM : Mem → Prop} {kvs : List (Key × D)} {s : Str} (h : M a = some (.dK kvs)) : kSub2 (.ref a) x PM (.str s) M = (kvs.length < lim ∧ PM (put M a (.dK (putKD kvs (.inr s) x)))) := by
  simp only [kSub2, putS, h, keyD, Option.map]
  by_cases q : kvs.length < lim
  · simp only [q, if_true, true_and]
  · simp only [q, if_false, false_and]
theorem e_gsub2I {PM : Mem → Prop} {kvs : List (Key × D)} (h : M a = some (.dK kvs)) : kSub2 (.ref a) x PM (.int n) M = (kvs.length < lim ∧ PM (put M a (.dK (putKD kvs (.inl n) x)))) := by
  simp only [kSub2, putS, h, keyD, Option.map]
  by_cases q : kvs.length < lim
  · simp only [q, if_true, true_and]
  · simp only [q, if_false, false_and]
theorem e_ds1 {PM : Mem → Prop} {c p q s : D} (h : M a = some (.lst [c, p, q, s])) : kSub2 (.ref a) x PM (.int 1) M = PM (put M a (.lst [c, x, q, s])) := by rw [e_gsub2L h]; rfl
theorem e_ds2 {PM : Mem → Prop} {c p q s : D} (h : M a = some (.lst [c, p, q, s])) : kSub2 (.ref a) x PM (.int 2) M = PM (put M a (.lst [c, p, x, s])) := by rw [e_gsub2L h]; rfl
theorem e_ds3 {PM : Mem → Prop} {c p q s : D} (h : M a = some (.lst [c, p, q, s])) : kSub2 (.ref a) x PM (.int 3) M = PM (put M a (.lst [c, p, q, x])) := by rw [e_gsub2L h]; rfl
theorem e_gnil {vs : List D} : wgNil vs ρ M P = (vs = [] ∧ P ρ M) := rfl
theorem e_gcons {u : WGs} : wgCons g u (x :: r) ρ M P = g x ρ M (kg1 u r P) := rfl
theorem e_kg1 {u : WGs} : kg1 u r P ρ M = u r ρ M P := rfl
theorem e_gtup {n : Nat} {u : WGs} : wgTup n u (.tup ds) ρ M P = (ds.length = n ∧ u ds ρ M P) := rfl
theorem e_for {wi : WI} {wb : WS} : sFor wi g wb De ρ M = wi ρ M (kFor g wb De ρ) := rfl
theorem e_forK {wb : WS} : kFor g wb De ρ ds M = sLoop g wb De ds ρ M := rfl
theorem e_wiSeq : wiSeq we ρ M ΦA = we ρ M (kSeqI ΦA) := rfl
theorem e_seqIL : kSeqI ΦA (.lst ds) M = ΦA ds M := rfl
theorem e_seqIT : kSeqI ΦA (.tup ds) M = ΦA ds M := rfl
theorem e_wiRng1 : wiRng1 wA ρ M ΦA = wA ρ M (kRng1 ΦA) := rfl
theorem e_rng1K : kRng1 ΦA [.int n] M = ((-(2 ^ 62) ≤ n ∧ n < 2 ^ 62) ∧ ΦA (rgD 0 n.toNat) M) := rfl
theorem e_wiRng2 : wiRng2 wA ρ M ΦA = wA ρ M (kRng2 ΦA) := rfl
theorem e_rng2K : kRng2 ΦA [.int n, .int m] M = ((-(2 ^ 62) ≤ n ∧ n < 2 ^ 62 ∧ -(2 ^ 62) ≤ m ∧ m < 2 ^ 62) ∧ ΦA (rgD n (m - n).toNat) M) := rfl
theorem e_wiZip : wiZip wA ρ M ΦA = wA ρ M (kZip ΦA) := rfl
theorem e_zipKL : kZip ΦA [.lst ds, .lst es] M = ΦA (zipD ds es) M := rfl
theorem e_zipKT : kZip ΦA [.tup ds, .tup es] M = ΦA (zipD ds es) M := rfl
theorem e_lc {wi : WI} {vs : List Nat} : wLc wi g wt we vs ρ M Φ = wi ρ M (kLc0 g wt we (wipeD ρ vs) (kLcF Φ)) := rfl
theorem e_lc0 {k : List D → Mem → Prop} : kLc0 g wt we ρ k ds M = (ds.length ≤ lim ∧ wLcGo g wt we ρ k ds [] M) := rfl
theorem e_lcF : kLcF Φ ds M = Φ (.lst ds) M := rfl
theorem e_lc1 {k : List D → Mem → Prop} : kLc1 wt we es k ρ M = wt ρ M (kLc2 we ρ es k) := rfl
theorem e_lc2T {k : List D → Mem → Prop} : kLc2 we ρ es k true M = we ρ M (kLc3 es k) := rfl
theorem e_lc2F {k : List D → Mem → Prop} : kLc2 we ρ es k false M = k es M := rfl
theorem e_lc3 {k : List D → Mem → Prop} : kLc3 es k x M = k (es ++ [x]) M := rfl
theorem e_yes : wYes ρ M ΦT = ΦT true M := rfl
theorem e_wipe0 : wipeD ρ [] = ρ := rfl
theorem e_wipeS {vs : List Nat} : wipeD ρ (i :: vs) = (wipeD ρ vs).set i none := rfl
theorem e_endsNx : (endsD Φ).nx ρ M = Φ .non M := rfl
theorem e_endsRt : (endsD Φ).rt = Φ := rfl
end
theorem start_1 {n : Nat} {x : D} : startD (n + 1) [x] = some x :: List.replicate n none := by simp [startD]
theorem start_2 {n : Nat} {x y : D} : startD (n + 2) [x, y] = some x :: some y :: List.replicate n none := by simp [startD]
end VL
namespace VL
open PySem PySem.Spec PyProof.Rows L2
theorem pys_ints : ∀ ns : List Int, pys (ns.map D.int) = some (ns.map PyData.int)
  | [] => rfl
  | n :: ns => by rw [List.map_cons, pys, pys_ints ns]; rfl
theorem lay_ints : ∀ ns : List Int, PyData.canLayAll0 (ns.map PyData.int) = true
  | [] => rfl
  | n :: ns => by rw [List.map_cons, PyData.canLayAll0, lay_ints ns]; rfl
theorem dep_ints : ∀ ns : List Int, PyData.depthAll (ns.map PyData.int) = 0
  | [] => rfl
  | n :: ns => by rw [List.map_cons, PyData.depthAll, dep_ints ns]; rfl
theorem eqv_int (n m : Int) : PyData.eqv (.int n) (.int m) = decide (n = m) := by
  rw [PyData.eqv]
  by_cases h : n = m
  · rw [h]; simp
  · simp [h]
theorem eqv_ints : ∀ a b : List Int, PyData.eqvAll (a.map PyData.int) (b.map PyData.int) = decide (a = b)
  | [], [] => by simp [PyData.eqvAll]
  | [], _ :: _ => by simp [PyData.eqvAll]
  | _ :: _, [] => by simp [PyData.eqvAll]
  | x :: a, y :: b => by
    rw [List.map_cons, List.map_cons, PyData.eqvAll, eqv_int, eqv_ints a b]
    by_cases h : x = y
    · by_cases g : a = b
      · simp [h, g]
      · simp [h, g]
    · simp [h]
theorem sh_tup (ns : List Int) : SeqAt.shaped (.tuple (ns.map PyData.int)) = true := by
  unfold SeqAt.shaped
  rw [PyData.canLay0, PyData.depth, lay_ints, dep_ints]
  rfl
theorem sh_lst (ns : List Int) : SeqAt.shaped (.list (ns.map PyData.int)) = true := by
  unfold SeqAt.shaped
  rw [PyData.canLay0, PyData.depth, lay_ints, dep_ints]
  rfl
section
variable {M : Mem} {Φ : KD} {n m : Int} {a b : List Int} {p : Addr}
theorem py_tup (a : List Int) : pyM M (.tup (a.map D.int)) = some (.tuple (a.map PyData.int)) := by unfold pyM; simp only [py, pys_ints]; rfl
theorem py_lst (a : List Int) : pyM M (.lst (a.map D.int)) = some (.list (a.map PyData.int)) := by unfold pyM; simp only [py, pys_ints]; rfl
theorem py_ref (h : M p = some (.lst (a.map D.int))) : pyM M (.ref p) = some (.list (a.map PyData.int)) := by unfold pyM; simp only [h, pys_ints]; rfl
theorem eqv_tup (a b : List Int) : PyData.eqv (.tuple (a.map PyData.int)) (.tuple (b.map PyData.int)) = decide (a = b) := by rw [PyData.eqv]; exact eqv_ints a b
theorem eqv_lst (a b : List Int) : PyData.eqv (.list (a.map PyData.int)) (.list (b.map PyData.int)) = decide (a = b) := by rw [PyData.eqv]; exact eqv_ints a b
theorem wrEq_of {x y : D} {s t : PyData} {c : Bool} (h1 : pyM M x = some s) (h2 : pyM M y = some t) (h3 : SeqAt.shaped s = true) (h4 : SeqAt.shaped t = true) (h5 : PyData.eqv s t = c) : wrEq x y M Φ = Φ (.bl c) M := by
  unfold wrEq; rw [h1, h2]; simp only [h3, h4, h5, true_and]
theorem wrNe_of {x y : D} {s t : PyData} {c : Bool} (h1 : pyM M x = some s) (h2 : pyM M y = some t) (h3 : SeqAt.shaped s = true) (h4 : SeqAt.shaped t = true) (h5 : PyData.eqv s t = c) : wrNe x y M Φ = Φ (.bl (!c)) M := by
  unfold wrNe; rw [h1, h2]; simp only [h3, h4, h5, true_and]
theorem e_eqI : wrEq (.int n) (.int m) M Φ = Φ (.bl (decide (n = m))) M := wrEq_of rfl rfl rfl rfl (eqv_int n m)
theorem e_neI : wrNe (.int n) (.int m) M Φ = Φ (.bl (!decide (n = m))) M := wrNe_of rfl rfl rfl rfl (eqv_int n m)
theorem e_eqB {c d : Bool} : wrEq (.bl c) (.bl d) M Φ = Φ (.bl (c == d)) M := wrEq_of rfl rfl rfl rfl (by rw [PyData.eqv])
theorem e_neB {c d : Bool} : wrNe (.bl c) (.bl d) M Φ = Φ (.bl (!(c == d))) M := wrNe_of rfl rfl rfl rfl (by rw [PyData.eqv])
theorem e_eqTI : wrEq (.tup (a.map D.int)) (.tup (b.map D.int)) M Φ = Φ (.bl (decide (a = b))) M := wrEq_of (py_tup a) (py_tup b) (sh_tup a) (sh_tup b) (eqv_tup a b)
theorem e_neTI : wrNe (.tup (a.map D.int)) (.tup (b.map D.int)) M Φ = Φ (.bl (!decide (a = b))) M := wrNe_of (py_tup a) (py_tup b) (sh_tup a) (sh_tup b) (eqv_tup a b)
theorem e_eqLI : wrEq (.lst (a.map D.int)) (.lst (b.map D.int)) M Φ = Φ (.bl (decide (a = b))) M := wrEq_of (py_lst a) (py_lst b) (sh_lst a) (sh_lst b) (eqv_lst a b)
theorem e_neLI : wrNe (.lst (a.map D.int)) (.lst (b.map D.int)) M Φ = Φ (.bl (!decide (a = b))) M := wrNe_of (py_lst a) (py_lst b) (sh_lst a) (sh_lst b) (eqv_lst a b)
theorem e_eqT0 : wrEq (.tup (a.map D.int)) (.tup []) M Φ = Φ (.bl (decide (a = []))) M := e_eqTI (b := [])
theorem e_neT0 : wrNe (.tup (a.map D.int)) (.tup []) M Φ = Φ (.bl (!decide (a = []))) M := e_neTI (b := [])
theorem e_eqL0 : wrEq (.lst (a.map D.int)) (.lst []) M Φ = Φ (.bl (decide (a = []))) M := e_eqLI (b := [])
theorem e_neL0 : wrNe (.lst (a.map D.int)) (.lst []) M Φ = Φ (.bl (!decide (a = []))) M := e_neLI (b := [])
theorem e_neR0 (h : M p = some (.lst (a.map D.int))) : wrNe (.ref p) (.lst []) M Φ = Φ (.bl (!decide (a = []))) M := wrNe_of (py_ref h) (py_lst []) (sh_lst a) (sh_lst []) (eqv_lst a [])
theorem e_eqR0 (h : M p = some (.lst (a.map D.int))) : wrEq (.ref p) (.lst []) M Φ = Φ (.bl (decide (a = []))) M := wrEq_of (py_ref h) (py_lst []) (sh_lst a) (sh_lst []) (eqv_lst a [])
end
def ikv (ps : List (Int × Int)) : List (Key × D) := ps.map fun p => (.inl p.1, .int p.2)
def ig (ps : List (Int × Int)) (k : Int) : Option Int := (ps.find? fun p => decide (p.1 = k)).map (·.2)
theorem ig_nil (k : Int) : ig [] k = none := rfl
theorem ig_cons (a b : Int) (ps : List (Int × Int)) (k : Int) : ig ((a, b) :: ps) k = if a = k then some b else ig ps k := by
  unfold ig
  rw [List.find?_cons]
  by_cases h : a = k
  · simp [h]
  · simp [h]
theorem ig_some {ps : List (Int × Int)} {k v : Int} (h : ig ps k = some v) : (k, v) ∈ ps := by
  induction ps with
  | nil => cases h
  | cons p ps ih =>
    obtain ⟨a, b⟩ := p
    rw [ig_cons] at h
    split at h
    · rename_i e; cases h; subst e; exact List.mem_cons_self ..
    · exact List.mem_cons_of_mem _ (ih h)
theorem ig_none {ps : List (Int × Int)} {k : Int} (h : k ∉ ps.map (·.1)) : ig ps k = none := by
  cases e : ig ps k with
  | none => rfl
  | some v => exact absurd (List.mem_map.mpr ⟨_, ig_some e, rfl⟩) h
theorem ig_none_iff {ps : List (Int × Int)} {k : Int} : ig ps k = none ↔ k ∉ ps.map (·.1) := by
  refine ⟨fun h hm => ?_, ig_none⟩
  induction ps with
  | nil => cases hm
  | cons p ps ih =>
    obtain ⟨a, b⟩ := p
    rw [ig_cons] at h
    split at h
    · cases h
    · rename_i n
      rw [List.map_cons] at hm
      rcases List.mem_cons.mp hm with e | e
      · exact n e.symm
      · exact ih h e
theorem ig_app (ps qs : List (Int × Int)) (k : Int) : ig (ps ++ qs) k = (ig ps k).or (ig qs k) := by
  induction ps with
  | nil => rfl
  | cons p ps ih =>
    obtain ⟨a, b⟩ := p
    rw [List.cons_append, ig_cons, ig_cons, ih]
    split <;> rfl
theorem ig_mem {ps : List (Int × Int)} (hn : (ps.map (·.1)).Nodup) {k v : Int} (h : (k, v) ∈ ps) : ig ps k = some v := by
  induction ps with
  | nil => cases h
  | cons p ps ih =>
    obtain ⟨a, b⟩ := p
    rw [List.map_cons, List.nodup_cons] at hn
    rw [ig_cons]
    rcases List.mem_cons.mp h with e | h
    · cases e; rw [if_pos rfl]
    · have : a ≠ k := fun e => hn.1 (by rw [e]; exact List.mem_map.mpr ⟨_, h, rfl⟩)
      rw [if_neg this]
      exact ih hn.2 h
theorem put_new {ps : List (Int × Int)} {k : Int} (h : ig ps k = none) (v : Int) : putKD (ikv ps) (.inl k) (.int v) = ikv (ps ++ [(k, v)]) := by
  have : (ikv ps).any (fun kv => decide (kv.1 = Sum.inl k)) = false := by
    rw [List.any_eq_false]
    intro kv hk
    unfold ikv at hk
    obtain ⟨p, hp, rfl⟩ := List.mem_map.mp hk
    have := ig_none_iff.mp h
    intro e
    have e := of_decide_eq_true e
    refine this (List.mem_map.mpr ⟨p, hp, ?_⟩)
    cases e; rfl
  unfold putKD
  rw [this]
  unfold ikv
  simp
structure Im (ps : List (Int × Int)) (f : Int → Option Int) : Prop where
  nd : (ps.map (·.1)).Nodup
  get : ∀ k, ig ps k = f k
theorem Im.nil : Im [] fun _ => none := ⟨List.nodup_nil, fun _ => rfl⟩
theorem Im.congr {ps : List (Int × Int)} {f g : Int → Option Int} (h : Im ps f) (e : ∀ k, f k = g k) : Im ps g := ⟨h.nd, fun k => by rw [h.get k, e k]⟩
theorem Im.new {ps : List (Int × Int)} {f : Int → Option Int} (h : Im ps f) {k : Int} (hk : f k = none) (v : Int) : Im (ps ++ [(k, v)]) fun x => if x = k then some v else f x := by
  have hn : ig ps k = none := by rw [h.get, hk]
  refine ⟨?_, fun x => ?_⟩
  · rw [List.map_append, List.nodup_append]
    refine ⟨h.nd, by simp, fun a ha b hb e => ?_⟩
    simp at hb
    subst e
    rw [hb] at ha
    exact ig_none_iff.mp hn ha
  · rw [ig_app, ig_cons, ig_nil]
    by_cases e : x = k
    · subst e; rw [hn]; simp
    · have : k ≠ x := fun z => e z.symm
      rw [if_neg this, if_neg e, h.get x]
      cases f x <;> rfl
end VL
namespace VL
open PySem PySem.Spec PyProof.Rows L2
section
variable {ρ : Sg} {M : Mem} {Φ : KD} {we wf wo wk wv : WE} {wr : WP} {ΦP : List (Key × D) → Mem → Prop} {kvs r : List (Key × D)} {x d z : D} {a : Addr} {n : Int} {De : WN} {ds es : List D}
theorem e_disp {w : WP} : wDisp w ρ M Φ = w ρ M (kDisp Φ) := rfl
theorem e_dispK : kDisp Φ kvs M = (kvs.length ≤ 15 ∧ ∀ p, M p = none → Φ (.ref p) (put M p (.dK (mergeD kvs)))) := rfl
theorem e_pcons : wpCons wk wv wr ρ M ΦP = wk ρ M (kp1 wv wr ρ ΦP) := rfl
theorem e_p1 : kp1 wv wr ρ ΦP x M = wv ρ M (kp2 wr ρ x ΦP) := rfl
theorem e_p2s {s : Str} : kp2 wr ρ (.str s) ΦP d M = wr ρ M (kp3 (.inr s) d ΦP) := rfl
theorem e_p2i : kp2 wr ρ (.int n) ΦP d M = wr ρ M (kp3 (.inl n) d ΦP) := rfl
theorem e_p3 {k : Key} : kp3 k d ΦP r M = ΦP ((k, d) :: r) M := rfl
theorem e_pnil : wpNil ρ M ΦP = ΦP [] M := rfl
theorem e_dict0 : wDict0 ρ M Φ = ∀ p, M p = none → Φ (.ref p) (put M p (.dK [])) := rfl
theorem e_get : wGet wo we wf ρ M Φ = wo ρ M (kGet1 we wf ρ Φ) := rfl
theorem e_get1 (h : M a = some (.dK kvs)) : kGet1 we wf ρ Φ (.ref a) M = we ρ M (kGet2 wf ρ (.ref a) Φ) := by simp only [kGet1, dkM, h, Option.isSome, true_and]
theorem e_get2 : kGet2 wf ρ x Φ d M = wf ρ M (kGet3 x d Φ) := rfl
theorem e_get3 (h : M a = some (.dK kvs)) : kGet3 (.ref a) (.int n) Φ z M = Φ ((look kvs (.inl n)).getD z) M := by simp only [kGet3, dkM, keyD, h]
theorem e_pop (h : M a = some (.lst (es ++ [d]))) : wrPop (.ref a) [] M Φ = Φ d (put M a (.lst es)) := by simp [wrPop, memL, h]
theorem e_extL (h : M a = some (.lst es)) : wrExtend (.ref a) [.lst ds] M Φ = (es.length + ds.length ≤ lim ∧ Φ .non (put M a (.lst (es ++ ds)))) := by simp [wrExtend, memL, h, one, lstM]
theorem e_addM (h : M a = some (.lst es)) : wrAddM (.ref a) (.lst ds) M Φ = (es.length + ds.length ≤ lim ∧ ∀ p, M p = none → Φ (.ref p) (put M p (.lst (es ++ ds)))) := by simp [wrAddM, lstM, h]
theorem e_inI (h : M a = some (.dK kvs)) : wrIn false (.int n) (.ref a) M Φ = Φ (.bl (look kvs (.inl n)).isSome) M := by simp [wrIn, seqM, h, dkM, keyD]
theorem e_ninI (h : M a = some (.dK kvs)) : wrIn true (.int n) (.ref a) M Φ = Φ (.bl (!(look kvs (.inl n)).isSome)) M := by simp [wrIn, seqM, h, dkM, keyD]
theorem e_whT {body : WS} {P : Nat → Sg → Mem → Prop} {m : Nat} : kWhile body De P m ρ true M = body ⟨fun ρ' M' => ∃ m', m' < m ∧ P m' ρ' M', De.rt, De.nx, fun ρ' M' => ∃ m', m' < m ∧ P m' ρ' M'⟩ ρ M := rfl
theorem e_whF {body : WS} {P : Nat → Sg → Mem → Prop} {m : Nat} : kWhile body De P m ρ false M = De.nx ρ M := rfl
theorem e_break : sBreak De ρ M = De.bk ρ M := rfl
theorem e_cont : sCont De ρ M = De.ct ρ M := rfl
theorem e_retN : sRetN De ρ M = De.rt .non M := rfl
theorem e_aug {i : Nat} {wr : WR} : sAug i we wr De ρ M = match at_ ρ i with | some x => we ρ M (kAug i x wr De ρ) | none => False := rfl
end
structure TA where
  m : Addr
  l : Addr
  r : Addr
  u : Addr
def rowT (A : TA) : List (Key × D) := [(.inr "left", .ref A.l), (.inr "right", .ref A.r), (.inr "up", .ref A.u)]
def rowD (x : D) (A : TA) : List (Key × D) := (.inr "root", x) :: rowT A
def optD : Option Int → D
  | none => .non
  | some k => .int k
section
variable {M : Mem} {Φ : KD} {A : TA} {a : Addr} {x y : D}
theorem look_root : look (rowD x A) (.inr "root") = some x := by
  have : decide ((.inr "root" : Key) = .inr "root") = true := by decide +kernel
  simp only [look, rowD, rowT, List.find?, this]; rfl
theorem look_left : look (rowD x A) (.inr "left") = some (.ref A.l) := by
  have h1 : decide ((.inr "root" : Key) = .inr "left") = false := by decide +kernel
  have h2 : decide ((.inr "left" : Key) = .inr "left") = true := by decide +kernel
  simp only [look, rowD, rowT, List.find?, h1, h2]; rfl
theorem look_right : look (rowD x A) (.inr "right") = some (.ref A.r) := by
  have h1 : decide ((.inr "root" : Key) = .inr "right") = false := by decide +kernel
  have h2 : decide ((.inr "left" : Key) = .inr "right") = false := by decide +kernel
  have h3 : decide ((.inr "right" : Key) = .inr "right") = true := by decide +kernel
  simp only [look, rowD, rowT, List.find?, h1, h2, h3]; rfl
theorem look_up : look (rowD x A) (.inr "up") = some (.ref A.u) := by
  have h1 : decide ((.inr "root" : Key) = .inr "up") = false := by decide +kernel
  have h2 : decide ((.inr "left" : Key) = .inr "up") = false := by decide +kernel
  have h3 : decide ((.inr "right" : Key) = .inr "up") = false := by decide +kernel
  have h4 : decide ((.inr "up" : Key) = .inr "up") = true := by decide +kernel
  simp only [look, rowD, rowT, List.find?, h1, h2, h3, h4]; rfl
theorem e_tRoot (h : M a = some (.dK (rowD x A))) : wrIx (.ref a) (.str "root") M Φ = Φ x M := by rw [e_ixD h, look_root]
theorem e_tLeft (h : M a = some (.dK (rowD x A))) : wrIx (.ref a) (.str "left") M Φ = Φ (.ref A.l) M := by rw [e_ixD h, look_left]
theorem e_tRight (h : M a = some (.dK (rowD x A))) : wrIx (.ref a) (.str "right") M Φ = Φ (.ref A.r) M := by rw [e_ixD h, look_right]
theorem e_tUp (h : M a = some (.dK (rowD x A))) : wrIx (.ref a) (.str "up") M Φ = Φ (.ref A.u) M := by rw [e_ixD h, look_up]
theorem put_root : putKD (rowD x A) (.inr "root") y = rowD y A := by
  have h0 : decide ((.inr "root" : Key) = .inr "root") = true := by decide +kernel
  have h1 : decide ((.inr "left" : Key) = .inr "root") = false := by decide +kernel
  have h2 : decide ((.inr "right" : Key) = .inr "root") = false := by decide +kernel
  have h3 : decide ((.inr "up" : Key) = .inr "root") = false := by decide +kernel
  have n1 : ¬ (.inr "left" : Key) = .inr "root" := of_decide_eq_false h1
  have n2 : ¬ (.inr "right" : Key) = .inr "root" := of_decide_eq_false h2
  have n3 : ¬ (.inr "up" : Key) = .inr "root" := of_decide_eq_false h3
  unfold putKD
  simp only [rowD, rowT, List.any, decide_true, Bool.true_or, if_true, List.map, if_neg n1, if_neg n2, if_neg n3]
theorem e_tSetRoot {PM : Mem → Prop} (h : M a = some (.dK (rowD x A))) : kSub2 (.ref a) y PM (.str "root") M = PM (put M a (.dK (rowD y A))) := by
  rw [e_gsub2S h, put_root]
  have : (rowD x A).length < lim := (show (4 : Nat) < lim by decide)
  simp only [this, true_and]
end
end VL
local macro_rules | `(tactic| walk_at "vl") => `(tactic| simp only [VL.e_var, VL.e_at0, VL.e_at0n, VL.e_atS, VL.e_c, VL.e_op, VL.e_op1, VL.e_op2, VL.e_I, VL.e_IC, VL.e_addI, VL.e_addT, VL.e_addL, VL.e_mulI, VL.e_isN, VL.e_notN, VL.e_isN_non, VL.e_isN_int, VL.e_isN_bl, VL.e_isN_str, VL.e_isN_tup, VL.e_isN_lst, VL.e_isN_ref, VL.e_test, VL.e_testK, VL.e_and, VL.e_andT, VL.e_andF, VL.e_or, VL.e_orT, VL.e_orF, VL.e_not, VL.e_notK, VL.e_ifE, VL.e_ifET, VL.e_ifEF, VL.e_andV, VL.e_andVT, VL.e_andVF, VL.e_orV, VL.e_orVT, VL.e_orVF, VL.e_notV, VL.e_notVK, VL.e_neg, VL.e_negK, VL.e_nil, VL.e_cons, VL.e_cons1, VL.e_cons2, VL.e_tup, VL.e_tupK, VL.e_lst, VL.e_lstK, VL.e_lstM, VL.e_lstMK, VL.e_cb, VL.e_cbK, VL.e_lenT, VL.e_lenL, VL.e_lenF, VL.e_tupCL, VL.e_tupCT, VL.e_lstCL, VL.e_lstCT, VL.e_min2, VL.e_max2, VL.e_sl, VL.e_sl1, VL.e_sl2, VL.e_sl3T, VL.e_sl3L, VL.e_sl3F, VL.e_noPart, VL.e_part, VL.e_partK, VL.e_revL, VL.e_revLK, VL.e_call, VL.e_callK, VL.e_callD, VL.e_callDK, VL.e_callKw, VL.e_callKw1, VL.e_callKw2, VL.e_bm, VL.e_bm2, VL.e_ixL, VL.e_ixT, VL.e_next, VL.e_seq, VL.e_drop, VL.e_dropK, VL.e_ret, VL.e_retF, VL.e_if, VL.e_ifT, VL.e_ifF, VL.e_asg, VL.e_asgK, VL.e_gname, VL.e_par, VL.e_parK, VL.e_par3, VL.e_par3K, VL.e_gsub, VL.e_gsub1, VL.e_gnil, VL.e_gcons, VL.e_kg1, VL.e_gtup, VL.e_for, VL.e_forK, VL.e_wiSeq, VL.e_seqIL, VL.e_seqIT, VL.e_wiRng1, VL.e_rng1K, VL.e_wiRng2, VL.e_rng2K, VL.e_wiZip, VL.e_zipKL, VL.e_zipKT, VL.e_lc, VL.e_lc0, VL.e_lcF, VL.e_lc1, VL.e_lc2T, VL.e_lc2F, VL.e_lc3, VL.e_yes, VL.e_wipe0, VL.e_wipeS, VL.e_endsNx, VL.e_endsRt, VL.e_eqI, VL.e_neI, VL.e_eqB, VL.e_neB, VL.e_eqTI, VL.e_neTI, VL.e_eqLI, VL.e_neLI, VL.e_eqT0, VL.e_neT0, VL.e_eqL0, VL.e_neL0, VL.e_disp, VL.e_dispK, VL.e_pcons, VL.e_p1, VL.e_p2s, VL.e_p2i, VL.e_p3, VL.e_pnil, VL.e_dict0, VL.e_get, VL.e_get2, VL.e_whT, VL.e_whF, VL.e_break, VL.e_cont, VL.e_retN, VL.e_aug, VL.e_lenR VL.put_same, VL.e_tupCR VL.put_same, VL.e_bm1 VL.put_same, VL.e_append VL.put_same, VL.e_insert VL.put_same, VL.e_ixD VL.put_same, VL.e_ixDi VL.put_same, VL.e_dr0 VL.put_same, VL.e_dr1 VL.put_same, VL.e_dr2 VL.put_same, VL.e_dr3 VL.put_same, VL.e_fz VL.put_same, VL.e_gsub2S VL.put_same, VL.e_gsub2I VL.put_same, VL.e_ds1 VL.put_same, VL.e_ds2 VL.put_same, VL.e_ds3 VL.put_same, VL.e_neR0 VL.put_same, VL.e_eqR0 VL.put_same, VL.e_get1 VL.put_same, VL.e_get3 VL.put_same, VL.e_pop VL.put_same, VL.e_extL VL.put_same, VL.e_addM VL.put_same, VL.e_inI VL.put_same, VL.e_ninI VL.put_same, VL.e_tRoot VL.put_same, VL.e_tLeft VL.put_same, VL.e_tRight VL.put_same, VL.e_tUp VL.put_same, VL.e_tSetRoot VL.put_same, Bool.not_true, Bool.not_false, VL.put_put, List.set_cons_zero, List.set_cons_succ, List.replicate])
local macro_rules | `(tactic| wp_walk using $ts,*) => `(tactic| simp only [VL.e_var, VL.e_at0, VL.e_at0n, VL.e_atS, VL.e_c, VL.e_op, VL.e_op1, VL.e_op2, VL.e_I, VL.e_IC, VL.e_addI, VL.e_addT, VL.e_addL, VL.e_mulI, VL.e_isN, VL.e_notN, VL.e_isN_non, VL.e_isN_int, VL.e_isN_bl, VL.e_isN_str, VL.e_isN_tup, VL.e_isN_lst, VL.e_isN_ref, VL.e_test, VL.e_testK, VL.e_and, VL.e_andT, VL.e_andF, VL.e_or, VL.e_orT, VL.e_orF, VL.e_not, VL.e_notK, VL.e_ifE, VL.e_ifET, VL.e_ifEF, VL.e_andV, VL.e_andVT, VL.e_andVF, VL.e_orV, VL.e_orVT, VL.e_orVF, VL.e_notV, VL.e_notVK, VL.e_neg, VL.e_negK, VL.e_nil, VL.e_cons, VL.e_cons1, VL.e_cons2, VL.e_tup, VL.e_tupK, VL.e_lst, VL.e_lstK, VL.e_lstM, VL.e_lstMK, VL.e_cb, VL.e_cbK, VL.e_lenT, VL.e_lenL, VL.e_lenF, VL.e_tupCL, VL.e_tupCT, VL.e_lstCL, VL.e_lstCT, VL.e_min2, VL.e_max2, VL.e_sl, VL.e_sl1, VL.e_sl2, VL.e_sl3T, VL.e_sl3L, VL.e_sl3F, VL.e_noPart, VL.e_part, VL.e_partK, VL.e_revL, VL.e_revLK, VL.e_call, VL.e_callK, VL.e_callD, VL.e_callDK, VL.e_callKw, VL.e_callKw1, VL.e_callKw2, VL.e_bm, VL.e_bm2, VL.e_ixL, VL.e_ixT, VL.e_next, VL.e_seq, VL.e_drop, VL.e_dropK, VL.e_ret, VL.e_retF, VL.e_if, VL.e_ifT, VL.e_ifF, VL.e_asg, VL.e_asgK, VL.e_gname, VL.e_par, VL.e_parK, VL.e_par3, VL.e_par3K, VL.e_gsub, VL.e_gsub1, VL.e_gnil, VL.e_gcons, VL.e_kg1, VL.e_gtup, VL.e_for, VL.e_forK, VL.e_wiSeq, VL.e_seqIL, VL.e_seqIT, VL.e_wiRng1, VL.e_rng1K, VL.e_wiRng2, VL.e_rng2K, VL.e_wiZip, VL.e_zipKL, VL.e_zipKT, VL.e_lc, VL.e_lc0, VL.e_lcF, VL.e_lc1, VL.e_lc2T, VL.e_lc2F, VL.e_lc3, VL.e_yes, VL.e_wipe0, VL.e_wipeS, VL.e_endsNx, VL.e_endsRt, VL.e_eqI, VL.e_neI, VL.e_eqB, VL.e_neB, VL.e_eqTI, VL.e_neTI, VL.e_eqLI, VL.e_neLI, VL.e_eqT0, VL.e_neT0, VL.e_eqL0, VL.e_neL0, VL.e_disp, VL.e_dispK, VL.e_pcons, VL.e_p1, VL.e_p2s, VL.e_p2i, VL.e_p3, VL.e_pnil, VL.e_dict0, VL.e_get, VL.e_get2, VL.e_whT, VL.e_whF, VL.e_break, VL.e_cont, VL.e_retN, VL.e_aug, VL.e_lenR VL.put_same, VL.e_tupCR VL.put_same, VL.e_bm1 VL.put_same, VL.e_append VL.put_same, VL.e_insert VL.put_same, VL.e_ixD VL.put_same, VL.e_ixDi VL.put_same, VL.e_dr0 VL.put_same, VL.e_dr1 VL.put_same, VL.e_dr2 VL.put_same, VL.e_dr3 VL.put_same, VL.e_fz VL.put_same, VL.e_gsub2S VL.put_same, VL.e_gsub2I VL.put_same, VL.e_ds1 VL.put_same, VL.e_ds2 VL.put_same, VL.e_ds3 VL.put_same, VL.e_neR0 VL.put_same, VL.e_eqR0 VL.put_same, VL.e_get1 VL.put_same, VL.e_get3 VL.put_same, VL.e_pop VL.put_same, VL.e_extL VL.put_same, VL.e_addM VL.put_same, VL.e_inI VL.put_same, VL.e_ninI VL.put_same, VL.e_tRoot VL.put_same, VL.e_tLeft VL.put_same, VL.e_tRight VL.put_same, VL.e_tUp VL.put_same, VL.e_tSetRoot VL.put_same, Bool.not_true, Bool.not_false, VL.put_put, List.set_cons_zero, List.set_cons_succ, List.replicate, $[$ts:term],*])
local macro_rules | `(tactic| k_search $h) => `(tactic| simp only [VL.e_var, VL.e_at0, VL.e_at0n, VL.e_atS, VL.e_c, VL.e_op, VL.e_op1, VL.e_op2, VL.e_I, VL.e_IC, VL.e_addI, VL.e_addT, VL.e_addL, VL.e_mulI, VL.e_isN, VL.e_notN, VL.e_isN_non, VL.e_isN_int, VL.e_isN_bl, VL.e_isN_str, VL.e_isN_tup, VL.e_isN_lst, VL.e_isN_ref, VL.e_test, VL.e_testK, VL.e_and, VL.e_andT, VL.e_andF, VL.e_or, VL.e_orT, VL.e_orF, VL.e_not, VL.e_notK, VL.e_ifE, VL.e_ifET, VL.e_ifEF, VL.e_andV, VL.e_andVT, VL.e_andVF, VL.e_orV, VL.e_orVT, VL.e_orVF, VL.e_notV, VL.e_notVK, VL.e_neg, VL.e_negK, VL.e_nil, VL.e_cons, VL.e_cons1, VL.e_cons2, VL.e_tup, VL.e_tupK, VL.e_lst, VL.e_lstK, VL.e_lstM, VL.e_lstMK, VL.e_cb, VL.e_cbK, VL.e_lenT, VL.e_lenL, VL.e_lenF, VL.e_tupCL, VL.e_tupCT, VL.e_lstCL, VL.e_lstCT, VL.e_min2, VL.e_max2, VL.e_sl, VL.e_sl1, VL.e_sl2, VL.e_sl3T, VL.e_sl3L, VL.e_sl3F, VL.e_noPart, VL.e_part, VL.e_partK, VL.e_revL, VL.e_revLK, VL.e_call, VL.e_callK, VL.e_callD, VL.e_callDK, VL.e_callKw, VL.e_callKw1, VL.e_callKw2, VL.e_bm, VL.e_bm2, VL.e_ixL, VL.e_ixT, VL.e_next, VL.e_seq, VL.e_drop, VL.e_dropK, VL.e_ret, VL.e_retF, VL.e_if, VL.e_ifT, VL.e_ifF, VL.e_asg, VL.e_asgK, VL.e_gname, VL.e_par, VL.e_parK, VL.e_par3, VL.e_par3K, VL.e_gsub, VL.e_gsub1, VL.e_gnil, VL.e_gcons, VL.e_kg1, VL.e_gtup, VL.e_for, VL.e_forK, VL.e_wiSeq, VL.e_seqIL, VL.e_seqIT, VL.e_wiRng1, VL.e_rng1K, VL.e_wiRng2, VL.e_rng2K, VL.e_wiZip, VL.e_zipKL, VL.e_zipKT, VL.e_lc, VL.e_lc0, VL.e_lcF, VL.e_lc1, VL.e_lc2T, VL.e_lc2F, VL.e_lc3, VL.e_yes, VL.e_wipe0, VL.e_wipeS, VL.e_endsNx, VL.e_endsRt, VL.e_eqI, VL.e_neI, VL.e_eqB, VL.e_neB, VL.e_eqTI, VL.e_neTI, VL.e_eqLI, VL.e_neLI, VL.e_eqT0, VL.e_neT0, VL.e_eqL0, VL.e_neL0, VL.e_disp, VL.e_dispK, VL.e_pcons, VL.e_p1, VL.e_p2s, VL.e_p2i, VL.e_p3, VL.e_pnil, VL.e_dict0, VL.e_get, VL.e_get2, VL.e_whT, VL.e_whF, VL.e_break, VL.e_cont, VL.e_retN, VL.e_aug, VL.e_lenR VL.put_same, VL.e_tupCR VL.put_same, VL.e_bm1 VL.put_same, VL.e_append VL.put_same, VL.e_insert VL.put_same, VL.e_ixD VL.put_same, VL.e_ixDi VL.put_same, VL.e_dr0 VL.put_same, VL.e_dr1 VL.put_same, VL.e_dr2 VL.put_same, VL.e_dr3 VL.put_same, VL.e_fz VL.put_same, VL.e_gsub2S VL.put_same, VL.e_gsub2I VL.put_same, VL.e_ds1 VL.put_same, VL.e_ds2 VL.put_same, VL.e_ds3 VL.put_same, VL.e_neR0 VL.put_same, VL.e_eqR0 VL.put_same, VL.e_get1 VL.put_same, VL.e_get3 VL.put_same, VL.e_pop VL.put_same, VL.e_extL VL.put_same, VL.e_addM VL.put_same, VL.e_inI VL.put_same, VL.e_ninI VL.put_same, VL.e_tRoot VL.put_same, VL.e_tLeft VL.put_same, VL.e_tRight VL.put_same, VL.e_tUp VL.put_same, VL.e_tSetRoot VL.put_same, Bool.not_true, Bool.not_false, VL.put_put, List.set_cons_zero, List.set_cons_succ, List.replicate, VL.e_dr0 $h, VL.e_dr1 $h, VL.e_dr2 $h, VL.e_dr3 $h, VL.e_ds1 $h, VL.e_ds2 $h, VL.e_ds3 $h])
namespace VL
open PySem PySem.Spec PyProof.Rows L2
def PR : Int := 2305843009213693951
def DrO (mo : MO) : Prop := ∃ (ns : List Int) (p q s : Int), mo = .lst [.lst (ns.map D.int), .int p, .int q, .int s] ∧ 0 ≤ p ∧ 0 ≤ q ∧ 0 ≤ s ∧ s < PR
def Dw (M : Mem) (d : Addr) : Prop := ∃ mo, M d = some mo ∧ DrO mo
structure Kp (d : Addr) (M M' : Mem) : Prop where
  dw : Dw M' d
  rest : ∀ a o, a ≠ d → M a = some o → M' a = some o
theorem Kp.refl {d : Addr} {M : Mem} (h : Dw M d) : Kp d M M := ⟨h, fun _ _ _ e => e⟩
theorem Kp.trans {d : Addr} {M M1 M2 : Mem} (a : Kp d M M1) (b : Kp d M1 M2) : Kp d M M2 := ⟨b.dw, fun p o n e => b.rest p o n (a.rest p o n e)⟩
theorem Kp.put {d : Addr} {M : Mem} {mo : MO} (h : DrO mo) : Kp d M (put M d mo) := ⟨⟨mo, put_same, h⟩, fun a o n e => by rw [put_ne n]; exact e⟩
def W_l_take : W3 := fun ds M Φ => ∃ d n, ds = [.ref d, .int n] ∧ Dw M d ∧ (0 < n ∧ n ≤ 10 ^ 40) ∧ ∀ r M', 0 ≤ r → r < n → Kp d M M' → Φ (.int r) M'
def w_l_take2 : WS := (sSeq (sIf (wTest (wOp (wrI fun i j => .bl (decide (j ≤ i))) (wOp wrIx (wVar 0) (wC (.int 2))) (wVar 1))) (sSeq (sAsg (wOp (wrIC (fun _ j => 0 < j) fun i j => .int (i % j)) (wOp wrIx (wVar 0) (wC (.int 2))) (wVar 1)) (wgName 3))
  (sSeq (sAsg (wOp (wrIC CDivW fun i j => .int (i / j)) (wOp wrIx (wVar 0) (wC (.int 2))) (wVar 1)) (wgSub (wVar 0) (wC (.int 2))))
  (sRet (wVar 3)))) sNext)
  (sSeq (sAsg (wOp (wrIC (fun _ j => 0 < j) fun i j => .int (i % j)) (wOp wrMul (wOp wrIx (wVar 0) (wC (.int 3))) (wOp wrIx (wVar 0) (wC (.int 3)))) (wC (.int 2305843009213693951))) (wgName 4))
  (sSeq (sAsg (wOp (wrIC (fun _ j => 0 < j) fun i j => .int (i % j)) (wOp wrAdd (wOp wrAdd (wOp wrMul (wVar 4) (wC (.int 48271))) (wOp wrMul (wOp wrIx (wVar 0) (wC (.int 3))) (wC (.int 16807)))) (wC (.int 12345))) (wC (.int 2305843009213693951))) (wgSub (wVar 0) (wC (.int 3))))
  (sRet (wOp (wrIC (fun _ j => 0 < j) fun i j => .int (i % j)) (wOp (wrIC CDivW fun i j => .int (i / j)) (wOp wrIx (wVar 0) (wC (.int 3))) (wC (.int 1021))) (wVar 1))))))
def w_l_take : WS := (sSeq (sIf (wAnd (wTest (wOp (wrI fun i j => .bl (decide (i < j))) (wOp wrIx (wVar 0) (wC (.int 2))) (wVar 1))) (wTest (wOp (wrI fun i j => .bl (decide (i < j))) (wOp wrIx (wVar 0) (wC (.int 1))) (wCB wrLen (wCons (wOp wrIx (wVar 0) (wC (.int 0))) wNil))))) (sSeq (sAsg (wOp wrIx (wOp wrIx (wVar 0) (wC (.int 0))) (wOp wrIx (wVar 0) (wC (.int 1)))) (wgName 2))
  (sSeq (sAsg (wOp wrAdd (wOp wrIx (wVar 0) (wC (.int 1))) (wC (.int 1))) (wgSub (wVar 0) (wC (.int 1))))
  (sSeq (sAsg (wC (.int 0)) (wgSub (wVar 0) (wC (.int 2))))
  (sSeq (sIf (wTest (wOp (wrI fun i j => .bl (decide (j ≤ i))) (wVar 2) (wOp (wrIC CPow fun i j => .int (i ^ j.toNat)) (wC (.int 10)) (wC (.int 18))))) (sAsg (wVar 2) (wgSub (wVar 0) (wC (.int 2)))) sNext)
  (sAsg (wOp (wrIC (fun _ j => 0 < j) fun i j => .int (i % j)) (wOp wrAdd (wOp wrAdd (wOp wrMul (wOp wrIx (wVar 0) (wC (.int 3))) (wC (.int 52711))) (wOp wrMul (wOp (wrIC (fun _ j => 0 < j) fun i j => .int (i % j)) (wVar 2) (wC (.int 2305843009213693951))) (wC (.int 7)))) (wOp wrIx (wVar 0) (wC (.int 1)))) (wC (.int 2305843009213693951))) (wgSub (wVar 0) (wC (.int 3)))))))) sNext) w_l_take2)
theorem r_l_take2 {M : Mem} {Φ : KD} {d : Addr} {n p q s : Int} {c : D} {o2 : Option D} (hM : M d = some (.lst [c, .int p, .int q, .int s])) (hn : 0 < n) (hn2 : n ≤ 10 ^ 40) (h1 : 0 ≤ q) (h2 : 0 ≤ s) (h3 : s < PR)
    (k : ∀ r q' s', 0 ≤ r → r < n → 0 ≤ q' → 0 ≤ s' → s' < PR → Φ (.int r) (put M d (.lst [c, .int p, .int q', .int s']))) : w_l_take2 (endsD Φ) [some (.ref d), some (.int n), o2, none, none] M := by
  have hdiv : CDivW q n := wide_div (b := 140) hn (by have : n.natAbs ≤ 10 ^ 40 := by omega
                                                      exact Nat.lt_of_le_of_lt this (by decide)) (by decide) (by decide)
  have hP : (2305843009213693951 : Int) = PR := rfl
  unfold w_l_take2
  k_search hM
  by_cases hq : n ≤ q
  · rw [decide_eq_true hq]
    k_search hM
    refine ⟨hn, hdiv, ?_⟩
    have := k (q % n) (q / n) s (Int.emod_nonneg _ (by omega)) (Int.emod_lt_of_pos _ hn) (Int.ediv_nonneg h1 (by omega)) h2 h3
    exact this
  · rw [decide_eq_false hq]
    k_search hM
    have m1 : ∀ i j : Int, 0 ≤ i → i < PR → 0 ≤ j → j < PR → CMulW i j := fun i j a b c d => wide_mul (a := 64) (b := 64) (by unfold PR at b; omega) (by unfold PR at d; omega) (by decide) (by decide) (by decide)
    have z1 : 0 ≤ s * s % 2305843009213693951 := Int.emod_nonneg _ (by decide)
    have z2 : s * s % 2305843009213693951 < PR := Int.emod_lt_of_pos _ (by decide)
    refine ⟨m1 s s h2 h3 h2 h3, by decide, m1 _ _ z1 z2 (by decide) (by decide), m1 _ _ h2 h3 (by decide) (by decide), by decide, ?_⟩
    generalize hs : (s * s % 2305843009213693951 * 48271 + s * 16807 + 12345) % 2305843009213693951 = s'
    have z3 : 0 ≤ s' := by rw [← hs]; exact Int.emod_nonneg _ (by decide)
    have z4 : s' < PR := by rw [← hs]; exact Int.emod_lt_of_pos _ (by decide)
    refine ⟨wide_div (b := 20) (by decide) (by decide) (by decide) (by decide), hn, ?_⟩
    exact k _ q s' (Int.emod_nonneg _ (by omega)) (Int.emod_lt_of_pos _ hn) h1 z3 z4
theorem r_l_take : ∀ ds M Φ, W_l_take ds M Φ → w_l_take (endsD Φ) (startD 5 ds) M := by
  intro ds M Φ ⟨d, n, eds, ⟨mo, hM, ns, p, q, s, emo, h0, h1, h2, h3⟩, ⟨hn, hn2⟩, k⟩
  subst eds emo
  unfold w_l_take
  rw [start_2]
  k_search hM
  have go : ∀ (p' q' s' : Int) (M' : Mem), M' = M ∨ M' = put M d (.lst [.lst (ns.map D.int), .int p', .int q', .int s']) → M' d = some (.lst [.lst (ns.map D.int), .int p', .int q', .int s']) → 0 ≤ p' → 0 ≤ q' → 0 ≤ s' → s' < PR → ∀ o2, w_l_take2 (endsD Φ) [some (.ref d), some (.int n), o2, none, none] M' := by
    intro p' q' s' M' hm hM' g1 g2 g3 g4 o2
    refine r_l_take2 hM' hn hn2 g2 g3 g4 fun r q2 s2 e1 e2 e3 e4 e5 => ?_
    have := k r _ e1 e2 (Kp.put (mo := .lst [.lst (ns.map D.int), .int p', .int q2, .int s2]) ⟨ns, p', q2, s2, rfl, g1, e3, e4, e5⟩)
    rcases hm with hm | hm
    · rw [hm]; exact this
    · rw [hm, put_put]; exact this
  by_cases hq : q < n
  · rw [decide_eq_true hq]
    k_search hM
    by_cases hp : p < ((ns.map D.int).length : Int)
    · rw [decide_eq_true hp]
      k_search hM
      have hp2 : p.toNat < ns.length := by rw [List.length_map] at hp; omega
      have e1 : atD (ns.map D.int) p = some (.int ns[p.toNat]) := by
        have e0 : ixN (ns.map D.int).length p = some p.toNat := by unfold ixN; rw [if_pos h0, if_pos hp]
        unfold atD
        rw [e0]
        simp [hp2]
      rw [e1]
      have h7 : CMulW s 52711 := wide_mul (a := 64) (b := 64) (by unfold PR at h3; omega) (by decide) (by decide) (by decide) (by decide)
      have z1 : 0 ≤ ns[p.toNat] % 2305843009213693951 := Int.emod_nonneg _ (by decide)
      have z2 : ns[p.toNat] % 2305843009213693951 < 2305843009213693951 := Int.emod_lt_of_pos _ (by decide)
      have h8 : CMulW (ns[p.toNat] % 2305843009213693951) 7 := wide_mul (a := 64) (b := 64) (by omega) (by decide) (by decide) (by decide) (by decide)
      walk_at "vl"
      refine ⟨⟨by decide, by decide, by decide⟩, ?_⟩
      by_cases hc : (10 ^ (18 : Int).toNat : Int) ≤ ns[p.toNat]
      · rw [decide_eq_true hc]
        walk_at "vl"
        refine ⟨h7, by decide, h8, by decide, ?_⟩
        refine go (p + 1) ns[p.toNat] _ _ (.inr rfl) put_same (by omega) ?_ (Int.emod_nonneg _ (by decide)) (Int.emod_lt_of_pos _ (by decide)) _
        exact Int.le_trans (by decide) hc
      · rw [decide_eq_false hc]
        walk_at "vl"
        refine ⟨h7, by decide, h8, by decide, ?_⟩
        exact go (p + 1) 0 _ _ (.inr rfl) put_same (by omega) (by decide) (Int.emod_nonneg _ (by decide)) (Int.emod_lt_of_pos _ (by decide)) _
    · rw [decide_eq_false hp]
      k_search hM
      exact go p q s M (.inl rfl) hM h0 h1 h2 h3 _
  · rw [decide_eq_false hq]
    k_search hM
    exact go p q s M (.inl rfl) hM h0 h1 h2 h3 _
theorem W_take_go {d : Addr} {n : Int} {M : Mem} {Φ : KD} (h : Dw M d) (h0 : 0 < n) (h1 : n ≤ 10 ^ 40) (k : ∀ r M', 0 ≤ r → r < n → Kp d M M' → Φ (.int r) M') : W_l_take [.ref d, .int n] M Φ := ⟨d, n, rfl, h, ⟨h0, h1⟩, k⟩
def W_l_start : W3 := fun ds M Φ => ∃ ns : List Int, ds = [.fz (ns.map D.int)] ∧ ns.length ≤ 63 ∧ ∀ p M', M p = none → Dw M' p → (∀ a o, M a = some o → M' a = some o) → Φ (.ref p) M'
def w_l_start : WS := (sRet (wLstM (wCons (wCB wrLstC (wCons (wSl (wVar 0) wNoPart (wPart (wC (.int 63)))) wNil)) (wCons (wC (.int 0)) (wCons (wC (.int 0)) (wCons (wOp wrAdd (wC (.int 9484)) (wOp wrMul (wC (.int 31)) (wCB wrLen (wCons (wSl (wVar 0) wNoPart (wPart (wC (.int 63)))) wNil)))) wNil))))))
theorem cut_take {ns : List Int} (h : ns.length ≤ 63) : cutD (ns.map D.int) none (some 63) = ns.map D.int := by
  unfold cutD
  rw [HT.sIx_none, show HT.sIx (ns.map D.int).length (ns.map D.int).length (some 63) = min 63 (ns.map D.int).length from HT.sIx_nat _ _ 63, List.drop_zero]
  rw [List.take_of_length_le]
  rw [List.length_map]; omega
theorem r_l_start : ∀ ds M Φ, W_l_start ds M Φ → w_l_start (endsD Φ) (startD 1 ds) M := by
  intro ds M Φ ⟨ns, eds, hl, k⟩
  subst eds
  unfold w_l_start
  rw [start_1]
  walk_at "vl"
  rw [cut_take hl, List.length_map]
  refine ⟨wide_mul (a := 64) (b := 64) (by decide) (by omega) (by decide) (by decide) (by decide), (show (4 : Nat) ≤ lim by decide), fun p hp => ?_⟩
  refine k p _ hp ⟨_, put_same, ns, 0, 0, _, rfl, by decide, by decide, by omega, by unfold PR; omega⟩ fun a o e => ?_
  rw [put_ne (ne_mem e hp)]
  exact e
def W_l_of : W3 := fun ds M Φ => ∃ d es, (ds = [.ref d, .lst es] ∨ ds = [.ref d, .tup es]) ∧ Dw M d ∧ (0 < es.length ∧ es.length ≤ 100000) ∧ ∀ x M', x ∈ es → Kp d M M' → Φ x M'
def w_l_of : WS := (sRet (wOp wrIx (wVar 1) (wCall W_l_take (wCons (wVar 0) (wCons (wCB wrLen (wCons (wVar 1) wNil)) wNil)))))
theorem atD_of {ds : List D} {i : Int} (h0 : 0 ≤ i) (h1 : i < ds.length) : atD ds i = some (ds[i.toNat]'(by omega)) := by
  unfold atD ixN
  rw [if_pos h0, if_pos h1]
  exact List.getElem?_eq_getElem (by omega)
theorem r_l_of : ∀ ds M Φ, W_l_of ds M Φ → w_l_of (endsD Φ) (startD 2 ds) M := by
  intro ds M Φ ⟨d, es, eds, hd, ⟨h0, h1⟩, k⟩
  rcases eds with eds | eds
  · subst eds
    unfold w_l_of
    rw [start_2]
    walk_at "vl"
    refine W_take_go hd (by omega) (by omega) fun r M' g0 g1 kp => ?_
    walk_at "vl"
    rw [atD_of g0 g1]
    exact k _ M' (List.getElem_mem _) kp
  · subst eds
    unfold w_l_of
    rw [start_2]
    walk_at "vl"
    refine W_take_go hd (by omega) (by omega) fun r M' g0 g1 kp => ?_
    walk_at "vl"
    rw [atD_of g0 g1]
    exact k _ M' (List.getElem_mem _) kp
theorem Dw.put_ne {M : Mem} {d p : Addr} {mo : MO} (h : Dw M d) (n : d ≠ p) : Dw (put M p mo) d := by
  obtain ⟨m, h1, h2⟩ := h
  exact ⟨m, by rw [VL.put_ne n]; exact h1, h2⟩
theorem Dw.del_ne {M : Mem} {d p : Addr} (h : Dw M d) (n : d ≠ p) : Dw (del M p) d := by
  obtain ⟨m, h1, h2⟩ := h
  exact ⟨m, by rw [VL.del_ne n]; exact h1, h2⟩
theorem Dw.ne {M : Mem} {d p : Addr} (h : Dw M d) (hp : M p = none) : d ≠ p := by
  obtain ⟨m, h1, h2⟩ := h
  exact ne_mem h1 hp
def Asc (ks : List Int) : Prop := ks.Pairwise (· < ·)
def W_l_keys : W3 := fun ds M Φ => ∃ d n, ds = [.ref d, .int n] ∧ Dw M d ∧ (0 ≤ n ∧ n ≤ 49) ∧ ∀ (ks : List Int) M', (ks.length : Int) = n → Asc ks → (∀ k ∈ ks, -(10 ^ 9) ≤ k ∧ k ≤ 10 ^ 9 - 1000) → Kp d M M' → Φ (.lst (ks.map D.int)) M'
def w_l_keys : WS := (sSeq (sAsg (wCall W_l_of (wCons (wVar 0) (wCons (wLst (wCons (wOp (wrI fun i j => .int (i - j)) (wC (.int 0)) (wC (.int 5))) (wCons (wC (.int 1)) (wCons (wOp (wrI fun i j => .int (i - j)) (wC (.int 0)) (wOp (wrIC CPow fun i j => .int (i ^ j.toNat)) (wC (.int 10)) (wC (.int 9)))) (wCons (wOp (wrI fun i j => .int (i - j)) (wOp (wrIC CPow fun i j => .int (i ^ j.toNat)) (wC (.int 10)) (wC (.int 9))) (wC (.int 50000))) (wCons (wCall W_l_take (wCons (wVar 0) (wCons (wOp (wrIC CPow fun i j => .int (i ^ j.toNat)) (wC (.int 10)) (wC (.int 6))) wNil))) wNil)))))) wNil))) (wgName 2))
  (sSeq (sPar 3 4 (wCons (wCall W_l_of (wCons (wVar 0) (wCons (wLst (wCons (wC (.int 1)) (wCons (wC (.int 2)) (wCons (wC (.int 9)) (wCons (wC (.int 1000)) wNil))))) wNil))) (wCons (wLstM wNil) wNil)))
  (sSeq (sFor (wiRng1 (wCons (wVar 1) wNil)) (wgName 5) (sSeq (sDrop (wBM wrAppend (wVar 4) (wCons (wVar 2) wNil)))
  (sAsg (wOp wrAdd (wOp wrAdd (wVar 2) (wC (.int 1))) (wCall W_l_take (wCons (wVar 0) (wCons (wVar 3) wNil)))) (wgName 2))))
  (sRetF (wVar 4)))))
theorem asc_snoc {ks : List Int} {k : Int} (h : Asc ks) (hk : ∀ x ∈ ks, x < k) : Asc (ks ++ [k]) := by
  unfold Asc
  rw [List.pairwise_append]
  exact ⟨h, List.pairwise_singleton _ _, fun x hx y hy => by rw [List.mem_singleton.mp hy]; exact hk x hx⟩
theorem r_l_keys : ∀ ds M Φ, W_l_keys ds M Φ → w_l_keys (endsD Φ) (startD 6 ds) M := by
  intro ds M Φ ⟨d, n, eds, hd, ⟨h0, h1⟩, k⟩
  subst eds
  unfold w_l_keys
  rw [start_2]
  walk_at "vl"
  refine ⟨⟨by decide, by decide, by decide⟩, ⟨by decide, by decide, by decide⟩, ⟨by decide, by decide, by decide⟩, W_take_go hd (by decide) (by decide) fun r M1 g0 g1 kp1 => ?_⟩
  walk_at "vl"
  refine ⟨(show (5 : Nat) ≤ lim by decide), d, _, .inl rfl, kp1.dw, ⟨(show (0 : Nat) < 5 by decide), (show (5 : Nat) ≤ 100000 by decide)⟩, fun x M2 hx kp2 => ?_⟩
  have hx2 : ∃ k0 : Int, x = .int k0 ∧ -(10 ^ 9) ≤ k0 ∧ k0 ≤ 10 ^ 9 - 50000 := by
    simp only [List.mem_cons, List.not_mem_nil, or_false] at hx
    have e9 : (10 : Int) ^ (9 : Int).toNat = 1000000000 := by decide
    have e6 : (10 : Int) ^ (6 : Int).toNat = 1000000 := by decide
    rw [e6] at g1
    rcases hx with rfl | rfl | rfl | rfl | rfl
    · exact ⟨_, rfl, by decide, by decide⟩
    · exact ⟨_, rfl, by decide, by decide⟩
    · exact ⟨_, rfl, by decide, by decide⟩
    · exact ⟨_, rfl, by decide, by decide⟩
    · exact ⟨_, rfl, by omega, by omega⟩
  obtain ⟨k0, rfl, b0, b1⟩ := hx2
  walk_at "vl"
  refine ⟨(show (4 : Nat) ≤ lim by decide), d, _, .inl rfl, kp2.dw, ⟨by decide, by decide⟩, fun x M3 hx kp3 => ?_⟩
  have hx3 : ∃ w : Int, x = .int w ∧ 0 < w ∧ w ≤ 1000 := by
    simp only [List.mem_cons, List.not_mem_nil, or_false] at hx
    rcases hx with rfl | rfl | rfl | rfl
    · exact ⟨_, rfl, by decide, by decide⟩
    · exact ⟨_, rfl, by decide, by decide⟩
    · exact ⟨_, rfl, by decide, by decide⟩
    · exact ⟨_, rfl, by decide, by decide⟩
  obtain ⟨w, rfl, w0, w1⟩ := hx3
  have kp := (kp1.trans kp2).trans kp3
  walk_at "vl"
  refine ⟨by decide, fun p hp => ?_⟩
  have dp := kp.dw.ne hp
  have hpM : M p = none := by
    cases e : M p with
    | none => rfl
    | some o => rw [kp.rest p o dp.symm e] at hp; cases hp
  refine ⟨⟨by omega, by omega⟩, ?_⟩
  refine loop_inv (fun pre post ρ M4 => ∃ (o5 : Option D) (ks : List Int) (kn : Int), ρ = [some (.ref d), some (.int n), some (.int kn), some (.int w), some (.ref p), o5] ∧ ks.length = pre.length ∧ Asc ks ∧ (∀ x ∈ ks, -(10 ^ 9) ≤ x ∧ x < kn) ∧ (-(10 ^ 9) ≤ kn ∧ kn ≤ 10 ^ 9 - 50000 + 1000 * (pre.length : Int)) ∧ M4 p = some (.lst (ks.map D.int)) ∧ Dw M4 d ∧ ∀ a o, a ≠ d → M a = some o → M4 a = some o) ?_ ?_ ?_
  · exact ⟨none, [], k0, rfl, rfl, .nil, (fun x hx => nomatch hx), ⟨b0, by omega⟩, put_same, kp.dw.put_ne dp, fun a o n e => by rw [put_ne (ne_mem e hpM)]; exact kp.rest a o n e⟩
  · rintro pre x post ρ M4 bk nx e ⟨o5, ks, kn, rfl, lk, ha, hb, ⟨c0, c1⟩, hp1, hd1, hr⟩ _ hnx
    have ll : pre.length < n.toNat := by
      have := congrArg List.length e
      rw [rgD_len, List.length_append, List.length_cons] at this
      omega
    wp_walk using e_bm1 hp1, e_append hp1
    refine ⟨by rw [List.length_map, lk]; exact Nat.lt_of_lt_of_le ll (by unfold lim; omega), ?_⟩
    refine W_take_go (hd1.put_ne dp) w0 (by omega) fun r M5 g0 g1 kp5 => ?_
    walk_at "vl"
    refine hnx _ _ ⟨some x, ks ++ [kn], kn + 1 + r, rfl, by rw [List.length_append, List.length_append, lk]; rfl, asc_snoc ha fun x hx => (hb x hx).2, fun x hx => ?_, ⟨by omega, ?_⟩, ?_, kp5.dw, fun a o n e1 => ?_⟩
    · rcases List.mem_append.mp hx with hx | hx
      · have := hb x hx; omega
      · rw [List.mem_singleton.mp hx]; omega
    · rw [List.length_append, List.length_singleton]; omega
    · have := kp5.rest p _ dp.symm put_same
      rw [this, List.map_append]; rfl
    · refine kp5.rest a o n ?_
      rw [put_ne (ne_mem e1 hpM)]
      exact hr a o n e1
  · rintro ρ M4 ⟨o5, ks, kn, rfl, lk, ha, hb, ⟨c0, c1⟩, hp1, hd1, hr⟩
    rw [rgD_len] at lk c1
    wp_walk using e_fz hp1
    refine k ks _ (by omega) ha (fun x hx => ?_) ⟨hd1.del_ne dp, fun a o n e1 => ?_⟩
    · have := hb x hx; omega
    · rw [del_ne (ne_mem e1 hpM)]
      exact hr a o n e1
end VL
namespace Tm
inductive Tr where
  | nil
  | node (l : Tr) (k : Int) (r : Tr)
def Tr.pre : Tr → List Int
  | .nil => []
  | .node l k r => k :: (l.pre ++ r.pre)
def Tr.ino : Tr → List Int
  | .nil => []
  | .node l k r => l.ino ++ k :: r.ino
def Tr.size : Tr → Nat
  | .nil => 0
  | .node l _ r => l.size + r.size + 1
def Tr.root : Tr → Option Int
  | .nil => none
  | .node _ k _ => some k
def Tr.has (x : Int) : Tr → Prop
  | .nil => False
  | .node l k r => l.has x ∨ x = k ∨ r.has x
def Tr.bst : Tr → Prop
  | .nil => True
  | .node l k r => l.bst ∧ r.bst ∧ (∀ x, l.has x → x < k) ∧ (∀ x, r.has x → k < x)
theorem has_pre {x : Int} : ∀ {t : Tr}, x ∈ t.pre ↔ t.has x
  | .nil => by simp [Tr.pre, Tr.has]
  | .node l k r => by
    simp only [Tr.pre, Tr.has, List.mem_cons, List.mem_append, has_pre (t := l), has_pre (t := r)]
    constructor
    · rintro (h | h | h)
      · exact .inr (.inl h)
      · exact .inl h
      · exact .inr (.inr h)
    · rintro (h | h | h)
      · exact .inr (.inl h)
      · exact .inl h
      · exact .inr (.inr h)
theorem has_ino {x : Int} : ∀ {t : Tr}, x ∈ t.ino ↔ t.has x
  | .nil => by simp [Tr.ino, Tr.has]
  | .node l k r => by simp only [Tr.ino, Tr.has, List.mem_cons, List.mem_append, has_ino (t := l), has_ino (t := r)]
theorem len_ino : ∀ t : Tr, t.ino.length = t.size
  | .nil => rfl
  | .node l k r => by simp [Tr.ino, Tr.size, len_ino l, len_ino r]; omega
theorem ino_asc : ∀ {t : Tr}, t.bst → t.ino.Pairwise (· < ·)
  | .nil, _ => List.Pairwise.nil
  | .node l k r, ⟨hl, hr, h1, h2⟩ => by
    rw [Tr.ino, List.pairwise_append, List.pairwise_cons]
    refine ⟨ino_asc hl, ⟨fun x hx => h2 x (has_ino.mp hx), ino_asc hr⟩, fun x hx y hy => ?_⟩
    have hx := h1 x (has_ino.mp hx)
    rcases List.mem_cons.mp hy with rfl | hy
    · exact hx
    · have := h2 y (has_ino.mp hy); omega
theorem pre_perm_ino : ∀ t : Tr, t.pre.Perm t.ino
  | .nil => .nil
  | .node l k r => by
    rw [Tr.pre, Tr.ino]
    refine List.Perm.trans ?_ (List.perm_middle).symm
    exact ((pre_perm_ino l).append (pre_perm_ino r)).cons k
theorem pre_nodup {t : Tr} (h : t.bst) : t.pre.Nodup := by
  rw [(pre_perm_ino t).nodup_iff]
  exact (ino_asc h).imp fun h => Int.ne_of_lt h
def Tr.ins (x : Int) : Tr → Tr
  | .nil => .node .nil x .nil
  | .node l k r => if x < k then .node (l.ins x) k r else .node l k (r.ins x)
def bld (l : List Int) : Tr := l.foldl (fun (t : Tr) x => t.ins x) .nil
theorem fold_node (x : Int) : ∀ (l : List Int) (a b : Tr), (∀ y ∈ l, y ≠ x) → l.foldl (fun (t : Tr) y => t.ins y) (Tr.node a x b) = Tr.node ((l.filter fun y => decide (y < x)).foldl (fun (t : Tr) y => t.ins y) a) x ((l.filter fun y => decide (x < y)).foldl (fun (t : Tr) y => t.ins y) b)
  | [], a, b, _ => rfl
  | y :: l, a, b, h => by
    have ny := h y (List.mem_cons_self ..)
    have hl : ∀ z ∈ l, z ≠ x := fun z hz => h z (List.mem_cons_of_mem _ hz)
    rw [List.foldl_cons]
    by_cases c : y < x
    · rw [show (Tr.node a x b).ins y = Tr.node (a.ins y) x b by simp [Tr.ins, c]]
      rw [fold_node x l _ _ hl, List.filter_cons, List.filter_cons, if_pos (by simpa using c), if_neg (by simp; omega)]
      rfl
    · rw [show (Tr.node a x b).ins y = Tr.node a x (b.ins y) by simp [Tr.ins, c]]
      rw [fold_node x l _ _ hl, List.filter_cons, List.filter_cons, if_neg (by simpa using c), if_pos (by simp; omega)]
      rfl
theorem filter_true {l : List Int} {p : Int → Bool} (h : ∀ x ∈ l, p x = true) : l.filter p = l := List.filter_eq_self.mpr h
theorem filter_false {l : List Int} {p : Int → Bool} (h : ∀ x ∈ l, p x = false) : l.filter p = [] := by
  rw [List.filter_eq_nil_iff]
  intro x hx
  rw [h x hx]; decide
theorem pre_lt {l r : Tr} {k : Int} (h1 : ∀ x, l.has x → x < k) (h2 : ∀ x, r.has x → k < x) : ((l.pre ++ r.pre).filter fun y => decide (y < k)) = l.pre := by
  rw [List.filter_append, filter_true fun x hx => by simpa using h1 x (has_pre.mp hx), filter_false fun x hx => by have := h2 x (has_pre.mp hx); simp; omega, List.append_nil]
theorem pre_gt {l r : Tr} {k : Int} (h1 : ∀ x, l.has x → x < k) (h2 : ∀ x, r.has x → k < x) : ((l.pre ++ r.pre).filter fun y => decide (k < y)) = r.pre := by
  rw [List.filter_append, filter_false fun x hx => by have := h1 x (has_pre.mp hx); simp; omega, filter_true fun x hx => by simpa using h2 x (has_pre.mp hx), List.nil_append]
theorem bld_pre : ∀ {t : Tr}, t.bst → bld t.pre = t
  | .nil, _ => rfl
  | .node l k r, h => by
    have hn := pre_nodup h
    obtain ⟨hl, hr, h1, h2⟩ := h
    rw [Tr.pre] at hn ⊢
    rw [List.nodup_cons] at hn
    show (l.pre ++ r.pre).foldl (fun (t : Tr) y => t.ins y) (Tr.node .nil k .nil) = _
    rw [fold_node k _ _ _ fun y hy e => hn.1 (e ▸ hy), pre_lt h1 h2, pre_gt h1 h2]
    rw [show List.foldl (fun (t : Tr) y => t.ins y) .nil l.pre = l from bld_pre hl, show List.foldl (fun (t : Tr) y => t.ins y) .nil r.pre = r from bld_pre hr]
theorem pre_inj {s t : Tr} (hs : s.bst) (ht : t.bst) (h : s.pre = t.pre) : s = t := by rw [← bld_pre hs, ← bld_pre ht, h]
theorem len_le_of_sub : ∀ {l m : List Int}, l.Nodup → (∀ x ∈ l, x ∈ m) → l.length ≤ m.length
  | [], m, _, _ => Nat.zero_le _
  | x :: l, m, hn, hs => by
    rw [List.nodup_cons] at hn
    have hx := hs x (List.mem_cons_self ..)
    have pe := List.perm_cons_erase hx
    have hl := pe.length_eq
    simp only [List.length_cons] at hl ⊢
    have := len_le_of_sub (l := l) (m := m.erase x) hn.2 fun y hy => by
      have ny : y ≠ x := fun e => hn.1 (e ▸ hy)
      rcases List.mem_cons.mp (pe.mem_iff.mp (hs y (List.mem_cons_of_mem _ hy))) with e | h2
      · exact absurd e ny
      · exact h2
    omega
def Tr.lc (x : Int) : Tr → Option Int
  | .nil => none
  | .node l k r => if x = k then l.root else if x < k then l.lc x else r.lc x
def Tr.rc (x : Int) : Tr → Option Int
  | .nil => none
  | .node l k r => if x = k then r.root else if x < k then l.rc x else r.rc x
def Tr.par (x : Int) : Option Int → Tr → Option Int
  | _, .nil => none
  | p, .node l k r => if x = k then p else if x < k then l.par x (some k) else r.par x (some k)
inductive Sub : Tr → Tr → Prop
  | refl (t : Tr) : Sub t t
  | left {s l r : Tr} {k : Int} : Sub s l → Sub s (.node l k r)
  | right {s l r : Tr} {k : Int} : Sub s r → Sub s (.node l k r)
theorem Sub.has {s t : Tr} (h : Sub s t) {x : Int} (hx : s.has x) : t.has x := by
  induction h with
  | refl => exact hx
  | left _ ih => exact .inl ih
  | right _ ih => exact .inr (.inr ih)
theorem Sub.bst {s t : Tr} (h : Sub s t) (b : t.bst) : s.bst := by
  induction h with
  | refl => exact b
  | left _ ih => exact ih b.1
  | right _ ih => exact ih b.2.1
theorem Sub.trans {s t u : Tr} (h : Sub s t) (g : Sub t u) : Sub s u := by
  induction g with
  | refl => exact h
  | left _ ih => exact .left ih
  | right _ ih => exact .right ih
theorem Sub.kids {s t : Tr} (h : Sub s t) (b : t.bst) : ∀ {l r : Tr} {k : Int}, s = .node l k r → t.lc k = l.root ∧ t.rc k = r.root := by
  induction h with
  | refl => intro l r k e; subst e; simp [Tr.lc, Tr.rc]
  | @left l' r' k' h ih =>
    intro l r k e
    have hx : l'.has k := h.has (by rw [e]; exact .inr (.inl rfl))
    have := b.2.2.1 k hx
    rw [Tr.lc, Tr.rc, if_neg (by omega), if_pos this, if_neg (by omega), if_pos this]
    exact ih b.1 e
  | @right l' r' k' h ih =>
    intro l r k e
    have hx : r'.has k := h.has (by rw [e]; exact .inr (.inl rfl))
    have := b.2.2.2 k hx
    rw [Tr.lc, Tr.rc, if_neg (by omega), if_neg (by omega), if_neg (by omega), if_neg (by omega)]
    exact ih b.2.1 e
end Tm
namespace Tm
inductive Pth (x : Int) (s : Tr) : Tr → Prop
  | here : Pth x s s
  | left {l r : Tr} {k : Int} : Pth x s l → x < k → Pth x s (.node l k r)
  | right {l r : Tr} {k : Int} : Pth x s r → ¬ x < k → Pth x s (.node l k r)
theorem Pth.sub {x : Int} {s t : Tr} (h : Pth x s t) : Sub s t := by
  induction h with
  | here => exact .refl _
  | left _ _ ih => exact .left ih
  | right _ _ ih => exact .right ih
theorem Sub.size {s t : Tr} (h : Sub s t) : s.size ≤ t.size := by
  induction h with
  | refl => exact Nat.le_refl _
  | left _ ih => rw [Tr.size]; omega
  | right _ ih => rw [Tr.size]; omega
theorem Pth.ne {x k : Int} {l r t : Tr} (h : Pth x (.node l k r) t) : t ≠ .nil := by
  intro e
  subst e
  cases h
end Tm
namespace Tm
end Tm
namespace Tm
end Tm
namespace VL
open PySem PySem.Spec PyProof.Rows L2 Tm
def Kept (M M' : Mem) : Prop := ∀ a o, M a = some o → M' a = some o
theorem Kept.refl (M : Mem) : Kept M M := fun _ _ h => h
theorem Kept.trans {M M1 M2 : Mem} (a : Kept M M1) (b : Kept M1 M2) : Kept M M2 := fun x o h => b x o (a x o h)
theorem Kept.new {M M' : Mem} (k : Kept M M') {p : Addr} (hp : M p = none) (o : MO) : Kept M (put M' p o) := fun a u e => by rw [put_ne (ne_mem e hp)]; exact k a u e
theorem Kept.gone {M M' : Mem} (k : Kept M M') {p : Addr} (hp : M p = none) : Kept M (del M' p) := fun a u e => by rw [del_ne (ne_mem e hp)]; exact k a u e
theorem Kept.none {M M' : Mem} (k : Kept M M') {p : Addr} (h : M' p = none) : M p = none := by
  cases e : M p with
  | none => rfl
  | some o => rw [k p o e] at h; cases h
theorem Kp.of {d : Addr} {M M' : Mem} (k : Kept M M') (h : Dw M d) : Kp d M M' := ⟨by obtain ⟨mo, h1, h2⟩ := h; exact ⟨mo, k _ _ h1, h2⟩, fun a o _ e => k a o e⟩
theorem Dw.kept {d : Addr} {M M' : Mem} (k : Kept M M') (h : Dw M d) : Dw M' d := (Kp.of k h).dw
def ImAt (M : Mem) (a : Addr) (f : Int → Option Int) (n : Nat) : Prop := ∃ ps, M a = some (.dK (ikv ps)) ∧ Im ps f ∧ ps.length ≤ n
theorem ImAt.kept {M M' : Mem} {a : Addr} {f : Int → Option Int} {n : Nat} (h : ImAt M a f n) (k : Kept M M') : ImAt M' a f n := by
  obtain ⟨ps, h1, h2, h3⟩ := h; exact ⟨ps, k _ _ h1, h2, h3⟩
theorem ImAt.ne {M : Mem} {a p : Addr} {f : Int → Option Int} {n : Nat} {o : MO} (h : ImAt M a f n) (hn : a ≠ p) : ImAt (put M p o) a f n := by
  obtain ⟨ps, h1, h2, h3⟩ := h; exact ⟨ps, by rw [put_ne hn]; exact h1, h2, h3⟩
structure TreeAt (M : Mem) (A : TA) (t : Tr) : Prop where
  m : M A.m = some (.dK (rowD (optD t.root) A))
  l : ImAt M A.l t.lc t.size
  r : ImAt M A.r t.rc t.size
  u : ImAt M A.u (fun x => t.par x none) t.size
  ml : A.m ≠ A.l
  mr : A.m ≠ A.r
  mu : A.m ≠ A.u
  lr : A.l ≠ A.r
  lu : A.l ≠ A.u
  ru : A.r ≠ A.u
theorem TreeAt.kept {M M' : Mem} {A : TA} {t : Tr} (h : TreeAt M A t) (k : Kept M M') : TreeAt M' A t := ⟨k _ _ h.m, h.l.kept k, h.r.kept k, h.u.kept k, h.ml, h.mr, h.mu, h.lr, h.lu, h.ru⟩
structure Fr (M : Mem) (A : TA) : Prop where
  m : M A.m = none
  l : M A.l = none
  r : M A.r = none
  u : M A.u = none
theorem Fr.of {M M' : Mem} {A : TA} (h : Fr M' A) (k : Kept M M') : Fr M A := ⟨k.none h.m, k.none h.l, k.none h.r, k.none h.u⟩
end VL
namespace VL
open PySem PySem.Spec PyProof.Rows L2 Tm
def ImS (M : Mem) (a : Addr) (f : Int → Option Int) (t : Tr) : Prop := ∃ g, ImAt M a g 100000 ∧ ∀ k, t.has k → g k = f k
theorem ImS.kept {M M' : Mem} {a : Addr} {f : Int → Option Int} {t : Tr} (h : ImS M a f t) (k : Kept M M') : ImS M' a f t := by
  obtain ⟨g, h1, h2⟩ := h; exact ⟨g, h1.kept k, h2⟩
structure ShAt (M : Mem) (A : TA) (t : Tr) : Prop where
  m : M A.m = some (.dK (rowD (optD t.root) A))
  l : ImS M A.l t.lc t
  r : ImS M A.r t.rc t
theorem ImAt.le {M : Mem} {a : Addr} {f : Int → Option Int} {n m : Nat} (h : ImAt M a f n) (hm : n ≤ m) : ImAt M a f m := by
  obtain ⟨ps, h1, h2, h3⟩ := h; exact ⟨ps, h1, h2, Nat.le_trans h3 hm⟩
theorem TreeAt.sh {M : Mem} {A : TA} {t : Tr} (h : TreeAt M A t) (hs : t.size ≤ 100000) : ShAt M A t := ⟨h.m, ⟨_, h.l.le hs, fun _ _ => rfl⟩, ⟨_, h.r.le hs, fun _ _ => rfl⟩⟩
theorem ShAt.kept {M M' : Mem} {A : TA} {t : Tr} (h : ShAt M A t) (k : Kept M M') : ShAt M' A t := ⟨k _ _ h.m, h.l.kept k, h.r.kept k⟩
def rk : Tr → Int
  | .nil => 0
  | .node _ k _ => k
def line (st : List Tr) : List Int := (st.map rk).reverse
def flat (st : List Tr) : List Int := (st.map Tr.pre).flatten
def kid : Tr → List Tr
  | .nil => []
  | .node l k r => [.node l k r]
def kids (l r : Tr) : List Tr := kid l ++ kid r
structure Stk (t : Tr) (acc : List Int) (st : List Tr) : Prop where
  sub : ∀ s ∈ st, Sub s t ∧ s ≠ .nil
  all : acc ++ flat st = t.pre
end VL
namespace VL
open PySem PySem.Spec PyProof.Rows L2 Tm
theorem filter_all {α : Type} (l : List α) : l.filter (fun _ => true) = l := List.filter_eq_self.mpr fun _ _ => rfl
def cl : Nat → D → Prop
  | 0, _ => False
  | n + 1, .tup ds => ds.length ≤ lim ∧ ∀ d ∈ ds, cl n d
  | n + 1, .lst ds => ds.length ≤ lim ∧ ∀ d ∈ ds, cl n d
  | _ + 1, .non => True
  | _ + 1, .bl _ => True
  | _ + 1, .int _ => True
  | _ + 1, .str s => SeqAt.shaped (.str s) = true
  | _ + 1, _ => False
def W_l_same (n : Nat) : W3 := fun ds M Φ => ∃ x, ds = [x, x] ∧ cl n x ∧ Φ (.bl true) M
def w_l_same (W_l_same : W3) : WS := (sSeq (sIf (wTest (wOp wrIsN (wVar 1) (wC .non))) (sRet (wOp wrIsN (wVar 0) (wC .non))) sNext)
  (sSeq (sIf (wTest (wCB wrIsi (wCons (wVar 1) (wCons (wTup (wCons (wC (.ty "list")) (wCons (wC (.ty "tuple")) wNil))) wNil)))) (sSeq (sIf (wOr (wTest (wOp wrNe (wCB wrIsi (wCons (wVar 0) (wCons (wC (.ty "list")) wNil))) (wCB wrIsi (wCons (wVar 1) (wCons (wC (.ty "list")) wNil))))) (wTest (wOp wrNe (wCB wrIsi (wCons (wVar 0) (wCons (wC (.ty "tuple")) wNil))) (wCB wrIsi (wCons (wVar 1) (wCons (wC (.ty "tuple")) wNil)))))) (sRet (wC (.bl false))) sNext)
  (sRet (wAndV (wOp wrEq (wCB wrLen (wCons (wVar 0) wNil)) (wCB wrLen (wCons (wVar 1) wNil))) (wCB wrAll (wCons (wLc (wiZip (wCons (wVar 0) (wCons (wVar 1) wNil))) (wgTup 2 (wgCons (wgName 2) (wgCons (wgName 3) wgNil))) wYes (wCall W_l_same (wCons (wVar 2) (wCons (wVar 3) wNil))) [2, 3]) wNil))))) sNext)
  (sSeq (sIf (wOr (wTest (wOp wrNe (wCB wrIsi (wCons (wVar 1) (wCons (wC (.ty "bool")) wNil))) (wCB wrIsi (wCons (wVar 0) (wCons (wC (.ty "bool")) wNil))))) (wTest (wOp wrNe (wCB wrIsi (wCons (wVar 1) (wCons (wC (.ty "int")) wNil))) (wCB wrIsi (wCons (wVar 0) (wCons (wC (.ty "int")) wNil)))))) (sRet (wC (.bl false))) sNext)
  (sRet (wAndV (wOp wrEq (wCB wrIsi (wCons (wVar 1) (wCons (wC (.ty "str")) wNil))) (wCB wrIsi (wCons (wVar 0) (wCons (wC (.ty "str")) wNil)))) (wOp wrEq (wVar 0) (wVar 1)))))))
theorem W_same_go {n : Nat} {x : D} {M : Mem} {Φ : KD} (h : cl n x) (k : Φ (.bl true) M) : W_l_same n [x, x] M Φ := ⟨x, rfl, h, k⟩
theorem e_isi1 {M : Mem} {Φ : KD} {x : D} {t n : String} (h : tyN M x = some t) (hn : tyNames.contains n = true) : wrIsi [x, .ty n] M Φ = Φ (.bl (isiB t n)) M := by
  simp only [wrIsi, h, clsN, List.all_cons, List.all_nil, hn, Bool.and_true, List.any_cons, List.any_nil, Bool.or_false, true_and]
theorem e_isi2 {M : Mem} {Φ : KD} {x : D} {t n m : String} (h : tyN M x = some t) (hn : tyNames.contains n = true) (hm : tyNames.contains m = true) : wrIsi [x, .tup [.ty n, .ty m]] M Φ = Φ (.bl (isiB t n || isiB t m)) M := by
  simp only [wrIsi, h, clsN, clsN.tysD, Option.map, List.all_cons, List.all_nil, hn, hm, Bool.and_true, Bool.and_self, List.any_cons, List.any_nil, Bool.or_false, true_and]
theorem r_l_same : ∀ n ds M Φ, W_l_same (n + 1) ds M Φ → w_l_same (W_l_same n) (endsD Φ) (startD 4 ds) M := by
  intro n ds M Φ ⟨x, eds, hc, k⟩
  subst eds
  unfold w_l_same
  rw [start_2]
  have flat : ∀ (x : D) (t : String), tyN M x = some t → isN x = false → isiB t "list" = false → isiB t "tuple" = false → (∃ p, pyM M x = some p ∧ SeqAt.shaped p = true ∧ PyData.eqv p p = true) →
      (sSeq (sIf (wTest (wOp wrIsN (wVar 1) (wC .non))) (sRet (wOp wrIsN (wVar 0) (wC .non))) sNext)
      (sSeq (sIf (wTest (wCB wrIsi (wCons (wVar 1) (wCons (wTup (wCons (wC (.ty "list")) (wCons (wC (.ty "tuple")) wNil))) wNil)))) (sSeq (sIf (wOr (wTest (wOp wrNe (wCB wrIsi (wCons (wVar 0) (wCons (wC (.ty "list")) wNil))) (wCB wrIsi (wCons (wVar 1) (wCons (wC (.ty "list")) wNil))))) (wTest (wOp wrNe (wCB wrIsi (wCons (wVar 0) (wCons (wC (.ty "tuple")) wNil))) (wCB wrIsi (wCons (wVar 1) (wCons (wC (.ty "tuple")) wNil)))))) (sRet (wC (.bl false))) sNext)
      (sRet (wAndV (wOp wrEq (wCB wrLen (wCons (wVar 0) wNil)) (wCB wrLen (wCons (wVar 1) wNil))) (wCB wrAll (wCons (wLc (wiZip (wCons (wVar 0) (wCons (wVar 1) wNil))) (wgTup 2 (wgCons (wgName 2) (wgCons (wgName 3) wgNil))) wYes (wCall (W_l_same n) (wCons (wVar 2) (wCons (wVar 3) wNil))) [2, 3]) wNil))))) sNext)
      (sSeq (sIf (wOr (wTest (wOp wrNe (wCB wrIsi (wCons (wVar 1) (wCons (wC (.ty "bool")) wNil))) (wCB wrIsi (wCons (wVar 0) (wCons (wC (.ty "bool")) wNil))))) (wTest (wOp wrNe (wCB wrIsi (wCons (wVar 1) (wCons (wC (.ty "int")) wNil))) (wCB wrIsi (wCons (wVar 0) (wCons (wC (.ty "int")) wNil)))))) (sRet (wC (.bl false))) sNext)
      (sRet (wAndV (wOp wrEq (wCB wrIsi (wCons (wVar 1) (wCons (wC (.ty "str")) wNil))) (wCB wrIsi (wCons (wVar 0) (wCons (wC (.ty "str")) wNil)))) (wOp wrEq (wVar 0) (wVar 1))))))) (endsD Φ) [some x, some x, none, none] M := by
    intro x t ht hi hl hp ⟨p, h1, h2, h3⟩
    wp_walk using hi, e_isi2 ht (n := "list") (m := "tuple") (by decide) (by decide), hl, hp, Bool.or_false
    refine ⟨(show (2 : Nat) ≤ lim by decide), ?_⟩
    wp_walk using e_isi2 ht (n := "list") (m := "tuple") (by decide) (by decide), hl, hp, Bool.or_false, e_isi1 ht (n := "bool") (by decide), e_isi1 ht (n := "int") (by decide), e_isi1 ht (n := "str") (by decide), e_eqB, e_neB, beq_self_eq_true, wrEq_of h1 h1 h2 h2 h3
    exact k
  have deep : ∀ (x : D) (t : String) (ds : List D), tyN M x = some t → isN x = false → (isiB t "list" || isiB t "tuple") = true → (∀ d ∈ ds, cl n d) → ds.length ≤ lim → (∀ Φ : KD, wrLen [x] M Φ = Φ (.int ds.length) M) → (∀ ΦA : List D → Mem → Prop, kZip ΦA [x, x] M = ΦA (zipD ds ds) M) →
      (sSeq (sIf (wTest (wOp wrIsN (wVar 1) (wC .non))) (sRet (wOp wrIsN (wVar 0) (wC .non))) sNext)
      (sSeq (sIf (wTest (wCB wrIsi (wCons (wVar 1) (wCons (wTup (wCons (wC (.ty "list")) (wCons (wC (.ty "tuple")) wNil))) wNil)))) (sSeq (sIf (wOr (wTest (wOp wrNe (wCB wrIsi (wCons (wVar 0) (wCons (wC (.ty "list")) wNil))) (wCB wrIsi (wCons (wVar 1) (wCons (wC (.ty "list")) wNil))))) (wTest (wOp wrNe (wCB wrIsi (wCons (wVar 0) (wCons (wC (.ty "tuple")) wNil))) (wCB wrIsi (wCons (wVar 1) (wCons (wC (.ty "tuple")) wNil)))))) (sRet (wC (.bl false))) sNext)
      (sRet (wAndV (wOp wrEq (wCB wrLen (wCons (wVar 0) wNil)) (wCB wrLen (wCons (wVar 1) wNil))) (wCB wrAll (wCons (wLc (wiZip (wCons (wVar 0) (wCons (wVar 1) wNil))) (wgTup 2 (wgCons (wgName 2) (wgCons (wgName 3) wgNil))) wYes (wCall (W_l_same n) (wCons (wVar 2) (wCons (wVar 3) wNil))) [2, 3]) wNil))))) sNext)
      (sSeq (sIf (wOr (wTest (wOp wrNe (wCB wrIsi (wCons (wVar 1) (wCons (wC (.ty "bool")) wNil))) (wCB wrIsi (wCons (wVar 0) (wCons (wC (.ty "bool")) wNil))))) (wTest (wOp wrNe (wCB wrIsi (wCons (wVar 1) (wCons (wC (.ty "int")) wNil))) (wCB wrIsi (wCons (wVar 0) (wCons (wC (.ty "int")) wNil)))))) (sRet (wC (.bl false))) sNext)
      (sRet (wAndV (wOp wrEq (wCB wrIsi (wCons (wVar 1) (wCons (wC (.ty "str")) wNil))) (wCB wrIsi (wCons (wVar 0) (wCons (wC (.ty "str")) wNil)))) (wOp wrEq (wVar 0) (wVar 1))))))) (endsD Φ) [some x, some x, none, none] M := by
    intro x t ds ht hi hl hds hlen hL hZ
    wp_walk using hi, e_isi2 ht (n := "list") (m := "tuple") (by decide) (by decide), hl
    refine ⟨(show (2 : Nat) ≤ lim by decide), ?_⟩
    wp_walk using e_isi2 ht (n := "list") (m := "tuple") (by decide) (by decide), hl, e_isi1 ht (n := "list") (by decide), e_isi1 ht (n := "tuple") (by decide), e_eqB, e_neB, beq_self_eq_true, hL, e_eqI, decide_true, hZ
    refine ⟨by rw [zipD_len, Nat.min_self]; exact hlen, ?_⟩
    refine lcGo_map (fun _ => true) (fun _ => .bl true) _ _ (fun y hy Ψ acc h1 h2 => ?_) ?_
    · obtain ⟨i, hi⟩ := List.mem_iff_getElem?.mp hy
      obtain ⟨u, v, g1, g2, rfl⟩ := zipD_at hi
      rw [g1] at g2
      cases g2
      have h1 := h1 rfl
      walk_at "vl"
      refine ⟨rfl, trivial, ?_⟩
      exact ⟨u, rfl, hds u (List.mem_of_getElem? g1), h1⟩
    · have e : ([] : List D) ++ ((zipD ds ds).filter fun _ => true).map (fun _ => D.bl true) = (List.replicate (zipD ds ds).length true).map D.bl := by
        rw [List.nil_append, filter_all, List.map_replicate]
        rw [List.eq_replicate_iff]
        exact ⟨by rw [List.length_map], fun b hb => by obtain ⟨_, _, rfl⟩ := List.mem_map.mp hb; rfl⟩
      rw [e]
      wp_walk using e_allL
      have : ((List.replicate (zipD ds ds).length true).all id) = true := by rw [List.all_eq_true]; intro b hb; exact (List.mem_replicate.mp hb).2
      rw [this]
      exact k
  cases x with
  | non =>
    wp_walk using e_isN_non
    exact k
  | bl b => exact flat _ "bool" rfl rfl (by decide) (by decide) ⟨.bool b, rfl, rfl, by rw [PyData.eqv]; exact beq_self_eq_true b⟩
  | int i => exact flat _ "int" rfl rfl (by decide) (by decide) ⟨.int i, rfl, rfl, by rw [eqv_int]; exact decide_eq_true rfl⟩
  | str s => exact flat _ "str" rfl rfl (by decide) (by decide) ⟨.str s, rfl, hc, by rw [PyData.eqv]; exact beq_self_eq_true s⟩
  | tup ds => exact deep _ "tuple" ds rfl rfl (by decide) hc.2 hc.1 (fun _ => rfl) (fun _ => rfl)
  | lst ds => exact deep _ "list" ds rfl rfl (by decide) hc.2 hc.1 (fun _ => rfl) (fun _ => rfl)
  | fz ds => exact hc.elim
  | tn ns => exact hc.elim
  | tk ns => exact hc.elim
  | ref a => exact hc.elim
  | ty n => exact hc.elim
end VL
namespace VL
open PySem PySem.Spec PyProof.Rows L2 Tm
end VL
namespace Tm
def loB : Option Int → Int → Bool
  | none, _ => true
  | some a, k => decide (a < k)
def hiB : Option Int → Int → Bool
  | none, _ => true
  | some b, k => decide (k < b)
def inB (lo hi : Option Int) (k : Int) : Bool := loB lo k && hiB hi k
theorem inB_all (k : Int) : inB none none k = true := rfl
def Tr.res (lo hi : Option Int) : Tr → Tr
  | .nil => .nil
  | .node l k r => match lo, hi with
    | none, none => .node l k r
    | some a, none => if a < k then .node (l.res (some a) none) k r else r.res (some a) none
    | none, some b => if k < b then .node l k (r.res none (some b)) else l.res none (some b)
    | some a, some b => if ¬ a < k then r.res (some a) (some b) else if ¬ k < b then l.res (some a) (some b) else .node (l.res (some a) (some b)) k (r.res (some a) (some b))
theorem filt_all {l : List Int} {p : Int → Bool} (h : ∀ x ∈ l, p x = true) : l.filter p = l := filter_true h
theorem filt_none {l : List Int} {p : Int → Bool} (h : ∀ x ∈ l, p x = false) : l.filter p = [] := filter_false h
theorem res_pre {lo hi : Option Int} : ∀ {t : Tr}, t.bst → t.pre.filter (inB lo hi) = (t.res lo hi).pre
  | .nil, _ => rfl
  | .node l k r, ⟨hl, hr, h1, h2⟩ => by
    have il := res_pre (lo := lo) (hi := hi) hl
    have ir := res_pre (lo := lo) (hi := hi) hr
    rw [Tr.pre, List.filter_cons, List.filter_append, il, ir]
    match lo, hi with
    | none, none =>
      rw [inB_all, if_pos rfl, ← il, ← ir, filt_all fun x _ => inB_all x, filt_all fun x _ => inB_all x]
      rfl
    | some a, none =>
      by_cases c : a < k
      · have e : inB (some a) none k = true := by simp [inB, loB, hiB, c]
        have er : r.pre.filter (inB (some a) none) = r.pre := filt_all fun x hx => by have := h2 x (has_pre.mp hx); simp [inB, loB, hiB]; omega
        rw [e, if_pos rfl, Tr.res, if_pos c, ← ir, er, Tr.pre]
      · have e : inB (some a) none k = false := by simp [inB, loB, hiB, c]
        have el : l.pre.filter (inB (some a) none) = [] := filt_none fun x hx => by have := h1 x (has_pre.mp hx); simp [inB, loB, hiB]; omega
        rw [e, Tr.res, if_neg c, ← il, el, List.nil_append]
        rfl
    | none, some b =>
      by_cases c : k < b
      · have e : inB none (some b) k = true := by simp [inB, loB, hiB, c]
        have el : l.pre.filter (inB none (some b)) = l.pre := filt_all fun x hx => by have := h1 x (has_pre.mp hx); simp [inB, loB, hiB]; omega
        rw [e, if_pos rfl, Tr.res, if_pos c, ← il, el, Tr.pre]
      · have e : inB none (some b) k = false := by simp [inB, loB, hiB, c]
        have er : r.pre.filter (inB none (some b)) = [] := filt_none fun x hx => by have := h2 x (has_pre.mp hx); simp [inB, loB, hiB]; omega
        rw [e, Tr.res, if_neg c, ← ir, er, List.append_nil]
        rfl
    | some a, some b =>
      by_cases c : a < k
      · by_cases d : k < b
        · have e : inB (some a) (some b) k = true := by simp [inB, loB, hiB, c, d]
          rw [e, if_pos rfl, Tr.res, if_neg (fun z => z c), if_neg (fun z => z d), Tr.pre]
        · have e : inB (some a) (some b) k = false := by simp [inB, loB, hiB, c, d]
          have er : r.pre.filter (inB (some a) (some b)) = [] := filt_none fun x hx => by have := h2 x (has_pre.mp hx); simp [inB, loB, hiB]; omega
          rw [e, Tr.res, if_neg (show ¬ ¬ a < k from fun z => z c), if_pos d, ← ir, er, List.append_nil]
          rfl
      · have e : inB (some a) (some b) k = false := by simp [inB, loB, hiB, c]
        have el : l.pre.filter (inB (some a) (some b)) = [] := filt_none fun x hx => by have := h1 x (has_pre.mp hx); simp [inB, loB, hiB]; omega
        rw [e, Tr.res, if_pos c, ← il, el, List.nil_append]
        rfl
theorem res_has {lo hi : Option Int} {t : Tr} (h : t.bst) {y : Int} : (t.res lo hi).has y ↔ t.has y ∧ inB lo hi y = true := by
  rw [← has_pre, ← res_pre h, List.mem_filter, has_pre]
theorem res_bst {lo hi : Option Int} : ∀ {t : Tr}, t.bst → (t.res lo hi).bst
  | .nil, _ => trivial
  | .node l k r, ⟨hl, hr, h1, h2⟩ => by
    have il := res_bst (lo := lo) (hi := hi) hl
    have ir := res_bst (lo := lo) (hi := hi) hr
    match lo, hi with
    | none, none => exact ⟨hl, hr, h1, h2⟩
    | some a, none =>
      rw [Tr.res]
      split
      · exact ⟨il, hr, fun x hx => h1 x ((res_has hl).mp hx).1, h2⟩
      · exact ir
    | none, some b =>
      rw [Tr.res]
      split
      · exact ⟨hl, ir, h1, fun x hx => h2 x ((res_has hr).mp hx).1⟩
      · exact il
    | some a, some b =>
      rw [Tr.res]
      split
      · exact ir
      · split
        · exact il
        · exact ⟨il, ir, fun x hx => h1 x ((res_has hl).mp hx).1, fun x hx => h2 x ((res_has hr).mp hx).1⟩
theorem res_all {lo hi : Option Int} {t : Tr} (h : t.bst) (ha : ∀ y, t.has y → inB lo hi y = true) : t.res lo hi = t :=
  pre_inj (res_bst h) h (by rw [← res_pre h]; exact filt_all fun x hx => ha x (has_pre.mp hx))
def Tr.tch (x : Int) (t : Tr) : Tr := .node (t.res none (some x)) x (t.res (some x) none)
def Tr.path (x : Int) : Tr → List Int
  | .nil => []
  | .node l k r => if x = k then [k] else k :: (if x < k then l.path x else r.path x)
def Rmv (x : Int) (t g : Tr) : Prop := (t.res none (some x) = .nil ∧ g = t.res (some x) none) ∨ ∃ m, (t.res none (some x)).has m ∧ (∀ y, (t.res none (some x)).has y → y ≤ m) ∧ g = .node ((t.res none (some x)).res none (some m)) m (t.res (some x) none)
theorem inB_lo {x y : Int} : inB (some x) none y = true ↔ x < y := by simp [inB, loB, hiB]
theorem inB_hi {x y : Int} : inB none (some x) y = true ↔ y < x := by simp [inB, loB, hiB]
theorem Rmv.bst {x : Int} {t g : Tr} (h : Rmv x t g) (b : t.bst) : g.bst := by
  rcases h with ⟨_, rfl⟩ | ⟨m, hm, hl, rfl⟩
  · exact res_bst b
  · have hA := res_bst (lo := none) (hi := some x) b
    refine ⟨res_bst hA, res_bst b, fun y hy => inB_hi.mp ((res_has hA).mp hy).2, fun y hy => ?_⟩
    have h1 := inB_lo.mp ((res_has b).mp hy).2
    have h2 := inB_hi.mp ((res_has b).mp hm).2
    omega
theorem Rmv.has {x : Int} {t g : Tr} (h : Rmv x t g) (b : t.bst) {y : Int} : g.has y ↔ t.has y ∧ y ≠ x := by
  rcases h with ⟨h0, rfl⟩ | ⟨m, hm, hl, rfl⟩
  · rw [res_has b, inB_lo]
    constructor
    · rintro ⟨h, c⟩; exact ⟨h, by omega⟩
    · rintro ⟨h, c⟩
      refine ⟨h, ?_⟩
      rcases Int.lt_or_le y x with d | d
      · have : (t.res none (some x)).has y := (res_has b).mpr ⟨h, inB_hi.mpr d⟩
        rw [h0] at this; exact this.elim
      · omega
  · have hA := res_bst (lo := none) (hi := some x) b
    rw [Tr.has, res_has hA, res_has b, res_has b, inB_hi, inB_hi, inB_lo]
    have hm' := (res_has b).mp hm
    have hmx := inB_hi.mp hm'.2
    constructor
    · rintro (⟨⟨h, c⟩, d⟩ | h | ⟨h, c⟩)
      · exact ⟨h, by omega⟩
      · subst h; exact ⟨hm'.1, by omega⟩
      · exact ⟨h, by omega⟩
    · rintro ⟨h, c⟩
      rcases Int.lt_or_le y x with d | d
      · have hy := hl y ((res_has b).mpr ⟨h, inB_hi.mpr d⟩)
        by_cases e : y = m
        · exact .inr (.inl e)
        · exact .inl ⟨⟨h, d⟩, by omega⟩
      · exact .inr (.inr ⟨h, by omega⟩)
theorem Rmv.right {x : Int} {t g : Tr} (h : Rmv x t g) (b : t.bst) : g.res (some x) none = t.res (some x) none := by
  have hB := res_bst (lo := some x) (hi := none) b
  have e : (t.res (some x) none).res (some x) none = t.res (some x) none := res_all hB fun y hy => ((res_has b).mp hy).2
  rcases h with ⟨_, rfl⟩ | ⟨m, hm, hl, rfl⟩
  · exact e
  · have hmx := inB_hi.mp ((res_has b).mp hm).2
    rw [Tr.res, if_neg (by omega), e]
end Tm
namespace Tm
end Tm
namespace VL
variable {S₀ : W0}
open PySem PySem.Spec PyProof.Rows L2
section
variable {prog : Program} {w : World} {A : Around} {E : Value → Shared → Prop} {s : Shared}
end
section
variable {X : Cx}
variable {e : Expr} {wa : WA} {p pos : Pos}
variable {M : Mem} {Φ : KD} {ns : List Int} {a : Addr}
end
section
variable {X : Cx} {k : Nat} {f : Addr} {fd : FuncData} {ps : List Str} {Wf : W3} {x : Str} {p pos : Pos} {e : Expr} {es : List Expr} {wa : WA}
end
end VL
namespace VL
variable {S₀ : W0}
open PySem PySem.Spec PyProof.Rows L2
section
variable {X : Cx}
open Classical in
end
section
variable {X : Cx} {e : Expr} {wa : WA} {p pos : Pos}
end
section
variable {X : Cx} {k : Nat} {f : Addr} {fd : FuncData} {ps : List Str} {Wf : W3} {x : Str} {p pos : Pos}
end
end VL
namespace VL
open PySem PySem.Spec PyProof.Rows L2 Tm
theorem dk_kept {M M' : Mem} {a : Addr} {kvs : List (Key × D)} (h : dkM M (.ref a) = some kvs) (k : Kept M M') : dkM M' (.ref a) = some kvs := by
  simp only [dkM] at h ⊢
  cases e : M a with
  | none => rw [e] at h; cases h
  | some o => rw [e] at h; rw [k _ _ e]; exact h
structure UpTree (M : Mem) (A : TA) (t : Tr) : Prop where
  m : M A.m = some (.dK (rowD (optD t.root) A))
  u : ∃ ps, dkM M (.ref A.u) = some (ikv ps) ∧ Im ps (fun x => t.par x none) ∧ ps.length ≤ t.size
theorem UpTree.kept {M M' : Mem} {A : TA} {t : Tr} (h : UpTree M A t) (k : Kept M M') : UpTree M' A t := ⟨k _ _ h.m, by obtain ⟨ps, h1, h2⟩ := h.u; exact ⟨ps, dk_kept h1 k, h2⟩⟩
theorem TreeAt.up {M : Mem} {A : TA} {t : Tr} (h : TreeAt M A t) : UpTree M A t := ⟨h.m, by obtain ⟨ps, h1, h2⟩ := h.u; exact ⟨ps, by simp only [dkM, h1], h2⟩⟩
instance {M : Mem} {A : TA} {t : Tr} : Coe (TreeAt M A t) (UpTree M A t) := ⟨TreeAt.up⟩
end VL
namespace Tm
def fi (lo hi : Option Int) (l : List Int) : Option Int := (l.filter (inB lo hi)).head?
end Tm
namespace Tm
def dd : List Int → List Int → List Int
  | acc, [] => acc
  | acc, x :: l => if x ∈ acc then dd acc l else dd (acc ++ [x]) l
end Tm
namespace Tm
def rpl (x p : Int) (s' : Tr) : Tr → Tr
  | .nil => .nil
  | .node l k r => if k = p then s' else if x < k then .node (rpl x p s' l) k r else .node l k (rpl x p s' r)
section
variable {x p : Int} {s s' : Tr}
structure RepOk (x p : Int) (s s' t : Tr) : Prop where
  bst : (rpl x p s' t).bst
  has : ∀ y, (rpl x p s' t).has y ↔ t.has y
  root : (rpl x p s' t).root = if t.root = some p then s'.root else t.root
open Classical in
open Classical in
open Classical in
end
def ud (f : Int → Option Int) (k : Int) (v : Option Int) : Int → Option Int := fun y => if y = k then v else f y
def uc (f : Int → Option Int) (o : Option Int) (p : Int) : Int → Option Int := match o with
  | none => f
  | some c => ud f c (some p)
structure Rotd (x : Int) (t t' : Tr) : Prop where
  bst : t'.bst
  has : ∀ y, t'.has y ↔ t.has y
  tch : t'.tch x = t.tch x
  path : (t'.path x).length + 1 = (t.path x).length
structure RotF (x p : Int) (t t' : Tr) (f g : Int → Option Int) (c : Option Int) : Prop where
  d : Rotd x t t'
  lc : ∀ y, t'.lc y = if t.par p none = some y ∧ x < y then some x else f y
  rc : ∀ y, t'.rc y = if t.par p none = some y ∧ ¬ x < y then some x else g y
  par : ∀ y, t'.par y none = ud (ud (uc (fun y => t.par y none) c p) p (some x)) x (t.par p none) y
  root : t'.root = match t.par p none with | none => some x | some _ => t.root
section
variable {x p : Int} {s s' t : Tr}
open Classical in
end
end Tm
namespace VL
open PySem PySem.Spec PyProof.Rows L2 Tm
section
variable {ps : List (Int × Int)} {f g u : Int → Option Int} {M : Mem} {Φ : KD} {a : Addr}
theorem Im.some {k : Int} (h : Im ps f) (hk : f k ≠ none) (v : Int) : ∃ qs, putKD (ikv ps) (.inl k) (.int v) = ikv qs ∧ Im qs (ud f k (Option.some v)) ∧ qs.length = ps.length := by
  have hm : k ∈ ps.map (·.1) := by
    cases e : ig ps k with
    | none => rw [h.get] at e; exact absurd e hk
    | some w => exact List.mem_map.mpr ⟨_, ig_some e, rfl⟩
  have ha : (ikv ps).any (fun kv => decide (kv.1 = Sum.inl k)) = true := by
    obtain ⟨q, hq, e⟩ := List.mem_map.mp hm
    rw [List.any_eq_true]
    exact ⟨_, List.mem_map.mpr ⟨q, hq, rfl⟩, decide_eq_true (by rw [e])⟩
  refine ⟨ps.map fun q => if q.1 = k then (q.1, v) else q, ?_, ⟨?_, fun y => ?_⟩, List.length_map _⟩
  · unfold putKD
    rw [if_pos ha]
    unfold ikv
    rw [List.map_map, List.map_map]
    refine List.map_congr_left fun q _ => ?_
    by_cases e : q.1 = k
    · simp [e]
    · simp [e]
  · have : (ps.map fun q => if q.1 = k then (q.1, v) else q).map (·.1) = ps.map (·.1) := by
      rw [List.map_map]
      refine List.map_congr_left fun q _ => ?_
      show (if q.1 = k then (q.1, v) else q).1 = q.1
      split <;> rfl
    rw [this]; exact h.nd
  · have key : ∀ ps : List (Int × Int), ig (ps.map fun q => if q.1 = k then (q.1, v) else q) y = if y = k then (ig ps y).map (fun _ => v) else ig ps y := by
      intro ps
      induction ps with
      | nil => rw [List.map_nil, ig_nil]; split <;> rfl
      | cons q ps ih =>
        obtain ⟨a, b⟩ := q
        rw [List.map_cons]
        by_cases e : a = k
        · subst e
          rw [if_pos rfl, ig_cons, ig_cons, ih]
          by_cases e1 : a = y
          · rw [if_pos e1, if_pos e1, if_pos e1.symm]; rfl
          · rw [if_neg e1, if_neg e1]
        · rw [if_neg e, ig_cons, ig_cons, ih]
          by_cases e1 : a = y
          · rw [if_pos e1, if_pos e1, if_neg fun z => e (e1.trans z)]
          · rw [if_neg e1, if_neg e1]
    rw [key, h.get]
    unfold ud
    by_cases e : y = k
    · rw [if_pos e, if_pos e, e]
      cases e1 : f k with
      | none => exact absurd e1 hk
      | some w => rfl
    · rw [if_neg e, if_neg e]
theorem Im.set (h : Im ps f) (k v : Int) : ∃ qs, putKD (ikv ps) (.inl k) (.int v) = ikv qs ∧ Im qs (ud f k (Option.some v)) ∧ qs.length ≤ ps.length + 1 := by
  by_cases hk : f k = none
  · exact ⟨_, put_new (by rw [h.get]; exact hk) v, h.new hk v, by rw [List.length_append]; exact Nat.le_refl _⟩
  · obtain ⟨qs, h1, h2, h3⟩ := h.some hk v
    exact ⟨qs, h1, h2, by omega⟩
theorem Im.drop (h : Im ps f) (k : Int) : ∃ qs, dropKD (ikv ps) (.inl k) = ikv qs ∧ Im qs (ud f k none) ∧ qs.length ≤ ps.length := by
  refine ⟨ps.filter fun q => decide (q.1 ≠ k), ?_, ⟨?_, fun y => ?_⟩, List.length_filter_le _ _⟩
  · unfold dropKD ikv
    rw [List.filter_map]
    congr 1
    refine List.filter_congr fun (q : Int × Int) _ => ?_
    show decide ((Sum.inl q.1 : Key) ≠ Sum.inl k) = decide (q.1 ≠ k)
    by_cases e : q.1 = k
    · simp [e]
    · have : (Sum.inl q.1 : Key) ≠ Sum.inl k := fun z => e (Sum.inl.inj z)
      rw [decide_eq_true e, decide_eq_true this]
  · exact List.Nodup.sublist ((List.filter_sublist (p := fun (q : Int × Int) => decide (q.1 ≠ k))).map _) h.nd
  · have key : ∀ ps : List (Int × Int), ig (ps.filter fun q => decide (q.1 ≠ k)) y = if y = k then none else ig ps y := by
      intro ps
      induction ps with
      | nil => rw [List.filter_nil, ig_nil]; split <;> rfl
      | cons q ps ih =>
        obtain ⟨a, b⟩ := q
        by_cases e : a = k
        · subst e
          rw [List.filter_cons_of_neg (by simp), ih, ig_cons]
          by_cases e1 : y = a
          · rw [if_pos e1, if_pos e1]
          · rw [if_neg e1, if_neg e1, if_neg fun z => e1 z.symm]
        · rw [List.filter_cons_of_pos (by simpa using e), ig_cons, ih, ig_cons]
          by_cases e1 : a = y
          · rw [if_pos e1, if_pos e1, if_neg fun z => e (e1.trans z)]
          · rw [if_neg e1, if_neg e1]
    rw [key, h.get]; rfl
theorem Im.size {t : Tr} (h : Im ps f) (ht : ∀ k, f k ≠ none → t.has k) : ps.length ≤ t.size := by
  have := len_le_of_sub (m := t.ino) h.nd fun x hx => by
    obtain ⟨q, hq, rfl⟩ := List.mem_map.mp hx
    refine has_ino.mpr (ht q.1 ?_)
    rw [← h.get, ig_mem h.nd (v := q.2) hq]
    exact fun e => nomatch e
  rw [List.length_map, len_ino] at this
  exact this
end
structure MAt (M : Mem) (A : TA) (o : D) (f g u : Int → Option Int) (n : Nat) : Prop where
  m : M A.m = some (.dK (rowD o A))
  l : ImAt M A.l f n
  r : ImAt M A.r g n
  u : ImAt M A.u u n
  ml : A.m ≠ A.l
  mr : A.m ≠ A.r
  mu : A.m ≠ A.u
  lr : A.l ≠ A.r
  lu : A.l ≠ A.u
  ru : A.r ≠ A.u
def Rst (A : TA) (M M' : Mem) : Prop := ∀ a o, a ≠ A.m → a ≠ A.l → a ≠ A.r → a ≠ A.u → M a = some o → M' a = some o
theorem Rst.refl {A : TA} {M : Mem} : Rst A M M := fun _ _ _ _ _ _ h => h
theorem Rst.trans {A : TA} {M M1 M2 : Mem} (h : Rst A M M1) (g : Rst A M1 M2) : Rst A M M2 := fun a o q1 q2 q3 q4 q5 => g a o q1 q2 q3 q4 (h a o q1 q2 q3 q4 q5)
theorem Rst.put {A : TA} {M M1 : Mem} (h : Rst A M M1) {p : Addr} {o : MO} (hp : p = A.m ∨ p = A.l ∨ p = A.r ∨ p = A.u) : Rst A M (put M1 p o) := fun a u q1 q2 q3 q4 q5 => by
  rw [put_ne]
  · exact h a u q1 q2 q3 q4 q5
  · rcases hp with e | e | e | e <;> subst e <;> assumption
theorem Rst.kept {A : TA} {M M1 M2 : Mem} (h : Rst A M1 M2) (k : Kept M M1) (f : Fr M A) : Kept M M2 := fun a o e => h a o (ne_mem e f.m) (ne_mem e f.l) (ne_mem e f.r) (ne_mem e f.u) (k a o e)
theorem ImAt.congr {M : Mem} {a : Addr} {f g : Int → Option Int} {n : Nat} (h : ImAt M a f n) (e : ∀ k, f k = g k) : ImAt M a g n := by
  obtain ⟨ps, h1, h2, h3⟩ := h; exact ⟨ps, h1, h2.congr e, h3⟩
section
variable {M : Mem} {A : TA} {o : D} {f g u : Int → Option Int} {n : Nat}
theorem MAt.mono {m : Nat} (h : MAt M A o f g u n) (e : n ≤ m) : MAt M A o f g u m := ⟨h.m, h.l.le e, h.r.le e, h.u.le e, h.ml, h.mr, h.mu, h.lr, h.lu, h.ru⟩
theorem MAt.eq {f' g' u' : Int → Option Int} (h : MAt M A o f g u n) (e1 : ∀ k, f k = f' k) (e2 : ∀ k, g k = g' k) (e3 : ∀ k, u k = u' k) : MAt M A o f' g' u' n := ⟨h.m, h.l.congr e1, h.r.congr e2, h.u.congr e3, h.ml, h.mr, h.mu, h.lr, h.lu, h.ru⟩
end
def sd (s : Bool) : Str := bif s then "left" else "right"
theorem e_eqS {M : Mem} {Φ : KD} {s t : Str} (h1 : SeqAt.shaped (.str s) = true) (h2 : SeqAt.shaped (.str t) = true) : wrEq (.str s) (.str t) M Φ = Φ (.bl (decide (s = t))) M := wrEq_of rfl rfl h1 h2 (by rw [PyData.eqv]; rfl)
end VL
namespace VL
variable {S₀ : W0}
open PySem PySem.Spec PyProof.Rows L2
section
variable {X : Cx} {o e : Expr} {wo we : WE} {wa : WA} {apos cpos pos : Pos}
end
end VL
namespace XL
open PySem PySem.Spec PyProof.Rows L2
open Builtin.ObjectAttr (storeInOwnDict ownDictForStores)
structure XCls (K : PySem.W.Frag) (C fI : Addr) : Prop where
  base : ∃ (B newId initId : String) (bmB : List Value), ExcBaseFacts B newId initId bmB ∧ StoreFacts B bmB "object.__setattr__" "object" ∧ PySem.W.excInitIn K C bmB newId = true ∧ PySem.W.excOver K C bmB = true
  dct : PySem.W.hasDictIn K C = true
  sa : PySem.W.findIn K (.ref C) "__setattr__" = some (some (.builtin "object.__setattr__"))
  exC : PySem.W.subIn K (.ref C) (.type "BaseException") = some true
  tyC : PySem.W.typeIn K (.ref C) = some (.type "type")
  kC : PySem.W.keepIn K (.ref C) = true
  iC : PySem.W.findIn K (.ref C) "__init__" = some (some (.ref fI))
  tI : PySem.W.typeIn K (.ref fI) = some (.type "function")
theorem taker0 {K : PySem.W.Frag} {C : Addr} {f : Str} (n : PySem.W.findIn K (.ref C) f = some none) : PySem.W.takerIn K C f = some none := by unfold PySem.W.takerIn; rw [n]; rfl
section
variable {X : Cx} {pins : List (Addr × Obj)} {σ : L2.St} {H : Hp} {s : Shared} {a C dx fI : Addr} {f : Str} {y : V} {u : Value} {fs : List (Str × V)} {Q : Unit → Shared → Prop} {E : Value → Shared → Prop} {A : Around}
theorem upd_comm {H : Hp} {p q : Addr} {o u : HO} (h : p ≠ q) : upd (upd H p o) q u = upd (upd H q u) p o := by
  funext b
  by_cases e : b = q
  · subst e; rw [upd_same, upd_ne (Ne.symm h), upd_same]
  · by_cases e' : b = p
    · subst e'; rw [upd_ne e, upd_same, upd_same]
    · rw [upd_ne e, upd_ne e', upd_ne e', upd_ne e]
theorem inv_pair {o1 o2 : HO} {ob0 ob : Obj} {h' : Heap} {tk : Nat} (I : Inv X pins σ H s) (mu : Mut (H a)) (g0 : s.heap.get? a = some ob0) (nf : ob.isFreed = false) (new : s.heap.objs.size ≤ dx) (old : ∀ b o, b ≠ a → s.heap.get? b = some o → h'.get? b = some o)
    (ga : h'.get? a = some ob) (w2 : ∀ h1 : Heap, h1.get? a = some ob → ObjOk X.prog X.w (upd H a o2) h1 a o2) (w1 : ∀ H1 : Hp, ObjOk X.prog X.w H1 h' dx o1) : Inv X pins σ (upd (upd H dx o1) a o2) { s with heap := h', toks := tk } := by
  have ne : dx ≠ a := fun z => absurd (Heap.lt_size g0) (by rw [← z]; exact Nat.not_lt.mpr new)
  have mid : (s.heap.update a fun _ => ob).get? a = some ob := Heap.get?_update_self _ g0 nf
  have J : Inv X pins σ (upd H a o2) { s with heap := s.heap.update a fun _ => ob, toks := tk } :=
    I.write mu (.inl rfl) (fun b o hb e => (Heap.get?_update_other s.heap (fun _ => ob) (Ne.symm hb)).trans e) ⟨ob, mid⟩ (w2 _ mid)
  rw [upd_comm ne]
  refine J.laid (t' := tk) (fun b o e => ?_) (by show (s.heap.update a fun _ => ob).objs.size ≤ dx; rw [Heap.size_update]; exact new) (w1 _)
  by_cases hb : b = a
  · subst hb; exact ga.trans (mid.symm.trans e)
  · exact old b o hb ((Heap.get?_update_other s.heap (fun _ => ob) (Ne.symm hb)).symm.trans e)
theorem xst_road {ox : Obj} {od : Option Obj} (T : XCls X.K C fI) (I : Inv X pins σ H s) (at_a : PySem.W.InstAt s.heap a ox C od) (hno : PySem.W.findIn X.K (.ref C) f = some none)
    (h : ∀ b cd, PySem.W.Looks (model X.prog X.w) s.heap (classData C) cd → cd.hasDict = true → wpAny (model X.prog X.w) A.in1 (storeInOwnDict (.ref a) (.ref C) (.str f s.toks) f u b) (fun fin s' => ∃ v, fin = .done (.ret v) ∧ Q () s') (fun _ _ => False) { s with toks := s.toks + 1 }) :
    wpAny (model X.prog X.w) A (setAttr (.ref a) f u) Q E s := by
  obtain ⟨_, _, _, _, _, SF, _, ov⟩ := T.base
  obtain ⟨cd, kc, dd⟩ := PySem.W.any_some T.dct
  refine PySem.W.set_plain I.kIn at_a T.sa (PySem.W.osa_openX SF I.kIn at_a ov (taker0 hno) fun b => ?_)
  refine wpAny_mono (h b cd (PySem.W.looks_clsIn I.kIn kc) dd) (fun fin s' z => ?_) fun _ _ z => z.elim
  obtain ⟨v, rfl, q⟩ := z
  exact q
theorem xst_new (T : XCls X.K C fI) (I : Inv X pins σ H s) (e : H a = some (exo a C none)) (hno : PySem.W.findIn X.K (.ref C) f = some none) (ry : RelV y u)
    (h : ∀ dx s', H dx = none → dx ≠ a → Inv X pins σ (upd (upd H dx (exd dx [(f, y)])) a (exo a C (some dx))) s' → Q () s') : wpAny (model X.prog X.w) A (setAttr (.ref a) f u) Q E s := by
  obtain ⟨t1, ga⟩ := exo_at I.hok e
  obtain ⟨hp, g, d, t, os⟩ := s
  have far : a ≠ hp.objs.size := Nat.ne_of_lt (Heap.lt_size ga)
  refine xst_road T I (od := none) ⟨ga, rfl, rfl, trivial⟩ hno fun b cd look dd => ?_
  obtain ⟨nm, bs, mro, ns, qn, hdc, sn, sb, ab, col, del⟩ := cd
  cases dd
  unfold storeInOwnDict ownDictForStores
  repeat (first | with_reducible refine PySem.HandSPX.store_in_new ?_ ?_ | with_reducible refine wpAny_loadPart_at ga ?_ | with_reducible refine look.at ?_ | wp_step)
  · exact ⟨_, #[], _, (Heap.get?_update_other _ _ far).trans (Heap.get?_push_at rfl rfl), rfl, fun _ z => absurd z (by simp), fun _ => rfl⟩
  · rintro h' tk' ns' ⟨_, same⟩
    have pushed : ∀ b o, hp.get? b = some o → (hp.push { cls := .type "dict", data := .dict #[] }).get? b = some o := fun b o z => Heap.get?_push_of_some _ z
    refine ⟨_, rfl, h hp.objs.size _ (I.hok.fresh (Nat.le_refl _)) far.symm (inv_pair (tk := tk') I (by rw [e]; exact True.intro) ga rfl (Nat.le_refl _) (fun b o nb z => ?_) ((same a far).trans (Heap.get?_update_self _ (pushed a _ ga) rfl)) (fun _ z => exo_ok z) fun _ => exd_ok ns' (relO_put (fs := []) ry fun _ => trivial))⟩
    exact (same b (Nat.ne_of_lt (Heap.lt_size z))).trans ((Heap.get?_update_other _ _ (Ne.symm nb)).trans (pushed b o z))
theorem xst_old (T : XCls X.K C fI) (I : Inv X pins σ H s) (e : H a = some (exo a C (some dx))) (ed : H dx = some (exd dx fs)) (hl : fs.length ≤ 900) (hno : PySem.W.findIn X.K (.ref C) f = some none) (ry : RelV y u)
    (h : ∀ s', Inv X pins σ (upd H dx (exd dx ((f, y) :: fs))) s' → Q () s') : wpAny (model X.prog X.w) A (setAttr (.ref a) f u) Q E s := by
  obtain ⟨t1, ga⟩ := exo_at I.hok e
  obtain ⟨mA, ns, rel⟩ := exd_at I.hok ed
  obtain ⟨oD, _, _, gd, _, _⟩ := ns.count (within_of rel)
  obtain ⟨hp, g, d, t, os⟩ := s
  refine xst_road T I (od := some oD) ⟨ga, rfl, rfl, gd⟩ hno fun b cd look dd => ?_
  obtain ⟨nm, bs, mro, nsC, qn, hdc, sn, sb, ab, col, del⟩ := cd
  cases dd
  unfold storeInOwnDict ownDictForStores
  repeat (first | with_reducible refine PySem.OEX.store_in_old ns (within_of rel) (by rw [List.length_map]; omega) ?_ | with_reducible refine wpAny_loadPart_at ga ?_ | with_reducible refine look.at ?_ | wp_step)
  rintro h' tk' ns' ⟨_, same⟩
  obtain ⟨o', _, _, g', _⟩ := id ns'
  exact ⟨_, rfl, h _ (I.write (t' := tk') (by rw [ed]; exact True.intro) (.inl rfl) (fun b o nb z => (same b nb).trans z) ⟨o', g'⟩ (exd_ok ns' (relO_put ry rel)))⟩
end
def gOst (K : PySem.W.Frag) (f : Str) (to : TE) : TG := fun v σ H Q => to σ H fun x H2 => ∃ a C fI : Addr, x = .ref a ∧ XCls K C fI ∧ PySem.W.findIn K (.ref C) f = some none ∧
  ((H2 a = some (exo a C none) ∧ ∀ dx, H2 dx = none → dx ≠ a → Q σ (upd (upd H2 dx (exd dx [(f, v)])) a (exo a C (some dx)))) ∨
    ∃ (dx : Addr) (fs : List (Str × V)), H2 a = some (exo a C (some dx)) ∧ H2 dx = some (exd dx fs) ∧ fs.length ≤ 900 ∧ Q σ (upd H2 dx (exd dx ((f, v) :: fs))))
theorem pg_ost {X : Cx} {o : Expr} {to : TE} {f : Str} {pos : Pos} (ho : PE X o to)
    (hb : ∀ v, assign (.Attribute o f pos) X.env v = (do let ov ← holding [v] (eval o X.env); standAt pos.atName; holding [v, ov] (setAttr ov f v); release [v, ov] []) := by intro _; rfl) : PG X (.Attribute o f pos) (gOst X.K f to) := by
  refine ⟨fun pins s σ H v u Q I ru h => ?_⟩
  rw [hb u]
  refine wpAny_bind (wpAny_holding (thn (ho.run pins s σ H _ I h) fun ov s1 ⟨x, H1, I1, r1, a, C, fI, ex, T, hno, q⟩ => ?_))
  subst ex
  obtain rfl : ov = Value.ref a := r1
  have done : ∀ s2 H2, Inv X pins σ H2 s2 → Q σ H2 → wpAny (model X.prog X.w) X.A (release [u, .ref a] []) (fun _ s' => ∃ σ' H', Inv X pins σ' H' s' ∧ Q σ' H') X.xe s2 := fun s2 H2 J q => wpAny_release ⟨σ, H2, J, q⟩
  refine wpAny_bind (wpAny_standAt (wpAny_bind (wpAny_holding ?_)))
  rcases q with ⟨ea, q⟩ | ⟨dx, fs, ea, ed, hl, q⟩
  · exact xst_new T I1 ea hno ru fun dx s' n ne J => done _ _ J (q dx n ne)
  · exact xst_old T I1 ea ed hl hno ru fun s' J => done _ _ J q
theorem xborn {X : Cx} {pins : List (Addr × Obj)} {σ : L2.St} {H : Hp} {hp : Heap} {g : Array GenState} {d : Drawn} {t : Nat} {os : OsState} (I : Inv X pins σ H ⟨hp, g, d, t, os⟩) (C : Addr) (us : List Value) :
    Inv X pins σ (upd H (hp.objs.size + 1) (exo (hp.objs.size + 1) C none)) ⟨(hp.push (PySem.W.kdv_tup us)).push (PySem.HandSPX.excO C hp.objs.size), g, d, t, os⟩ := by
  have one : Inv X pins σ H ⟨hp.push (PySem.W.kdv_tup us), g, d, t, os⟩ := I.kept (t' := t) fun b o e => Heap.get?_push_of_some _ e
  have there : ((hp.push (PySem.W.kdv_tup us)).push (PySem.HandSPX.excO C hp.objs.size)).get? (hp.objs.size + 1) = some (PySem.HandSPX.excO C hp.objs.size) := by heap_get
  exact one.laid (t' := t) (fun b o e => Heap.get?_push_of_some _ e) (by show (hp.push _).objs.size ≤ _; simp [Heap.push]) (exo_ok there)
theorem make_x {X : Cx} {CX : CXT} {C fI : Addr} {k : Nat} {fd : FuncData} {ps : List Str} {sp : Sp} {ds : List Value} {dvs vs : List V} {us : List Value} {pins : List (Addr × Obj)} {σ : L2.St} {H1 : Hp} {Q : XK} {s1 : Shared} (T : XCls X.K C fI)
    (F1 : FnOk X.prog X.w X.K X.mg X.base CX k fI fd ps sp) (hr : Room (k + 1) X.A) (hb : Binds X.K fd ps ds) (hd : Vals dvs ds) (hx : Passes CX X (fun _ _ _ => False)) (I1 : Inv X pins σ H1 s1) (r1 : Vals vs us) (hz : vs.length ≤ 1000)
    (q1 : ∀ a, H1 a = none → sp (.ref a :: (vs ++ dvs)) (upd H1 a (exo a C none)) (fun v H2 => v = .non ∧ ∃ (d : Addr) (fs : List (Str × V)), H2 a = some (exo a C (some d)) ∧ H2 d = some (exd d fs) ∧ H1 d = none ∧ Q (.ref C) (some d) (upd (del H2 a) d (.xd fs))) (fun _ _ _ => False)) :
    wpAny (model X.prog X.w) X.A (call (.ref C) us) (L2N.MkP X pins σ Q) X.xe s1 := by
  obtain ⟨_, _, _, _, FB, _, shape, _⟩ := T.base
  obtain ⟨_, _, _, _, _, _, _, _, _, _, _, _, _, _, _, _, gC, rest⟩ := PySem.W.excInit_of I1.kIn shape
  obtain ⟨hp, g, dr, tk, os⟩ := s1
  have le : hp.objs.size ≤ hp.objs.size + 1 := Nat.le_succ _
  have J := xborn I1 C us
  have told := q1 _ (I1.hok.fresh le)
  have args : Vals (V.ref (hp.objs.size + 1) :: (vs ++ dvs)) (Value.ref (hp.objs.size + 1) :: (us ++ ds)) := .cons rfl (r1.append hd)
  have bound := hb _ (Value.ref (hp.objs.size + 1) :: us) J.kIn (by have := args.length; rw [F1.len _ _ _ _ told] at this; exact this.symm)
  have inits := F1.run _ X.stack _ _ _ _ _ _ _ (hr.make C us []) (J.env0.make C us []) bound args told
  refine wpAny_call (PySem.HandSPX.call_own FB rest gC (PySem.W.looks_findIn I1.kIn T.iC) (fun self => PySem.W.bind_fn I1.kIn self T.tI) (by rw [← r1.length, sizeLine_eq]; omega) (codeAny_mono inits ?_))
  rintro (er | fl) ⟨h2, g2, d2, t2, os2'⟩ back
  · exact hx pins σ _ _ er _ J back
  · cases fl <;> first | exact False.elim back | skip
    obtain ⟨_, H2, os2, bare2, un2, hok2, rv, rfl, d, fs, ea, ed, hd1, q2⟩ := back
    obtain ⟨t0, G, J2, kG, ge, hoe, na⟩ := mk_end0 (d2 := d2) (t2 := t2) I1 le (fun b o z => Heap.get?_push_of_some _ (Heap.get?_push_of_some _ z)) un2 hok2 os2 bare2 ea ed hd1
    exact ⟨rv, _, _, _, ⟨G, g2, d2, t2, os2'⟩, _, .ref C, some d, rfl, J2, kG, ge, hoe, ⟨rfl, rfl, fun vs hv => by cases hv; rfl⟩, rfl, rfl, na, rfl, bare2, raises_own T.exC T.tyC, q2⟩
section
variable {X : Cx} {CX : CXT} {x : Str} {C fI : Addr} {k : Nat} {fd : FuncData} {ps : List Str} {sp : Sp} {ds : List Value} {dvs : List V} {e : Expr} {es : List Expr} {ta : TA} {p pos : Pos}
theorem pmk_x (T : XCls X.K C fI) (F1 : FnOk X.prog X.w X.K X.mg X.base CX k fI fd ps sp) (hr : Room (k + 1) X.A) (hb : Binds X.K fd ps ds) (hd : Vals dvs ds) (hx : Passes CX X (fun _ _ _ => False)) (hg : Gl X x) (hm : X.mg x = some (.ref C)) (ha : PA X (e :: es) ta)
    (hdb : (x == ("__debug__" : Str)) = false := by decide) (he : starEach (e :: es) X.env = (false, eval e X.env) :: starEach es X.env := by rfl) (hpl : (backTo pos (starEach es X.env)).any (·.1) = false := by rfl) :
    L2N.PMk X (.Call (.Name x p) (e :: es) [] pos) (tMkO C sp dvs ta) := fun pins s σ H Q I h =>
  wpAny_Call_Name_kw (ld_glob I hg hm (PySem.W.callWith_K (h₀ := X.base) I.ok.mod.kin T.kC (thn (ha.run pos pins s σ H _ I h) fun us s1 ⟨vs, H1, I1, r1, hz, q1⟩ => ⟨I1.kIn, make_x T F1 hr hb hd hx I1 r1 hz q1⟩) he hpl) hdb)
end
def fieldOf (tag : Str) : Option Str := ([("BadKey", "key"), ("DuplicateKey", "key"), ("AtRoot", "key"), ("Overlap", "key"), ("KeysDiffer", "key"), ("BadWeight", "key"), ("NoKey", "key"), ("BadShape", "pos"), ("BadStep", "pos"), ("BadCost", "pos"), ("Contradiction", "pos"), ("ParseError", "pos"),
  ("TooManyKeys", "limit"), ("TooLong", "limit"), ("TooManyTrees", "limit"), ("TooManyWatches", "limit"), ("BadName", "name"), ("NameTaken", "name"), ("SameName", "name"), ("NoTree", "name"), ("BadSize", "size"), ("BadCommand", "word"), ("NoWatch", "number")] : List (Str × Str)).lookup tag
def xfs (tag : Str) (v : V) : List (Str × V) := match fieldOf tag with
  | some f => [(f, v), ("tag", .str tag)]
  | none => [("tag", .str tag)]
structure XKnown (K : PySem.W.Frag) (tag : Str) (C fI : Addr) : Prop extends XCls K C fI where
  tg : PySem.W.findIn K (.ref C) "tag" = some none
  fld : ∀ f, fieldOf tag = some f → PySem.W.findIn K (.ref C) f = some none
  rd : XfC K C
def spInit (K : PySem.W.Frag) (tag : Str) (C fI : Addr) : Sp := fun vs H Q _ => XKnown K tag C fI ∧ ∃ a x, H a = some (exo a C none) ∧ ((vs = [.ref a, x] ∧ (fieldOf tag).isSome = true) ∨ (vs = [.ref a] ∧ fieldOf tag = none)) ∧
  ∀ d H2, H d = none → d ≠ a → H2 a = some (exo a C (some d)) → H2 d = some (exd d (xfs tag x)) → (∀ b o, H b = some o → b ≠ a → H2 b = some o) → Q .non H2
section
variable {P : Program} {w : World} {K : PySem.W.Frag} {mg : Str → Option Value} {base : Heap}
theorem init2 {tag fl qual : Str} {C fI : Addr} {st : Stmt} {fd : FuncData} (F : Fun K "__init__" qual st fI fd) (S : FnScope ["self", fl] ["self", fl] (defScope st)) (hf : fieldOf tag = some fl)
    (h : ∀ (cdv : Value) (A : Around) (outer : List Env) (s : Shared) (H : Hp) (E : XK), PSs (cxOf CX0 P w K mg base ["self", fl] qual (defScope st) fI cdv A outer s H E).nox (defBody st)
      (tAsg (tTup (tCons (tC (.str tag)) (tCons (tVar 1) tNil))) (gTup K 2 (gCons (gOst K "tag" (tVar 0)) (gCons (gOst K fl (tVar 0)) gNil))))) : FnOk P w K mg base CX0 1 fI fd ["self", fl] (spInit K tag C fI) := by
  refine F.ok S (fun vs H Q E ⟨_, a, x, _, hv, _⟩ => ?_) (fun cdv A outer s H vs Q E hr ⟨T, a, x, ha, hv, q⟩ => ⟨_, h cdv A outer s H E, ?_⟩)
  · rcases hv with ⟨rfl, _⟩ | ⟨_, h0⟩
    · rfl
    · rw [hf] at h0; cases h0
  · obtain ⟨rfl, _⟩ | ⟨_, h0⟩ := hv
    · refine ⟨x, rfl, show _ ≤ _ by rw [sizeLine_eq]; show 2 ≤ _; omega, fun p hp => ?_⟩
      have hpa : p ≠ a := fun z => by subst z; rw [hp] at ha; cases ha
      refine ⟨p, _, rfl, .inl (.inl upd_same), rfl, _, _, rfl, .ref a, rfl, a, C, fI, rfl, T.toXCls, T.tg, .inl ⟨by rw [upd_ne hpa.symm]; exact ha, fun d hd hda => ?_⟩⟩
      have hdp : d ≠ p := fun z => by subst z; rw [upd_same] at hd; cases hd
      have hd0 : H d = none := by rw [upd_ne hdp] at hd; exact hd
      refine ⟨_, _, rfl, .ref a, rfl, a, C, fI, rfl, T.toXCls, T.fld _ hf, .inr ⟨d, [("tag", V.str tag)], upd_same, by rw [upd_ne hda, upd_same], (show 1 ≤ 900 by decide), rfl, ?_⟩⟩
      refine q d _ hd0 hda (by rw [upd_ne hda.symm, upd_same]) ?_ fun b o hb hba => ?_
      · rw [upd_same]; unfold xfs; rw [hf]
      · have hbd : b ≠ d := fun z => by subst z; rw [hd0] at hb; cases hb
        have hbp : b ≠ p := fun z => by subst z; rw [hp] at hb; cases hb
        rw [upd_ne hbd, upd_ne hba, upd_ne hbd, upd_ne hbp]; exact hb
    · rw [hf] at h0; cases h0
end
def tMkX (C : Addr) (tag : Str) (ta : TA) : L2.St → Hp → XK → Prop := fun σ H Q => ta σ H fun vs H1 => ∃ x, ((vs = [x] ∧ (fieldOf tag).isSome = true) ∨ (vs = [] ∧ fieldOf tag = none)) ∧ ∀ d H3, H1 d = none → H3 d = some (.xd (xfs tag x)) → (∀ b o, H1 b = some o → H3 b = some o) → Q (.ref C) (some d) H3
theorem mkx_of {K : PySem.W.Frag} {C fI : Addr} {tag : Str} {ta : TA} (T : XKnown K tag C fI) (hta : ∀ σ H Q Q', (∀ vs H1, Q vs H1 → Q' vs H1) → ta σ H Q → ta σ H Q') {σ : L2.St} {H : Hp} {Q : XK} (h : tMkX C tag ta σ H Q) : tMkO C (spInit K tag C fI) [] ta σ H Q := by
  refine hta σ H _ _ (fun vs H1 ⟨x, hv, q⟩ => ⟨?_, fun a ha => ⟨T, a, x, upd_same, ?_, fun d H2 hd hda h1 h2 h3 => ⟨rfl, d, _, h1, h2, ?_, ?_⟩⟩⟩) h
  · rcases hv with ⟨rfl, _⟩ | ⟨rfl, _⟩
    · exact (show 1 ≤ 1000 by decide)
    · exact (show 0 ≤ 1000 by decide)
  · rcases hv with ⟨rfl, h1⟩ | ⟨rfl, h1⟩
    · exact .inl ⟨rfl, h1⟩
    · exact .inr ⟨rfl, h1⟩
  · rw [upd_ne hda] at hd; exact hd
  · have hd1 : H1 d = none := by rw [upd_ne hda] at hd; exact hd
    refine q d _ hd1 upd_same fun b o hb => ?_
    have hba : b ≠ a := fun z => by subst z; rw [ha] at hb; cases hb
    have hbd : b ≠ d := fun z => by subst z; rw [hd1] at hb; cases hb
    rw [upd_ne hbd, del_ne hba]
    exact h3 b o (by rw [upd_ne hba]; exact hb) hba
end XL
namespace VL
open PySem PySem.Spec PyProof.Rows L2 XL
variable {S₀ : W0}
abbrev XC := Str → D → Mem → Prop
abbrev W4 := List D → Mem → KD → XC → Prop
def KnX (K : PySem.W.Frag) (mg : Str → Option Value) (S₀ : W0) (Ψ : XC) (E : XK) : Prop := ∀ tag x C M' v d Hf' H', mg tag = some (.ref C) → Ψ tag x M' → Wd K S₀ Hf' M' H' → Hf' d = some (.xd (xfs tag v)) → IsD K Hf' x v → E (.ref C) (some d) H'
def spX (K : PySem.W.Frag) (mg : Str → Option Value) (Wf : W4) : Sp := fun vs H Q E => ∃ Hf M ds Φ Ψ, Wr K Hf M H ∧ IsDs K Hf ds vs ∧ Wf ds M Φ Ψ ∧ Knr K Hf M H Φ Q ∧ KnX K mg ⟨Hf, M, H⟩ Ψ E
theorem KnX.at {K : PySem.W.Frag} {mg : Str → Option Value} {Ψ : XC} {E : XK} {Hf : Hp} {M : Mem} {H : Hp} (k : KnX K mg S₀ Ψ E) (W : Wd K S₀ Hf M H) : KnX K mg ⟨Hf, M, H⟩ Ψ E := fun tag x C M' v d Hf' H' hm p W' hd i => k tag x C M' v d Hf' H' hm p ⟨W'.toWr, W.st.trans W'.st⟩ hd i
theorem liftA_imp {K : PySem.W.Frag} {w : WA} : ∀ (σ : L2.St) (H : Hp) (Q Q' : List V → Hp → Prop), (∀ vs H1, Q vs H1 → Q' vs H1) → liftA K S₀ w σ H Q → liftA K S₀ w σ H Q' :=
  fun σ H Q Q' i ⟨Hf, ρ, M, Φ, W, e, h, k⟩ => ⟨Hf, ρ, M, Φ, W, e, h, fun d M' v Hf' H' p W' s' i' => i _ _ (k d M' v Hf' H' p W' s' i')⟩
theorem PMk.imp {X : Cx} {e : Expr} {t t' : L2.St → Hp → XK → Prop} (h : L2N.PMk X e t) (i : ∀ σ H Q, t' σ H Q → t σ H Q) : L2N.PMk X e t' := fun pins s σ H Q I q => h pins s σ H Q I (i σ H Q q)
def kRaise (tag : Str) (Ψ : XC) : List D → Mem → Prop := fun ds M' => ∃ x, ((ds = [x] ∧ (fieldOf tag).isSome = true) ∨ (ds = [] ∧ x = D.non ∧ fieldOf tag = none)) ∧ Ψ tag x M'
def sRaise (tag : Str) (Ψ : XC) (wa : WA) : WS := fun _ ρ M => wa ρ M (kRaise tag Ψ)
theorem lift_raise {K : PySem.W.Frag} {mg : Str → Option Value} {tag : Str} {Ψ : XC} {E : XK} {C : Addr} {wa : WA} {De : Ends} {σ : L2.St} {H : Hp} (hX : KnX K mg S₀ Ψ E) (hm : mg tag = some (.ref C)) (h : liftS K S₀ (sRaise tag Ψ wa) De σ H) : tMkX C tag (liftA K S₀ wa) σ H (fun cls d H' => E cls d H') := by
  obtain ⟨Hf, ρ, M, D, W, e, h, k⟩ := h
  refine ⟨Hf, ρ, M, _, W, e, h, fun ds M1 vs Hf1 H1 h1 W1 s1 i1 => ?_⟩
  obtain ⟨x, hx, hp⟩ := h1
  have fin : ∀ (v : V), IsD K Hf1 x v → ∀ d H3, H1 d = none → H3 d = some (.xd (xfs tag v)) → (∀ b o, H1 b = some o → H3 b = some o) → E (.ref C) (some d) H3 := by
    intro v iv d H3 hd h3 hk
    obtain ⟨w3, s3⟩ := W1.grow hk
    exact hX tag x C M1 v d (grw Hf1 H1 H3) H3 hm hp w3 (by rw [grw_new hd]; exact h3) (IsD.mono s3.ex _ _ iv)
  rcases hx with ⟨rfl, hs⟩ | ⟨rfl, rfl, hs⟩
  · obtain ⟨v, r, rfl, q1, q2⟩ := isDs_cons_inv i1
    rw [isDs_nil_inv q2]
    exact ⟨v, .inl ⟨rfl, hs⟩, fin v q1⟩
  · rw [isDs_nil_inv i1]
    exact ⟨.non, .inr ⟨rfl, hs⟩, fin .non (isD_non.mpr rfl)⟩
section
variable {X : Cx} {tag : Str} {Ψ : XC} {E : XK} {C fI : Addr} {fd : FuncData} {ps : List Str} {e : Expr} {es : List Expr} {wa : WA} {p pos pos2 : Pos}
theorem vs_raise (hc : X.calm = true) (hX : KnX X.K X.mg S₀ Ψ E) (tk : L2N.Takes X (fun cls d _ H => E cls d H)) (T : XKnown X.K tag C fI) (F1 : FnOk X.prog X.w X.K X.mg X.base CX0 1 fI fd ps (spInit X.K tag C fI)) (hr : Room 2 X.A) (hb : Binds X.K fd ps [])
    (hg : Gl X tag) (hm : X.mg tag = some (.ref C)) (ha : VA X S₀ (e :: es) wa) (hdb : (tag == ("__debug__" : Str)) = false := by decide) (he : starEach (e :: es) X.env = (false, eval e X.env) :: starEach es X.env := by rfl) (hpl : (backTo pos (starEach es X.env)).any (·.1) = false := by rfl) :
    VS X S₀ (.Raise (some (.Call (.Name tag p) (e :: es) [] pos)) none pos2) (sRaise tag Ψ wa) :=
  PS.imp (L2N.ps_raise hc tk (PMk.imp (pmk_x (dvs := []) T.toXCls F1 hr hb .nil pass0 hg hm ha hdb he hpl) fun σ H Q h => mkx_of T liftA_imp h)) fun D σ H h => lift_raise hX hm h
end
section
variable {P : Program} {w : World} {K : PySem.W.Frag} {mg : Str → Option Value} {base : Heap}
theorem okXN {x qual : Str} {st : Stmt} {f : Addr} {fd : FuncData} {N ps : List Str} {k : Nat} {sp : Sp} (F : Fun K x qual st f fd) (S : FnScope N ps (defScope st)) (len : ∀ vs H Q E, sp vs H Q E → vs.length = ps.length) (hb : ∀ (cdv : Value) (A : Around) (outer : List Env) (s : Shared) (H : Hp) (vs : List V) (Q : VK) (E : XK), Room k (A.deeper (envOfC qual (defScope st) s.heap.objs.size f cdv)) → sp vs H Q E →
      ∃ t, PSs (cxOf (L2N.CX P w) P w K mg base N qual (defScope st) f cdv A outer s H E) (defBody st) t ∧ t { nx := fun _ H' => Q .non H', rt := Q } (start N vs) H) : FnOk P w K mg base (L2N.CX P w) (k + 1) f fd ps sp := by
  obtain ⟨oc, od, kV, doc, pm, an, cdv, ct, osl, rfl, lk, hcd⟩ := F.ex; exact fn_of lk hcd S len fun A outer s H vs Q E hr hsp => hb cdv A outer s H vs Q E hr hsp
theorem fnX {x qual : Str} {st : Stmt} {f : Addr} {fd : FuncData} {N ps : List Str} {k : Nat} {Wf : W4} (F : Fun K x qual st f fd) (S : FnScope N ps (defScope st)) (len : ∀ ds M Φ Ψ, Wf ds M Φ Ψ → ds.length = ps.length)
    (h : ∀ (cdv : Value) (A : Around) (outer : List Env) (s : Shared) (H : Hp) (E : XK), Room k (A.deeper (envOfC qual (defScope st) s.heap.objs.size f cdv)) → ∀ (S₀ : W0) (Ψ : XC), KnX K mg S₀ Ψ E →
      ∃ w', VSs (cxOf (L2N.CX P w) P w K mg base N qual (defScope st) f cdv A outer s H E) S₀ (defBody st) w' ∧ ∀ ds M Φ, Wf ds M Φ Ψ → w' (endsD Φ) (startD N.length ds) M) : FnOk P w K mg base (L2N.CX P w) (k + 1) f fd ps (spX K mg Wf) := by
  refine okXN F S (fun vs H Q E ⟨Hf, M, ds, Φ, Ψ, _, i, hw, _⟩ => by rw [← i.len]; exact len ds M Φ Ψ hw) (fun cdv A outer s H vs Q E hr ⟨Hf, M, ds, Φ, Ψ, W, i, hw, kn, kx⟩ => ?_)
  have kn := kn.of
  obtain ⟨w', hv, hw'⟩ := h cdv A outer s H E hr ⟨Hf, M, H⟩ Ψ kx
  refine ⟨_, hv, Hf, startD N.length ds, M, endsD Φ, W.begin, ?_, hw' ds M Φ hw, ⟨fun ρ' M' σ' Hf' H' p W' s' e' => kn _ _ _ _ _ p W' s' (isD_non.mpr rfl), kn, (fun ρ' M' σ' Hf' H' p W' s' e' => (p : False).elim), (fun ρ' M' σ' Hf' H' p W' s' e' => (p : False).elim)⟩⟩
  have e := env_start (K := K) (Hf := Hf) (N.length - ds.length) i
  unfold startD
  rw [show start N vs = vs.map some ++ List.replicate (N.length - vs.length) none from rfl, ← i.len]
  exact e
abbrev noX : XC := fun _ _ _ => False
abbrev qt (Wf : W4) : W3 := fun ds M Φ => Wf ds M Φ noX
theorem ok_quiet {k : Nat} {f : Addr} {fd : FuncData} {ps : List Str} {Wf : W4} (F : FnOk P w K mg base (L2N.CX P w) k f fd ps (spX K mg Wf)) : FnOk P w K mg base CX0 k f fd ps (spW K (qt Wf)) := by
  have up : ∀ vs H Q E, spW K (qt Wf) vs H Q E → spX K mg Wf vs H Q (fun _ _ _ => False) := fun vs H Q E ⟨Hf, M, ds, Φ, W, i, hw, kn⟩ => ⟨Hf, M, ds, Φ, noX, W, i, hw, kn, fun _ _ _ _ _ _ _ _ _ p _ _ _ => p⟩
  refine ⟨fun vs H Q E h => F.len vs H Q _ (up vs H Q E h), fun A outer s H args us vs Q E hr e0 hb r h => ?_⟩
  refine codeAny_mono (F.run A outer s H args us vs Q (fun _ _ _ => False) hr e0 hb r (up vs H Q E h)) fun r s' q => ?_
  cases r with
  | error e =>
    obtain ⟨_, _, _, _, _, _, _, _, _, _, _, _, z⟩ := q
    exact z.elim
  | ok fl => cases fl <;> exact q
end
def kCallX (Wf : W4) (Ψ : XC) (Φ : KD) : List D → Mem → Prop := fun ds M => Wf ds M Φ Ψ
def wCallX (Wf : W4) (Ψ : XC) (wa : WA) : WE := fun ρ M Φ => wa ρ M (kCallX Wf Ψ Φ)
section
variable {X : Cx} {k : Nat} {f : Addr} {fd : FuncData} {ps : List Str} {Wf : W4} {Ψ : XC} {E : XK} {x : Str} {p pos : Pos} {e : Expr} {es : List Expr} {wa : WA} {dvs : List V} {ds : List Value}
theorem ve_callX (hX : KnX X.K X.mg S₀ Ψ E) (tk : L2N.Takes X (fun cls d _ H => E cls d H)) (F : FnOk X.prog X.w X.K X.mg X.base (L2N.CX X.prog X.w) k f fd ps (spX X.K X.mg Wf)) (hr : Room k X.A) (hg : Gl X x) (hm : X.mg x = some (.ref f)) (hk : PySem.W.keepIn X.K (.ref f) = true) (hb : Binds X.K fd ps [])
    (ha : VA X S₀ (e :: es) wa) (hdb : (x == ("__debug__" : Str)) = false := by decide) (he : starEach (e :: es) X.env = (false, eval e X.env) :: starEach es X.env := by rfl) (hpl : (backTo pos (starEach es X.env)).any (·.1) = false := by rfl) :
    VE X S₀ (.Call (.Name x p) (e :: es) [] pos) (wCallX Wf Ψ wa) :=
  PE.imp (pe_call F hr hg hm hk hb .nil (L2N.passes_call tk fun _ _ _ _ h => h) ha hdb he hpl) fun σ H Q ⟨Hf, ρ, M, Φ, W, e, h, k⟩ =>
    ⟨Hf, ρ, M, _, W, e, h, fun dd M1 vs Hf1 H1 h1 W1 s1 i1 => ⟨Hf1, M1, dd, Φ, Ψ, W1.toWr, by rw [List.append_nil]; exact i1, h1, (k.at s1).raw W1, hX.at W1⟩⟩
def kCallXD (Wf : W4) (Ψ : XC) (dds : List D) (Φ : KD) : List D → Mem → Prop := fun ds M => Wf (ds ++ dds) M Φ Ψ
def wCallXD (Wf : W4) (Ψ : XC) (dds : List D) (wa : WA) : WE := fun ρ M Φ => wa ρ M (kCallXD Wf Ψ dds Φ)
def kCallXK2 (n m : Nat) (Wf : W4) (Ψ : XC) (gD : List D → List D → List D) (ds : List D) (Φ : KD) : List D → Mem → Prop := fun zs M => (ds.length = n ∧ zs.length = m) ∧ Wf (gD ds zs) M Φ Ψ
def kCallXK1 (n m : Nat) (Wf : W4) (Ψ : XC) (gD : List D → List D → List D) (wk : WA) (ρ : Sg) (Φ : KD) : List D → Mem → Prop := fun ds M => wk ρ M (kCallXK2 n m Wf Ψ gD ds Φ)
def wCallXK (n m : Nat) (Wf : W4) (Ψ : XC) (gD : List D → List D → List D) (wa wk : WA) : WE := fun ρ M Φ => wa ρ M (kCallXK1 n m Wf Ψ gD wk ρ Φ)
end
section
variable {ρ : Sg} {M : Mem} {Φ : KD} {Ψ : XC} {Wf : W4} {wa wk : WA} {ds es dds : List D} {n m : Nat} {g : List D → List D → List D} {De : WN} {tag : Str}
theorem e_callX : wCallX Wf Ψ wa ρ M Φ = wa ρ M (kCallX Wf Ψ Φ) := rfl
theorem e_callXk : kCallX Wf Ψ Φ ds M = Wf ds M Φ Ψ := rfl
theorem e_callXD : wCallXD Wf Ψ dds wa ρ M Φ = wa ρ M (kCallXD Wf Ψ dds Φ) := rfl
theorem e_callXDk : kCallXD Wf Ψ dds Φ ds M = Wf (ds ++ dds) M Φ Ψ := rfl
theorem e_callXK : wCallXK n m Wf Ψ g wa wk ρ M Φ = wa ρ M (kCallXK1 n m Wf Ψ g wk ρ Φ) := rfl
theorem e_callXK1 : kCallXK1 n m Wf Ψ g wk ρ Φ ds M = wk ρ M (kCallXK2 n m Wf Ψ g ds Φ) := rfl
theorem e_callXK2 : kCallXK2 n m Wf Ψ g ds Φ es M = ((ds.length = n ∧ es.length = m) ∧ Wf (g ds es) M Φ Ψ) := rfl
theorem e_raise : sRaise tag Ψ wa De ρ M = wa ρ M (kRaise tag Ψ) := rfl
end
end VL
namespace XL
open PySem PySem.Spec PyProof.Rows L2 HotX
section
variable {prog : Program} {w : World} {A : Around} {E : Value → Shared → Prop} {s : Shared}
def EndsN (P : Addr → Prop) (h : Heap) (x1 : Addr) : Prop := P x1 ∧ ∃ (o : Obj) (vs : Array Value), h.get? x1 = some o ∧ o.data = .fields vs ∧
  (vs[2]? = some .none ∨ ∃ (x0 : Addr) (o0 : Obj) (v0 : Array Value), P x0 ∧ x0 ≠ x1 ∧ vs[2]? = some (.ref x0) ∧ h.get? x0 = some o0 ∧ o0.data = .fields v0 ∧ v0[2]? = some .none)
theorem EndsN.keep {P P' : Addr → Prop} {h h' : Heap} {x1 : Addr} (e : EndsN P h x1) (k : ∀ b o, P b → h.get? b = some o → h'.get? b = some o) (w : ∀ b o, P b → h.get? b = some o → P' b) : EndsN P' h' x1 := by
  obtain ⟨p1, o, vs, g, d, c⟩ := e
  refine ⟨w _ _ p1 g, o, vs, k _ _ p1 g, d, ?_⟩
  rcases c with c | ⟨x0, o0, v0, p0, n, c, g0, r⟩
  · exact .inl c
  · exact .inr ⟨x0, o0, v0, w _ _ p0 g0, n, c, k _ _ p0 g0, r⟩
def HotK (A : Around) (P : Addr → Prop) (x1 : Addr) (h : Heap) : Prop := A.handled = some (.ref x1) ∧ EndsN P h x1
theorem unchainK {a x1 : Addr} {Q : Value → Shared → Prop} (e : EndsN (· ≠ a) s.heap x1) (q : Q .none s) :
    wpAny (model prog w) A (runValue (.builtin "proto.unchain" ⟨[.ref a, .ref x1, .ref x1, .bool false], []⟩)) Q E s := by
  obtain ⟨n1, o, vs, g, d, c⟩ := e
  refine wpAny_runValue (codeAny_builtin HotX.entry_unchain ?_)
  rcases c with c | ⟨x0, o0, v0, n0, n01, c, g0, d0, c0⟩
  · show wpAny _ _ (field (.ref x1) 2 >>= _) _ _ s
    refine wpAny_bind (wpAny_field g d c ?_)
    rw [if_pos (show (Value.none == Value.none) = true from rfl)]
    first
    | exact wpAny_bind (wpAny_pure (wpAny_pure q))
    | exact wpAny_pure q
  · show wpAny _ _ (field (.ref x1) 2 >>= _) _ _ s
    refine wpAny_bind (wpAny_field g d c ?_)
    rw [if_neg (show ¬ ((Value.ref x0 == Value.none) = true) from by simp), if_neg (show ¬ ((Value.ref x0 == Value.ref a) = true) from by simpa using n0), if_neg (show ¬ ((Value.ref x0 == Value.ref x1) = true) from by simpa using n01)]
    rw [if_neg Bool.false_ne_true]
    refine wpAny_bind (wpAny_pure ?_)
    refine wpAny_pure ⟨Code.quiet_builtin _ (by decide +kernel), codeAny_builtin HotX.entry_unchain ?_⟩
    show wpAny _ _ (field (.ref x0) 2 >>= _) _ _ s
    refine wpAny_bind (wpAny_field g0 d0 c0 ?_)
    rw [if_pos (show (Value.none == Value.none) = true from rfl)]
    first
    | exact wpAny_bind (wpAny_pure (wpAny_pure q))
    | exact wpAny_pure q
theorem raiseNewK {α : Type} {a x1 : Addr} {oe : Obj} {vs : Array Value} {Q : α → Shared → Prop} (hot : HotK A (· ≠ a) x1 s.heap) (ha : s.heap.get? a = some oe) (da : oe.data = .fields vs) (hi : 2 < vs.size)
    (hE : E (.ref a) { s with heap := s.heap.update a (Obj.mapFields (·.setIfInBounds 2 (.ref x1))) }) : wpAny (model prog w) A (raiseNew (.ref a) : Sem α) Q E s := by
  obtain ⟨hh, e⟩ := hot
  unfold raiseNew
  refine wpAny_bind (wpAny_handled ?_)
  rw [hh]
  dsimp only
  rw [if_pos (show (Value.ref x1 != Value.ref a) = true from by simpa using e.1)]
  have last : wpAny (model prog w) A (updateField a 2 (.ref x1)) (fun _ s' => wpAny (model prog w) A (throw (.ref a) : Sem α) Q E s') E s := chained ha da hi (wpAny_throw hE)
  first
  | exact wpAny_bind (wpAny_bind (wpAny_holding (unchainK e last)))
  | exact wpAny_bind (wpAny_holding (unchainK e (wpAny_bind last)))
  | exact wpAny_bind (wpAny_bind (wpAny_holding (unchainK e (wpAny_bind last))))
theorem stop_hot {α : Type} {x1 : Addr} {R : Value → Shared → Prop} (hot : HotK A (fun _ => True) x1 s.heap)
    (h : ∀ a h', (∀ b o, s.heap.get? b = some o → h'.get? b = some o) → Shared.TypeIs { s with heap := h' } (.ref a) "StopIteration" → R (.ref a) { s with heap := h' }) {Q : α → Shared → Prop} :
    wpAny (model prog w) A (newExc (.type "StopIteration") [] >>= fun e => (raiseNew e : Sem α)) Q R s := by
  obtain ⟨hh, e⟩ := hot
  simp only [newExc, newTuple]
  refine wpAny_bind (wpAny_bind (wpAny_newObj_type (wpAny_bind (m := firstArgMember _ _) (wpAny_of_eq (a := Value.none) (by first | rfl | (simp only [firstArgMember]; rfl)) (wpAny_newObj_type ?_ (by size_fits)))) (by size_fits)))
  have up : ∀ b o, s.heap.get? b = some o → (s.heap.push { cls := .type "tuple", data := .seq (([] : List Value).toArray) }).get? b = some o := fun b o g => Heap.get?_push_of_some _ g
  refine raiseNewK ⟨hh, e.keep (fun b o _ g => Heap.get?_push_of_some _ (up b o g)) fun b o _ g => Nat.ne_of_lt (Heap.lt_size (up b o g))⟩ (Heap.get?_push_size _ rfl) rfl (by first | (simp; done) | (simp; omega)) (h _ _ (fun b o e => ?_) ⟨_, Heap.get?_update_self _ (Heap.get?_push_size _ rfl) rfl, rfl⟩)
  exact (Heap.get?_update_other _ _ (Nat.ne_of_gt (Heap.lt_size (up b o e)))).trans (Heap.get?_push_of_some _ (up b o e))
theorem tupEndHot {it t x1 : Addr} {i : Nat} {items : Array Value} {Q : Option Value → Shared → Prop} (hot : HotK A (· ≠ it) x1 s.heap) (hit : IsTupIter s.heap it t i) (ht : IsTup s.heap t items) (hx : items[i]? = none) (hQ : ∀ h', Heap.ExtBut it s.heap h' → Q none { s with heap := h' }) :
    wpAny (model prog w) A (pyNext (.ref it)) Q E s := by
  obtain ⟨oi, gi, _, di⟩ := id hit
  obtain ⟨ot, gt, _, n, dt⟩ := id ht
  have body : ∀ R : Value → Shared → Prop, (∀ a h', Heap.ExtBut it s.heap h' → Shared.TypeIs { s with heap := h' } (.ref a) "StopIteration" → R (.ref a) { s with heap := h' }) →
      wpAny (model prog w) A (callSpecial? (.ref it) "__next__") (fun _ _ => False) R s := fun R hR => by
    refine wpAny_callSpecial?_slot (name := Str.ofString "__next__") hit.typeIs slot_tupleiter_next (wpAny_call_entry slot_tupleiter_next hit.typeIs entry_tupleiter_next ?_ (args_tupleiter_next _))
    repeat (any_goals (first | assumption | with_reducible refine wpAny_field gi di rfl ?_ | with_reducible refine wpAny_seqItems gt dt ?_ | wp_step))
    rw [dt]
    refine wpAny_pure ?_
    simp only [Int.toNat_natCast, hx]
    refine wpAny_bind (wpAny_rule (wpAny_bind (wpAny_setField gi di (by simp) ?_)))
    have past : ∀ b o, b ≠ it → s.heap.get? b = some o → (s.heap.update it (Obj.mapFields fun x => x.setIfInBounds 0 Value.none)).get? b = some o := fun b o nb e => (Heap.get?_update_other _ _ (Ne.symm nb)).trans e
    exact stop_hot (A := A.in1) (s := { s with heap := s.heap.update it (Obj.mapFields fun x => x.setIfInBounds 0 Value.none) }) (x1 := x1) ⟨hot.1, hot.2.keep past fun _ _ _ _ => trivial⟩ fun a h' k ty => hR a h' (fun b o nb e => k b o (past b o nb e)) ty
  unfold pyNext
  refine wpAny_bind (wpAny_attempt (wpAny_mono (body _ fun a h' k ty => ?_) (fun _ _ z => z.elim) fun _ _ z => z))
  exact wpAny_bind (wpAny_isInstance (T := "StopIteration") (b := true) ty isSubtype_stop (wpAny_pure (hQ h' k)))
theorem unpackHot {t x1 : Addr} {items : Array Value} {Q : List Value → Shared → Prop} (hot : HotK A (fun _ => True) x1 s.heap) (ht : IsTup s.heap t items) (hQ : ∀ h', Heap.ExtBut s.heap.objs.size s.heap h' → Q items.toList { s with heap := h' }) : wpAny (model prog w) A (unpackItems (.ref t) items.size none) Q E s := by
  have apart : t ≠ s.heap.objs.size := Nat.ne_of_lt ht.lt
  have all : ∀ R : Option Value → Shared → Prop, (∀ h', Heap.ExtBut s.heap.objs.size s.heap h' → R none { s with heap := h' }) → ∀ h1, IsTupIter h1 s.heap.objs.size t items.size → Heap.SameBut s.heap.objs.size (s.heap.push { cls := .type "tuple_iterator", data := .fields #[.ref t, .int 0 0] }) h1 →
      wpAny (model prog w) A (pyNext (.ref s.heap.objs.size)) R E { s with heap := h1 } := fun R hR h1 hit same => by
    have up : ∀ b o, b ≠ s.heap.objs.size → s.heap.get? b = some o → h1.get? b = some o := fun b o nb e => same.extBut b o nb (Heap.get?_push_of_some _ e)
    exact tupEndHot ⟨hot.1, hot.2.keep (fun b o _ g => up b o (Nat.ne_of_lt (Heap.lt_size g)) g) fun b o _ g => Nat.ne_of_lt (Heap.lt_size g)⟩ hit ((ht.push _).extBut same.extBut apart) (by simp) fun h2 k => hR h2 fun b o nb e => k b o nb (up b o nb e)
  unfold unpackItems notIterableAtAll
  refine wpAny_bind (wpAny_bind (wpAny_specialOf ht.typeIs slot_tuple_iter.lookup (wpAny_pure ?_)))
  simp only [Bool.false_eq_true, if_false]
  refine wpAny_bind (wpAny_holding (iter_tuple ht (wpAny_bind (wpAny_holding (draw_tuple apart items.size 0 _ _ ⟨_, Heap.get?_push_size _ rfl, rfl, rfl⟩ (ht.push _) (Nat.le_of_eq (Nat.zero_add _)) fun h1 hit same => ?_)))))
  have whole : List.take items.size (List.drop 0 items.toList) = items.toList := by simp [List.take_of_length_le]
  rw [whole, if_neg (by simp)]
  refine wpAny_bind (wpAny_holding (all _ (fun h' k => ?_) h1 (by rw [Nat.zero_add] at hit; exact hit) same))
  simp only [Option.isSome_none, Bool.false_eq_true, if_false]
  exact wpAny_pure (hQ h' k)
end
section
variable {X : Cx} {pins : List (Addr × Obj)} {σ : L2.St} {H : Hp} {s : Shared}
theorem two_stores {i j : Nat} {x y : Str} {v w : V} {a b : Value} {Q : Flow → Shared → Prop} {E : Value → Shared → Prop} (I : Inv X pins σ H s) (hN : X.N.Nodup) (hi : X.N[i]? = some x) (hj : X.N[j]? = some y) (ne : i ≠ j) (hx : X.env.scope.names.lookup x = some .local) (hy : X.env.scope.names.lookup y = some .local)
    (ra : RelV v a) (rb : RelV w b) (h : ∀ s', Inv X pins ((σ.set i (some v)).set j (some w)) H s' → Q .next s') :
    wpAny (model X.prog X.w) X.A (assignInOrder [(bindName X.env y ·), (bindName X.env x ·)] [b, a] >>= fun _ => pure Flow.next) Q E s := by
  have last : ∀ s1, Inv X pins (σ.set j (some w)) H s1 → wpAny (model X.prog X.w) X.A (assignInOrder [(bindName X.env x ·)] [a]) (fun _ s2 => wpAny (model X.prog X.w) X.A (pure Flow.next) Q E s2) E s1 := fun s1 J =>
    assignInOrder_cons (wpAny_bindName (store_ok J hN hi (.inl hx) ra (fun s2 J2 => assignInOrder_nil (wpAny_pure (h s2 (by rw [List.set_comm _ _ ne]; exact J2)))) (.inr hx)))
  exact wpAny_bind (assignInOrder_cons (wpAny_bindName (store_ok I hN hj (.inl hy) rb last (.inr hy))))
def HotX2 (X : Cx) : Prop := ∃ p : Addr × Obj, X.A.handled = some (.ref p.1) ∧ p ∈ X.pn ∧ ∃ vs : Array Value, p.2.data = .fields vs ∧ (vs[2]? = some .none ∨ ∃ (q : Addr × Obj) (v : Array Value), q ∈ X.pn ∧ q.1 ≠ p.1 ∧ vs[2]? = some (.ref q.1) ∧ q.2.data = .fields v ∧ v[2]? = some .none)
theorem HotX2.at (c : HotX2 X) (I : Inv X pins σ H s) : ∃ x1, HotK X.A (fun _ => True) x1 s.heap := by
  obtain ⟨p, hh, hp, vs, d, c⟩ := c
  refine ⟨p.1, hh, trivial, p.2, vs, (I.pin p (List.mem_append_left _ hp)).1, d, ?_⟩
  rcases c with c | ⟨q, v, hq, n, c, dq, cq⟩
  · exact .inl c
  · exact .inr ⟨q.1, q.2, v, trivial, n, c, (I.pin q (List.mem_append_left _ hq)).1, dq, cq⟩
open L2H in
theorem ps_parHot {i j : Nat} {x y : Str} {a b : Expr} {ta : TA} {px py pt pos : Pos} {kt k2 pt2} (hc : HotX2 X) (hN : X.N.Nodup) (hi : X.N[i]? = some x) (hj : X.N[j]? = some y) (hij : i ≠ j) (hx : X.env.scope.names.lookup x = some .local) (hy : X.env.scope.names.lookup y = some .local) (ha : PA X [a, b] ta)
    (hw : swappedStores [.Tuple [.Name x px, .Name y py] kt pt] (.Tuple [a, b] k2 pt2) X.env = pure (some [x, y])) (hs : swapsWithSole [.Tuple [.Name x px, .Name y py] kt pt] (.Tuple [a, b] k2 pt2) pos.line X.env = pure false := by rfl) : PS X (.Assign [.Tuple [.Name x px, .Name y py] kt pt] (.Tuple [a, b] k2 pt2) pos) (tPar i j ta) := by
  constructor
  intro pins s σ H D I h
  have behind : ∀ us s1, (∃ vs H1, Inv X pins σ H1 s1 ∧ Vals vs us ∧ ∃ v w, vs = [v, w] ∧ D.nx ((σ.set i (some v)).set j (some w)) H1) → ∃ u1 u2, us = [u1, u2] ∧ ∀ h', (∀ b o, s1.heap.get? b = some o → h'.get? b = some o) →
      wpAny (model X.prog X.w) X.A (assignInOrder [(bindName X.env y ·), (bindName X.env x ·)] [u2, u1] >>= fun _ => pure Flow.next) (SP X pins D) X.xe { s1 with heap := h' } := by
    rintro us s1 ⟨_, H1, J, r, v, w, rfl, q⟩
    obtain ⟨u1, rest, rfl, r1, r2⟩ : ∃ u1 rest, us = u1 :: rest ∧ RelV v u1 ∧ Vals [w] rest := by cases r with | cons p q => exact ⟨_, _, rfl, p, q⟩
    obtain ⟨u2, rfl, r3⟩ := r2.one
    exact ⟨u1, u2, rfl, fun h' k => two_stores (J.kept (t' := s1.toks) k) hN hi hj hij hx hy r1 r3 fun s' J' => ⟨_, H1, J', q⟩⟩
  rw [exec_Assign_arm]
  refine wpAny_bind (wpAny_standAt ?_); rw [hs]
  refine wpAny_bind (wpAny_pure ?_); rw [if_neg (by decide)]
  refine wpAny_bind (Tuple_ (thn (ha.run _ pins s σ H _ I h) fun us s1 z => ?_))
  obtain ⟨u1, u2, rfl, fin⟩ := behind us s1 z
  obtain ⟨_, H1, J, _⟩ := z
  refine wpAny_newObj_type ?_ (show 2 ≤ sizeLine by decide)
  have laid : ∀ b o, s1.heap.get? b = some o → (s1.heap.push { cls := .type "tuple", data := .seq [u1, u2].toArray }).get? b = some o := fun b o e => Heap.get?_push_of_some _ e
  obtain ⟨x1, hot⟩ := hc.at (J.kept (t' := s1.toks) laid)
  rw [hw]; refine wpAny_bind (wpAny_pure ?_)
  show wpAny (model X.prog X.w) X.A (do rule "assign.swapped-stores"; let items ← unpackItems (.ref s1.heap.objs.size) 2 none; assignInOrder [(bindName X.env y ·), (bindName X.env x ·)] items.reverse; pure Flow.next) _ _ _
  exact wpAny_bind (wpAny_rule (wpAny_bind (unpackHot (items := #[u1, u2]) hot (IsTup.new s1.heap _) fun h' k => fin h' fun b o e => k b o (Nat.ne_of_lt (Heap.lt_size (laid b o e))) (laid b o e))))
end
open L2H in
theorem hot_runs {P : Program} {w : World} {K : PySem.W.Frag} {mg : Str → Option Value} {base : Heap} {p : Addr × Obj} {x qual : Str} {st : Stmt} {f : Addr} {fd : FuncData} {N ps : List Str} {k : Nat} {A : Around} {outer : List Env} {s : Shared} {H : Hp} {us : List Value} {vs : List V} {Q : VK} (F : Fun K x qual st f fd) (S : FnScope N ps (defScope st))
    (b : BindsTo s fd ⟨us, []⟩ (ps.zip us)) (pin : PinOk outer H s p) (e0 : Env0 P w K mg base A outer s H) (hr : RoomH (k + 1) A) (len : vs.length = ps.length) (r : Vals vs us)
    (hbody : ∀ cdv : Value, RoomH k (A.deeper (envOfC qual (defScope st) s.heap.objs.size f cdv)) → ∃ t, PSs (cxH CX0 P w K mg base N qual (defScope st) f cdv A outer s H (fun _ _ _ => False) p) (defBody st) t ∧ t { nx := fun _ H' => Q .non H', rt := Q } (L2.start N vs) H) :
    codeAny (model P w) A (.call (.ref f) ⟨us, []⟩) (CR CX0 outer P w H s Q (fun _ _ _ => False)) s := by
  obtain ⟨_, _, _, _, _, _, cdv, _, _, rfl, at_f, code⟩ := F.ex
  have kin : K.In s.heap := e0.mod.kin.keeps fun b o e => (e0.bs b o e).1
  refine codeAny_call_function hr.depth (kin _ _ at_f) rfl S.co S.gen rfl (PySem.W.codeRec_of kin code) (b _ _ _ _ (wpAny_newFunctionEnv_cells S.kind (fun y hy => (S.par y.1 (List.of_mem_zip hy).1).imp_right fun c => ⟨c, PySem.W.cellsFrom_some _ _ _ (.inl c)⟩) fun env he s2 x => ?_))
  subst he
  refine ⟨(e0.mod.nolimit.keeps fun b o e => (e0.bs b o e).1).keeps x.toInCall.keep, codeAny_func ?_⟩
  obtain ⟨t, told, q⟩ := hbody cdv (hr.deeper _)
  refine wpAny_mono (told.run [] s2 (L2.start N vs) H _ (inv_startH S pin e0 len r x) q) (fun fl s' fin => ?_) fun _ _ z => z
  cases fl
  case ret u => obtain ⟨v, _, H', J, rv, q⟩ := fin; exact ⟨v, H', J.os, J.bare, J.base, J.hok, rv, q⟩
  case next => obtain ⟨_, H', J, q⟩ := fin; exact ⟨V.non, H', J.os, J.bare, J.base, J.hok, rfl, q⟩
  all_goals (obtain ⟨_, _, _, no⟩ := fin; exact no.elim)
open L2H in
theorem pe_callHot {X : Cx} {p : Addr × Obj} {x qual : Str} {st : Stmt} {f : Addr} {fd : FuncData} {N ps : List Str} {k : Nat} {sp : Sp} {e : Expr} {es : List Expr} {ta : TA} {q pos : Pos} (F : Fun X.K x qual st f fd) (S : FnScope N ps (defScope st)) (len : ∀ vs H Q E, sp vs H Q E → vs.length = ps.length) (hb : Binds X.K fd ps [])
    (hp : p ∈ X.pn) (hr : RoomH (k + 1) X.A) (hg : Gl X x) (hm : X.mg x = some (.ref f)) (ha : PA X (e :: es) ta)
    (hbody : ∀ (cdv : Value) (A : Around) (outer : List Env) (s : Shared) (H : Hp) (vs : List V) (Q : VK), RoomH k (A.deeper (envOfC qual (defScope st) s.heap.objs.size f cdv)) → sp vs H Q (fun _ _ _ => False) → ∃ t, PSs (cxH CX0 X.prog X.w X.K X.mg X.base N qual (defScope st) f cdv A outer s H (fun _ _ _ => False) p) (defBody st) t ∧ t { nx := fun _ H' => Q .non H', rt := Q } (L2.start N vs) H)
    (hdb : (x == ("__debug__" : Str)) = false := by decide) (he : starEach (e :: es) X.env = (false, eval e X.env) :: starEach es X.env := by rfl) (hpl : (backTo pos (starEach es X.env)).any (·.1) = false := by rfl) :
    PE X (.Call (.Name x q) (e :: es) [] pos) (fun σ H Q => ta σ H fun vs H1 => sp vs H1 Q (fun _ _ _ => False)) := by
  constructor
  intro pins s σ H Q I h
  refine wpAny_Call_Name_kw (ld_glob I hg hm (PySem.W.callWith_K (h₀ := X.base) I.ok.mod.kin F.kp (thn (ha.run pos pins s σ H _ I h) ?_) he hpl) hdb)
  rintro us s1 ⟨vs, H1, J, r, told⟩
  have same := len _ _ _ _ told
  have b := hb s1 us J.kIn (by rw [List.append_nil, ← r.length]; exact same)
  rw [List.append_nil] at b
  obtain ⟨g, free, noLocals, noFrame, cell⟩ := J.pin p (List.mem_append_left _ hp)
  have pin : PinOk X.stack H1 s1 p := ⟨g, free, fun m => (List.mem_cons.mp (J.stkSub p.1 m)).elim noLocals noFrame, cell⟩
  refine ⟨J.kIn, wpAny_call (codeAny_mono (hot_runs F S b pin J.env0 hr same r fun cdv room => hbody cdv X.A X.stack s1 H1 vs Q room told) ?_)⟩
  rintro (_ | fl) s' back
  · exact False.elim back
  · cases fl <;> first | exact J.after back | exact False.elim back
def wTwo (K : PySem.W.Frag) (C1 C2 C3 : Addr) (i : Nat) (ts1 ts2 : Addr → Value → Option Addr → TS) (D : Ends) : WX := fun cls d σ H =>
  ∃ b, PySem.W.exmAny K cls [.ref C1, .ref C2] = some b ∧ (b = false → PySem.W.exmOne K cls (.ref C3) = some true) ∧
    ∀ a, H a = none → (if b then ts1 else ts2) a cls d { nx := fun σ' H' => D.nx (σ'.set i none) H', rt := D.rt, bk := fun σ' H' => D.bk (σ'.set i none) H', ct := fun σ' H' => D.ct (σ'.set i none) H' } (σ.set i (some (.ref a))) H
theorem flying_push {B h : Heap} {l : List Env} {a : Addr} {Z : Obj → Prop} {o : Obj} (f : HandSPX.FlyingZ B l a Z h) : HandSPX.FlyingZ B l a Z (h.push o) := by
  obtain ⟨h1, h2, h3, oe, vs, T, oT, ts, q1, q2, q3, q4, q5, q6, q7, q8, q9⟩ := f
  exact ⟨fun b u e => Heap.get?_push_of_some _ (h1 b u e), h2, Heap.FunFrames.of_keeps (fun b u e _ => ⟨u, Heap.get?_push_of_some _ e, rfl⟩) h3, oe, vs, T, oT, ts, Heap.get?_push_of_some _ q1, q2, q3, q4, q5, q6, Heap.get?_push_of_some _ q7, q8, q9⟩
def CtxB (B : Heap) (H : Hp) (o : Obj) : Prop := ∀ vs : Array Value, o.data = .fields vs → vs[2]? = some .none ∨ ∃ (x0 : Addr) (o0 : Obj) (v0 : Array Value), vs[2]? = some (.ref x0) ∧ B.get? x0 = some o0 ∧ H x0 = none ∧ o0.data = .fields v0 ∧ v0[2]? = some .none
def Zk (B : Heap) (H : Hp) (cls : Value) (d : Option Addr) : Obj → Prop := fun o => o.cls = cls ∧ o.dict = d ∧ CtxB B H o
theorem Zk.steady {B : Heap} {H : Hp} {cls : Value} {d : Option Addr} : PXN.Steady1 (Zk B H cls d) := fun o v h => by
  refine ⟨(Obj.cls_mapFields _ _).trans h.1, (HandSPX.dict_mapFields _ _).trans h.2.1, fun vs e => ?_⟩
  obtain ⟨c, dd, dt, sl⟩ := o
  cases dt with
  | fields ws =>
    have e1 : ws.setIfInBounds 1 v = vs := Data.fields.inj e
    have e2 : vs[2]? = ws[2]? := by rw [← e1]; exact Array.getElem?_setIfInBounds_ne (by decide)
    rw [e2]
    exact h.2.2 ws rfl
  | _ => exact Data.noConfusion e
def XEk (X : Cx) (W : WX) (u : Value) (s' : Shared) : Prop :=
  ∃ (a : Addr) (B : Heap) (sI : Shared) (pins : List (Addr × Obj)) (σ : L2.St) (H : Hp) (cls : Value) (d : Option Addr), u = .ref a ∧ Inv X pins σ H sI ∧ (∀ b o, sI.heap.get? b = some o → b ∉ frs X.stack → B.get? b = some o) ∧ sI.heap.UpToSlots s'.heap ∧
    L2.Sky B X.stack a (Zk B H cls d) X.env.locals s'.heap ∧ H a = none ∧ s'.os = sI.os ∧ AllBare s'.gens ∧ W cls d σ H
def Takesk (X : Cx) (W : WX) : Prop := ∀ u s', XEk X W u s' → X.xe u s'
def CXk (P : Program) (w : World) (outer : List Env) (H : Hp) (s : Shared) (E : XK) (u : Value) (s' : Shared) : Prop :=
  ∃ (a : Addr) (B : Heap) (H' : Hp) (cls : Value) (d : Option Addr), u = .ref a ∧ HandSPX.FlyingZ B outer a (Zk B H' cls d) s'.heap ∧ HOk P w H' B ∧ UB (frs outer) H H' s.heap B s'.heap ∧ H' a = none ∧ s'.os = s.os ∧ AllBare s'.gens ∧ E cls d H'
theorem takesN {X : Cx} {W : WX} (t : Takesk X W) : L2N.Takes X W := fun u s' ⟨a, B, sI, pins, σ, H, cls, d, e, I, nb, up, sky, r⟩ =>
  t u s' ⟨a, B, sI, pins, σ, H, cls, d, e, I, nb, up, (by
    have zk : ∀ o, L2N.Zn cls d o → Zk B H cls d o := fun o z => ⟨z.1, z.2.1, fun vs e => .inl (z.2.2 vs e)⟩
    have wk : ∀ {h : Heap} {fl : Value}, HandSPX.TracedZ h B a (L2N.Zn cls d) fl → HandSPX.TracedZ h B a (Zk B H cls d) fl := fun ⟨oe, vs, T, oT, ts, g, z, rest⟩ => ⟨oe, vs, T, oT, ts, g, zk _ z, rest⟩
    rcases sky with ⟨b1, b2, b3, oe, vs, g, z, dd⟩ | ⟨f1, f2, f3, f4⟩ | ⟨f1, f2, f3, f4⟩
    · exact .inl ⟨b1, b2, b3, oe, vs, g, zk _ z, dd⟩
    · exact .inr (.inl ⟨f1, f2, f3, wk f4⟩)
    · exact .inr (.inr ⟨f1, f2, f3, wk f4⟩)), r⟩
section
variable {X : Cx} {pins : List (Addr × Obj)} {σ : L2.St} {H : Hp} {s s' : Shared} {W : WX} {E : XK} {u : Value}
theorem XEk.of_call (I : Inv X pins σ H s) (hW : ∀ cls d H', E cls d H' → W cls d σ H') (c : CXk X.prog X.w X.stack H s E u s') : XEk X W u s' := by
  classical
  obtain ⟨a, B, H', cls, d, rfl, fl, hok, ub, na, os, ag, hE⟩ := c
  obtain ⟨G, yes, no⟩ := restrict s'.heap fun b => decide ((∃ o, B.get? b = some o) ∨ b ∈ frs X.stack)
  have inG : ∀ {b o}, ((∃ o, B.get? b = some o) ∨ b ∈ frs X.stack) → s'.heap.get? b = some o → G.get? b = some o := fun {b o} q g => (yes b (decide_eq_true q)).trans g
  have ofG : ∀ {b o}, G.get? b = some o → s'.heap.get? b = some o ∧ ((∃ o, B.get? b = some o) ∨ b ∈ frs X.stack) := fun {b o} g => by
    by_cases q : (∃ o, B.get? b = some o) ∨ b ∈ frs X.stack
    · exact ⟨(yes b (decide_eq_true q)).symm.trans g, q⟩
    · rw [no b (decide_eq_false q)] at g; cases g
  have base : ∀ b o, B.get? b = some o → G.get? b = some o := fun b o g => inG (.inl ⟨o, g⟩) (fl.1 b o g)
  have un : Un (frs X.stack) [] H H' s.heap G := by
    constructor
    case keep => exact fun b o g n m _ => base b o (ub.keep b o g n m)
    case slot => exact fun b o g n m _ => (ub.slot b o g m).imp fun sl q => inG (.inr m) q
    case free => exact fun b o g n _ => ub.free b o g n
    case there =>
      intro b o g _
      by_cases m : b ∈ frs X.stack
      · exact (ub.slot b o g m).elim fun sl q => ⟨_, inG (.inr m) q⟩
      · exact (ub.there b o g m).imp fun o' q => base b o' q
    case tups => exact ub.tups
    case frzs => exact ub.frzs
    case tbls => exact ub.tbls
  refine ⟨a, B, { s' with heap := G }, pins, σ, H', cls, d, rfl, I.call' (s' := { s' with heap := G }) os un (hok.kept base) ag (fun _ z => nomatch z), fun b o g m => ?_, Heap.UpToSlots.of_keeps fun b o g => (ofG g).1, .inr (.inl fl), na, rfl, ag, hW _ _ _ hE⟩
  obtain ⟨g', q⟩ := ofG g
  rcases q with ⟨o', q⟩ | q
  · rw [q, ← fl.1 b o' q, g']
  · exact absurd q m
theorem XEk.leave (hs : X.stack = X.env :: X.outer) (hf : X.env.frame = some X.env.locals) (hex : X.ex = []) {E₁ : Value → Shared → Prop} (hW : ∀ cls d σ H, W cls d σ H → E cls d H) (x : XEk X W u s') :
    wpAny (model X.prog X.w) X.A (leaving X.env u) (fun _ s'' => CXk X.prog X.w X.outer X.H_0 X.s_0 E u s'') E₁ s' := by
  obtain ⟨a, B, sI, pins, σ, H, cls, d, rfl, I, nb, up, sky, na, os, ag, w⟩ := x
  have frames : X.A.frames = some (X.env :: X.outer) := by rw [I.ok.frames, hs]
  have noex : ∀ b, b ∉ X.ex := fun b m => by rw [hex] at m; cases m
  have early : ∀ {b o}, X.s_0.heap.get? b = some o → b ∉ frs X.outer → b ∉ frs X.stack := fun {b o} g n m => by
    rcases List.mem_cons.mp (I.stkSub b m) with z | z
    · subst z; exact absurd (Nat.lt_of_lt_of_le (Heap.lt_size g) I.ok.above) (Nat.lt_irrefl _)
    · exact n z
  have out : ∀ h', HandSPX.FlyingZ B X.outer a (Zk B H cls d) h' → s'.heap.UpToSlots h' → CXk X.prog X.w X.outer X.H_0 X.s_0 E (.ref a) { s' with heap := h' } := fun h' fl up' => by
    have ub : UB (frs X.outer) X.H_0 H X.s_0.heap B h' := by
      constructor
      case keep => exact fun b o g n m => nb b o (I.base.keep b o g n m (noex b)) (early g m)
      case slot =>
        intro b o g m
        obtain ⟨_, o1, g1, plain⟩ := I.ok.funs.mem m
        cases g1.symm.trans g
        obtain ⟨_, q1⟩ := I.base.slot b o g (I.ok.frf b m) m (noex b)
        obtain ⟨_, q2⟩ := up b _ q1 plain
        obtain ⟨sl, q3⟩ := up' b _ q2 plain
        exact ⟨sl, q3⟩
      case free => exact fun b o g n => I.base.free b o g n (noex b)
      case there => exact fun b o g m => (I.base.there b o g (noex b)).imp fun o' q => nb b o' q (early g m)
      case tups => exact I.base.tups
      case frzs => exact I.base.frzs
      case tbls => exact I.base.tbls
    exact ⟨a, B, H, cls, d, rfl, fl, I.inGround nb, ub, na, os.trans I.os, ag, hW _ _ _ _ w⟩
  rw [hs] at sky
  rcases sky with ⟨b1, b2, b3, oe, vs, g, z, dd, h1⟩ | fl | hd
  · exact PXN.leaving_firstZ Zk.steady frames b3 hf g b1 b2 dd h1 z out
  · exact PXN.leaves_onZ Zk.steady frames hf fl out
  · exact HandSPX.leaves_heldZ hf hd out
theorem takesk_of (hs : X.stack = X.env :: X.outer) (hf : X.env.frame = some X.env.locals) (hex : X.ex = []) {E₁ : Value → Shared → Prop}
    (hx : X.xe = fun e s' => wpAny (model X.prog X.w) X.A (leaving X.env e) (fun _ s'' => CXk X.prog X.w X.outer X.H_0 X.s_0 E e s'') E₁ s') : Takesk X (fun cls d _ H => E cls d H) := fun u s' x => by
  rw [hx]
  exact x.leave hs hf hex fun _ _ _ _ h => h
theorem passesk (tk : Takesk X W) (hW : ∀ cls d σ H, E cls d H → W cls d σ H) : ∀ (pins : List (Addr × Obj)) (σ : L2.St) (H : Hp) (s : Shared) (e : Value) (s' : Shared), Inv X pins σ H s → CXk X.prog X.w X.stack H s E e s' → X.xe e s' :=
  fun _ σ _ _ e s' I c => tk e s' (XEk.of_call I (fun cls d H' h => hW cls d σ H' h) c)
end
structure Caught (X : Cx) (pins : List (Addr × Obj)) (σ : L2.St) (H : Hp) (a : Addr) (Z : Obj → Prop) (s : Shared) : Prop where
  inv : Inv X pins σ H s
  obj : ∃ (oe : Obj) (vs : Array Value), s.heap.get? a = some oe ∧ Z oe ∧ oe.data = .fields vs
  untracked : H a = none
  noLocals : a ≠ X.env.locals
  noFrame : a ∉ X.fs
section
variable {X : Cx} {pins : List (Addr × Obj)} {σ : L2.St} {H : Hp} {s : Shared} {a : Addr} {Z : Obj → Prop} {B : Heap}
theorem Caught.of (I : Inv X pins σ H s) (na : H a = none) (hf : X.env.frame = some X.env.locals) (fl : HandSPX.FlyingZ B (X.env :: X.outer) a Z s.heap) : Caught X pins σ H a Z s := by
  obtain ⟨oe, vs, g, z, dt⟩ := fl.there
  have apart : a ∉ frs (X.env :: X.outer) := fun m => by
    obtain ⟨_, o', g', notFields⟩ := fl.2.2.1.mem m
    cases g.symm.trans g'
    exact notFields _ dt
  refine ⟨I, ⟨oe, vs, g, z, dt⟩, na, fun e => apart ?_, fun m => apart ?_⟩
  · exact List.mem_filterMap.mpr ⟨X.env, List.mem_cons_self, by rw [hf, e]⟩
  · obtain ⟨env, me, fe⟩ := List.mem_filterMap.mp m
    exact List.mem_filterMap.mpr ⟨env, List.mem_cons_of_mem _ me, fe⟩
theorem Caught.suite (c : Caught X pins σ H a Z s) : ∃ oe, Z oe ∧ (∃ vs, oe.data = .fields vs) ∧ Inv (X.suite a ((a, oe) :: (X.pn ++ pins))) [] σ H s := by
  obtain ⟨oe, vs, g, z, dt⟩ := c.obj
  exact ⟨oe, z, ⟨vs, dt⟩, c.inv.suite g dt c.untracked c.noLocals c.noFrame⟩
theorem Caught.typ {cls : Value} (c : Caught X pins σ H a Z s) (hz : ∀ o, Z o → o.cls = cls) : PySem.W.Looks (model X.prog X.w) s.heap (typeOf (.ref a)) cls := by
  obtain ⟨oe, vs, g, z, dt⟩ := c.obj
  exact fun A Q E s' k q => wpAny_typeOf_ref (k _ _ g) (by rw [hz _ z]; exact q)
abbrev behind (D : Ends) (i : Nat) : Ends := { nx := fun σ H => D.nx (σ.set i none) H, rt := D.rt, bk := fun σ H => D.bk (σ.set i none) H, ct := fun σ H => D.ct (σ.set i none) H }
theorem suite_as {n : Str} {i : Nat} {b : Stmt} {su : List Stmt} {pp : Pos} {ts : TS} {D : Ends} {E1 E2 E3 : Value → Shared → Prop} (hf : X.env.frame = some X.env.locals) (hN : X.N.Nodup) (hi : X.N[i]? = some n) (hln : X.env.kindOf n = some .local) (na : H a = none)
    (fl : HandSPX.FlyingZ B (X.env :: X.outer) a Z s.heap) (back : ∀ s' : Shared, HandSPX.FlyingZ B (X.env :: X.outer) a Z s'.heap → s.heap.UpToSlots s'.heap → s'.os = s.os → s'.gens = s.gens → Inv X pins σ H s')
    (hsu : ∀ oe, Z oe → (∃ vs, oe.data = .fields vs) → PSs (X.suite a ((a, oe) :: (X.pn ++ pins))) (b :: su) ts) (h : ts (behind D i) (σ.set i (some (.ref a))) H) :
    wpAny (model X.prog X.w) (X.A.mark (some (.ref a))) (setFlight (.ref a) none) (fun _ s1 => wpAny (model X.prog X.w) (X.A.mark (some (.ref a))) (storeName X.env n (.ref a)) (fun _ s2 => wpAny (model X.prog X.w) (X.A.mark (some (.ref a))) (execs (b :: su) X.env)
      (fun f s3 => wpAny (model X.prog X.w) X.A (do bindName X.env n .none; unbindBehindTheSuite X.env n pp) (fun _ s4 => SP X pins D f s4) X.xe s3) E3 s2) E2 s1) E1 s := by
  refine HandSPX.lands_againZ fl fun h4 fl4 up4 => ?_
  have J := back { s with heap := h4 } fl4 up4 rfl rfl
  obtain ⟨oe, z, hd, S⟩ := (Caught.of J na hf fl4).suite
  refine store_ok (X := X.suite a ((a, oe) :: (X.pn ++ pins))) (v := .ref a) S hN hi (.inl hln) rfl (fun s5 S5 => wpAny_mono ((hsu oe z hd).run [] s5 _ H _ S5 h) (fun f s6 end6 => ?_) fun _ _ no => no.elim) (.inr hln)
  have gone : ∀ {σ6 : L2.St} {H6 : Hp} {R : Shared → Prop}, Inv (X.suite a ((a, oe) :: (X.pn ++ pins))) [] σ6 H6 s6 → (∀ s7, Inv X pins (σ6.set i none) H6 s7 → R s7) → wpAny (model X.prog X.w) X.A (do bindName X.env n .none; unbindBehindTheSuite X.env n pp) (fun _ s7 => R s7) X.xe s6 :=
    fun S6 hR => gone_ok (S6.unsuite J.ok) hN hi hln hR
  cases f
  case ret u => obtain ⟨v, _, H6, S6, r, q⟩ := end6; exact gone S6 fun _ J7 => ⟨v, _, H6, J7, r, q⟩
  all_goals (obtain ⟨_, H6, S6, q⟩ := end6; exact gone S6 fun _ J7 => ⟨_, H6, J7, q⟩)
end
section
variable {X : Cx} {x1 x2 x3 n : Str} {C1 C2 C3 : Addr} {i : Nat} {body su1 su2 : List Stmt} {b1 b2 : Stmt} {np1 np2 np3 tp pos pos1 pos2 : Pos} {k : _} {tb : WX → TS} {ts1 ts2 : Addr → Value → Option Addr → TS}
theorem ps_try2 (hs : X.stack = X.env :: X.outer) (hf : X.env.frame = some X.env.locals) (hN : X.N.Nodup) (hi : X.N[i]? = some n) (hln : X.env.kindOf n = some .local) (g1 : Gl X x1) (m1 : X.mg x1 = some (.ref C1)) (g2 : Gl X x2) (m2 : X.mg x2 = some (.ref C2)) (g3 : Gl X x3) (m3 : X.mg x3 = some (.ref C3))
    (hb : ∀ (W : WX) (pn : List (Addr × Obj)) (xe : Value → Shared → Prop), Takesk (X.tr pn xe) W → PSs (X.tr pn xe) body (tb W))
    (hsu : ∀ (a : Addr) (oe : Obj) (cls : Value) (d : Option Addr) (pn : List (Addr × Obj)), Zc cls d oe → (∃ vs, oe.data = .fields vs) → HotX2 (X.suite a ((a, oe) :: pn)) → PSs (X.suite a ((a, oe) :: pn)) (b1 :: su1) (ts1 a cls d) ∧ PSs (X.suite a ((a, oe) :: pn)) (b2 :: su2) (ts2 a cls d))
    (d1 : (x1 == ("__debug__" : Str)) = false := by decide) (d2 : (x2 == ("__debug__" : Str)) = false := by decide) (d3 : (x3 == ("__debug__" : Str)) = false := by decide) :
    PS X (.Try body [.ExceptHandler (some (.Tuple [.Name x1 np1, .Name x2 np2] k tp)) (some n) (b1 :: su1) pos1, .ExceptHandler (some (.Name x3 np3)) (some n) (b2 :: su2) pos2] [] [] pos) (fun D σ H => tb (wTwo X.K C1 C2 C3 i ts1 ts2 D) D σ H) := by
  constructor
  intro pins s σ H D I h
  have frames : X.A.frames = some (X.env :: X.outer) := by rw [I.ok.frames, hs]
  -- the clauses, the exception having landed
  have clauses : ∀ (s' : Shared) (B : Heap) (pn2 : List (Addr × Obj)) (a : Addr) (cls : Value) (d : Option Addr) (σ' : L2.St) (H' : Hp) (Z : Obj → Prop), (∀ o, Z o → Zc cls d o) → (∀ oe, Z oe → (∃ vs, oe.data = .fields vs) → HotX2 (X.suite a ((a, oe) :: (X.pn ++ pn2)))) → (∀ s2 : Shared, HandSPX.FlyingZ B (X.env :: X.outer) a Z s2.heap → s'.heap.UpToSlots s2.heap → s2.os = s'.os → s2.gens = s'.gens → Inv X pn2 σ' H' s2) →
      H' a = none → HandSPX.FlyingZ B (X.env :: X.outer) a Z s'.heap → wTwo X.K C1 C2 C3 i ts1 ts2 D cls d σ' H' →
      wpAny (model X.prog X.w) X.A (handleBy (.ref a) X.env [.ExceptHandler (some (.Tuple [.Name x1 np1, .Name x2 np2] k tp)) (some n) (b1 :: su1) pos1, .ExceptHandler (some (.Name x3 np3)) (some n) (b2 :: su2) pos2]) (SP X pn2 D) X.xe s' := by
    rintro s' B pn2 a cls d σ' H' Z zc hot back na fl ⟨b, two, three, told⟩
    have S := (Caught.of (back s' fl (Heap.UpToSlots.of_keeps fun _ _ e => e) rfl rfl) na hf fl)
    obtain ⟨oe, z, hd, SI⟩ := S.suite
    refine wpAny_handleBy_cons (codeAny_handlers_test ?_) (by intro q; cases q)
    refine Tuple_ (Calls.spliced_cons (ld_glob SI g1 m1 (Calls.spliced_cons (ld_glob SI g2 m2 (Calls.spliced_nil (wpAny_newObj_type ?_ (show 2 ≤ sizeLine by decide))) d2)) d1))
    let two' : Obj := { cls := .type "tuple", data := .seq [Value.ref C1, .ref C2].toArray }
    have grown : s'.heap.UpToSlots (s'.heap.push two') := Heap.UpToSlots.of_keeps fun _ _ e => Heap.get?_push_of_some _ e
    have fl2 : HandSPX.FlyingZ B (X.env :: X.outer) a Z (s'.heap.push two') := flying_push fl
    have S2 := Caught.of (back { s' with heap := s'.heap.push two' } fl2 grown rfl rfl) na hf fl2
    have run : ∀ {bs : Stmt} {ss : List Stmt} {pp : Pos} {ts : Addr → Value → Option Addr → TS} {E1 E2 E3 : Value → Shared → Prop}, (∀ oe, Z oe → (∃ vs, oe.data = .fields vs) → PSs (X.suite a ((a, oe) :: (X.pn ++ pn2))) (bs :: ss) (ts a cls d)) → ts a cls d (behind D i) (σ'.set i (some (.ref a))) H' → _ :=
      fun {bs ss pp ts E1 E2 E3} p q => suite_as (n := n) (i := i) (pp := pp) (D := D) (E1 := E1) (E2 := E2) (E3 := E3) (b := bs) (su := ss) (ts := ts a cls d) (s := { s' with heap := s'.heap.push two' }) hf hN hi hln na fl2 (fun s3 f u o g => back s3 f (grown.trans u) o g) p q
    refine (PySem.W.exm_tup2 S2.inv.kIn (S2.typ fun o z => (zc o z).1) (Heap.get?_push_size _ rfl) two).here ?_
    cases b with
    | true => exact codeAny_handlers_suite_as (run (fun oe z hd => (hsu a oe cls d _ (zc _ z) hd (hot _ z hd)).1) (told a na))
    | false =>
      obtain ⟨_, _, _, SI2⟩ := S2.suite
      exact wpAny_handleBy_cons (codeAny_handlers_test (ld_glob SI2 g3 m3 ((PySem.W.exm_one S2.inv.kIn (S2.typ fun o z => (zc o z).1) (three rfl)).here (codeAny_handlers_suite_as (run (fun oe z hd => (hsu a oe cls d _ (zc _ z) hd (hot _ z hd)).2) (told a na)))) d3)) (by intro q; cases q)
  have takes : Takesk (X.tr (X.pn ++ pins) (fun e s1 => wpAny (model X.prog X.w) X.A (noteFrame e X.env) (fun _ s2 => wpAny (model X.prog X.w) X.A (setFlight e none) (fun _ s3 => wpAny (model X.prog X.w) X.A (handleBy e X.env [.ExceptHandler (some (.Tuple [.Name x1 np1, .Name x2 np2] k tp)) (some n) (b1 :: su1) pos1, .ExceptHandler (some (.Name x3 np3)) (some n) (b2 :: su2) pos2]) (SP X pins D) X.xe s3) X.xe s2) X.xe s1)) (wTwo X.K C1 C2 C3 i ts1 ts2 D) := by
    rintro u s' ⟨a, B, sI, pins', σ', H', cls, d, rfl, J, nb, up, sky, na, os, ag, w⟩
    have J' : Inv X pins σ' H' sI := J.ofTry I.ok
    refine L2N.Sky.land Zk.steady frames hf (by rw [← hs]; exact sky) fun h3 fl3 up3 => ?_
    obtain ⟨l1, l2, l3, oe, vs, T, oT, ts, g, ⟨z1, z2, z3⟩, dv, rest⟩ := fl3
    have back : ∀ {Z : Obj → Prop} (s2 : Shared), HandSPX.FlyingZ B (X.env :: X.outer) a Z s2.heap → Heap.UpToSlots h3 s2.heap → s2.os = s'.os → s2.gens = s'.gens → Inv X pins σ' H' s2 := fun s2 f u o e => J'.landed nb f.1 ((up.trans up3).trans u) (o.trans os) (by rw [e]; exact ag)
    have fl : HandSPX.FlyingZ B (X.env :: X.outer) a (fun o => Zc cls d o ∧ ∀ ws, o.data = .fields ws → ws[2]? = vs[2]?) h3 := ⟨l1, l2, l3, oe, vs, T, oT, ts, g, ⟨⟨z1, z2⟩, fun ws e => by rw [e] at dv; cases dv; rfl⟩, dv, rest⟩
    rcases z3 vs dv with c | ⟨x0, o0, v0, c, gB, n0, d0, c0⟩
    · exact clauses { s' with heap := h3 } B pins a cls d σ' H' _ (fun o z => z.1) (fun o z ⟨ws, e⟩ => ⟨(a, o), rfl, List.mem_cons_self, ws, e, .inl ((z.2 ws e).trans c)⟩) back na fl w
    · have xa : x0 ≠ a := fun z => by rw [z, l2] at gB; cases gB
      refine wpAny_mono (clauses { s' with heap := h3 } B ((x0, o0) :: pins) a cls d σ' H' _ (fun o z => z.1)
        (fun o z ⟨ws, e⟩ => ⟨(a, o), rfl, List.mem_cons_self, ws, e, .inr ⟨(x0, o0), v0, List.mem_cons_of_mem _ (List.mem_append_right _ List.mem_cons_self), xa, (z.2 ws e).trans c, d0, c0⟩⟩) (fun s2 f u o e => ?_) na fl w) (fun f s2 q => ?_) fun _ _ z => z
      · have J2 := back s2 f u o e
        have norec : x0 ∉ frs (X.env :: X.outer) := fun m => by
          obtain ⟨_, o', g', nf⟩ := f.2.2.1.mem m
          cases (f.1 x0 o0 gB).symm.trans g'
          exact nf _ d0
        refine J2.pins_of fun p m => ?_
        rcases List.mem_cons.mp m with rfl | m
        · refine ⟨f.1 _ _ gB, n0, fun z => norec ?_, fun z => norec ?_, fun v z => by rw [show o0.data = _ from z] at d0; cases d0⟩
          · exact List.mem_filterMap.mpr ⟨X.env, List.mem_cons_self, by rw [hf]; exact congrArg some (Eq.symm z)⟩
          · obtain ⟨env, me, q⟩ := List.mem_filterMap.mp z
            exact List.mem_filterMap.mpr ⟨env, List.mem_cons_of_mem _ me, q⟩
        · exact J2.pin p (List.mem_append_right _ m)
      · have less : ∀ {σ H}, Inv X ((x0, o0) :: pins) σ H s2 → Inv X pins σ H s2 := fun K => K.pins_of fun p m => K.pin p (List.mem_append_right _ (List.mem_cons_of_mem _ m))
        cases f
        case ret u => obtain ⟨v, σ2, H2, K, r, q⟩ := q; exact ⟨v, σ2, H2, less K, r, q⟩
        all_goals (obtain ⟨σ2, H2, K, q⟩ := q; exact ⟨σ2, H2, less K, q⟩)
  refine wpAny_Try_except (wpAny_mono ((hb _ _ _ takes).run [] s σ H D (I.toTry _) h) (fun f s1 end1 => ?_) fun _ _ z => z)
  cases f
  case ret u => obtain ⟨v, σ', H', J, r, q⟩ := end1; exact ⟨v, σ', H', J.ofTry I.ok, r, q⟩
  case next => obtain ⟨σ', H', J, q⟩ := end1; exact wpAny_execs_nil ⟨σ', H', J.ofTry I.ok, q⟩
  all_goals (obtain ⟨σ', H', J, q⟩ := end1; exact ⟨σ', H', J.ofTry I.ok, q⟩)
end
end XL
namespace XL
open PySem PySem.Spec PyProof.Rows L2 LamX
section
variable {X : Cx} {pins : List (Addr × Obj)} {σ : L2.St} {H : Hp} {s : Shared}
abbrev lname (X : Cx) : Str := X.env.qual ++ "<lambda>"
def Made (H H1 : Hp) (P : Addr) (ps : Array Value) (q : Str) (c' : Addr) : Prop := H1 c' = some (CodeO c' q) ∧ ((H1 = H ∧ ∃ pos : Pos, codeAmong pos ps.toList = some (.ref c')) ∨ ∃ ps' : Array Value, H c' = none ∧ H1 = upd (upd H P (.tbl ps')) c' (CodeO c' q) ∧ TriplesOk ps'.toList ∧ ∀ pos cv, codeAmong pos ps'.toList = some cv → codeAmong pos ps.toList = some cv ∨ cv = .ref c')
theorem tab_more {H : Hp} {P c' : Addr} {ps : Array Value} {q : Str} {pos : Pos} (ht : TriplesOk ps.toList) (nC : H c' = none) : Made H (upd (upd H P (.tbl (ps ++ #[rawInt pos.line, rawInt pos.col, .ref c']))) c' (CodeO c' q)) P ps q c' := by
  have rows : (ps ++ #[rawInt pos.line, rawInt pos.col, .ref c']).toList = ps.toList ++ [rawInt pos.line, rawInt pos.col, .ref c'] := by simp
  refine ⟨upd_same, .inr ⟨_, nC, rfl, ?_, fun pos' cv hcv => ?_⟩⟩
  · rw [rows]; exact PySem.TriplesOk_snoc _ _ _ _ ht
  · rw [rows] at hcv; exact among_app _ ht hcv
theorem no_frame (I : Inv X pins σ H s) {f : Addr} (hf : s.heap.objs.size ≤ f) : f ∉ frs X.stack := fun z => by
  rcases List.mem_cons.mp (I.stkSub _ z) with rfl | e
  · exact absurd (Nat.lt_of_lt_of_le I.lt hf) (Nat.lt_irrefl _)
  · exact I.nofs hf e
theorem lam_mk {c P : Addr} {ps : Array Value} {params : Arguments} {body : Expr} {scope : Scope} {pos : Pos} {E : Value → Shared → Prop} {Q : Value → Shared → Prop} (I : Inv X pins σ H s) (TB : TabB X.base X.mg c P) (hcode : X.env.code = .ref c)
    (hP : H P = some (.tbl ps)) (ht : TriplesOk ps.toList) (ha : ∀ (pos : Pos) (cv : Value), codeAmong pos ps.toList = some cv → ∃ c, cv = .ref c ∧ H c = some (CodeO c (lname X))) (hdef : defaultsOf params X.env = ([], [])) (hfree : ∀ y ∈ scope.names, y.2 = .free → ∃ c, X.env.cells.lookup y.1 = some c)
    (h : ∀ (f c' : Addr) (pm ctv : Value) (H1 : Hp) (s' : Shared), Inv X pins σ H1 s' → Made H H1 P ps (lname X) c' → s'.heap.get? f = some (PySem.W.kla_obj "<lambda>" (lname X) params body scope (cloFrom X.env.cells scope.names []) pm c' ctv) → H1 f = none → f ∉ frs X.stack → Q (.ref f) s') :
    wpAny (model X.prog X.w) X.A (eval (.Lambda params body scope pos) X.env) Q E s := by
  have tabAt : s.heap.get? P = some { cls := .none, data := .fields ps } := I.hok P _ hP
  have glob := I.mod.glob.keeps I.bk
  have blts : s.heap.BuiltinsAt X.mg P := TB.bm.keeps I.bk
  -- the new function f, the heap having grown to h1 with the abstract heap H1
  have fin : ∀ (c' : Addr) (ctv : Value) (h1 : Heap) (H1 : Hp) (tk : Tok), s.heap.objs.size ≤ h1.objs.size → Inv X pins σ H1 { s with heap := h1, toks := tk } → Made H H1 P ps (lname X) c' →
      Q (.ref h1.objs.size) { s with heap := h1.push (PySem.W.kla_obj "<lambda>" (lname X) params body scope (cloFrom X.env.cells scope.names []) ((X.mg "__name__").getD .none) c' ctv), toks := tk } := fun c' ctv h1 H1 tk le J md =>
    h _ c' _ ctv H1 _ (J.kept (t' := tk) fun b o e => Heap.get?_push_of_some _ e) md (Heap.get?_push_size _ rfl) (J.hok.fresh (Nat.le_refl _)) (no_frame I le)
  refine PySem.W.kla_eval hdef ?_
  rcases found : codeAmong pos ps.toList with _ | cv
  · refine PySem.W.kla_makeFunction (closure_ok hfree) I.ok.glob glob hcode (TB.code.keeps I.bk) tabAt ht found TB.gP blts fun c' ctv h1 tk kept ge lt rec1 tab1 => ?_
    obtain ⟨_, oc, vs, t, e2, g, d, v⟩ := rec1
    cases e2
    exact fin c' ctv h1 _ tk (Nat.le_trans ge (Nat.le_of_lt lt)) (inv_table (t' := tk) (q := lname X) I hP kept tab1 ge ⟨oc, vs, t, g, d, v⟩) (tab_more ht (I.hok.fresh ge))
  · obtain ⟨c', rfl, known⟩ := ha pos cv found
    refine PySem.W.kla_makeFunctionHit (closure_ok hfree) I.ok.glob glob hcode (TB.code.keeps I.bk) tabAt ht found blts fun ctv h1 tk kept le => ?_
    exact fin c' ctv h1 H tk le (I.kept (t' := tk) kept) ⟨known, .inl ⟨rfl, pos, found⟩⟩
abbrev lamN (X : Cx) (A : Around) (outer : List Env) (s : Shared) (H : Hp) (E : XK) (scope : Scope) (f c' : Addr) : Cx :=
  (lamCx X A outer s H E scope f c').wish (fun e s' => wpAny (model X.prog X.w) (A.deeper (lamEnv X scope s.heap.objs.size f c')) (leaving (lamEnv X scope s.heap.objs.size f c') e) (fun _ s'' => CXk X.prog X.w outer H s E e s'') (fun e' s'' => CXk X.prog X.w outer H s E e' s'') s')
theorem lamN_takesk {A : Around} {outer : List Env} {E : XK} {scope : Scope} {f c' : Addr} : Takesk (lamN X A outer s H E scope f c') (fun cls d _ H => E cls d H) := takesk_of rfl rfl rfl rfl
theorem lam_runs {f c' : Addr} {pm ctv : Value} {params : Arguments} {body : Expr} {scope : Scope} {k : Nat} {tb : XK → TE} {AY : Around} {oY : List Env} {s1 : Shared} {HY : Hp} {Q : VK} {EY : XK} (I : Inv X pins σ H s) (L : LamS X.env.scope scope)
    (at_f : s1.heap.get? f = some (PySem.W.kla_obj "<lambda>" (lname X) params body scope (cloFrom X.env.cells scope.names []) pm c' ctv)) (at_c : ∃ (oc : Obj) (vs : Array Value) (t : Tok), s1.heap.get? c' = some oc ∧ oc.data = .fields vs ∧ vs[1]? = some (.str (lname X) t))
    (hbind : bindArgs (PySem.W.kla_fn "<lambda>" (lname X) params body scope (cloFrom X.env.cells scope.names []) pm (.ref c') ctv) ⟨[], []⟩ = pure []) (un : Un (frs X.stack) [] H HY s.heap s1.heap) (e0 : Env0 X.prog X.w X.K X.mg X.base AY oY s1 HY) (hr : Room (k + 1) AY)
    (hbody : ∀ (A : Around) (outer : List Env) (s : Shared) (H : Hp) (E : XK), Room k (A.deeper (lamEnv X scope s.heap.objs.size f c')) → PE (lamN X A outer s H E scope f c') body (tb E)) (ht : tb EY σ HY Q) :
    codeAny (model X.prog X.w) AY (.call (.ref f) ⟨[], []⟩) (CR (CXk X.prog X.w) oY X.prog X.w HY s1 Q EY) s1 := by
  obtain ⟨oc, vs, t, g, d, v⟩ := at_c
  have lim : s1.heap.NoLimit := e0.mod.nolimit.keeps fun b o e => (e0.bs b o e).1
  refine PySem.W.kla_callFunE hr.depth at_f rfl L.co L.gen rfl ⟨c', oc, vs, t, rfl, g, d, v⟩ ?_
  rw [hbind]
  refine wpAny_pure (wpAny_newFunctionEnv (fun y hy => (L.own y hy).2) (fun _ hy => nomatch hy) (fun h1 ns sb => ⟨lim.fresh _ sb, ?_⟩) L.kind)
  show codeAny _ _ (.expr body (lamEnv X scope s1.heap.objs.size f c')) _ _
  refine PySem.W.kla_codeExpr ?_
  have up : ∀ b o, s1.heap.get? b = some o → h1.get? b = some o := fun b o e => sb.extBut b o (Nat.ne_of_lt (Heap.lt_size e)) (Heap.get?_push_of_some _ e)
  have J0 := lam_start2 (E := EY) (tk := s1.toks + ([] : List (Str × Value)).length) (f := f) (c' := c') I L e0 hr.hd un ns up
  have J : Inv (lamN X AY oY s1 HY EY scope f c') [] σ HY { s1 with heap := h1, toks := s1.toks + ([] : List (Str × Value)).length } := J0.wish _
  refine wpAny_mono ((hbody _ oY s1 HY EY (hr.deeper _)).run [] _ σ HY Q J ht) (fun u s' z => ?_) fun _ _ z => z
  obtain ⟨x, H', J', r, q⟩ := z
  exact ⟨x, H', J'.os, J'.bare, J'.base, J'.hok, r, q⟩
theorem pe_actN {CXg : CXT} {Eg : XK} {Ng : List Str} {qg : Str} {sg : Scope} {g f c' : Addr} {cdg pm ctv : Value} {params : Arguments} {body : Expr} {scope : Scope} {k i : Nat} {a : Str} {pn : List (Addr × Obj)} {xe : Value → Shared → Prop} {W : WX} {tb : XK → TE} {p1 p2 : Pos} {AZ : Around} {oZ : List Env} {sZ : Shared} {H0 : Hp}
    (I : Inv X pins σ H s) (L : LamS X.env.scope scope) (hf : s.heap.get? f = some (PySem.W.kla_obj "<lambda>" (lname X) params body scope (cloFrom X.env.cells scope.names []) pm c' ctv)) (hfn : H f = none) (hfr : f ∉ frs X.stack)
    (hbind : bindArgs (PySem.W.kla_fn "<lambda>" (lname X) params body scope (cloFrom X.env.cells scope.names []) pm (.ref c') ctv) ⟨[], []⟩ = pure [])
    (hun : ∀ pinsZ σZ HZ s1, Inv ((cxOf CXg X.prog X.w X.K X.mg X.base Ng qg sg g cdg AZ oZ sZ H0 Eg).tr pn xe) pinsZ σZ HZ s1 → Un (frs X.stack) [] H HZ s.heap s1.heap)
    (tk : Takesk ((cxOf CXg X.prog X.w X.K X.mg X.base Ng qg sg g cdg AZ oZ sZ H0 Eg).tr pn xe) W) (hr : Room (k + 1) (AZ.deeper (envOfC qg sg sZ.heap.objs.size g cdg)))
    (hbody : ∀ (A : Around) (outer : List Env) (s : Shared) (H : Hp) (E : XK), Room k (A.deeper (lamEnv X scope s.heap.objs.size f c')) → PE (lamN X A outer s H E scope f c') body (tb E))
    (hN : Ng[i]? = some a) (hv : Vis sg a) (hd : (a == ("__debug__" : Str)) = false := by decide) (hcd : (a == ("__classdict__" : Str)) = false := by decide) :
    PE ((cxOf CXg X.prog X.w X.K X.mg X.base Ng qg sg g cdg AZ oZ sZ H0 Eg).tr pn xe) (.Call (.Name a p1) [] [] p2)
      (fun σZ HZ Q => σZ[i]? = some (some (.ref f)) ∧ HZ c' = some (CodeO c' (lname X)) ∧ tb (fun cls d H' => W cls d σZ H') σ HZ Q) := by
  constructor
  rintro pinsZ s0 σZ HZ Q IZ ⟨hs, hc, ht⟩
  have name := (pe_var (X := (cxOf CXg X.prog X.w X.K X.mg X.base Ng qg sg g cdg AZ oZ sZ H0 Eg).tr pn xe) (pos := p1) (i := i) hN hv hd hcd).run pinsZ s0 σZ HZ (fun v H1 => v = .ref f ∧ H1 = HZ) IZ ⟨.ref f, hs, rfl, rfl⟩
  refine wpAny_Call_Name_kw (thn name fun u s1 ⟨v, H1, I1, r1, ev, eH⟩ => ?_)
  subst ev eH
  cases r1
  have un := hun _ _ _ _ I1
  have at_f := un.keep f _ hf hfn hfr fun z => nomatch z
  have runs := lam_runs (X := X) (EY := fun cls d H' => W cls d σZ H') I L at_f (I1.hok c' _ hc).1 hbind un I1.env0 hr hbody ht
  refine PySem.W.callWith_F0 ⟨_, _, _, _, at_f⟩ (wpAny_call (codeAny_mono runs fun r s' back => ?_))
  rcases r with e | fl
  · exact tk e s' (XEk.of_call I1 (fun _ _ _ z => z) back)
  · cases fl <;> first | exact I1.after back | exact False.elim back
end
end XL
namespace XL
open PySem PySem.Spec PyProof.Rows L2 LamX
def tXq (K : PySem.W.Frag) (a : Addr) (cls : Value) (d : Option Addr) (f : Str) (te : TE) : TE := fun σ H Q => te σ H fun x H1 => x = .ref a ∧ ∃ (C dd : Addr) (fs : List (Str × V)) (v : V), cls = .ref C ∧ XfC K C ∧ PySem.W.findIn K (.ref C) f = some none ∧ d = some dd ∧ H1 dd = some (.xd fs) ∧ fs.lookup f = some v ∧ Q v H1
theorem xd_holds {P : Program} {w : World} {h : Heap} {H : Hp} {dd : Addr} {fs : List (Str × V)} {n : Str} {v : V} (ok : HOk P w H h) (hd : H dd = some (.xd fs)) (l : fs.lookup n = some v) : ∃ od u, h.get? dd = some od ∧ PySem.W.lookIn n od = some (some u) ∧ RelV v u := by
  obtain ⟨mA, ns, rel⟩ : ObjOk P w H h dd (.xd fs) := ok dd _ hd
  obtain ⟨od, g, look⟩ := lookIn_ns ns
  have r := rel n
  rw [l] at r
  obtain ⟨u, e, ru⟩ := RelO.some_of r
  exact ⟨od, u, g, by rw [look, e], ru⟩
theorem pe_xq {X : Cx} {a : Addr} {oe : Obj} {cls : Value} {d : Option Addr} {e : Expr} {te : TE} {pos : Pos} {n : Str} (hz : Zc cls d oe) (hf : ∃ vs, oe.data = .fields vs) (hp : (a, oe) ∈ X.pn) (he : PE X e te) (hb : attributeBase e n X.env (eval e X.env) = eval e X.env := by rfl) : PE X (.Attribute e n pos) (tXq X.K a cls d n te) := by
  constructor
  intro pins s σ H Q I h
  refine attr_of hb (thn (he.run pins s σ H _ I h) ?_)
  rintro w s1 ⟨_, H1, J, rw', rfl, C, dd, fs, v, rfl, T, hno, rfl, at_d, l, q⟩
  cases rw'
  obtain ⟨od, u, g, look, ru⟩ := xd_holds J.hok at_d l
  have plain : PySem.W.notCls oe = true := by obtain ⟨vs, e⟩ := hf; unfold PySem.W.notCls; rw [e]
  have inst : PySem.W.InstAt s1.heap a oe C (some od) := ⟨(J.pin (a, oe) (List.mem_append_left _ hp)).1, hz.1, plain, by rw [hz.2]; exact g⟩
  exact HandSPX.exc_get J.kIn inst T.ga T.gg T.exC (PySem.W.findObj_own T.hdC hno rfl look) (handed_of ru) ⟨v, H1, J.tok _, ru, q⟩
def tOut (K : PySem.W.Frag) (C1 C2 C3 : Addr) (te : WX → TE) (tF : Addr → Value → Option Addr → TE) : TS :=
  tSeq (tAsg (tTup (tCons (tC .non) (tCons (tC (.str "")) (tCons (tC .non) tNil)))) (gTup K 3 (gCons (gName 1) (gCons (gName 2) (gCons (gName 3) gNil)))))
  (tSeq (fun D σ H => (tAsg (te (wTwo K C1 C2 C3 4 (fun a cls d => tPar 2 3 (tCons (tXq K a cls d "tag" (tVar 4)) (tCons (tF a cls d) tNil))) (fun a cls d => tAsg (tXq K a cls d "tag" (tVar 4)) (gName 2)) D)) (gName 1)) D σ H)
  (tRet (tTup (tCons (tVar 1) (tCons (tVar 2) (tCons (tVar 3) tNil))))))
structure XMatch (K : PySem.W.Frag) (tag : Str) (C C1 C2 C3 : Addr) : Prop where
  any : PySem.W.exmAny K (.ref C) [.ref C1, .ref C2] = some (fieldOf tag).isSome
  one : fieldOf tag = none → PySem.W.exmOne K (.ref C) (.ref C3) = some true
  rd : XfC K C
  tg : PySem.W.findIn K (.ref C) "tag" = some none
theorem xfs_tag (tag : Str) (v : V) : (xfs tag v).lookup ("tag" : Str) = some (V.str tag) := by
  unfold xfs
  cases h : fieldOf tag with
  | none => rfl
  | some f =>
    have hf : (("tag" : Str) == f) = false := by
      unfold fieldOf at h
      have : f ∈ (["key", "pos", "limit", "name", "size", "word", "number"] : List Str) := by
        have := List.mem_of_elem_eq_true (a := f) (as := (([("BadKey", "key"), ("DuplicateKey", "key"), ("AtRoot", "key"), ("Overlap", "key"), ("KeysDiffer", "key"), ("BadWeight", "key"), ("NoKey", "key"), ("BadShape", "pos"), ("BadStep", "pos"), ("BadCost", "pos"), ("Contradiction", "pos"), ("ParseError", "pos"),
          ("TooManyKeys", "limit"), ("TooLong", "limit"), ("TooManyTrees", "limit"), ("TooManyWatches", "limit"), ("BadName", "name"), ("NameTaken", "name"), ("SameName", "name"), ("NoTree", "name"), ("BadSize", "size"), ("BadCommand", "word"), ("NoWatch", "number")] : List (Str × Str)).map (·.2))) ?_
        · simpa using this
        · rw [List.elem_iff]
          exact List.mem_map.mpr ⟨_, mem_of_lookup h, rfl⟩
      simp only [List.mem_cons, List.not_mem_nil, or_false] at this
      rcases this with rfl | rfl | rfl | rfl | rfl | rfl | rfl <;> decide +kernel
    show List.lookup _ [(f, v), ("tag", V.str tag)] = _
    simp only [List.lookup, hf]
    rfl
theorem out_runs {K : PySem.W.Frag} {C1 C2 C3 f c' : Addr} {q : Str} {te : WX → TE} {tF : Addr → Value → Option Addr → TE} {tb : XK → Hp → VK → Prop} {H1 : Hp} {Q : VK} {nx : L2.St → Hp → Prop}
    (hte : ∀ (W : WX) σZ HZ Q, σZ[0]? = some (some (.ref f)) → HZ c' = some (CodeO c' q) → tb (fun cls d H' => W cls d σZ H') HZ Q → te W σZ HZ Q)
    (hF : ∀ a cls d σ H (Q Q' : VK), (∀ v H, Q v H → Q' v H) → tF a cls d σ H Q → tF a cls d σ H Q')
    (hmono : ∀ (E E' : XK) (H : Hp) (Q Q' : VK), (∀ c d H, E c d H → E' c d H) → (∀ v H, Q v H → Q' v H) → tb E H Q → tb E' H Q') (hc : H1 c' = some (CodeO c' q))
    (hyp : ∀ p, H1 p = none → tb (fun cls d H' => ∃ (C dd : Addr) (tag : Str) (v : V), cls = .ref C ∧ d = some dd ∧ H' dd = some (.xd (xfs tag v)) ∧ XMatch K tag C C1 C2 C3 ∧
        (fieldOf tag = none → ∀ p', H' p' = none → Q (.ref p') (upd H' p' (.tup [.non, .str tag, .non]))) ∧
        ((fieldOf tag).isSome = true → ∀ a σZ, σZ[4]? = some (some (.ref a)) → H' a = none → tF a cls d σZ H' (fun u H2 => ∀ p', H2 p' = none → Q (.ref p') (upd H2 p' (.tup [.non, .str tag, u])))))
      (upd H1 p (.tup [.non, .str "", .non])) (fun v H' => ∀ p', H' p' = none → Q (.ref p') (upd H' p' (.tup [v, .str "", .non])))) :
    tOut K C1 C2 C3 te tF { nx := nx, rt := Q } (L2.start ["_law_ask", "_law_answer", "_law_tag", "_law_field_here", "_law_e"] [.ref f]) H1 := by
  refine ⟨(show 3 ≤ sizeLine by decide), fun p hp => ⟨p, _, rfl, .inl (.inl upd_same), rfl, _, _, rfl, _, _, rfl, _, _, rfl, rfl, ?_⟩⟩
  have np : c' ≠ p := fun z => by rw [z, hp] at hc; cases hc
  refine hte _ _ _ _ rfl (by rw [upd_ne np]; exact hc) (hmono _ _ _ _ _ ?_ ?_ (hyp p hp))
  · rintro cls d H' ⟨C, dd, tag, v, rfl, rfl, hd, hm, h0, h1⟩
    refine ⟨_, hm.any, fun hb => hm.one (by cases e : fieldOf tag with | none => rfl | some f => rw [e] at hb; cases hb), fun a ha => ?_⟩
    cases e : fieldOf tag with
    | none =>
      refine ⟨.ref a, rfl, rfl, C, dd, _, .str tag, rfl, hm.rd, hm.tg, rfl, hd, xfs_tag tag v, ?_⟩
      exact ⟨.non, rfl, .str tag, rfl, .non, rfl, (show 3 ≤ sizeLine by decide), h0 e⟩
    | some f =>
      refine ⟨.ref a, rfl, rfl, C, dd, _, .str tag, rfl, hm.rd, hm.tg, rfl, hd, xfs_tag tag v, hF _ _ _ _ _ _ _ (fun u H2 hq => ?_) (h1 (by rw [e]; rfl) a _ rfl ha)⟩
      exact ⟨.str tag, u, rfl, .non, rfl, .str tag, rfl, u, rfl, (show 3 ≤ sizeLine by decide), hq⟩
  · exact fun v H' hq => ⟨v, rfl, .str "", rfl, .non, rfl, (show 3 ≤ sizeLine by decide), hq⟩
open VL
structure XFld (K : PySem.W.Frag) (S₁ : W0) (p : Addr × Obj) (C dd : Addr) (tag : Str) (x : VL.D) : Prop where
  hz : Zc (.ref C) (some dd) p.2
  hf : ∃ vs, p.2.data = .fields vs
  rd : XfC K C
  tg : PySem.W.findIn K (.ref C) "tag" = some none
  fld : ∀ f, fieldOf tag = some f → PySem.W.findIn K (.ref C) f = some none
  val : ∃ v, S₁.Hf dd = some (.xd (xfs tag v)) ∧ VL.IsD K S₁.Hf x v
def kXa (a : Addr) (y : VL.D) (ok : Prop) (Φ : KD) : KD := fun z M => z = .ref a ∧ ok ∧ Φ y M
def wXa (a : Addr) (y : VL.D) (ok : Prop) (we : WE) : WE := fun ρ M Φ => we ρ M (kXa a y ok Φ)
section
variable {X : Cx} {S₁ : W0} {p : Addr × Obj} {C dd : Addr} {tag n : Str} {x : VL.D} {e : Expr} {we : WE} {pos : Pos}
theorem ve_xaT (k : XFld X.K S₁ p C dd tag x) (hp : p ∈ X.pn) (he : VE X S₁ e we) (hb : attributeBase e "tag" X.env (eval e X.env) = eval e X.env := by rfl) : VE X S₁ (.Attribute e "tag" pos) (wXa p.1 (.str tag) True we) :=
  PE.imp (pe_xq k.hz k.hf hp he hb) fun σ H Q ⟨Hf, ρ, M, Φ, W, e, h, kn⟩ => by
    refine ⟨Hf, ρ, M, _, W, e, h, fun z M1 v Hf1 H1 ⟨h1, _, h2⟩ W1 s1 i1 => ?_⟩
    obtain ⟨v0, q1, q2⟩ := k.val
    subst h1
    exact ⟨isD_ref.mp i1, C, dd, _, _, rfl, k.rd, k.tg, rfl, W1.fro _ _ (W1.st.ex _ _ q1), xfs_tag _ _, kn _ _ _ _ _ h2 W1 s1 (isD_str.mpr rfl)⟩
theorem ve_xaF (k : XFld X.K S₁ p C dd tag x) (hp : p ∈ X.pn) (he : VE X S₁ e we) (hb : attributeBase e n X.env (eval e X.env) = eval e X.env := by rfl) : VE X S₁ (.Attribute e n pos) (wXa p.1 x (fieldOf tag = some n) we) :=
  PE.imp (pe_xq k.hz k.hf hp he hb) fun σ H Q ⟨Hf, ρ, M, Φ, W, e, h, kn⟩ => by
    refine ⟨Hf, ρ, M, _, W, e, h, fun z M1 v Hf1 H1 ⟨h1, hok, h2⟩ W1 s1 i1 => ?_⟩
    obtain ⟨v0, q1, q2⟩ := k.val
    subst h1
    refine ⟨isD_ref.mp i1, C, dd, _, v0, rfl, k.rd, k.fld n hok, rfl, W1.fro _ _ (W1.st.ex _ _ q1), ?_, kn _ _ _ _ _ h2 W1 s1 (IsD.mono (W1.st.ex) _ _ q2)⟩
    unfold xfs; rw [hok]; simp [List.lookup]
end
theorem e_xa {a : Addr} {y : VL.D} {ok : Prop} {we : WE} {ρ : Sg} {M : Mem} {Φ : KD} : wXa a y ok we ρ M Φ = we ρ M (kXa a y ok Φ) := rfl
theorem e_xak {a : Addr} {y z : VL.D} {ok : Prop} {M : Mem} {Φ : KD} : kXa a y ok Φ z M = (z = .ref a ∧ ok ∧ Φ y M) := rfl
end XL
namespace XL
open PySem PySem.Spec PyProof.Rows L2 LamX VL
abbrev NO : List Str := ["_law_ask", "_law_answer", "_law_tag", "_law_field_here", "_law_e"]
def spF (K : PySem.W.Frag) (a : Addr) (cls : Value) (d : Option Addr) : Sp := fun vs H Q _ => vs = [V.ref a] ∧ ∃ (Hf : Hp) (M : Mem) (C dd : Addr) (tag : Str) (x : VL.D) (v : V), cls = .ref C ∧ d = some dd ∧ XfC K C ∧ PySem.W.findIn K (.ref C) "tag" = some none ∧ (∀ f, fieldOf tag = some f → PySem.W.findIn K (.ref C) f = some none) ∧
  Hf dd = some (.xd (xfs tag v)) ∧ VL.IsD K Hf x v ∧ (fieldOf tag).isSome = true ∧ Wr K Hf M H ∧ Knr K Hf M H (fun y M' => y = x ∧ M' = M) Q
def tFld (K : PySem.W.Frag) (a : Addr) (cls : Value) (d : Option Addr) : TE := fun σ H Q => (tCons (tVar 4) tNil) σ H fun vs H1 => spF K a cls d vs H1 Q (fun _ _ _ => False)
theorem hu_ofH {A : Around} {k : Nat} (hr : L2H.RoomH k A) : A.units + 1 < cLine := by have := hr.un; omega
theorem hu64H {A : Around} {k : Nat} (hr : L2H.RoomH k A) : A.units + 64 < cLine := by have := hr.un; omega
structure OutFacts (P : Program) (w : World) (K : PySem.W.Frag) (mg : Str → Option Value) (base : Heap) (tl : List Str) where
  (C1 C2 C3 gO gF : Addr) (fdO fdF : FuncData) (stO stF : Stmt)
  FO : Fun K "_law_outcome" "_law_outcome" stO gO fdO
  SO : FnScope NO ["_law_ask"] (defScope stO)
  bO : L2.Binds K fdO ["_law_ask"] []
  mO : mg "_law_outcome" = some (.ref gO)
  FF : Fun K "_law_field" "_law_field" stF gF fdF
  SF : FnScope ["_law_e"] ["_law_e"] (defScope stF)
  bF : L2.Binds K fdF ["_law_e"] []
  mF : mg "_law_field" = some (.ref gF)
  glF : (defScope stO).names.lookup ("_law_field" : Str) = some NameKind.globalImplicit
  viE : Vis (defScope stO) "_law_e"
  shape : ∀ (cdv : Value) (A : Around) (outer : List Env) (s : Shared) (H : Hp) (te : WX → TE) (tF : Addr → Value → Option Addr → TE),
    (∀ (W : WX) (pn : List (Addr × Obj)) (xe : Value → Shared → Prop) (p1 p2 : Pos), Takesk ((cxOf CX0 P w K mg base NO "_law_outcome" (defScope stO) gO cdv A outer s H (fun _ _ _ => False)).tr pn xe) W → PE ((cxOf CX0 P w K mg base NO "_law_outcome" (defScope stO) gO cdv A outer s H (fun _ _ _ => False)).tr pn xe) (.Call (.Name "_law_ask" p1) [] [] p2) (te W)) →
    (∀ (a : Addr) (oe : Obj) (cls : Value) (d : Option Addr) (pn : List (Addr × Obj)) (p1 p2 p3 : Pos), Zc cls d oe → (∃ vs, oe.data = .fields vs) → PE ((cxOf CX0 P w K mg base NO "_law_outcome" (defScope stO) gO cdv A outer s H (fun _ _ _ => False)).nox.suite a ((a, oe) :: pn)) (.Call (.Name "_law_field" p1) [.Name "_law_e" p2] [] p3) (tF a cls d)) →
    PSs (cxOf CX0 P w K mg base NO "_law_outcome" (defScope stO) gO cdv A outer s H (fun _ _ _ => False)).nox (defBody stO) (tOut K C1 C2 C3 te tF)
  fld : ∀ (cdv : Value) (A : Around) (outer : List Env) (s : Shared) (H : Hp) (p : Addr × Obj) (C dd : Addr) (tag : Str) (x : VL.D) (S₁ : W0), L2H.RoomH 0 (A.deeper (envOfC "_law_field" (defScope stF) s.heap.objs.size gF cdv)) → XFld K S₁ p C dd tag x → ∃ w', VSs (L2H.cxH CX0 P w K mg base ["_law_e"] "_law_field" (defScope stF) gF cdv A outer s H (fun _ _ _ => False) p) S₁ (defBody stF) w' ∧
    ∀ (Φ : KD) M, (fieldOf tag).isSome = true → Φ x M → w' (endsD Φ) [some (.ref p.1)] M
  kn : ∀ tag ∈ tl, ∀ C, mg tag = some (.ref C) → (∃ fI, XKnown K tag C fI) ∧ XMatch K tag C C1 C2 C3
def kOutN (Φ : KD) : KD := fun d M => Φ (.tup [d, .str "", .non]) M
def kOutX (tl : List Str) (Φ : KD) : XC := fun tag x M => tag ∈ tl ∧ Φ (.tup [.non, .str tag, if (fieldOf tag).isSome then x else .non]) M
def wOut (P : Addr) (q : Str) (tl : List Str) (wb : XC → WE) : WE := fun ρ M Φ => M P = some (.tab q) ∧ wb (kOutX tl Φ) ρ M (kOutN Φ)
theorem made_wd {K : PySem.W.Frag} {S₀ : W0} {Hf : Hp} {M : Mem} {H H1 : Hp} {P c' : Addr} {ps : Array Value} {q : Str} (W : Wd K S₀ Hf M H) (hM : M P = some (.tab q)) (hP : H P = some (.tbl ps)) (ha : ∀ (pos : Pos) (cv : Value), codeAmong pos ps.toList = some cv → ∃ c, cv = .ref c ∧ Hf c = some (CodeO c q)) (m : Made H H1 P ps q c') :
    ∃ Hf1, Wd K S₀ Hf1 M H1 ∧ Stp Hf M H Hf1 M H1 ∧ Hf1 c' = some (CodeO c' q) := by
  obtain ⟨hc', ⟨rfl, pos0, hpos⟩ | ⟨ps', hn, rfl, ht, hcs⟩⟩ := m
  · obtain ⟨c, e1, e2⟩ := ha pos0 _ hpos; cases e1; exact ⟨Hf, W, Stp.refl, e2⟩
  · have hfc := W.fresh_f hn
    have hmc := W.fresh_m hn
    have hfP : Hf P = none := (W.mem P _ hM).1
    have nPc : P ≠ c' := fun z => by subst z; rw [hmc] at hM; cases hM
    have e := Ex.new (o := CodeO c' q) hfc
    have s1 : Stp Hf M H (upd Hf c' (CodeO c' q)) M (upd (upd H P (.tbl ps')) c' (CodeO c' q)) := ⟨e, fun a o q1 q2 q3 => by
      have n1 : a ≠ c' := fun z => by subst z; rw [hn] at q1; cases q1
      have n2 : a ≠ P := fun z => by subst z; rw [hM] at q3; cases q3
      exact ⟨by rw [upd_ne n1, upd_ne n2]; exact q1, by rw [upd_ne n1]; exact q2, q3⟩⟩
    refine ⟨upd Hf c' (CodeO c' q), ⟨⟨fun a o z => ?_, fun a mo z => ?_, fun a ns z => ?_⟩, W.st.trans s1⟩, s1, upd_same⟩
    · by_cases n : a = c'
      · subst n; rw [upd_same] at z ⊢; exact z
      · rw [upd_ne n] at z ⊢
        have n2 : a ≠ P := fun y => by subst y; rw [hfP] at z; cases z
        rw [upd_ne n2]; exact W.fro a o z
    · have n : a ≠ c' := fun y => by subst y; rw [hmc] at z; cases z
      obtain ⟨q1, o, q2, q3⟩ := W.mem a mo z
      by_cases n2 : a = P
      · subst n2
        rw [hM] at z; cases z
        refine ⟨by rw [upd_ne n]; exact q1, .tbl ps', by rw [upd_ne n, upd_same], ps', rfl, ht, fun pos cv hcv => ?_⟩
        rcases hcs pos cv hcv with h | h
        · obtain ⟨c, e1, e2⟩ := ha pos cv h
          exact ⟨c, e1, e c _ e2⟩
        · exact ⟨c', h, upd_same⟩
      · exact ⟨by rw [upd_ne n]; exact q1, o, by rw [upd_ne n, upd_ne n2]; exact q2, q3.mono e⟩
    · by_cases n : a = c'
      · subst n; rw [upd_same] at z ⊢; exact z
      · have n2 : a ≠ P := fun y => by subst y; rw [upd_ne n, upd_same] at z; cases z
        rw [upd_ne n, upd_ne n2] at z
        rw [upd_ne n]; exact W.tps a ns z
theorem wd_extra {K : PySem.W.Frag} {S₀ : W0} {Hf : Hp} {M : Mem} {H : Hp} {p : Addr} {o : HO} (W : Wd K S₀ Hf M H) (h : H p = none) (nt : ∀ ns : List Int, o ≠ .tup (ns.map V.int)) : Wd K S₀ Hf M (upd H p o) ∧ Stp Hf M H Hf M (upd H p o) := by
  have s1 : Stp Hf M H Hf M (upd H p o) := ⟨Ex.refl _, fun a u q1 q2 q3 => by
    have n : a ≠ p := fun z => by subst z; rw [h] at q1; cases q1
    exact ⟨by rw [upd_ne n]; exact q1, q2, q3⟩⟩
  refine ⟨⟨⟨fun a u z => ?_, fun a m z => ?_, fun a ns z => ?_⟩, W.st.trans s1⟩, s1⟩
  · have n : a ≠ p := fun y => by subst y; rw [W.fresh_f h] at z; cases z
    rw [upd_ne n]; exact W.fro a u z
  · have n : a ≠ p := fun y => by subst y; rw [W.fresh_m h] at z; cases z
    obtain ⟨q1, u, q2, q3⟩ := W.mem a m z
    exact ⟨q1, u, by rw [upd_ne n]; exact q2, q3⟩
  · have n : a ≠ p := fun y => by subst y; rw [upd_same] at z; exact nt ns (Option.some.inj z)
    rw [upd_ne n] at z; exact W.tps a ns z
theorem no_mark {ns : List Int} : HO.tup [.non, .str "", .non] ≠ .tup (ns.map V.int) := fun e => by
  cases ns with
  | nil => cases e
  | cons x r => cases e
theorem tfld_mono {K : PySem.W.Frag} (a : Addr) (cls : Value) (d : Option Addr) (σ : L2.St) (H : Hp) (Q Q' : VK) (h : ∀ v H, Q v H → Q' v H) (t : tFld K a cls d σ H Q) : tFld K a cls d σ H Q' := by
  obtain ⟨v, hv, ev, Hf, M, C, dd, tag, x, u, e1, e2, e3, e4, e5, e6, e7, e8, e9, e10⟩ := t
  exact ⟨v, hv, ev, Hf, M, C, dd, tag, x, u, e1, e2, e3, e4, e5, e6, e7, e8, e9, fun y M' w Hf' H' p W s i => h _ _ (e10 y M' w Hf' H' p W s i)⟩
theorem un_trans {fs1 fs2 : List Addr} {H H2 H3 : Hp} {h h2 h3 : Heap} {L : Addr} (u1 : Un fs1 [] H H2 h h2) (u2 : Un fs2 [] H2 H3 h2 h3) (e : fs2 = L :: fs1) (hL : h.get? L = none) : Un fs1 [] H H3 h h3 := by
  subst e
  have n0 : ∀ b : Addr, b ∉ ([] : List Addr) := fun b z => nomatch z
  refine ⟨fun b o q n hb hx => ?_, fun b o q n hb hx => ?_, fun b o q n hx => ?_, fun b o q hx => ?_, fun b xs q => u2.tups b xs (u1.tups b xs q), fun b o xs q => u2.frzs b o xs (u1.frzs b o xs q), fun b ps q => ?_⟩
  · have hbL : b ≠ L := fun z => by subst z; rw [hL] at q; cases q
    exact u2.keep b o (u1.keep b o q n hb hx) (u1.free b o q n hx) (fun z => by rcases List.mem_cons.mp z with z | z; exact hbL z; exact hb z) hx
  · obtain ⟨sl, e1⟩ := u1.slot b o q n hb hx
    obtain ⟨sl2, e2⟩ := u2.slot b _ e1 (u1.free b o q n hx) (List.mem_cons_of_mem _ hb) hx
    exact ⟨sl2, e2⟩
  · obtain ⟨o', e1⟩ := u1.there b o q hx
    exact u2.free b o' e1 (u1.free b o q n hx) hx
  · obtain ⟨o', e1⟩ := u1.there b o q hx
    exact u2.there b o' e1 hx
  · obtain ⟨m1, e1⟩ := u1.tbls b ps q
    obtain ⟨m2, e2⟩ := u2.tbls b _ e1
    exact ⟨m1 ++ m2, by rw [e2, Array.append_assoc]⟩
section
variable {X : Cx} {S₀ : W0} {tl : List Str} {c P : Addr} {params : Arguments} {body : Expr} {scope : Scope} {lpos p pos : Pos} {wb : XC → WE} {k : Nat}
theorem out_call (O : OutFacts X.prog X.w X.K X.mg X.base tl) {pins : List (Addr × Obj)} {σ : L2.St} {H1 HY Hf1 : Hp} {s' sY : Shared} {f c' : Addr} {pm' ctv : Value} {ρ : Sg} {M : Mem} {Φ : KD} {Q : VK} {AY : Around} {oY : List Env} (I1 : Inv X pins σ H1 s') (L : LamS X.env.scope scope)
    (hf : s'.heap.get? f = some (PySem.W.kla_obj "<lambda>" (lname X) params body scope (cloFrom X.env.cells scope.names []) pm' c' ctv)) (hfn : H1 f = none) (hfr : f ∉ frs X.stack)
    (hbind : ∀ (q : Str) (cl : List (Str × Addr)) (pm cv ctv : Value), bindArgs (PySem.W.kla_fn "<lambda>" q params body scope cl pm cv ctv) ⟨[], []⟩ = pure [])
    (hB : ∀ (A : Around) (outer : List Env) (s : Shared) (H : Hp) (E : XK) (f c' : Addr), Room k (A.deeper (lamEnv X scope s.heap.objs.size f c')) → ∀ (S₂ : W0) (Ψ : XC), KnX X.K X.mg S₂ Ψ E → VE (lamN X A outer s H E scope f c') S₂ body (wb Ψ))
    (e0 : Env0 X.prog X.w X.K X.mg X.base AY oY sY HY) (hun : ∀ HZ h, Un (frs oY) [] HY HZ sY.heap h → Un (frs X.stack) [] H1 HZ s'.heap h) (hr : Room (k + 2) AY)
    (W1 : Wd X.K S₀ Hf1 M HY) (hc : Hf1 c' = some (CodeO c' (lname X))) (e : EnvOk X.K Hf1 σ ρ) (hb : wb (kOutX tl Φ) ρ M (kOutN Φ)) (kn : Knt X.K S₀ Hf1 M HY Φ Q) :
    codeAny (model X.prog X.w) AY (.call (.ref O.gO) ⟨[.ref f], []⟩) (CR CX0 oY X.prog X.w HY sY Q (fun _ _ _ => False)) sY := by
  obtain ⟨oc, od, kV, doc, pm, an, cdv, ct, osl, efd, lk, hcd⟩ := O.FO.ex
  have hbo := O.bO
  rw [efd] at lk hbo
  have hin : X.K.In sY.heap := e0.mod.kin.keeps fun b o z => (e0.bs b o z).1
  let tb : XK → Hp → VK → Prop := fun E HZ Q => ∃ S₂ Ψ, KnX X.K X.mg S₂ Ψ E ∧ liftE X.K S₂ (wb Ψ) σ HZ Q
  have mono : ∀ (E E' : XK) (H : Hp) (Q Q' : VK), (∀ c d H, E c d H → E' c d H) → (∀ v H, Q v H → Q' v H) → tb E H Q → tb E' H Q' := fun E E' H Q Q' i1 i2 ⟨S₂, Ψ, kx, Hf, ρ, M, Φ, W, e, h, k⟩ =>
    ⟨S₂, Ψ, fun tag x C M' v d Hf' H' hm p W' hd i => i1 _ _ _ (kx tag x C M' v d Hf' H' hm p W' hd i), Hf, ρ, M, Φ, W, e, h, fun d M' v Hf' H' p W' s' i' => i2 _ _ (k d M' v Hf' H' p W' s' i')⟩
  have hvis : Vis (defScope O.stO) "_law_ask" := by
    rcases O.SO.par "_law_ask" (List.mem_cons_self ..) with h | h
    · exact .inl h
    · exact .inr (.inl h)
  refine run_ofS (CX := CX0) (N := NO) (ps := ["_law_ask"]) (us := [.ref f]) (vs := [.ref f]) lk hcd O.SO hr e0 (by have := hbo sY [.ref f] hin rfl; simpa using this) (.cons rfl .nil) rfl fun hr' => ?_
  have hsh := O.shape cdv AY oY sY HY (fun W σZ HZ Q => σZ[0]? = some (some (.ref f)) ∧ HZ c' = some (CodeO c' (lname X)) ∧ tb (fun cls d H' => W cls d σZ H') HZ Q) (tFld X.K)
    (fun W pn xe p1 p2 tk => pe_actN (i := 0) (tb := fun E σ H Q => ∃ S₂ Ψ, KnX X.K X.mg S₂ Ψ E ∧ liftE X.K S₂ (wb Ψ) σ H Q) I1 L hf hfn hfr (hbind _ _ _ _ _) (fun _ _ _ _ IZ => hun _ _ IZ.base) tk hr' (fun A outer s H E hr2 => ⟨fun pins s2 σ2 H2 Q2 I2 ⟨S₂, Ψ, kx, hl⟩ => (hB A outer s H E f c' hr2 S₂ Ψ kx).run pins s2 σ2 H2 Q2 I2 hl⟩) rfl hvis)
    (fun a oe cls d pn p1 p2 p3 hz hf => ?_)
  · refine ⟨_, hsh.nox, out_runs (tb := tb) (fun W σZ HZ Q h1 h2 h3 => ⟨h1, h2, h3⟩) (fun a cls d σ H Q Q' h t => tfld_mono a cls d σ H Q Q' h t) mono (W1.fro _ _ hc) fun p0 hp0 => ?_⟩
    obtain ⟨W2, s2⟩ := wd_extra (o := .tup [.non, .str "", .non]) W1 hp0 fun _ => no_mark
    refine ⟨⟨Hf1, M, upd HY p0 (.tup [.non, .str "", .non])⟩, kOutX tl Φ, fun tag x C M' v d Hf' H' hm hp W' hd i => ?_, Hf1, ρ, M, kOutN Φ, W2.toWr.begin, e, hb, fun d M' v Hf' H' hp W' s' i' p' hp' => ?_⟩
    · obtain ⟨hmem, hp⟩ := hp
      obtain ⟨⟨fI, kw⟩, xm⟩ := O.kn tag hmem C hm
      have W3 : Wd X.K S₀ Hf' M' H' := ⟨W'.toWr, W2.st.trans W'.st⟩
      have sw : Stp Hf1 M HY Hf' M' H' := s2.trans W'.st
      refine ⟨C, d, tag, v, rfl, rfl, W'.fro _ _ hd, xm, fun h0 p' hp' => ?_, fun hs a σZ hσ hna => ?_⟩
      · rw [h0] at hp
        obtain ⟨w, st, id⟩ := W3.newTup hp' (isDs_cons (isD_non.mpr rfl) (isDs_cons (isD_str.mpr rfl) (isDs_cons (isD_non.mpr rfl) isDs_nil)))
        exact kn _ _ _ _ _ hp w (sw.trans st) id
      · rw [if_pos hs] at hp
        refine ⟨_, hσ, rfl, Hf', M', C, d, tag, x, v, rfl, rfl, xm.rd, xm.tg, kw.fld, hd, i, hs, W'.toWr, fun y M'' u Hf'' H'' ⟨ey, eM⟩ W4 s4 i4 p' hp' => ?_⟩
        subst ey eM
        have W5 : Wd X.K S₀ Hf'' M'' H'' := ⟨W4, W3.st.trans s4⟩
        obtain ⟨w, st, id⟩ := W5.newTup hp' (isDs_cons (isD_non.mpr rfl) (isDs_cons (isD_str.mpr rfl) (isDs_cons i4 isDs_nil)))
        exact kn _ _ _ _ _ hp w ((sw.trans s4).trans st) id
    · have W3 : Wd X.K S₀ Hf' M' H' := ⟨W'.toWr, W2.st.trans W'.st⟩
      obtain ⟨w, st, id⟩ := W3.newTup hp' (isDs_cons i' (isDs_cons (isD_str.mpr rfl) (isDs_cons (isD_non.mpr rfl) isDs_nil)))
      exact kn _ _ _ _ _ hp w ((s2.trans W'.st).trans st) id
  · refine pe_callHot (p := (a, oe)) (sp := spF X.K a cls d) (ta := tCons (tVar 4) tNil) (k := 0) O.FF O.SF (fun vs H Q E h => by obtain ⟨rfl, _⟩ := h; rfl) O.bF (List.mem_cons_self ..) (have r1 : Room 1 (AY.deeper (envOfC "_law_outcome" (defScope O.stO) sY.heap.objs.size O.gO cdv)) := hr'.mono (by omega); ⟨r1.dp, r1.un⟩) O.glF O.mF (pa_cons (pe_var (i := 4) rfl O.viE) pa_nil) fun cdv2 A2 outer2 s2 H2 vs Q2 hr2 hsp => ?_
    obtain ⟨rfl, Hf2, M2, C, dd, tag, x, v, rfl, rfl, rd, tg, fld, hd, i, hs, W2, kn2⟩ := hsp
    obtain ⟨w', hv, hw⟩ := O.fld cdv2 A2 outer2 s2 H2 (a, oe) C dd tag x ⟨Hf2, M2, H2⟩ hr2 ⟨hz, hf, rd, tg, fld, v, hd, i⟩
    have kn3 := kn2.of
    refine ⟨_, hv, Hf2, [some (.ref a)], M2, endsD (fun y M' => y = x ∧ M' = M2), W2.begin, ?_, hw _ _ hs ⟨rfl, rfl⟩, ⟨fun ρ' M' σ' Hf' H' p W' s' e' => kn3 _ _ _ _ _ p W' s' (isD_non.mpr rfl), kn3, (fun ρ' M' σ' Hf' H' p W' s' e' => (p : False).elim), (fun ρ' M' σ' Hf' H' p W' s' e' => (p : False).elim)⟩⟩
    exact env_start (K := X.K) (Hf := Hf2) 0 (isDs_cons (isD_ref.mpr rfl) isDs_nil)
theorem ve_out (O : OutFacts X.prog X.w X.K X.mg X.base tl) (hg : Gl X "_law_outcome") (TB : TabB X.base X.mg c P) (hcode : X.env.code = .ref c) (hr : Room (k + 2) X.A) (L : LamS X.env.scope scope) (hdef : defaultsOf params X.env = ([], []))
    (hbind : ∀ (q : Str) (cl : List (Str × Addr)) (pm cv ctv : Value), bindArgs (PySem.W.kla_fn "<lambda>" q params body scope cl pm cv ctv) ⟨[], []⟩ = pure [])
    (hB : ∀ (A : Around) (outer : List Env) (s : Shared) (H : Hp) (E : XK) (f c' : Addr), Room k (A.deeper (lamEnv X scope s.heap.objs.size f c')) → ∀ (S₂ : W0) (Ψ : XC), KnX X.K X.mg S₂ Ψ E → VE (lamN X A outer s H E scope f c') S₂ body (wb Ψ)) :
    VE X S₀ (.Call (.Name "_law_outcome" p) [.Lambda params body scope lpos] [] pos) (wOut P (lname X) tl wb) := by
  refine ⟨fun pins s σ H Q I ⟨Hf, ρ, M, Φ, W, e, ⟨hM, hb⟩, kn⟩ => wpAny_Call_Name_kw (ld_glob I hg O.mO (PySem.W.callWith_K (h₀ := X.base) I.ok.mod.kin O.FO.kp ?_ (by rfl) (by rfl)))⟩
  show wpAny _ _ (spliced ((false, eval (.Lambda params body scope lpos) X.env) :: backTo pos (starEach [] X.env))) _ _ s
  obtain ⟨_, o, hP, ps, rfl, ht, ha⟩ := W.mem P _ hM
  refine Calls.spliced_cons (lam_mk I TB hcode hP ht (fun pos cv h => by obtain ⟨c, e1, e2⟩ := ha pos cv h; exact ⟨c, e1, W.fro _ _ e2⟩) hdef (L.has I.ok) fun f c' pm' ctv H1 s' I1 made hf hfn hfr => Calls.spliced_nil ⟨I1.kIn, ?_⟩)
  obtain ⟨Hf1, W1, s1, hc⟩ := made_wd W hM hP ha made
  refine wpAny_call (codeAny_mono (out_call O I1 L hf hfn hfr hbind hB I1.env0 (fun _ _ u => u) hr W1 hc (e.mono s1.ex) hb (kn.at s1)) fun r s2 hq => ?_)
  exact match r, hq with
    | .ok (.ret _), q => I1.after q
    | .ok .brk, q | .ok .cont, q | .ok .next, q | .error _, q => False.elim q
end
structure ErrFacts (P : Program) (w : World) (K : PySem.W.Frag) (mg : Str → Option Value) (base : Heap) (gO : Addr) where
  (gE : Addr) (fdE : FuncData) (stE : Stmt)
  FE : Fun K "_law_error" "_law_error" stE gE fdE
  SE : FnScope ["_law_ask"] ["_law_ask"] (defScope stE)
  bE : L2.Binds K fdE ["_law_ask"] []
  mE : mg "_law_error" = some (.ref gE)
  shape : ∀ (cdv : Value) (A : Around) (outer : List Env) (s : Shared) (H : Hp) (S₁ : W0) (wO : WE),
    (∀ p1 p2 p3 : Pos, VE (cxOf CX0 P w K mg base ["_law_ask"] "_law_error" (defScope stE) gE cdv A outer s H (fun _ _ _ => False)).nox S₁ (.Call (.Name "_law_outcome" p1) [.Name "_law_ask" p2] [] p3) wO) →
    VSs (cxOf CX0 P w K mg base ["_law_ask"] "_law_error" (defScope stE) gE cdv A outer s H (fun _ _ _ => False)).nox S₁ (defBody stE) (sRet (wSl wO (wPart (wC (.int 1))) wNoPart))
  glO : (defScope stE).names.lookup ("_law_outcome" : Str) = some NameKind.globalImplicit
def kErrN (Φ : KD) : KD := fun _ M => Φ (.tup [.str "", .non]) M
def kErrX (tl : List Str) (Φ : KD) : XC := fun tag x M => tag ∈ tl ∧ Φ (.tup [.str tag, if (fieldOf tag).isSome then x else .non]) M
def wErr (P : Addr) (q : Str) (tl : List Str) (wb : XC → WE) : WE := fun ρ M Φ => M P = some (.tab q) ∧ wb (kErrX tl Φ) ρ M (kErrN Φ)
def kAsk (f : Addr) (tl : List Str) (wb : XC → WE) (ρm : Sg) : WE := fun ρ M Φ => at_ ρ 0 = some (.ref f) ∧ wb (kOutX tl Φ) ρm M (kOutN Φ)
section
variable {X : Cx} {S₀ : W0} {tl : List Str} {c P : Addr} {params : Arguments} {body : Expr} {scope : Scope} {lpos p pos : Pos} {wb : XC → WE} {k : Nat}
theorem err_call (O : OutFacts X.prog X.w X.K X.mg X.base tl) (Er : ErrFacts X.prog X.w X.K X.mg X.base O.gO) {pins : List (Addr × Obj)} {σ : L2.St} {H1 HY Hf1 : Hp} {s' sY : Shared} {f c' : Addr} {pm' ctv : Value} {ρ : Sg} {M : Mem} {Φ : KD} {Q : VK} {AY : Around} {oY : List Env} (I1 : Inv X pins σ H1 s') (L : LamS X.env.scope scope)
    (hf : s'.heap.get? f = some (PySem.W.kla_obj "<lambda>" (lname X) params body scope (cloFrom X.env.cells scope.names []) pm' c' ctv)) (hfn : H1 f = none) (hfr : f ∉ frs X.stack)
    (hbind : ∀ (q : Str) (cl : List (Str × Addr)) (pm cv ctv : Value), bindArgs (PySem.W.kla_fn "<lambda>" q params body scope cl pm cv ctv) ⟨[], []⟩ = pure [])
    (hB : ∀ (A : Around) (outer : List Env) (s : Shared) (H : Hp) (E : XK) (f c' : Addr), Room k (A.deeper (lamEnv X scope s.heap.objs.size f c')) → ∀ (S₂ : W0) (Ψ : XC), KnX X.K X.mg S₂ Ψ E → VE (lamN X A outer s H E scope f c') S₂ body (wb Ψ))
    (e0 : Env0 X.prog X.w X.K X.mg X.base AY oY sY HY) (hun : ∀ HZ h, Un (frs oY) [] HY HZ sY.heap h → Un (frs X.stack) [] H1 HZ s'.heap h) (hr : Room (k + 3) AY)
    (W1 : Wd X.K S₀ Hf1 M HY) (hc : Hf1 c' = some (CodeO c' (lname X))) (e : EnvOk X.K Hf1 σ ρ) (hb : wb (kErrX tl Φ) ρ M (kErrN Φ)) (kn : Knt X.K S₀ Hf1 M HY Φ Q) :
    codeAny (model X.prog X.w) AY (.call (.ref Er.gE) ⟨[.ref f], []⟩) (CR CX0 oY X.prog X.w HY sY Q (fun _ _ _ => False)) sY := by
  obtain ⟨oc, od, kV, doc, pm, an, cdv, ct, osl, efd, lk, hcd⟩ := Er.FE.ex
  have hbe := Er.bE
  rw [efd] at lk hbe
  have hin : X.K.In sY.heap := e0.mod.kin.keeps fun b o z => (e0.bs b o z).1
  have hvis : Vis (defScope Er.stE) "_law_ask" := by
    rcases Er.SE.par "_law_ask" (List.mem_cons_self ..) with h | h
    · exact .inl h
    · exact .inr (.inl h)
  refine run_ofS (CX := CX0) (N := ["_law_ask"]) (ps := ["_law_ask"]) (us := [.ref f]) (vs := [.ref f]) lk hcd Er.SE hr e0 (by have := hbe sY [.ref f] hin rfl; simpa using this) (.cons rfl .nil) rfl fun hr' => ?_
  have hs := Er.shape cdv AY oY sY HY ⟨Hf1, M, HY⟩ (kAsk f tl wb ρ) fun p1 p2 p3 => ⟨fun pins2 s2 σ2 H2 Q2 I2 ⟨Hf2, ρ2, M2, Φ2, W2, e2, ⟨h0, hb2⟩, kn2⟩ => ?_⟩
  · refine ⟨_, PSs.nox hs, Hf1, [some (.ref f)], M, endsD Φ, W1.toWr.begin, env_start (K := X.K) (Hf := Hf1) 0 (isDs_cons (isD_ref.mpr rfl) isDs_nil), ?_, ?_⟩
    · refine ⟨rfl, ?_⟩
      have e1 : kOutN (kSl1 (wPart (wC (.int 1))) wNoPart [some (.ref f)] Φ) = kErrN Φ := by funext d M'; rfl
      have e2 : kOutX tl (kSl1 (wPart (wC (.int 1))) wNoPart [some (.ref f)] Φ) = kErrX tl Φ := by funext tag x M'; rfl
      show wb (kOutX tl (kSl1 (wPart (wC (.int 1))) wNoPart [some (.ref f)] Φ)) ρ M (kOutN (kSl1 (wPart (wC (.int 1))) wNoPart [some (.ref f)] Φ))
      rw [e1, e2]
      exact hb
    · have kn3 := (kn.raw W1).of
      exact ⟨fun ρ' M' σ' Hf' H' p W' s' e' => kn3 _ _ _ _ _ p W' s' (isD_non.mpr rfl), kn3, (fun ρ' M' σ' Hf' H' p W' s' e' => (p : False).elim), (fun ρ' M' σ' Hf' H' p W' s' e' => (p : False).elim)⟩
  · obtain ⟨v0, hσ, iv⟩ := e2.at h0
    obtain rfl := isD_ref.mp iv
    refine wpAny_Call_Name_kw (ld_glob I2 Er.glO O.mO (PySem.W.callWith_K (h₀ := X.base) I2.ok.mod.kin O.FO.kp (thn ((pa_cons (pe_var (i := 0) (pos := p2) rfl hvis) pa_nil).run p3 pins2 s2 σ2 H2 (fun vs H3 => vs = [V.ref f] ∧ H3 = H2) I2 ⟨_, hσ, rfl, rfl⟩) fun us s3 ⟨vs, H3, I3, r3, ev, eH⟩ => ⟨I3.kIn, ?_⟩) (by rfl) (by rfl)))
    subst ev eH
    obtain rfl : us = [Value.ref f] := by
      cases r3 with
      | cons a b => cases b; cases a; rfl
    have hL : sY.heap.get? sY.heap.objs.size = none := by
      cases z : sY.heap.get? sY.heap.objs.size with
      | none => rfl
      | some o => exact absurd (Heap.lt_size z) (Nat.lt_irrefl _)
    refine wpAny_call (codeAny_mono (out_call O I1 L hf hfn hfr hbind hB I3.env0 (fun HZ h u => hun HZ h (un_trans I3.base u rfl hL)) hr' W2 (W2.st.ex _ _ hc) (e.mono W2.st.ex) hb2 kn2) fun r s4 hq => ?_)
    exact match r, hq with
      | .ok (.ret _), q => I3.after q
      | .ok .brk, q | .ok .cont, q | .ok .next, q | .error _, q => False.elim q
theorem ve_err (O : OutFacts X.prog X.w X.K X.mg X.base tl) (Er : ErrFacts X.prog X.w X.K X.mg X.base O.gO) (hg : Gl X "_law_error") (TB : TabB X.base X.mg c P) (hcode : X.env.code = .ref c) (hr : Room (k + 3) X.A) (L : LamS X.env.scope scope) (hdef : defaultsOf params X.env = ([], []))
    (hbind : ∀ (q : Str) (cl : List (Str × Addr)) (pm cv ctv : Value), bindArgs (PySem.W.kla_fn "<lambda>" q params body scope cl pm cv ctv) ⟨[], []⟩ = pure [])
    (hB : ∀ (A : Around) (outer : List Env) (s : Shared) (H : Hp) (E : XK) (f c' : Addr), Room k (A.deeper (lamEnv X scope s.heap.objs.size f c')) → ∀ (S₂ : W0) (Ψ : XC), KnX X.K X.mg S₂ Ψ E → VE (lamN X A outer s H E scope f c') S₂ body (wb Ψ)) :
    VE X S₀ (.Call (.Name "_law_error" p) [.Lambda params body scope lpos] [] pos) (wErr P (lname X) tl wb) := by
  refine ⟨fun pins s σ H Q I ⟨Hf, ρ, M, Φ, W, e, ⟨hM, hb⟩, kn⟩ => wpAny_Call_Name_kw (ld_glob I hg Er.mE (PySem.W.callWith_K (h₀ := X.base) I.ok.mod.kin Er.FE.kp ?_ (by rfl) (by rfl)))⟩
  show wpAny _ _ (spliced ((false, eval (.Lambda params body scope lpos) X.env) :: backTo pos (starEach [] X.env))) _ _ s
  obtain ⟨_, o, hP, ps, rfl, ht, ha⟩ := W.mem P _ hM
  refine Calls.spliced_cons (lam_mk I TB hcode hP ht (fun pos cv h => by obtain ⟨c, e1, e2⟩ := ha pos cv h; exact ⟨c, e1, W.fro _ _ e2⟩) hdef (L.has I.ok) fun f c' pm' ctv H1 s' I1 made hf hfn hfr => Calls.spliced_nil ⟨I1.kIn, ?_⟩)
  obtain ⟨Hf1, W1, s1, hc⟩ := made_wd W hM hP ha made
  refine wpAny_call (codeAny_mono (err_call O Er I1 L hf hfn hfr hbind hB I1.env0 (fun _ _ u => u) hr W1 hc (e.mono s1.ex) hb (kn.at s1)) fun r s2 hq => ?_)
  exact match r, hq with
    | .ok (.ret _), q => I1.after q
    | .ok .brk, q | .ok .cont, q | .ok .next, q | .error _, q => False.elim q
end
section
variable {P : Addr} {q : Str} {tl : List Str} {wb : XC → WE} {ρ : Sg} {M : Mem} {Φ : KD} {d : VL.D} {tag : Str} {x : VL.D}
theorem e_out (h : M P = some (.tab q)) : wOut P q tl wb ρ M Φ = wb (kOutX tl Φ) ρ M (kOutN Φ) := by unfold wOut; simp only [h, true_and]
theorem e_err (h : M P = some (.tab q)) : wErr P q tl wb ρ M Φ = wb (kErrX tl Φ) ρ M (kErrN Φ) := by unfold wErr; simp only [h, true_and]
theorem e_outN : kOutN Φ d M = Φ (.tup [d, .str "", .non]) M := rfl
theorem e_errN : kErrN Φ d M = Φ (.tup [.str "", .non]) M := rfl
end
end XL
namespace VL
open PySem PySem.Spec PyProof.Rows L2 XL LamX
structure FunC (K : PySem.W.Frag) (x qual : Str) (st : Stmt) (f : Addr) (fd : FuncData) (c : Addr) : Prop where
  ex : ∃ (oc : Value) (od : Option Addr) (kV doc pm : Value) (an : Option Addr) (ct : Value) (osl : Array (Option Value)),
    fd = PySem.W.fnOf x qual (defArgs st) (defBody st) (defScope st) .none kV doc pm an (.ref c) ct ∧ K.lookup f = some ⟨oc, od, .func fd, osl⟩ ∧ PySem.W.codeIn K (.ref c) qual = true
  kp : PySem.W.keepIn K (.ref f) = true
section
variable {P : Program} {w : World} {K : PySem.W.Frag} {mg : Str → Option Value} {base : Heap}
theorem fnWC {x qual : Str} {st : Stmt} {f c : Addr} {fd : FuncData} {N ps : List Str} {k : Nat} {Wf : W3} (F : FunC K x qual st f fd c) (S : FnScope N ps (defScope st)) (len : ∀ ds M Φ, Wf ds M Φ → ds.length = ps.length)
    (h : ∀ (A : Around) (outer : List Env) (s : Shared) (H : Hp) (E : XK), Room k (A.deeper (envOfC qual (defScope st) s.heap.objs.size f (.ref c))) →
      ∀ S₀ : W0, ∃ w', VSs (cxOf CX0 P w K mg base N qual (defScope st) f (.ref c) A outer s H E).nox S₀ (defBody st) w' ∧ ∀ ds M Φ, Wf ds M Φ → w' (endsD Φ) (startD N.length ds) M) : FnOk P w K mg base CX0 (k + 1) f fd ps (spW K Wf) := by
  obtain ⟨oc, od, kV, doc, pm, an, ct, osl, rfl, lk, hcd⟩ := F.ex
  refine fn_of lk hcd S (fun vs H Q E h => ?_) (fun A outer s H vs Q E hr hsp => ?_)
  · obtain ⟨Hf, M, ds, Φ, _, i, hw, _⟩ := h
    rw [← i.len]
    exact len ds M Φ hw
  · obtain ⟨Hf, M, ds, Φ, W, i, hw, kn⟩ := hsp
    have kn := kn.of
    obtain ⟨w', hv, hw'⟩ := h A outer s H E hr ⟨Hf, M, H⟩
    refine ⟨_, hv.nox, ?_⟩
    refine ⟨Hf, startD N.length ds, M, endsD Φ, W.begin, ?_, hw' ds M Φ hw, ⟨fun ρ' M' σ' Hf' H' p W' s' e' => kn _ _ _ _ _ p W' s' (isD_non.mpr rfl), kn, (fun ρ' M' σ' Hf' H' p W' s' e' => (p : False).elim), (fun ρ' M' σ' Hf' H' p W' s' e' => (p : False).elim)⟩⟩
    have e := env_start (K := K) (Hf := Hf) (N.length - ds.length) i
    unfold startD
    rw [show start N vs = vs.map some ++ List.replicate (N.length - vs.length) none from rfl, ← i.len]
    exact e
end
theorem law_inT0 {K : PySem.W.Frag} {H : Hp} {a PT : Addr} {q : Str} {ns : List Int} {W : W3} {E : XK} (hP : H PT = some (.tbl #[])) (hS : SqL K H a (ns.map V.int)) (h : W [.fz (ns.map D.int)] (fun b => if b = PT then some (.tab q) else none) (fun d _ => d = .bl true)) : spW K W [.ref a] H (fun v _ => v = .bl true) E := by
  have ex : Ex (fun b => if b = PT then none else H b) H := fun b o e => by
    by_cases c : b = PT
    · exact nomatch (if_pos c).symm.trans e
    · exact (if_neg c).symm.trans e
  have hS' : SqL K (fun b => if b = PT then none else H b) a (ns.map V.int) := by
    have rd : ∀ b, H b ≠ some (.tbl #[]) → ∀ u, H b = some u → (if b = PT then none else H b) = some u := fun b hb u e => by
      rw [if_neg fun z => hb (by rw [z]; exact hP)]; exact e
    rcases hS with (h | ⟨o, h⟩) | h
    · exact .inl (.inl (rd a (by rw [h]; exact fun z => nomatch z) _ h))
    · exact .inl (.inr ⟨o, rd a (by rw [h]; exact fun z => nomatch z) _ h⟩)
    · exact .inr h
  refine ⟨fun b => if b = PT then none else H b, _, _, _, ⟨ex, fun b m e => ?_, fun b ns e => (if_neg fun c => by rw [c, hP] at e; cases e).trans e⟩, isDs_cons (isD_fz.mpr ⟨a, _, rfl, hS', IsDs.of_ints ns⟩) isDs_nil, h, fun d M' v Hf' H' p W' s i => by subst p; exact isD_bl.mp i⟩
  by_cases c : b = PT
  · subst c
    have e := (if_pos rfl).symm.trans e
    cases e
    refine ⟨if_pos rfl, _, hP, #[], rfl, trivial, fun pos cv hc => ?_⟩
    cases hc
  · exact nomatch (if_neg c).symm.trans e
section
variable {ρ : Sg} {M : Mem} {Φ : KD} {Ψ : XC} {tag : Str} {x : VL.D}
theorem raise1 (h : (fieldOf tag).isSome = true) (k : Ψ tag x M) : kRaise tag Ψ [x] M := ⟨x, .inl ⟨rfl, h⟩, k⟩
end
end VL
--@LAW k11
local macro_rules | `(tactic| walk_at "vl") => `(tactic| simp only [VL.e_callX, VL.e_callXk, VL.e_callXD, VL.e_callXDk, VL.e_callXK, VL.e_callXK1, VL.e_callXK2, VL.e_raise, XL.e_xa, XL.e_xak, XL.e_outN, XL.e_errN, VL.e_var, VL.e_at0, VL.e_at0n, VL.e_atS, VL.e_c, VL.e_op, VL.e_op1, VL.e_op2, VL.e_I, VL.e_IC, VL.e_addI, VL.e_addT, VL.e_addL, VL.e_mulI, VL.e_isN, VL.e_notN, VL.e_isN_non, VL.e_isN_int, VL.e_isN_bl, VL.e_isN_str, VL.e_isN_tup, VL.e_isN_lst, VL.e_isN_ref, VL.e_test, VL.e_testK, VL.e_and, VL.e_andT, VL.e_andF, VL.e_or, VL.e_orT, VL.e_orF, VL.e_not, VL.e_notK, VL.e_ifE, VL.e_ifET, VL.e_ifEF, VL.e_andV, VL.e_andVT, VL.e_andVF, VL.e_orV, VL.e_orVT, VL.e_orVF, VL.e_notV, VL.e_notVK, VL.e_neg, VL.e_negK, VL.e_nil, VL.e_cons, VL.e_cons1, VL.e_cons2, VL.e_tup, VL.e_tupK, VL.e_lst, VL.e_lstK, VL.e_lstM, VL.e_lstMK, VL.e_cb, VL.e_cbK, VL.e_lenT, VL.e_lenL, VL.e_lenF, VL.e_tupCL, VL.e_tupCT, VL.e_lstCL, VL.e_lstCT, VL.e_min2, VL.e_max2, VL.e_sl, VL.e_sl1, VL.e_sl2, VL.e_sl3T, VL.e_sl3L, VL.e_sl3F, VL.e_noPart, VL.e_part, VL.e_partK, VL.e_revL, VL.e_revLK, VL.e_call, VL.e_callK, VL.e_callD, VL.e_callDK, VL.e_callKw, VL.e_callKw1, VL.e_callKw2, VL.e_bm, VL.e_bm2, VL.e_ixL, VL.e_ixT, VL.e_next, VL.e_seq, VL.e_drop, VL.e_dropK, VL.e_ret, VL.e_retF, VL.e_if, VL.e_ifT, VL.e_ifF, VL.e_asg, VL.e_asgK, VL.e_gname, VL.e_par, VL.e_parK, VL.e_par3, VL.e_par3K, VL.e_gsub, VL.e_gsub1, VL.e_gnil, VL.e_gcons, VL.e_kg1, VL.e_gtup, VL.e_for, VL.e_forK, VL.e_wiSeq, VL.e_seqIL, VL.e_seqIT, VL.e_wiRng1, VL.e_rng1K, VL.e_wiRng2, VL.e_rng2K, VL.e_wiZip, VL.e_zipKL, VL.e_zipKT, VL.e_lc, VL.e_lc0, VL.e_lcF, VL.e_lc1, VL.e_lc2T, VL.e_lc2F, VL.e_lc3, VL.e_yes, VL.e_wipe0, VL.e_wipeS, VL.e_endsNx, VL.e_endsRt, VL.e_eqI, VL.e_neI, VL.e_eqB, VL.e_neB, VL.e_eqTI, VL.e_neTI, VL.e_eqLI, VL.e_neLI, VL.e_eqT0, VL.e_neT0, VL.e_eqL0, VL.e_neL0, VL.e_disp, VL.e_dispK, VL.e_pcons, VL.e_p1, VL.e_p2s, VL.e_p2i, VL.e_p3, VL.e_pnil, VL.e_dict0, VL.e_get, VL.e_get2, VL.e_whT, VL.e_whF, VL.e_break, VL.e_cont, VL.e_retN, VL.e_aug, VL.e_lenR VL.put_same, VL.e_tupCR VL.put_same, VL.e_bm1 VL.put_same, VL.e_append VL.put_same, VL.e_insert VL.put_same, VL.e_ixD VL.put_same, VL.e_ixDi VL.put_same, VL.e_dr0 VL.put_same, VL.e_dr1 VL.put_same, VL.e_dr2 VL.put_same, VL.e_dr3 VL.put_same, VL.e_fz VL.put_same, VL.e_gsub2S VL.put_same, VL.e_gsub2I VL.put_same, VL.e_ds1 VL.put_same, VL.e_ds2 VL.put_same, VL.e_ds3 VL.put_same, VL.e_neR0 VL.put_same, VL.e_eqR0 VL.put_same, VL.e_get1 VL.put_same, VL.e_get3 VL.put_same, VL.e_pop VL.put_same, VL.e_extL VL.put_same, VL.e_addM VL.put_same, VL.e_inI VL.put_same, VL.e_ninI VL.put_same, VL.e_tRoot VL.put_same, VL.e_tLeft VL.put_same, VL.e_tRight VL.put_same, VL.e_tUp VL.put_same, VL.e_tSetRoot VL.put_same, Bool.not_true, Bool.not_false, VL.put_put, List.set_cons_zero, List.set_cons_succ, List.replicate])
local macro_rules | `(tactic| wp_walk using $ts,*) => `(tactic| simp only [VL.e_callX, VL.e_callXk, VL.e_callXD, VL.e_callXDk, VL.e_callXK, VL.e_callXK1, VL.e_callXK2, VL.e_raise, XL.e_xa, XL.e_xak, XL.e_outN, XL.e_errN, VL.e_var, VL.e_at0, VL.e_at0n, VL.e_atS, VL.e_c, VL.e_op, VL.e_op1, VL.e_op2, VL.e_I, VL.e_IC, VL.e_addI, VL.e_addT, VL.e_addL, VL.e_mulI, VL.e_isN, VL.e_notN, VL.e_isN_non, VL.e_isN_int, VL.e_isN_bl, VL.e_isN_str, VL.e_isN_tup, VL.e_isN_lst, VL.e_isN_ref, VL.e_test, VL.e_testK, VL.e_and, VL.e_andT, VL.e_andF, VL.e_or, VL.e_orT, VL.e_orF, VL.e_not, VL.e_notK, VL.e_ifE, VL.e_ifET, VL.e_ifEF, VL.e_andV, VL.e_andVT, VL.e_andVF, VL.e_orV, VL.e_orVT, VL.e_orVF, VL.e_notV, VL.e_notVK, VL.e_neg, VL.e_negK, VL.e_nil, VL.e_cons, VL.e_cons1, VL.e_cons2, VL.e_tup, VL.e_tupK, VL.e_lst, VL.e_lstK, VL.e_lstM, VL.e_lstMK, VL.e_cb, VL.e_cbK, VL.e_lenT, VL.e_lenL, VL.e_lenF, VL.e_tupCL, VL.e_tupCT, VL.e_lstCL, VL.e_lstCT, VL.e_min2, VL.e_max2, VL.e_sl, VL.e_sl1, VL.e_sl2, VL.e_sl3T, VL.e_sl3L, VL.e_sl3F, VL.e_noPart, VL.e_part, VL.e_partK, VL.e_revL, VL.e_revLK, VL.e_call, VL.e_callK, VL.e_callD, VL.e_callDK, VL.e_callKw, VL.e_callKw1, VL.e_callKw2, VL.e_bm, VL.e_bm2, VL.e_ixL, VL.e_ixT, VL.e_next, VL.e_seq, VL.e_drop, VL.e_dropK, VL.e_ret, VL.e_retF, VL.e_if, VL.e_ifT, VL.e_ifF, VL.e_asg, VL.e_asgK, VL.e_gname, VL.e_par, VL.e_parK, VL.e_par3, VL.e_par3K, VL.e_gsub, VL.e_gsub1, VL.e_gnil, VL.e_gcons, VL.e_kg1, VL.e_gtup, VL.e_for, VL.e_forK, VL.e_wiSeq, VL.e_seqIL, VL.e_seqIT, VL.e_wiRng1, VL.e_rng1K, VL.e_wiRng2, VL.e_rng2K, VL.e_wiZip, VL.e_zipKL, VL.e_zipKT, VL.e_lc, VL.e_lc0, VL.e_lcF, VL.e_lc1, VL.e_lc2T, VL.e_lc2F, VL.e_lc3, VL.e_yes, VL.e_wipe0, VL.e_wipeS, VL.e_endsNx, VL.e_endsRt, VL.e_eqI, VL.e_neI, VL.e_eqB, VL.e_neB, VL.e_eqTI, VL.e_neTI, VL.e_eqLI, VL.e_neLI, VL.e_eqT0, VL.e_neT0, VL.e_eqL0, VL.e_neL0, VL.e_disp, VL.e_dispK, VL.e_pcons, VL.e_p1, VL.e_p2s, VL.e_p2i, VL.e_p3, VL.e_pnil, VL.e_dict0, VL.e_get, VL.e_get2, VL.e_whT, VL.e_whF, VL.e_break, VL.e_cont, VL.e_retN, VL.e_aug, VL.e_lenR VL.put_same, VL.e_tupCR VL.put_same, VL.e_bm1 VL.put_same, VL.e_append VL.put_same, VL.e_insert VL.put_same, VL.e_ixD VL.put_same, VL.e_ixDi VL.put_same, VL.e_dr0 VL.put_same, VL.e_dr1 VL.put_same, VL.e_dr2 VL.put_same, VL.e_dr3 VL.put_same, VL.e_fz VL.put_same, VL.e_gsub2S VL.put_same, VL.e_gsub2I VL.put_same, VL.e_ds1 VL.put_same, VL.e_ds2 VL.put_same, VL.e_ds3 VL.put_same, VL.e_neR0 VL.put_same, VL.e_eqR0 VL.put_same, VL.e_get1 VL.put_same, VL.e_get3 VL.put_same, VL.e_pop VL.put_same, VL.e_extL VL.put_same, VL.e_addM VL.put_same, VL.e_inI VL.put_same, VL.e_ninI VL.put_same, VL.e_tRoot VL.put_same, VL.e_tLeft VL.put_same, VL.e_tRight VL.put_same, VL.e_tUp VL.put_same, VL.e_tSetRoot VL.put_same, Bool.not_true, Bool.not_false, VL.put_put, List.set_cons_zero, List.set_cons_succ, List.replicate, $[$ts:term],*])
local macro_rules | `(tactic| k_search $h) => `(tactic| simp only [VL.e_callX, VL.e_callXk, VL.e_callXD, VL.e_callXDk, VL.e_callXK, VL.e_callXK1, VL.e_callXK2, VL.e_raise, XL.e_xa, XL.e_xak, XL.e_outN, XL.e_errN, VL.e_var, VL.e_at0, VL.e_at0n, VL.e_atS, VL.e_c, VL.e_op, VL.e_op1, VL.e_op2, VL.e_I, VL.e_IC, VL.e_addI, VL.e_addT, VL.e_addL, VL.e_mulI, VL.e_isN, VL.e_notN, VL.e_isN_non, VL.e_isN_int, VL.e_isN_bl, VL.e_isN_str, VL.e_isN_tup, VL.e_isN_lst, VL.e_isN_ref, VL.e_test, VL.e_testK, VL.e_and, VL.e_andT, VL.e_andF, VL.e_or, VL.e_orT, VL.e_orF, VL.e_not, VL.e_notK, VL.e_ifE, VL.e_ifET, VL.e_ifEF, VL.e_andV, VL.e_andVT, VL.e_andVF, VL.e_orV, VL.e_orVT, VL.e_orVF, VL.e_notV, VL.e_notVK, VL.e_neg, VL.e_negK, VL.e_nil, VL.e_cons, VL.e_cons1, VL.e_cons2, VL.e_tup, VL.e_tupK, VL.e_lst, VL.e_lstK, VL.e_lstM, VL.e_lstMK, VL.e_cb, VL.e_cbK, VL.e_lenT, VL.e_lenL, VL.e_lenF, VL.e_tupCL, VL.e_tupCT, VL.e_lstCL, VL.e_lstCT, VL.e_min2, VL.e_max2, VL.e_sl, VL.e_sl1, VL.e_sl2, VL.e_sl3T, VL.e_sl3L, VL.e_sl3F, VL.e_noPart, VL.e_part, VL.e_partK, VL.e_revL, VL.e_revLK, VL.e_call, VL.e_callK, VL.e_callD, VL.e_callDK, VL.e_callKw, VL.e_callKw1, VL.e_callKw2, VL.e_bm, VL.e_bm2, VL.e_ixL, VL.e_ixT, VL.e_next, VL.e_seq, VL.e_drop, VL.e_dropK, VL.e_ret, VL.e_retF, VL.e_if, VL.e_ifT, VL.e_ifF, VL.e_asg, VL.e_asgK, VL.e_gname, VL.e_par, VL.e_parK, VL.e_par3, VL.e_par3K, VL.e_gsub, VL.e_gsub1, VL.e_gnil, VL.e_gcons, VL.e_kg1, VL.e_gtup, VL.e_for, VL.e_forK, VL.e_wiSeq, VL.e_seqIL, VL.e_seqIT, VL.e_wiRng1, VL.e_rng1K, VL.e_wiRng2, VL.e_rng2K, VL.e_wiZip, VL.e_zipKL, VL.e_zipKT, VL.e_lc, VL.e_lc0, VL.e_lcF, VL.e_lc1, VL.e_lc2T, VL.e_lc2F, VL.e_lc3, VL.e_yes, VL.e_wipe0, VL.e_wipeS, VL.e_endsNx, VL.e_endsRt, VL.e_eqI, VL.e_neI, VL.e_eqB, VL.e_neB, VL.e_eqTI, VL.e_neTI, VL.e_eqLI, VL.e_neLI, VL.e_eqT0, VL.e_neT0, VL.e_eqL0, VL.e_neL0, VL.e_disp, VL.e_dispK, VL.e_pcons, VL.e_p1, VL.e_p2s, VL.e_p2i, VL.e_p3, VL.e_pnil, VL.e_dict0, VL.e_get, VL.e_get2, VL.e_whT, VL.e_whF, VL.e_break, VL.e_cont, VL.e_retN, VL.e_aug, VL.e_lenR VL.put_same, VL.e_tupCR VL.put_same, VL.e_bm1 VL.put_same, VL.e_append VL.put_same, VL.e_insert VL.put_same, VL.e_ixD VL.put_same, VL.e_ixDi VL.put_same, VL.e_dr0 VL.put_same, VL.e_dr1 VL.put_same, VL.e_dr2 VL.put_same, VL.e_dr3 VL.put_same, VL.e_fz VL.put_same, VL.e_gsub2S VL.put_same, VL.e_gsub2I VL.put_same, VL.e_ds1 VL.put_same, VL.e_ds2 VL.put_same, VL.e_ds3 VL.put_same, VL.e_neR0 VL.put_same, VL.e_eqR0 VL.put_same, VL.e_get1 VL.put_same, VL.e_get3 VL.put_same, VL.e_pop VL.put_same, VL.e_extL VL.put_same, VL.e_addM VL.put_same, VL.e_inI VL.put_same, VL.e_ninI VL.put_same, VL.e_tRoot VL.put_same, VL.e_tLeft VL.put_same, VL.e_tRight VL.put_same, VL.e_tUp VL.put_same, VL.e_tSetRoot VL.put_same, Bool.not_true, Bool.not_false, VL.put_put, List.set_cons_zero, List.set_cons_succ, List.replicate, VL.e_dr0 $h, VL.e_dr1 $h, VL.e_dr2 $h, VL.e_dr3 $h, VL.e_ds1 $h, VL.e_ds2 $h, VL.e_ds3 $h])
namespace VL
open PySem PySem.Spec PyProof.Rows L2 Tm
section
variable {d0 : D} {x : Int} {p : Addr} {De : WN} {M0 : Mem}
end
end VL
--@LAW k10
namespace VL
open PySem PySem.Spec PyProof.Rows L2 Tm
section
variable {ρ : Sg} {M : Mem} {Φ : KD} {wa wb wc : WE} {wr wr' : WR} {x y z : D}
theorem e_chain : wChain wr wr' wa wb wc ρ M Φ = wa ρ M (kCh1 wr wr' wb wc ρ Φ) := rfl
theorem e_ch1 : kCh1 wr wr' wb wc ρ Φ x M = wb ρ M (kCh2 wr wr' wc ρ x Φ) := rfl
theorem e_ch2 : kCh2 wr wr' wc ρ x Φ y M = wr x y M (kCh3 wr' wc ρ y Φ) := rfl
theorem e_ch3T : kCh3 wr' wc ρ y Φ (.bl true) M = wc ρ M (kCh4 wr' y Φ) := rfl
theorem e_ch3F : kCh3 wr' wc ρ y Φ (.bl false) M = Φ (.bl false) M := rfl
theorem e_ch4 : kCh4 wr' y Φ z M = wr' y z M Φ := rfl
end
def W_is_key : W3 := fun ds M Φ => ∃ x : Int, ds = [.int x] ∧ Φ (.bl (decide (-(10 ^ 9) ≤ x ∧ x ≤ 10 ^ 9))) M
def w_is_key : WS := (sRet (wChain wch_le wch_le (wNeg (wC (.int 1000000000))) (wVar 0) (wC (.int 1000000000))))
theorem r_is_key : ∀ ds M Φ, W_is_key ds M Φ → w_is_key (endsD Φ) (startD 1 ds) M := by
  intro ds M Φ ⟨x, eds, k⟩
  subst eds
  unfold w_is_key
  rw [start_1]
  wp_walk using e_chain, e_ch1, e_ch2
  rw [show ((10 : Int) ^ 9) = 1000000000 by decide] at k
  by_cases c : -1000000000 ≤ x
  · wp_walk using decide_eq_true c, e_ch3T, e_ch4
    by_cases c2 : x ≤ 1000000000
    · rw [decide_eq_true c2]
      rw [decide_eq_true ⟨c, c2⟩] at k
      exact k
    · rw [decide_eq_false c2]
      rw [decide_eq_false fun h => c2 h.2] at k
      exact k
  · wp_walk using decide_eq_false c, e_ch3F
    rw [decide_eq_false fun h => c h.1] at k
    exact k
end VL
namespace Tm
inductive HS where
  | key (k : Int)
  /-- a round: its word (0: the right one), its count, a tuple or a list of steps -/
  | rep (w : Nat) (c : Int) (b : Bool) (ss : List HS)
  /-- a tuple that is too short: (), (word,), (word, count) -/
  | odd (c : Option (Option Int))
mutual
def HS.fl : HS → List Int
  | .key k => [k]
  | .rep _ c _ ss => (List.replicate c.toNat (fls ss)).flatten
  | .odd _ => []
def fls : List HS → List Int
  | [] => []
  | s :: r => s.fl ++ fls r
end
mutual
def HS.wr : HS → Nat
  | .key _ => 1
  | .rep _ _ _ ss => 1 + wrs ss
  | .odd _ => 1
def wrs : List HS → Nat
  | [] => 0
  | s :: r => s.wr + wrs r
end
mutual
def HS.dp : HS → Nat
  | .key _ => 0
  | .rep _ _ _ ss => 1 + dps ss
  | .odd _ => 0
def dps : List HS → Nat
  | [] => 0
  | s :: r => max s.dp (dps r)
end
mutual
def HS.ok : HS → Prop
  | .key k => -(10 ^ 9) ≤ k ∧ k ≤ 10 ^ 9
  | .rep w c _ ss => (w = 0 ∧ 0 ≤ c ∧ c ≤ 10 ^ 30) ∧ oks ss
  | .odd _ => False
def oks : List HS → Prop
  | [] => True
  | s :: r => s.ok ∧ oks r
end
mutual
def HS.kys : HS → List Int
  | .key k => [k]
  | .rep _ _ _ ss => kyss ss
  | .odd _ => []
def kyss : List HS → List Int
  | [] => []
  | s :: r => s.kys ++ kyss r
end
theorem wrs_app : ∀ A B : List HS, wrs (A ++ B) = wrs A + wrs B
  | [], B => by rw [List.nil_append, wrs]; omega
  | s :: r, B => by rw [List.cons_append, wrs, wrs, wrs_app r B]; omega
theorem dps_mem : ∀ {ss : List HS} {s : HS}, s ∈ ss → s.dp ≤ dps ss
  | x :: r, s, h => by
    rw [dps]
    rcases List.mem_cons.mp h with rfl | h
    · exact Nat.le_max_left ..
    · exact Nat.le_trans (dps_mem h) (Nat.le_max_right ..)
theorem dps_le : ∀ {ss : List HS} {n : Nat}, (∀ s ∈ ss, s.dp ≤ n) → dps ss ≤ n
  | [], _, _ => Nat.zero_le _
  | x :: r, n, h => by rw [dps]; exact Nat.max_le.mpr ⟨h x (List.mem_cons_self ..), dps_le fun s hs => h s (List.mem_cons_of_mem _ hs)⟩
theorem oks_iff : ∀ {ss : List HS}, oks ss ↔ ∀ s ∈ ss, s.ok
  | [] => by rw [oks]; simp
  | x :: r => by
    rw [oks, oks_iff (ss := r)]
    simp
theorem rep_succ (n : Nat) (L : List Int) : (List.replicate (n + 1) L).flatten = (List.replicate n L).flatten ++ L := by
  rw [List.replicate_succ', List.flatten_append]; simp
theorem rep_len (L : List Int) : ∀ n : Nat, (List.replicate n L).flatten.length = n * L.length
  | 0 => by simp
  | n + 1 => by rw [rep_succ, List.length_append, rep_len L n, Nat.succ_mul]
mutual
theorem fl_kys : ∀ (s : HS) (x : Int), x ∈ s.fl → x ∈ s.kys
  | .key k, x, h => h
  | .odd _, x, h => h
  | .rep w c b ss, x, h => by
    rw [HS.fl] at h
    rw [HS.kys]
    obtain ⟨l, hl, hx⟩ := List.mem_flatten.mp h
    rw [(List.mem_replicate.mp hl).2] at hx
    exact fls_kys ss x hx
theorem fls_kys : ∀ (ss : List HS) (x : Int), x ∈ fls ss → x ∈ kyss ss
  | [], x, h => h
  | s :: r, x, h => by
    rw [fls] at h
    rw [kyss]
    rcases List.mem_append.mp h with h | h
    · exact List.mem_append_left _ (fl_kys s x h)
    · exact List.mem_append_right _ (fls_kys r x h)
end
mutual
theorem fl_len : ∀ (s : HS) (n : Nat), s.ok → s.dp ≤ n → s.fl.length ≤ s.wr * (10 ^ 30) ^ n
  | .key k, n, _, _ => by
    rw [HS.fl, HS.wr, Nat.one_mul]
    exact Nat.one_le_pow _ _ (by decide)
  | .odd _, n, h, _ => by rw [HS.ok] at h; exact h.elim
  | .rep w c b ss, 0, _, h => by rw [HS.dp] at h; omega
  | .rep w c b ss, n + 1, h, hd => by
    rw [HS.ok] at h
    rw [HS.dp] at hd
    rw [HS.fl, HS.wr, rep_len]
    have ih := fls_len ss n h.2 (by omega)
    have hc : c.toNat ≤ 10 ^ 30 := by omega
    have step : c.toNat * (fls ss).length ≤ 10 ^ 30 * (wrs ss * (10 ^ 30) ^ n) := Nat.mul_le_mul hc ih
    have e : (10 ^ 30) * (wrs ss * (10 ^ 30) ^ n) = wrs ss * (10 ^ 30) ^ (n + 1) := by
      generalize 10 ^ 30 = B
      rw [Nat.pow_succ, Nat.mul_left_comm, Nat.mul_comm B]
    rw [e] at step
    exact Nat.le_trans step (Nat.mul_le_mul_right _ (by omega))
theorem fls_len : ∀ (ss : List HS) (n : Nat), oks ss → dps ss ≤ n → (fls ss).length ≤ wrs ss * (10 ^ 30) ^ n
  | [], n, _, _ => by rw [fls]; exact Nat.zero_le _
  | s :: r, n, h, hd => by
    rw [oks] at h
    rw [dps] at hd
    rw [fls, wrs, List.length_append, Nat.add_mul]
    exact Nat.add_le_add (fl_len s n h.1 (Nat.le_trans (Nat.le_max_left ..) hd)) (fls_len r n h.2 (Nat.le_trans (Nat.le_max_right ..) hd))
end
mutual
def HS.ck (nest : Nat) (pos : Int) : HS → Sum (Option Int) Int
  | .key k => if pos = 100 then .inl none else if -(10 ^ 9) ≤ k ∧ k ≤ 10 ^ 9 then .inr (pos + 1) else .inl (some pos)
  | .odd _ => if pos = 100 then .inl none else .inl (some pos)
  | .rep w c _ ss => if pos = 100 then .inl none else if (w = 0 ∧ 0 ≤ c ∧ c ≤ 10 ^ 30) ∧ nest ≠ 4 then cks (nest + 1) (pos + 1) ss else .inl (some pos)
def cks (nest : Nat) (pos : Int) : List HS → Sum (Option Int) Int
  | [] => .inr pos
  | s :: r => match s.ck nest pos with
    | .inl e => .inl e
    | .inr p => cks nest p r
end
mutual
theorem ck_ok : ∀ (s : HS) (nest : Nat) (pos : Int), s.ok → nest + s.dp ≤ 4 → pos + s.wr ≤ 100 → s.ck nest pos = .inr (pos + s.wr)
  | .key k, nest, pos, h, _, hp => by
    rw [HS.ok] at h; rw [HS.wr] at hp
    rw [HS.ck, HS.wr, if_neg (by omega), if_pos h]; rfl
  | .odd _, _, _, h, _, _ => by rw [HS.ok] at h; exact h.elim
  | .rep w c b ss, nest, pos, h, hd, hp => by
    rw [HS.ok] at h; rw [HS.dp] at hd; rw [HS.wr] at hp
    rw [HS.ck, HS.wr, if_neg (by omega), if_pos ⟨h.1, by omega⟩, cks_ok ss (nest + 1) (pos + 1) h.2 (by omega) (by omega)]
    congr 1; omega
theorem cks_ok : ∀ (ss : List HS) (nest : Nat) (pos : Int), oks ss → nest + dps ss ≤ 4 → pos + wrs ss ≤ 100 → cks nest pos ss = .inr (pos + wrs ss)
  | [], nest, pos, _, _, _ => by rw [cks, wrs]; simp
  | s :: r, nest, pos, h, hd, hp => by
    rw [oks] at h; rw [dps] at hd; rw [wrs] at hp ⊢
    have d1 : s.dp ≤ max s.dp (dps r) := Nat.le_max_left ..
    have d2 : dps r ≤ max s.dp (dps r) := Nat.le_max_right ..
    rw [cks, ck_ok s nest pos h.1 (by omega) (by omega)]
    simp only
    rw [cks_ok r nest (pos + s.wr) h.2 (by omega) (by omega)]
    congr 1; omega
end
end Tm
--@LAW k18
namespace VL
open PySem PySem.Spec PyProof.Rows L2 Tm XL
def wdS : Nat → Str
  | 0 => "repeat"
  | 1 => "Repeat"
  | 2 => ""
  | 3 => "round"
  | _ => "again"
def seqD (b : Bool) (ds : List D) : D := if b then .tup ds else .lst ds
mutual
def hD : HS → D
  | .key k => .int k
  | .rep w c b ss => .tup [.str (wdS w), .int c, seqD b (hDs ss)]
  | .odd none => .tup []
  | .odd (some none) => .tup [.str "repeat"]
  | .odd (some (some c)) => .tup [.str "repeat", .int c]
def hDs : List HS → List D
  | [] => []
  | s :: r => hD s :: hDs r
end
theorem hDs_map : ∀ ss : List HS, hDs ss = ss.map hD
  | [] => by rw [hDs]; rfl
  | s :: r => by rw [hDs, hDs_map r]; rfl
theorem hDs_len (ss : List HS) : (hDs ss).length = ss.length := by rw [hDs_map, List.length_map]
section
variable {M : Mem} {Φ : KD} {ΦA : List D → Mem → Prop} {b : Bool} {ds : List D}
theorem e_seqH : kSeqI ΦA (seqD b ds) M = ΦA ds M := by cases b <;> rfl
theorem e_neW (w : Nat) : wrNe (.str (wdS w)) (.str "repeat") M Φ = Φ (.bl (!decide (w = 0))) M := by
  have go : ∀ x : Str, SeqAt.shaped (.str x) = true → wrNe (.str x) (.str "repeat") M Φ = Φ (.bl (!decide (x = "repeat"))) M := fun x hx =>
    wrNe_of (c := decide (x = "repeat")) (show pyM M _ = some (.str x) from rfl) (show pyM M _ = some (.str "repeat") from rfl) hx (by decide +kernel) (by rw [PyData.eqv]; rfl)
  match w with
  | 0 => exact go _ (by decide +kernel)
  | 1 => exact go _ (by decide +kernel)
  | 2 => exact go _ (by decide +kernel)
  | 3 => exact go _ (by decide +kernel)
  | n + 4 =>
    have e : wdS (n + 4) = "again" := rfl
    rw [e, go _ (by decide +kernel), decide_eq_false (show ¬ (n + 4 = 0) by omega), decide_eq_false (show ¬ (("again" : Str) = "repeat") by decide +kernel)]
theorem e_isiK {k : Int} : wrIsi [.int k, .ty "int"] M Φ = Φ (.bl true) M := by unfold wrIsi tyN clsN; simp [isiB, tyNames]
theorem e_isiN : wrIsi [.tup ds, .ty "int"] M Φ = Φ (.bl false) M := by unfold wrIsi tyN clsN; simp [isiB, tyNames]
end
theorem start_h3 {x y z : D} : startD 3 [x, y, z] = [some x, some y, some z] := rfl
theorem h_len0 : decide ((([] : List D).length : Int) = 3) = false := rfl
theorem h_len1 {a : D} : decide ((([a] : List D).length : Int) = 3) = false := rfl
theorem h_len2 {a b : D} : decide ((([a, b] : List D).length : Int) = 3) = false := rfl
theorem h_len3 {a b c : D} : decide ((([a, b, c] : List D).length : Int) = 3) = true := rfl
theorem at3a {a b c : D} : atD [a, b, c] 0 = some a := rfl
theorem at3b {a b c : D} : atD [a, b, c] 1 = some b := rfl
theorem at3c {a b c : D} : atD [a, b, c] 2 = some c := rfl
def rdOk (w : Nat) (c : Int) (nest : Nat) : Prop := (w = 0 ∧ 0 ≤ c ∧ c ≤ 10 ^ 30) ∧ nest ≠ 4
def W_check_round : W4 := fun ds M Φ Ψ => ∃ (s : HS) (nest : Nat) (pos : Int), ds = [hD s, .int nest, .int pos] ∧ (∀ k, s ≠ .key k) ∧ ((∀ w c b ss, s = .rep w c b ss → rdOk w c nest → Φ .non M) ∧ ((∃ o, s = .odd o) ∨ (∃ w c b ss, s = .rep w c b ss ∧ ¬ rdOk w c nest) → Ψ "BadStep" (.int pos) M))
def w_check_round (Ψ : XC) : WS := (sIf (wOr (wTest (wOp wrNe (wCB wrLen (wCons (wVar 0) wNil)) (wC (.int 3)))) (wOr (wTest (wOp wrNe (wOp wrIx (wVar 0) (wC (.int 0))) (wC (.str "repeat")))) (wOr (wNot (wTest (wChain wch_le wch_le (wC (.int 0)) (wOp wrIx (wVar 0) (wC (.int 1))) (wC (.int 1000000000000000000000000000000))))) (wTest (wOp wrEq (wVar 1) (wC (.int 4))))))) (sRaise "BadStep" Ψ (wCons (wVar 2) wNil)) sNext)
theorem r_check_round (Ψ : XC) : ∀ ds M Φ, W_check_round ds M Φ Ψ → w_check_round Ψ (endsD Φ) (startD 3 ds) M := by
  intro ds M Φ ⟨s, nest, pos, eds, nk, k, kx⟩
  subst eds
  unfold w_check_round
  rw [start_h3]
  cases s with
  | key z => exact absurd rfl (nk z)
  | odd o =>
    have kx' := kx (.inl ⟨o, rfl⟩)
    rcases o with _ | _ | c
    · rw [hD]; wp_walk using h_len0; exact raise1 rfl kx'
    · rw [hD]; wp_walk using h_len1; exact raise1 rfl kx'
    · rw [hD]; wp_walk using h_len2; exact raise1 rfl kx'
  | rep w c b ss =>
    rw [hD]
    have k' := k w c b ss rfl
    have kx' := fun h => raise1 (tag := "BadStep") (Ψ := Ψ) (M := M) rfl (kx (.inr ⟨w, c, b, ss, rfl, h⟩))
    wp_walk using h_len3, at3a, e_neW
    by_cases c1 : w = 0
    · wp_walk using decide_eq_true c1, at3b, e_chain, e_ch1, e_ch2
      by_cases c2 : 0 ≤ c
      · wp_walk using decide_eq_true c2, e_ch3T, e_ch4
        by_cases c3 : c ≤ 1000000000000000000000000000000
        · wp_walk using decide_eq_true c3, e_eqI
          by_cases c4 : (nest : Int) = 4
          · wp_walk using decide_eq_true c4
            exact kx' fun h => h.2 (by omega)
          · wp_walk using decide_eq_false c4
            exact k' ⟨⟨c1, c2, c3⟩, by omega⟩
        · wp_walk using decide_eq_false c3
          exact kx' fun h => c3 h.1.2.2
      · wp_walk using decide_eq_false c2, e_ch3F
        exact kx' fun h => c2 h.1.2.1
    · wp_walk using decide_eq_false c1
      exact kx' fun h => c1 h.1.1
def W_check_steps : Nat → W4
  | 0 => fun _ _ _ _ => False
  | n + 1 => fun ds M Φ Ψ => ∃ (ss : List HS) (b : Bool) (nest : Nat) (pos : Int), ds = [seqD b (hDs ss), .int nest, .int pos] ∧ (nest ≤ 4 ∧ 5 ≤ n + 1 + nest) ∧
    (match cks nest pos ss with | .inr p => Φ (.int p) M | .inl none => Ψ "TooLong" (.int 100) M | .inl (some p) => Ψ "BadStep" (.int p) M)
theorem loop_hs {g : WG} {body : WS} {De : WN} {L : List HS} {ρ : Sg} {M : Mem} (P : List HS → List HS → Sg → Mem → Prop) (h0 : P [] L ρ M)
    (hs : ∀ pre x post ρ M (bk : Sg → Mem → Prop) (nx : Sg → Mem → Prop), L = pre ++ x :: post → P pre (x :: post) ρ M → bk = De.nx → (∀ ρ M, P (pre ++ [x]) post ρ M → nx ρ M) → g (hD x) ρ M (body ⟨nx, De.rt, bk, nx⟩))
    (hd : ∀ ρ M, P L [] ρ M → De.nx ρ M) : sLoop g body De (hDs L) ρ M := by
  suffices h : ∀ (post pre : List HS) ρ M, L = pre ++ post → P pre post ρ M → sLoop g body De (hDs post) ρ M from h L [] ρ M rfl h0
  intro post
  induction post with
  | nil => intro pre ρ M e p; rw [List.append_nil] at e; subst e; exact hd ρ M p
  | cons x post ih =>
    intro pre ρ M e p
    rw [hDs]
    exact hs pre x post ρ M _ _ e p rfl fun ρ' M' p' => ih (pre ++ [x]) ρ' M' (by rw [e, List.append_assoc]; rfl) p'
theorem lc_hs {g : WG} {tt : WT} {te : WE} {ρ : Sg} {k : List D → Mem → Prop} {L : List HS} {M : Mem} (P : List HS → List HS → List D → Mem → Prop) (h0 : P [] L [] M)
    (hs : ∀ pre x post acc M (Ψ : List D → Mem → Prop), L = pre ++ x :: post → P pre (x :: post) acc M → (∀ acc M, P (pre ++ [x]) post acc M → Ψ acc M) → g (hD x) ρ M (kLc1 tt te acc Ψ))
    (hd : ∀ acc M, P L [] acc M → k acc M) : wLcGo g tt te ρ k (hDs L) [] M := by
  suffices h : ∀ (post pre : List HS) acc M, L = pre ++ post → P pre post acc M → wLcGo g tt te ρ k (hDs post) acc M from h L [] [] M rfl h0
  intro post
  induction post with
  | nil => intro pre acc M e p; rw [List.append_nil] at e; subst e; exact hd acc M p
  | cons x post ih =>
    intro pre acc M e p
    rw [hDs]
    exact hs pre x post acc M _ e p fun acc' M' p' => ih (pre ++ [x]) acc' M' (by rw [e, List.append_assoc]; rfl) p'
theorem start_h4 {x y z : D} : startD 4 [x, y, z] = [some x, some y, some z, none] := rfl
def w_check_steps (Ψ : XC) (W_check_steps : W4) : WS := (sSeq (sFor (wiSeq (wVar 0)) (wgName 3) (sSeq (sIf (wTest (wOp wrEq (wVar 2) (wC (.int 100)))) (sRaise "TooLong" Ψ (wCons (wC (.int 100)) wNil)) sNext)
  (sIf (wTest (wCB wrIsi (wCons (wVar 3) (wCons (wC (.ty "int")) wNil)))) (sSeq (sIf (wNot (wTest (wCall W_is_key (wCons (wVar 3) wNil)))) (sRaise "BadStep" Ψ (wCons (wVar 2) wNil)) sNext)
  (sAug 2 (wC (.int 1)) (wrI fun i j => .int (i + j)))) (sSeq (sDrop (wCallX W_check_round Ψ (wCons (wVar 3) (wCons (wVar 1) (wCons (wVar 2) wNil)))))
  (sAsg (wCallX W_check_steps Ψ (wCons (wOp wrIx (wVar 3) (wC (.int 2))) (wCons (wOp wrAdd (wVar 1) (wC (.int 1))) (wCons (wOp wrAdd (wVar 2) (wC (.int 1))) wNil)))) (wgName 2))))))
  (sRet (wVar 2)))
theorem r_check_steps (n : Nat) (Ψ : XC) : ∀ ds M Φ, W_check_steps (n + 1) ds M Φ Ψ → w_check_steps Ψ (W_check_steps n) (endsD Φ) (startD 4 ds) M := by
  intro ds M Φ ⟨ss, b, nest, pos, eds, ⟨n4, n5⟩, k⟩
  subst eds
  unfold w_check_steps
  rw [start_h4]
  wp_walk using e_seqH
  refine loop_hs (fun pre post ρ M2 => ∃ (p : Int) (o : Option D), ρ = [some (seqD b (hDs ss)), some (.int nest), some (.int p), o] ∧ M2 = M ∧ cks nest pos ss = cks nest p post) ⟨pos, none, rfl, rfl, rfl⟩ ?_ ?_
  · rintro pre x post ρ M2 bk nx e ⟨p, o, rfl, rfl, ec⟩ _ hnx
    wp_walk using e_eqI
    by_cases c0 : p = 100
    · wp_walk using decide_eq_true c0
      refine raise1 rfl ?_
      have : cks nest p (x :: post) = .inl none := by rw [cks]; cases x <;> (rw [HS.ck, if_pos c0])
      rw [ec, this] at k
      exact k
    wp_walk using decide_eq_false c0
    cases x with
    | key z =>
      rw [hD]
      wp_walk using e_isiK
      refine ⟨z, rfl, ?_⟩
      by_cases c1 : -(10 ^ 9) ≤ z ∧ z ≤ 10 ^ 9
      · wp_walk using decide_eq_true c1
        refine hnx _ _ ⟨p + 1, _, rfl, rfl, ?_⟩
        rw [ec, cks, HS.ck, if_neg c0, if_pos c1]
      · wp_walk using decide_eq_false c1
        refine raise1 rfl ?_
        rw [ec, cks, HS.ck, if_neg c0, if_neg c1] at k
        exact k
    | odd z =>
      have isi : wrIsi [hD (.odd z), .ty "int"] = fun M Φ => Φ (.bl false) M := by
        funext M Φ
        rcases z with _ | _ | c <;> (rw [hD]; exact e_isiN)
      wp_walk using isi
      refine ⟨.odd z, nest, p, rfl, (fun k h => nomatch h), ⟨(fun w c b ss h => nomatch h), fun _ => ?_⟩⟩
      rw [ec, cks, HS.ck, if_neg c0] at k
      exact k
    | rep w c b2 s2 =>
      wp_walk using (show wrIsi [hD (.rep w c b2 s2), .ty "int"] = fun M Φ => Φ (.bl false) M from funext fun M => funext fun Φ => by rw [hD]; exact e_isiN)
      refine ⟨.rep w c b2 s2, nest, p, rfl, (fun k h => nomatch h), ⟨fun w' c' b' ss' h hok => ?_, fun h => ?_⟩⟩
      · cases h
        rw [hD]
        wp_walk using at3c
        unfold rdOk at hok
        obtain ⟨m, rfl⟩ : ∃ m, n = m + 1 := ⟨n - 1, by omega⟩
        rw [show ((nest : Int) + 1) = ((nest + 1 : Nat) : Int) by omega]
        have step : cks nest p (.rep w c b2 s2 :: post) = (match cks (nest + 1) (p + 1) s2 with | .inl e => .inl e | .inr q => cks nest q post) := by rw [cks, HS.ck, if_neg c0, if_pos hok]; first | done | (cases cks (nest + 1) (p + 1) s2 <;> rfl)
        rw [ec, step] at k
        refine ⟨s2, b2, nest + 1, p + 1, rfl, ⟨by omega, by omega⟩, ?_⟩
        generalize hr : cks (nest + 1) (p + 1) s2 = r at k step ⊢
        rcases r with (_ | q) | q
        · exact k
        · exact k
        · walk_at "vl"
          refine hnx _ _ ⟨q, _, rfl, rfl, ?_⟩
          rw [ec, step]
      · rcases h with ⟨o, h⟩ | ⟨w', c', b', ss', h, hno⟩
        · cases h
        · cases h
          unfold rdOk at hno
          rw [ec, cks, HS.ck, if_neg c0, if_neg hno] at k
          exact k
  · rintro ρ M2 ⟨p, o, rfl, rfl, ec⟩
    rw [ec, cks] at k
    walk_at "vl"
    exact k
def ckK (r : Sum (Option Int) Int) (Φ : Mem → Prop) (Ψ : XC) (M : Mem) : Prop := match r with
  | .inr _ => Φ M
  | .inl none => Ψ "TooLong" (.int 100) M
  | .inl (some p) => Ψ "BadStep" (.int p) M
def W_check_history : W4 := fun ds M Φ Ψ => ∃ (ss : List HS) (b : Bool), ds = [seqD b (hDs ss)] ∧ ckK (cks 0 0 ss) (Φ .non) Ψ M
def w_check_history (Ψ : XC) : WS := (sDrop (wCallX (W_check_steps 5) Ψ (wCons (wVar 0) (wCons (wC (.int 0)) (wCons (wC (.int 0)) wNil)))))
theorem start_h1 {x : D} : startD 1 [x] = [some x] := rfl
theorem r_check_history (Ψ : XC) : ∀ ds M Φ, W_check_history ds M Φ Ψ → w_check_history Ψ (endsD Φ) (startD 1 ds) M := by
  intro ds M Φ ⟨ss, b, eds, k⟩
  subst eds
  unfold w_check_history
  rw [start_h1]
  walk_at "vl"
  refine ⟨ss, b, 0, 0, rfl, ⟨by decide, by decide⟩, ?_⟩
  unfold ckK at k
  rcases hr : cks 0 0 ss with (_ | q) | q
  · rw [hr] at k; exact k
  · rw [hr] at k; exact k
  · rw [hr] at k
    exact k
structure Gd (ss : List HS) : Prop where
  ok : oks ss
  dp : dps ss ≤ 4
  wr : wrs ss ≤ 100
theorem Gd.ck {ss : List HS} (g : Gd ss) : cks 0 0 ss = .inr (0 + wrs ss) := cks_ok ss 0 0 g.ok (by have := g.dp; omega) (by have := g.wr; omega)
def Sub (n : Nat) (ss : List HS) : Prop := oks ss ∧ dps ss ≤ n ∧ wrs ss ≤ 100
theorem Sub.in {n : Nat} {ss pre post : List HS} {w : Nat} {c : Int} {b : Bool} {s2 : List HS} (h : Sub n ss) (e : ss = pre ++ .rep w c b s2 :: post) : ∃ m, n = m + 1 ∧ Sub m s2 ∧ (0 ≤ c ∧ c ≤ 10 ^ 30) := by
  obtain ⟨h1, h2, h3⟩ := h
  have mem : HS.rep w c b s2 ∈ ss := by rw [e]; exact List.mem_append_right _ (List.mem_cons_self ..)
  have o := oks_iff.mp h1 _ mem
  have d := Nat.le_trans (dps_mem mem) h2
  rw [HS.ok] at o
  rw [HS.dp] at d
  rw [e, wrs_app, wrs, HS.wr] at h3
  exact ⟨n - 1, by omega, ⟨o.2, by omega, by omega⟩, o.1.2⟩
theorem Sub.key {n : Nat} {ss pre post : List HS} {x : HS} (h : Sub n ss) (e : ss = pre ++ x :: post) : (∃ k, x = .key k) ∨ ∃ c b s2, x = .rep 0 c b s2 := by
  have o := oks_iff.mp h.1 x (by rw [e]; exact List.mem_append_right _ (List.mem_cons_self ..))
  cases x with
  | key k => exact .inl ⟨k, rfl⟩
  | odd c => rw [HS.ok] at o; exact o.elim
  | rep w c b s2 => rw [HS.ok] at o; exact .inr ⟨c, b, s2, by rw [o.1.1]⟩
theorem Sub.mono {n m : Nat} {ss : List HS} (h : Sub n ss) (hm : n ≤ m) : Sub m ss := ⟨h.1, Nat.le_trans h.2.1 hm, h.2.2⟩
theorem Sub.len {n : Nat} {ss : List HS} (h : Sub n ss) (hn : n ≤ 5) : (fls ss).length ≤ 100 * (10 ^ 30) ^ 5 :=
  Nat.le_trans (fls_len ss n h.1 h.2.1) (Nat.mul_le_mul h.2.2 (Nat.pow_le_pow_right (by decide) hn))
theorem start_h2a {x : D} : startD 2 [x] = [some x, none] := rfl
theorem wrs_len : ∀ {ss : List HS}, ss.length ≤ wrs ss
  | [] => Nat.zero_le _
  | s :: r => by
    have h1 : 1 ≤ s.wr := by cases s <;> rw [HS.wr] <;> omega
    have := wrs_len (ss := r)
    rw [List.length_cons, wrs]; omega
theorem Gd.ckK {ss : List HS} (g : Gd ss) {M : Mem} {Ψ : XC} {Φ : Mem → Prop} (h : Φ M) : ckK (cks 0 0 ss) Φ Ψ M := by unfold VL.ckK; rw [g.ck]; exact h
end VL
--@LAW k33
namespace VL
open PySem PySem.Spec PyProof.Rows L2 Tm XL
theorem W_of_go {d : Addr} {es : List D} {M : Mem} {Φ : KD} (h : Dw M d) (h0 : 0 < es.length) (h1 : es.length ≤ 100000) (k : ∀ x M', x ∈ es → Kp d M M' → Φ x M') : W_l_of [.ref d, .lst es] M Φ := ⟨d, es, .inl rfl, h, ⟨h0, h1⟩, k⟩
theorem int_in {ks : List Int} {x : D} (h : x ∈ ks.map D.int) : ∃ i : Int, x = .int i ∧ i ∈ ks := by
  obtain ⟨i, hi, rfl⟩ := List.mem_map.mp h
  exact ⟨i, rfl, hi⟩
def w_l_field (a : Addr) (tag : Str) (x : VL.D) : WS := (sSeq (sIf (wTest (wOp (wrIn false) (wXa a (.str tag) True (wVar 0)) (wTup (wCons (wC (.str "BadKey")) (wCons (wC (.str "DuplicateKey")) (wCons (wC (.str "AtRoot")) (wCons (wC (.str "Overlap")) (wCons (wC (.str "KeysDiffer")) (wCons (wC (.str "BadWeight")) (wCons (wC (.str "NoKey")) wNil)))))))))) (sRet (wXa a x (fieldOf tag = some "key") (wVar 0))) sNext)
  (sSeq (sIf (wTest (wOp (wrIn false) (wXa a (.str tag) True (wVar 0)) (wTup (wCons (wC (.str "BadShape")) (wCons (wC (.str "BadStep")) (wCons (wC (.str "BadCost")) (wCons (wC (.str "Contradiction")) (wCons (wC (.str "ParseError")) wNil)))))))) (sRet (wXa a x (fieldOf tag = some "pos") (wVar 0))) sNext)
  (sSeq (sIf (wTest (wOp (wrIn false) (wXa a (.str tag) True (wVar 0)) (wTup (wCons (wC (.str "TooManyKeys")) (wCons (wC (.str "TooLong")) (wCons (wC (.str "TooManyTrees")) (wCons (wC (.str "TooManyWatches")) wNil))))))) (sRet (wXa a x (fieldOf tag = some "limit") (wVar 0))) sNext)
  (sSeq (sIf (wTest (wOp (wrIn false) (wXa a (.str tag) True (wVar 0)) (wTup (wCons (wC (.str "BadName")) (wCons (wC (.str "NameTaken")) (wCons (wC (.str "SameName")) (wCons (wC (.str "NoTree")) wNil))))))) (sRet (wXa a x (fieldOf tag = some "name") (wVar 0))) sNext)
  (sSeq (sIf (wTest (wOp wrEq (wXa a (.str tag) True (wVar 0)) (wC (.str "BadSize")))) (sRet (wXa a x (fieldOf tag = some "size") (wVar 0))) sNext)
  (sRet (wIfE (wTest (wOp wrEq (wXa a (.str tag) True (wVar 0)) (wC (.str "BadCommand")))) (wXa a x (fieldOf tag = some "word") (wVar 0)) (wXa a x (fieldOf tag = some "number") (wVar 0)))))))))
theorem e_inTS {M : Mem} {Φ : KD} {x : Str} {ks : List Str} : wrIn false (.str x) (.tup (ks.map D.str)) M Φ = Φ (.bl (decide (x ∈ ks))) M := by
  have fl : ∀ ks : List Str, (ks.map D.str).all flatD = true := fun ks => by
    rw [List.all_eq_true]; intro d hd; obtain ⟨i, _, rfl⟩ := List.mem_map.mp hd; rfl
  have fi : ∀ ks : List Str, inF (.str x) (ks.map D.str) = decide (x ∈ ks) := fun ks => by
    induction ks with
    | nil => simp [inF]
    | cons y ks ih =>
      unfold inF at ih ⊢
      rw [List.map_cons, List.any_cons, ih]
      show ((y == x) || _) = _
      by_cases h : y = x
      · subst h; simp
      · have h' : x ≠ y := fun e => h e.symm
        simp [h, h']
  unfold wrIn
  show ((flatD (.str x) = true ∧ _) ∧ _) = _
  simp only [fl, fi, and_true, true_and]
  rw [show flatD (.str x) = true from rfl]
  simp
abbrev fS1 : List Str := ["BadKey", "DuplicateKey", "AtRoot", "Overlap", "KeysDiffer", "BadWeight", "NoKey"]
abbrev fS2 : List Str := ["BadShape", "BadStep", "BadCost", "Contradiction", "ParseError"]
abbrev fS3 : List Str := ["TooManyKeys", "TooLong", "TooManyTrees", "TooManyWatches"]
abbrev fS4 : List Str := ["BadName", "NameTaken", "SameName", "NoTree"]
theorem fS1_f : ∀ t ∈ fS1, fieldOf t = some "key" := by decide +kernel
theorem fS2_f : ∀ t ∈ fS2, fieldOf t = some "pos" := by decide +kernel
theorem fS3_f : ∀ t ∈ fS3, fieldOf t = some "limit" := by decide +kernel
theorem fS4_f : ∀ t ∈ fS4, fieldOf t = some "name" := by decide +kernel
theorem fS_all {t : Str} (h : (fieldOf t).isSome = true) : t ∈ fS1 ++ fS2 ++ fS3 ++ fS4 ++ ([("BadSize" : Str), "BadCommand", "NoWatch"] : List Str) := by
  cases e : fieldOf t with
  | none => rw [e] at h; cases h
  | some f =>
    unfold fieldOf at e
    have key : ∀ (l : List (Str × Str)), l.lookup t = some f → t ∈ l.map (·.1) := by
      intro l
      induction l with
      | nil => intro e; cases e
      | cons p l ih =>
        intro e
        rw [List.lookup] at e
        split at e
        · rename_i hb; rw [List.map_cons, eq_of_beq hb]; exact List.mem_cons_self ..
        · exact List.mem_cons_of_mem _ (ih e)
    exact key _ e
theorem sh_str (l : List Str) : (∀ t ∈ l, SeqAt.shaped (.str t) = true) → ∀ {t : Str}, t ∈ l → SeqAt.shaped (.str t) = true := fun h _ ht => h _ ht
theorem r_l_field {a : Addr} {tag : Str} {x : VL.D} {Φ : KD} {M : Mem} (h1 : (fieldOf tag).isSome = true) (h2 : Φ x M) : w_l_field a tag x (endsD Φ) [some (.ref a)] M := by
  have hall := fS_all h1
  have shp : SeqAt.shaped (.str tag) = true := sh_str (fS1 ++ fS2 ++ fS3 ++ fS4 ++ ([("BadSize" : Str), "BadCommand", "NoWatch"] : List Str)) (by decide +kernel) hall
  unfold w_l_field
  walk_at "vl"
  refine ⟨trivial, trivial, (show (7 : Nat) ≤ lim by decide), ?_⟩
  rw [show ([D.str "BadKey", D.str "DuplicateKey", D.str "AtRoot", D.str "Overlap", D.str "KeysDiffer", D.str "BadWeight", D.str "NoKey"] : List D) = fS1.map D.str from rfl]
  wp_walk using e_inTS
  by_cases c1 : tag ∈ fS1
  · wp_walk using decide_eq_true c1
    exact ⟨trivial, fS1_f _ c1, h2⟩
  wp_walk using decide_eq_false c1
  refine ⟨trivial, trivial, (show (5 : Nat) ≤ lim by decide), ?_⟩
  rw [show ([D.str "BadShape", D.str "BadStep", D.str "BadCost", D.str "Contradiction", D.str "ParseError"] : List D) = fS2.map D.str from rfl]
  wp_walk using e_inTS
  by_cases c2 : tag ∈ fS2
  · wp_walk using decide_eq_true c2
    exact ⟨trivial, fS2_f _ c2, h2⟩
  wp_walk using decide_eq_false c2
  refine ⟨trivial, trivial, (show (4 : Nat) ≤ lim by decide), ?_⟩
  rw [show ([D.str "TooManyKeys", D.str "TooLong", D.str "TooManyTrees", D.str "TooManyWatches"] : List D) = fS3.map D.str from rfl]
  wp_walk using e_inTS
  by_cases c3 : tag ∈ fS3
  · wp_walk using decide_eq_true c3
    exact ⟨trivial, fS3_f _ c3, h2⟩
  wp_walk using decide_eq_false c3
  refine ⟨trivial, trivial, (show (4 : Nat) ≤ lim by decide), ?_⟩
  rw [show ([D.str "BadName", D.str "NameTaken", D.str "SameName", D.str "NoTree"] : List D) = fS4.map D.str from rfl]
  wp_walk using e_inTS
  by_cases c4 : tag ∈ fS4
  · wp_walk using decide_eq_true c4
    exact ⟨trivial, fS4_f _ c4, h2⟩
  have hl : tag = "BadSize" ∨ tag = "BadCommand" ∨ tag = "NoWatch" := by
    rcases List.mem_append.mp hall with h | h
    · rcases List.mem_append.mp h with h | h
      · rcases List.mem_append.mp h with h | h
        · rcases List.mem_append.mp h with h | h
          · exact absurd h c1
          · exact absurd h c2
        · exact absurd h c3
      · exact absurd h c4
    · simpa using h
  wp_walk using decide_eq_false c4
  refine ⟨trivial, trivial, ?_⟩
  rcases hl with rfl | rfl | rfl
  · wp_walk using e_eqS shp shp, decide_true
    exact ⟨trivial, by decide +kernel, h2⟩
  · wp_walk using e_eqS shp (show SeqAt.shaped (.str "BadSize") = true by decide +kernel)
    rw [show decide (("BadCommand" : Str) = "BadSize") = false by decide +kernel]
    walk_at "vl"
    refine ⟨trivial, trivial, ?_⟩
    wp_walk using e_eqS shp shp, decide_true
    exact ⟨trivial, by decide +kernel, h2⟩
  · wp_walk using e_eqS shp (show SeqAt.shaped (.str "BadSize") = true by decide +kernel)
    rw [show decide (("NoWatch" : Str) = "BadSize") = false by decide +kernel]
    walk_at "vl"
    refine ⟨trivial, trivial, ?_⟩
    wp_walk using e_eqS shp (show SeqAt.shaped (.str "BadCommand") = true by decide +kernel)
    rw [show decide (("NoWatch" : Str) = "BadCommand") = false by decide +kernel]
    walk_at "vl"
    exact ⟨trivial, by decide +kernel, h2⟩
def qL : Str := "law.<locals>.<lambda>"
structure Lw (d PT : Addr) (M : Mem) : Prop where
  dw : Dw M d
  tb : M PT = some (.tab qL)
  ne : PT ≠ d
theorem Lw.kp {d PT : Addr} {M M' : Mem} (h : Lw d PT M) (k : Kp d M M') : Lw d PT M' := ⟨k.dw, k.rest _ _ h.ne h.tb, h.ne⟩
theorem Lw.kept {d PT : Addr} {M M' : Mem} (h : Lw d PT M) (k : Kept M M') : Lw d PT M' := ⟨h.dw.kept k, k _ _ h.tb, h.ne⟩
theorem Lw.start {d PT : Addr} {M M' : Mem} (h : M PT = some (.tab qL)) (h0 : M d = none) (hd : Dw M' d) (k : ∀ a o, M a = some o → M' a = some o) : Lw d PT M' := ⟨hd, k _ _ h, fun e => by rw [e, h0] at h; cases h⟩
def W_lawT (PT : Addr) : W3 := fun ds M Φ => ∃ ns : List Int, ds = [.fz (ns.map D.int)] ∧ ns.length ≤ 63 ∧ M PT = some (.tab qL) ∧ ∀ M', Φ (.bl true) M'
end VL
--@LAW k18
namespace VL
open PySem PySem.Spec PyProof.Rows L2 Tm XL
structure Drn (ks : List Int) (m : Nat) (s : HS) : Prop where
  ok : s.ok
  dp : s.dp ≤ m
  wr : s.wr ≤ 4 ^ m
  kys : ∀ x ∈ s.kys, x ∈ ks
def Drns (ks : List Int) (m : Nat) (ss : List HS) : Prop := ∀ s ∈ ss, Drn ks m s
theorem Drns.nil {ks : List Int} {m : Nat} : Drns ks m [] := fun _ h => nomatch h
theorem Drns.snoc {ks : List Int} {m : Nat} {ss : List HS} {s : HS} (h : Drns ks m ss) (h2 : Drn ks m s) : Drns ks m (ss ++ [s]) := fun x hx => by
  rcases List.mem_append.mp hx with hx | hx
  · exact h x hx
  · rw [List.mem_singleton.mp hx]; exact h2
theorem Drns.oks {ks : List Int} {m : Nat} {ss : List HS} (h : Drns ks m ss) : oks ss := oks_iff.mpr fun s hs => (h s hs).ok
theorem Drns.dps {ks : List Int} {m : Nat} {ss : List HS} (h : Drns ks m ss) : dps ss ≤ m := dps_le fun s hs => (h s hs).dp
theorem Drns.wrs {ks : List Int} {m : Nat} : ∀ {ss : List HS}, Drns ks m ss → wrs ss ≤ ss.length * 4 ^ m
  | [], _ => Nat.zero_le _
  | s :: r, h => by
    have h1 := (h s (List.mem_cons_self ..)).wr
    have h2 := Drns.wrs (ss := r) fun x hx => h x (List.mem_cons_of_mem _ hx)
    rw [Tm.wrs, List.length_cons, Nat.add_mul, Nat.one_mul]
    omega
theorem Drns.kys {ks : List Int} {m : Nat} : ∀ {ss : List HS}, Drns ks m ss → ∀ x ∈ kyss ss, x ∈ ks
  | [], _, _, h => nomatch h
  | s :: r, h, x, hx => by
    rw [kyss] at hx
    rcases List.mem_append.mp hx with hx | hx
    · exact (h s (List.mem_cons_self ..)).kys x hx
    · exact Drns.kys (ss := r) (fun y hy => h y (List.mem_cons_of_mem _ hy)) x hx
theorem Drns.fls {ks : List Int} {m : Nat} {ss : List HS} (h : Drns ks m ss) : ∀ x ∈ fls ss, x ∈ ks := fun x hx => h.kys x (fls_kys _ _ hx)
theorem Drn.rep {ks : List Int} {m : Nat} {ss : List HS} {c : Int} {b : Bool} (h : Drns ks m ss) (hl : ss.length ≤ 3) (hc : 0 ≤ c ∧ c ≤ 10 ^ 30) : Drn ks (m + 1) (.rep 0 c b ss) where
  ok := by rw [HS.ok]; exact ⟨⟨rfl, hc⟩, h.oks⟩
  dp := by rw [HS.dp]; have := h.dps; omega
  wr := by
    have := Nat.le_trans h.wrs (Nat.mul_le_mul_right (4 ^ m) hl)
    have p : 0 < 4 ^ m := Nat.pow_pos (by decide)
    rw [HS.wr, Nat.pow_succ]; omega
  kys := by rw [HS.kys]; exact h.kys
theorem Drn.key {ks : List Int} {m : Nat} {k : Int} (h : k ∈ ks) (hb : -(10 ^ 9) ≤ k ∧ k ≤ 10 ^ 9) : Drn ks m (.key k) where
  ok := by rw [HS.ok]; exact hb
  dp := by rw [HS.dp]; exact Nat.zero_le _
  wr := by rw [HS.wr]; exact Nat.pow_pos (by decide)
  kys := by rw [HS.kys]; intro x hx; rw [List.mem_singleton.mp hx]; exact h
def KsOk (ks : List Int) : Prop := ks ≠ [] ∧ ks.length ≤ 1000 ∧ ∀ k ∈ ks, -(10 ^ 9) ≤ k ∧ k ≤ 10 ^ 9
def W_l_step : Nat → W3
  | 0 => fun _ _ _ => False
  | n + 1 => fun ds M Φ => ∃ (d : Addr) (ks : List Int) (m : Nat), ds = [.ref d, .lst (ks.map D.int), .int m] ∧ Dw M d ∧ (KsOk ks ∧ m ≤ n ∧ n ≤ 4) ∧ ∀ s M', Drn ks m s → Kp d M M' → Φ (hD s) M'
def w_l_step (W_l_step : W3) : WS := (sSeq (sIf (wOr (wTest (wOp wrEq (wVar 2) (wC (.int 0)))) (wTest (wOp (wrI fun i j => .bl (decide (j < i))) (wCall W_l_take (wCons (wVar 0) (wCons (wC (.int 3)) wNil))) (wC (.int 0))))) (sRet (wCall W_l_of (wCons (wVar 0) (wCons (wVar 1) wNil)))) sNext)
  (sSeq (sAsg (wCall W_l_of (wCons (wVar 0) (wCons (wLst (wCons (wC (.int 0)) (wCons (wC (.int 1)) (wCons (wC (.int 2)) (wCons (wC (.int 3)) (wCons (wCall W_l_take (wCons (wVar 0) (wCons (wC (.int 9)) wNil))) (wCons (wOp (wrIC CPow fun i j => .int (i ^ j.toNat)) (wC (.int 10)) (wC (.int 30))) (wCons (wCall W_l_take (wCons (wVar 0) (wCons (wOp (wrIC CPow fun i j => .int (i ^ j.toNat)) (wC (.int 10)) (wC (.int 30))) wNil))) wNil)))))))) wNil))) (wgName 3))
  (sSeq (sAsg (wLc (wiRng1 (wCons (wCall W_l_take (wCons (wVar 0) (wCons (wC (.int 4)) wNil))) wNil)) (wgName 5) wYes (wCall W_l_step (wCons (wVar 0) (wCons (wVar 1) (wCons (wOp (wrI fun i j => .int (i - j)) (wVar 2) (wC (.int 1))) wNil)))) [5]) (wgName 4))
  (sRet (wTup (wCons (wC (.str "repeat")) (wCons (wVar 3) (wCons (wCall W_l_of (wCons (wVar 0) (wCons (wLst (wCons (wCB wrTupC (wCons (wVar 4) wNil)) (wCons (wVar 4) wNil))) wNil))) wNil))))))))
theorem start_h6 {x y z : D} : startD 6 [x, y, z] = [some x, some y, some z, none, none, none] := rfl
theorem lc_st {tt : WT} {te : WE} {g : WG} {ρ : Sg} {k : List D → Mem → Prop} {n : Nat} {d : Addr} {ks : List Int} {m : Nat} {M : Mem} (hd : Dw M d)
    (hs : ∀ (x : D) (acc : List D) (M2 : Mem) (Ψ : List D → Mem → Prop), Dw M2 d → (∀ s M3, Drn ks m s → Kp d M2 M3 → Ψ (acc ++ [hD s]) M3) → g x ρ M2 (kLc1 tt te acc Ψ))
    (hk : ∀ ss M2, Drns ks m ss → ss.length = n → Kp d M M2 → k (hDs ss) M2) : wLcGo g tt te ρ k (rgD 0 n) [] M := by
  have hl := rgD_len 0 n
  generalize rgD 0 n = L at hl ⊢
  refine lcGo_inv (fun pre post acc M2 => ∃ ss : List HS, acc = hDs ss ∧ Drns ks m ss ∧ ss.length = pre.length ∧ Kp d M M2) ⟨[], by rw [hDs], Drns.nil, rfl, Kp.refl hd⟩ ?_ ?_
  · rintro pre x post acc M2 Ψ e ⟨ss, rfl, h1, h2, kp⟩ hn
    refine hs x _ _ _ kp.dw fun s M3 h3 kp3 => hn _ _ ⟨ss ++ [s], ?_, h1.snoc h3, by rw [List.length_append, List.length_append, h2]; rfl, kp.trans kp3⟩
    rw [hDs_map, hDs_map, List.map_append]; rfl
  · rintro acc M2 ⟨ss, rfl, h1, h2, kp⟩
    exact hk ss M2 h1 (by rw [h2]; omega) kp
theorem r_l_step (n : Nat) : ∀ ds M Φ, W_l_step (n + 1) ds M Φ → w_l_step (W_l_step n) (endsD Φ) (startD 6 ds) M := by
  intro ds M Φ ⟨d, ks, m, eds, hd, ⟨⟨k0, kl, kb⟩, hm, hn⟩, k⟩
  subst eds
  have kpos : 0 < ks.length := List.length_pos_iff.mpr k0
  have key : ∀ M1, Kp d M M1 → W_l_of [.ref d, .lst (ks.map D.int)] M1 (endsD Φ).rt := fun M1 kp1 =>
    W_of_go kp1.dw (by rw [List.length_map]; exact kpos) (by rw [List.length_map]; omega) fun x M2 hx kp2 => by
      obtain ⟨i, rfl, hi⟩ := int_in hx
      have := k (.key i) M2 (Drn.key hi (kb i hi)) (kp1.trans kp2)
      rw [hD] at this
      exact this
  unfold w_l_step
  rw [start_h6]
  wp_walk using e_eqI
  by_cases c0 : (m : Int) = 0
  · wp_walk using decide_eq_true c0
    exact key M (Kp.refl hd)
  wp_walk using decide_eq_false c0
  obtain ⟨q, rfl⟩ : ∃ q : Nat, m = q + 1 := ⟨m - 1, by omega⟩
  refine W_take_go hd (by decide) (by decide) fun r M1 r0 r1 kp1 => ?_
  walk_at "vl"
  by_cases c1 : 0 < r
  · wp_walk using decide_eq_true c1
    exact key M1 kp1
  wp_walk using decide_eq_false c1
  refine W_take_go kp1.dw (by decide) (by decide) fun r2 M2 r20 r21 kp2 => ?_
  walk_at "vl"
  refine ⟨⟨by decide, by decide⟩, ⟨by decide, by decide⟩, ?_⟩
  refine W_take_go kp2.dw (by decide) (by decide) fun r3 M3 r30 r31 kp3 => ?_
  walk_at "vl"
  refine ⟨(show (7 : Nat) ≤ lim by decide), ?_⟩
  refine W_of_go kp3.dw (show (0 : Nat) < 7 by decide) (show (7 : Nat) ≤ 100000 by decide) fun x M4 hx kp4 => ?_
  obtain ⟨c, rfl, hc⟩ : ∃ c : Int, x = .int c ∧ (0 ≤ c ∧ c ≤ 10 ^ 30) := by
    simp only [List.mem_cons, List.not_mem_nil, or_false] at hx
    rcases hx with rfl | rfl | rfl | rfl | rfl | rfl | rfl
    · exact ⟨_, rfl, by decide, by decide⟩
    · exact ⟨_, rfl, by decide, by decide⟩
    · exact ⟨_, rfl, by decide, by decide⟩
    · exact ⟨_, rfl, by decide, by decide⟩
    · exact ⟨_, rfl, by omega, by omega⟩
    · exact ⟨_, rfl, by decide, by decide⟩
    · exact ⟨_, rfl, r30, Int.le_of_lt r31⟩
  walk_at "vl"
  refine W_take_go kp4.dw (by decide) (by decide) fun r4 M5 r40 r41 kp5 => ?_
  walk_at "vl"
  refine ⟨⟨by omega, by omega⟩, by rw [rgD_len]; unfold lim; omega, ?_⟩
  obtain ⟨n, rfl⟩ : ∃ p : Nat, n = p + 1 := ⟨n - 1, by omega⟩
  refine lc_st (ks := ks) (m := q) (d := d) kp5.dw (fun x acc M6 Ψ hd6 hn6 => ?_) fun ss M6 hss hsl kp6 => ?_
  · walk_at "vl"
    rw [show ((q + 1 : Nat) : Int) - 1 = (q : Int) by omega]
    refine ⟨d, ks, q, rfl, hd6, ⟨⟨k0, kl, kb⟩, by omega, by omega⟩, fun s M7 h7 kp7 => ?_⟩
    walk_at "vl"
    exact hn6 s M7 h7 kp7
  · walk_at "vl"
    refine ⟨(show (2 : Nat) ≤ lim by decide), ?_⟩
    refine W_of_go kp6.dw (show (0 : Nat) < 2 by decide) (show (2 : Nat) ≤ 100000 by decide) fun x M7 hx kp7 => ?_
    walk_at "vl"
    refine ⟨(show (3 : Nat) ≤ lim by decide), ?_⟩
    have kp := ((((((kp1.trans kp2).trans kp3).trans kp4).trans kp5).trans kp6).trans kp7)
    simp only [List.mem_cons, List.not_mem_nil, or_false] at hx
    have fin := fun b : Bool => k (.rep 0 c b ss) M7 (Drn.rep hss (by omega) hc) kp
    simp only [hD] at fin
    rcases hx with rfl | rfl
    · exact fin true
    · exact fin false
def W_l_history : W3 := fun ds M Φ => ∃ (d : Addr) (ks : List Int) (most : Int) (m : Nat), ds = [.ref d, .lst (ks.map D.int), .int most, .int m] ∧ Dw M d ∧ (KsOk ks ∧ m ≤ 4 ∧ 0 ≤ most ∧ most ≤ 100) ∧ ∀ ss M', Drns ks m ss → (ss.length : Int) ≤ most → Kp d M M' → Φ (.lst (hDs ss)) M'
def w_l_history : WS := (sRet (wLc (wiRng1 (wCons (wCall W_l_take (wCons (wVar 0) (wCons (wOp wrAdd (wVar 2) (wC (.int 1))) wNil))) wNil)) (wgName 4) wYes (wCall (W_l_step 5) (wCons (wVar 0) (wCons (wVar 1) (wCons (wVar 3) wNil)))) [4]))
theorem start_h45 {x y z w : D} : startD 5 [x, y, z, w] = [some x, some y, some z, some w, none] := rfl
theorem r_l_history : ∀ ds M Φ, W_l_history ds M Φ → w_l_history (endsD Φ) (startD 5 ds) M := by
  intro ds M Φ ⟨d, ks, most, m, eds, hd, ⟨hk, hm, m0, m1⟩, k⟩
  subst eds
  unfold w_l_history
  rw [start_h45]
  walk_at "vl"
  refine W_take_go hd (by omega) (by omega) fun r M1 r0 r1 kp1 => ?_
  walk_at "vl"
  refine ⟨⟨by omega, by omega⟩, by rw [rgD_len]; unfold lim; omega, ?_⟩
  refine lc_st (ks := ks) (m := m) (d := d) kp1.dw (fun x acc M6 Ψ hd6 hn6 => ?_) fun ss M6 hss hsl kp6 => ?_
  · walk_at "vl"
    refine ⟨d, ks, m, rfl, hd6, ⟨hk, hm, by decide⟩, fun s M7 h7 kp7 => ?_⟩
    walk_at "vl"
    exact hn6 s M7 h7 kp7
  · walk_at "vl"
    exact k ss M6 hss (by omega) (kp1.trans kp6)
def W_l_written : Nat → W3
  | 0 => fun _ _ _ => False
  | n + 1 => fun ds M Φ => ∃ (ss : List HS) (b : Bool), ds = [seqD b (hDs ss)] ∧ (oks ss ∧ dps ss ≤ n ∧ wrs ss ≤ 100000) ∧ Φ (.int (wrs ss)) M
def w_l_written (W_l_written : W3) : WS := (sRet (wCB wrSum (wCons (wLc (wiSeq (wVar 0)) (wgName 1) wYes (wIfE (wTest (wCB wrIsi (wCons (wVar 1) (wCons (wC (.ty "int")) wNil)))) (wC (.int 1)) (wOp wrAdd (wC (.int 1)) (wCall W_l_written (wCons (wOp wrIx (wVar 1) (wC (.int 2))) wNil)))) [1]) wNil)))
theorem r_l_written (n : Nat) : ∀ ds M Φ, W_l_written (n + 1) ds M Φ → w_l_written (W_l_written n) (endsD Φ) (startD 2 ds) M := by
  intro ds M Φ ⟨ss, b, eds, ⟨h1, h2, h3⟩, k⟩
  subst eds
  unfold w_l_written
  rw [start_h2a]
  wp_walk using e_seqH
  refine ⟨by rw [hDs_len]; have := wrs_len (ss := ss); unfold lim; omega, ?_⟩
  refine lc_hs (fun pre post acc M2 => acc = (pre.map fun s => (s.wr : Int)).map D.int ∧ M2 = M) ⟨rfl, rfl⟩ ?_ ?_
  · rintro pre x post acc M2 Ψ' e ⟨rfl, rfl⟩ hnn
    have mem : x ∈ ss := by rw [e]; exact List.mem_append_right _ (List.mem_cons_self ..)
    have ox := oks_iff.mp h1 x mem
    have dx := Nat.le_trans (dps_mem mem) h2
    have wx : x.wr ≤ 100000 := by rw [e, wrs_app, wrs] at h3; omega
    cases x with
    | odd o => rw [HS.ok] at ox; exact ox.elim
    | key z =>
      rw [hD]
      wp_walk using e_isiK
      exact hnn _ _ ⟨by rw [List.map_append, List.map_append]; rfl, rfl⟩
    | rep w c b2 s2 =>
      rw [HS.ok] at ox
      rw [HS.dp] at dx
      rw [HS.wr] at wx
      rw [hD]
      obtain ⟨m, rfl⟩ : ∃ m, n = m + 1 := ⟨n - 1, by omega⟩
      wp_walk using e_isiN, at3c
      refine ⟨s2, b2, rfl, ⟨ox.2, by omega, by omega⟩, ?_⟩
      wp_walk using e_addI
      refine hnn _ _ ⟨?_, rfl⟩
      rw [List.map_append, List.map_append]
      congr 1
  · rintro acc M2 ⟨rfl, rfl⟩
    wp_walk using e_sumL
    have : (ss.map fun s => (s.wr : Int)).sum = wrs ss := by
      clear h1 h2 h3 k
      induction ss with
      | nil => rfl
      | cons s r ih => rw [List.map_cons, List.sum_cons, ih, wrs]; omega
    rw [this]
    exact k
end VL
namespace VL
open PySem PySem.Spec PyProof.Rows L2
def fzr (M : Mem) : D → D
  | .ref a => match M a with | some (.lst es) => .lst es | _ => .ref a
  | d => d
def fz1 (M : Mem) : D → D
  | .tup ds => .tup (ds.map (fzr M))
  | d => fzr M d
theorem fzr_ref {M : Mem} {a : Addr} {es : List D} (h : M a = some (.lst es)) : fzr M (.ref a) = .lst es := by unfold fzr; simp only [h]
theorem fz1_ref {M : Mem} {a : Addr} {es : List D} (h : M a = some (.lst es)) : fz1 M (.ref a) = .lst es := fzr_ref h
def frzH (Hf : Hp) (M : Mem) (H : Hp) : Hp := fun b => match M b with | some (.lst _) => H b | _ => Hf b
section
variable {K : PySem.W.Frag} {Hf : Hp} {M : Mem} {H : Hp}
theorem frzH_l {a : Addr} {es : List D} (h : M a = some (.lst es)) : frzH Hf M H a = H a := by unfold frzH; rw [h]
theorem frzH_or (a : Addr) : frzH Hf M H a = H a ∧ (∃ es, M a = some (.lst es)) ∨ frzH Hf M H a = Hf a := by
  unfold frzH
  split
  · rename_i es h; exact .inl ⟨rfl, _, h⟩
  · exact .inr rfl
theorem frzH_ex (W : Wr K Hf M H) : Ex Hf (frzH Hf M H) := fun a o h => by
  rcases frzH_or (Hf := Hf) (M := M) (H := H) a with ⟨_, es, e⟩ | e
  · rw [(W.mem a _ e).1] at h; cases h
  · rw [e]; exact h
theorem frzH_wr (W : Wr K Hf M H) : Wr K (frzH Hf M H) (fun _ => none) H :=
  ⟨fun a o h => by
    rcases frzH_or (Hf := Hf) (M := M) (H := H) a with ⟨e, _⟩ | e
    · rw [← e]; exact h
    · exact W.fro a o (by rw [← e]; exact h), (fun a m h => nomatch h), fun a ns h => frzH_ex W a _ (W.tps a ns h)⟩
theorem fzr_isD (W : Wr K Hf M H) {d : D} {v : V} (i : IsD K Hf d v) : IsD K (frzH Hf M H) (fzr M d) v := by
  cases d with
  | ref a =>
    by_cases h : ∃ es, M a = some (.lst es)
    · obtain ⟨es, h⟩ := h
      rw [fzr_ref h]
      obtain ⟨q1, o, q2, q3⟩ := W.mem a _ h
      obtain ⟨xs, rfl, q4⟩ := q3
      rw [isD_ref.mp i]
      exact isD_lst.mpr ⟨a, xs, rfl, by rw [frzH_l h]; exact q2, IsDs.mono (frzH_ex W) _ _ q4⟩
    · have e : fzr M (.ref a) = .ref a := by
        unfold fzr
        simp only
        split
        · rename_i es e; exact absurd ⟨es, e⟩ h
        · rfl
      rw [e]
      exact IsD.mono (frzH_ex W) _ _ i
  | _ => exact IsD.mono (frzH_ex W) _ _ i
theorem fzr_isDs (W : Wr K Hf M H) : ∀ {ds : List D} {vs : List V}, IsDs K Hf ds vs → IsDs K (frzH Hf M H) (ds.map (fzr M)) vs
  | [], vs, i => by rw [isDs_nil_inv i]; exact isDs_nil
  | d :: ds, vs, i => by
    obtain ⟨v, r, rfl, i1, i2⟩ := isDs_cons_inv i
    exact isDs_cons (fzr_isD W i1) (fzr_isDs W i2)
theorem fz1_isD (W : Wr K Hf M H) {d : D} {v : V} (i : IsD K Hf d v) : IsD K (frzH Hf M H) (fz1 M d) v := by
  cases d with
  | tup ds =>
    obtain ⟨a, xs, rfl, q1, q2⟩ := isD_tup.mp i
    exact isD_tup.mpr ⟨a, xs, rfl, q1.up (frzH_ex W), fzr_isDs W q2⟩
  | _ => exact fzr_isD W i
theorem fz1_isDs (W : Wr K Hf M H) : ∀ {ds : List D} {vs : List V}, IsDs K Hf ds vs → IsDs K (frzH Hf M H) (ds.map (fz1 M)) vs
  | [], vs, i => by rw [isDs_nil_inv i]; exact isDs_nil
  | d :: ds, vs, i => by
    obtain ⟨v, r, rfl, i1, i2⟩ := isDs_cons_inv i
    exact isDs_cons (fz1_isD W i1) (fz1_isDs W i2)
theorem flat_any {Hf' : Hp} {d : D} {v : V} (f : flatD d = true) (i : IsD K Hf d v) : IsD K Hf' d v := by
  cases d <;> try cases f
  case non => exact isD_non.mpr (isD_non.mp i)
  case bl => exact isD_bl.mpr (isD_bl.mp i)
  case int => exact isD_int.mpr (isD_int.mp i)
  case str => exact isD_str.mpr (isD_str.mp i)
theorem frz_back {Hf2 : Hp} {M2 : Mem} {H2 : Hp} (W : Wr K Hf M H) (W2 : Wr K Hf2 M2 H2) (s : Stp (frzH Hf M H) (fun _ => none) H Hf2 M2 H2) : Wr K (grw Hf H H2) M H2 ∧ Stp Hf M H (grw Hf H H2) M H2 := by
  have all : Ex H H2 := fun a o h => by
    cases q : frzH Hf M H a with
    | none => exact (s.out a o h q rfl).1
    | some o2 =>
      have e2 : H a = some o2 := by
        rcases frzH_or (Hf := Hf) (M := M) (H := H) a with ⟨e, _⟩ | e
        · rw [← e]; exact q
        · exact W.fro a o2 (by rw [← e]; exact q)
      rw [h] at e2
      cases e2
      exact W2.fro a o (s.ex a o q)
  obtain ⟨w, st⟩ := (⟨W, Stp.refl⟩ : Wd K ⟨Hf, M, H⟩ Hf M H).grow all
  exact ⟨w.toWr, st⟩
end
section
variable {X : Cx} {S₀ : W0} {k : Nat} {f : Addr} {fd : FuncData} {ps : List Str} {Wf : W3} {x : Str} {p pos : Pos} {e : Expr} {es : List Expr} {wa : WA}
end
section
variable {ρ : Sg} {M : Mem} {Φ : KD} {Wf : W3} {wa : WA} {ds : List D} {a : Addr} {es : List D} {d : D}
end
section
variable {X : Cx} {S₀ : W0}
end
section
open PySem.W
variable {K : Frag} {C c P : Addr}
abbrev only (a : Addr) (o : Obj) : PySem.W.Frag := [(a, o)]
theorem only_at {a : Addr} {o : Obj} : (only a o).lookup a = some o := by unfold only; rw [List.lookup_cons]; simp
def codeHdB (vs : Array Value) (c P : Addr) : Bool := codeHdIn (only c ⟨.type "code", none, .fields vs, #[]⟩) c P
theorem codeHd_look {d : Option Addr} {vs : Array Value} {sl : Array (Option Value)} (h : K.lookup c = some ⟨.type "code", d, .fields vs, sl⟩) (e : codeHdB vs c P = true) : codeHdIn K c P = true := by
  unfold codeHdB codeHdIn at e; rw [only_at] at e; unfold codeHdIn; rw [h]; exact e
def excInitB (cd : ClassData) (sl : Array (Option Value)) (C : Addr) (bmB : List Value) (newId : String) : Bool := excInitIn (only C ⟨.type "type", none, .cls cd, sl⟩) C bmB newId
theorem excInit_look {d : Option Addr} {cd : ClassData} {sl : Array (Option Value)} {bmB : List Value} {newId : String} (h : K.lookup C = some ⟨.type "type", d, .cls cd, sl⟩) (e : excInitB cd sl C bmB newId = true) : excInitIn K C bmB newId = true := by
  unfold excInitB excInitIn at e; rw [only_at] at e; unfold excInitIn; rw [h]; exact e
def excOverB (cd : ClassData) (C : Addr) (bmB : List Value) : Bool := excOver (only C ⟨.type "type", none, .cls cd, #[]⟩) C bmB
theorem excOver_look {d : Option Addr} {cd : ClassData} {sl : Array (Option Value)} {bmB : List Value} (h : K.lookup C = some ⟨.type "type", d, .cls cd, sl⟩) (e : excOverB cd C bmB = true) : excOver K C bmB = true := by
  unfold excOverB excOver clsIn at e; rw [only_at] at e; unfold excOver clsIn; rw [h]; exact e
theorem exmOne_look {C1 : Addr} {e : Value} {d : Option Addr} {cd : ClassData} {sl : Array (Option Value)} {b : Bool} (hl : K.lookup C1 = some ⟨e, d, .cls cd, sl⟩) (h1 : subIn K (.ref C1) (.type "BaseException") = some true) (h2 : typeIn K (.ref C1) = some (.type "type")) (h3 : subIn K (.ref C) (.ref C1) = some b) : exmOne K (.ref C) (.ref C1) = some b := by
  unfold exmOne
  rw [h1, if_pos (by rfl)]
  unfold kitCls clsIn
  simp only [hl, h2]
  rw [if_pos (by rfl)]
  exact h3
theorem exmAny_look {C1 C2 : Addr} {b1 b2 r : Bool} (h1 : exmOne K (.ref C) (.ref C1) = some b1) (h2 : exmOne K (.ref C) (.ref C2) = some b2) (h : (b1 || b2) = r) : exmAny K (.ref C) [.ref C1, .ref C2] = some r := by
  unfold exmAny exmAny exmAny
  rw [h1, h2]
  subst h
  simp
end
end VL
namespace VL
open PySem PySem.Spec PyProof.Rows L2 XL
mutual
def tupD : D → Bool
  | .non => true
  | .bl _ => true
  | .int _ => true
  | .str _ => true
  | .tup ds => tupDs ds
  | _ => false
def tupDs : List D → Bool
  | [] => true
  | d :: ds => tupD d && tupDs ds
end
section
variable {K : PySem.W.Frag} {Hf2 Hf3 : Hp}
theorem TupAt.outs (hk : ∀ b o, Hf2 b = some o → (∀ xs, o ≠ .lst xs) → Hf3 b = some o) {a : Addr} {xs : List V} (h : TupAt K Hf2 a xs) : TupAt K Hf3 a xs := by
  rcases h with h | ⟨o, ns, h, h2⟩ | h
  · exact Or.inl (hk a _ h fun xs e => by cases e)
  · exact Or.inr (Or.inl ⟨o, ns, hk a _ h (fun xs e => by cases e), h2⟩)
  · exact Or.inr (Or.inr h)
mutual
theorem tup_out (hk : ∀ b o, Hf2 b = some o → (∀ xs, o ≠ .lst xs) → Hf3 b = some o) : ∀ (d : D) (v : V), tupD d = true → IsD K Hf2 d v → IsD K Hf3 d v
  | .non, v, _, i => isD_non.mpr (isD_non.mp i)
  | .bl _, v, _, i => isD_bl.mpr (isD_bl.mp i)
  | .int _, v, _, i => isD_int.mpr (isD_int.mp i)
  | .str _, v, _, i => isD_str.mpr (isD_str.mp i)
  | .tup ds, v, h, i => by
    obtain ⟨a, xs, e, q1, q2⟩ := isD_tup.mp i
    exact isD_tup.mpr ⟨a, xs, e, q1.outs hk, tups_out hk ds xs (by rw [tupD] at h; exact h) q2⟩
  | .ref _, v, h, i => by cases h
  | .ty _, v, h, i => by cases h
  | .lst _, v, h, i => by cases h
  | .fz _, v, h, i => by cases h
  | .tn _, v, h, i => by cases h
  | .tk _, v, h, i => by cases h
theorem tups_out (hk : ∀ b o, Hf2 b = some o → (∀ xs, o ≠ .lst xs) → Hf3 b = some o) : ∀ (ds : List D) (vs : List V), tupDs ds = true → IsDs K Hf2 ds vs → IsDs K Hf3 ds vs
  | [], vs, _, i => by rw [isDs_nil_inv i]; exact isDs_nil
  | d :: ds, vs, h, i => by
    obtain ⟨v, r, rfl, i1, i2⟩ := isDs_cons_inv i
    rw [tupDs, Bool.and_eq_true] at h
    exact isDs_cons (tup_out hk d v h.1 i1) (tups_out hk ds r h.2 i2)
end
end
section
variable {K : PySem.W.Frag} {Hf : Hp} {M : Mem} {H : Hp} {Hf2 : Hp} {M2 : Mem} {H2 : Hp}
theorem frz_more (W : Wr K Hf M H) (W2 : Wr K Hf2 M2 H2) (s : Stp (frzH Hf M H) (fun _ => none) H Hf2 M2 H2) {b : Addr} {o : HO} (h : Hf2 b = some o) (hn : ∀ xs, o ≠ .lst xs) : grw Hf H H2 b = some o := by
  cases hb : H b with
  | none => rw [grw_new hb]; exact W2.fro b o h
  | some o2 =>
    rw [grw_old hb]
    cases q : frzH Hf M H b with
    | none => rw [(s.out b o2 hb q rfl).2.1] at h; cases h
    | some o3 =>
      have e := s.ex b o3 q
      rw [h] at e
      cases e
      rcases frzH_or (Hf := Hf) (M := M) (H := H) b with ⟨e2, es, e3⟩ | e2
      · obtain ⟨_, o4, h4, xs, rfl, _⟩ := W.mem b _ e3
        rw [e2, h4] at q
        cases q
        exact absurd rfl (hn xs)
      · rw [← e2]; exact q
theorem frz_new (W2 : Wr K Hf2 M2 H2) (s : Stp (frzH Hf M H) (fun _ => none) H Hf2 M2 H2) {q : Addr} {m : MO} (h : M2 q = some m) : H q = none := by
  cases hq : H q with
  | none => rfl
  | some o =>
    cases z : frzH Hf M H q with
    | none => rw [(s.out q o hq z rfl).2.2] at h; cases h
    | some o3 =>
      have := s.ex q o3 z
      rw [(W2.mem q m h).1] at this
      cases this
theorem frz_list (W : Wr K Hf M H) (W2 : Wr K Hf2 M2 H2) (s : Stp (frzH Hf M H) (fun _ => none) H Hf2 M2 H2) {q : Addr} {es : List D} (h : M2 q = some (.lst es)) (ht : tupDs es = true) :
    Wr K (fun b => if b = q then none else grw Hf H H2 b) (put M q (.lst es)) H2 ∧ Stp Hf M H (fun b => if b = q then none else grw Hf H H2 b) (put M q (.lst es)) H2 ∧ M q = none := by
  have hq := frz_new W2 s h
  have hMq : M q = none := by
    cases e : M q with
    | none => rfl
    | some m => obtain ⟨_, o, ho, _⟩ := W.mem q m e; rw [hq] at ho; cases ho
  have hFq : Hf q = none := by
    cases e : Hf q with
    | none => rfl
    | some o => have := W.fro q o e; rw [hq] at this; cases this
  obtain ⟨w1, s1⟩ := frz_back W W2 s
  have ne : ∀ b o, H b = some o → b ≠ q := fun b o e z => by rw [z, hq] at e; cases e
  have ex3 : Ex Hf (fun b => if b = q then none else grw Hf H H2 b) := fun b o e => by
    have : b ≠ q := ne b o (W.fro b o e)
    show (if b = q then none else grw Hf H H2 b) = some o
    rw [if_neg this]
    exact s1.ex b o e
  obtain ⟨_, o, ho, xs, rfl, hx⟩ := W2.mem q _ h
  refine ⟨⟨fun b o e => ?_, fun b m e => ?_, fun b ns e => ?_⟩, ⟨ex3, fun b o e1 e2 e3 => ?_⟩, hMq⟩
  · by_cases c : b = q
    · simp only [c, if_true] at e; cases e
    · simp only [c, if_false] at e; exact w1.fro b o e
  · by_cases c : b = q
    · subst c
      rw [put_same] at e
      cases e
      refine ⟨by simp, .lst xs, ho, xs, rfl, tups_out (fun b' o' e' n' => ?_) es xs ht hx⟩
      have : b' ≠ b := fun z => by
        have := W2.fro b' o' e'
        rw [z, ho] at this
        cases this
        exact n' xs rfl
      show (if b' = b then none else grw Hf H H2 b') = some o'
      rw [if_neg this]
      exact frz_more W W2 s e' n'
    · rw [put_ne c] at e
      obtain ⟨_, o, h2, h3⟩ := W.mem b m e
      obtain ⟨h4, o5, h6, _⟩ := w1.mem b m e
      have hH2 := (s1.out b o h2 (W.mem b m e).1)
      refine ⟨by simp only [c, if_false]; exact h4, o5, h6, ?_⟩
      have eo : o5 = o := by
        have all : H2 b = some o := by
          cases z : frzH Hf M H b with
          | none => exact (s.out b o h2 z rfl).1
          | some o3 =>
            have e3 : H b = some o3 := by
              rcases frzH_or (Hf := Hf) (M := M) (H := H) b with ⟨e, _⟩ | e
              · rw [← e]; exact z
              · exact W.fro b o3 (by rw [← e]; exact z)
            rw [h2] at e3
            cases e3
            exact W2.fro b _ (s.ex b _ z)
        rw [h6] at all
        cases all
        rfl
      rw [eo]
      exact h3.mono ex3
  · by_cases c : b = q
    · rw [c, ho] at e; cases e
    · simp only [c, if_false]
      exact w1.tps b ns e
  · have c : b ≠ q := ne b o e1
    obtain ⟨h1, h2, h3⟩ := s1.out b o e1 e2 e3
    exact ⟨h1, by simp only [c, if_false]; exact h2, by rw [put_ne c]; exact h3⟩
end
section
variable {X : Cx} {S₀ : W0} {k : Nat} {f : Addr} {fd : FuncData} {ps : List Str} {Wf : W3} {x : Str} {p pos : Pos} {e : Expr} {es : List Expr} {wa : WA}
end
section
variable {ρ : Sg} {M M' : Mem} {Φ : KD} {Wf : W3} {wa : WA} {ds : List D} {a : Addr} {es : List D} {d : D}
end
def kCallFX (Wf : W4) (Ψ : XC) (Φ : KD) : List D → Mem → Prop := fun ds M => Wf (ds.map (fz1 M)) (fun _ => none) (fun d M' => (tupD d = true ∧ Φ d M) ∨ ∃ q es, d = .ref q ∧ M' q = some (.lst es) ∧ tupDs es = true ∧ ∀ p, M p = none → Φ (.ref p) (put M p (.lst es))) (fun tag x _ => flatD x = true ∧ Ψ tag x M)
def wCallFX (Wf : W4) (Ψ : XC) (wa : WA) : WE := fun ρ M Φ => wa ρ M (kCallFX Wf Ψ Φ)
section
variable {X : Cx} {S₀ : W0} {k : Nat} {f : Addr} {fd : FuncData} {ps : List Str} {Wf : W4} {Ψ : XC} {E : XK} {x : Str} {p pos : Pos} {e : Expr} {es : List Expr} {wa : WA}
theorem ve_callFX (hX : KnX X.K X.mg S₀ Ψ E) (tk : L2N.Takes X (fun cls d _ H => E cls d H)) (F : FnOk X.prog X.w X.K X.mg X.base (L2N.CX X.prog X.w) k f fd ps (spX X.K X.mg Wf)) (hr : Room k X.A) (hg : Gl X x) (hm : X.mg x = some (.ref f)) (hk : PySem.W.keepIn X.K (.ref f) = true) (hb : Binds X.K fd ps [])
    (ha : VA X S₀ (e :: es) wa) (hdb : (x == ("__debug__" : Str)) = false := by decide) (he : starEach (e :: es) X.env = (false, eval e X.env) :: starEach es X.env := by rfl) (hpl : (backTo pos (starEach es X.env)).any (·.1) = false := by rfl) :
    VE X S₀ (.Call (.Name x p) (e :: es) [] pos) (wCallFX Wf Ψ wa) :=
  PE.imp (pe_call F hr hg hm hk hb .nil (L2N.passes_call tk fun _ _ _ _ h => h) ha hdb he hpl) fun σ H Q ⟨Hf, ρ, M, Φ, W, e, h, k⟩ =>
    ⟨Hf, ρ, M, _, W, e, h, fun dd M1 vs Hf1 H1 h1 W1 s1 i1 => ⟨frzH Hf1 M1 H1, fun _ => none, dd.map (fz1 M1), _, _, frzH_wr W1.toWr, by rw [List.append_nil]; exact fz1_isDs W1.toWr i1, h1, fun d M' v Hf' H' q W' s' i => by
      rcases q with ⟨ht, q⟩ | ⟨q, es, rfl, h2, ht, go⟩
      · obtain ⟨w2, s2⟩ := frz_back W1.toWr W' s'
        exact ((k.at s1).raw W1) d M1 v _ H' q w2 s2 (tup_out (fun b o e n => frz_more W1.toWr W' s' e n) d v ht i)
      · obtain ⟨w2, s2, hn⟩ := frz_list W1.toWr W' s' h2 ht
        exact ((k.at s1).raw W1) (.ref q) _ v _ H' (go q hn) w2 s2 (isD_ref.mpr (isD_ref.mp i)), fun tag x C M' v d Hf' H' hm' p W' hd i => by
      obtain ⟨w2, s2⟩ := frz_back W1.toWr W'.toWr W'.st
      exact hX tag x C M1 v d _ H' hm' p.2 ⟨w2, W1.st.trans s2⟩ (frz_more W1.toWr W'.toWr W'.st hd fun xs e => by cases e) (flat_any p.1 i)⟩⟩
end
section
variable {ρ : Sg} {M M' : Mem} {Φ : KD} {Ψ : XC} {Wf : W4} {we : WE} {wa : WA} {ds : List D} {a : Addr} {es : List D} {d : D}
theorem e_callFX : wCallFX Wf Ψ wa ρ M Φ = wa ρ M (kCallFX Wf Ψ Φ) := rfl
theorem e_callFXk : kCallFX Wf Ψ Φ ds M = Wf (ds.map (fz1 M)) (fun _ => none) (fun d M' => (tupD d = true ∧ Φ d M) ∨ ∃ q es, d = .ref q ∧ M' q = some (.lst es) ∧ tupDs es = true ∧ ∀ p, M p = none → Φ (.ref p) (put M p (.lst es))) (fun tag x _ => flatD x = true ∧ Ψ tag x M) := rfl
end
end VL
namespace VL
open PySem PySem.Spec PyProof.Rows L2 XL
variable {S₀ : W0}
structure ClsN (K : PySem.W.Frag) (nm : Str) (C : Addr) : Prop where
  ns : PySem.W.nsIn K mainGlobals nm = some (some (.ref C))
  cl : Cls K C
section
variable {K : PySem.W.Frag} {Hf Hf' : Hp} {M : Mem} {H : Hp} {a C : Addr} {nm : Str} {fs : List (Str × D)}
theorem ClsN.eq (n : ClsN K nm C) {C' : Addr} (h : PySem.W.nsIn K mainGlobals nm = some (some (.ref C'))) : C' = C := by
  have e := n.ns.symm.trans h
  injection e with e; injection e with e; injection e with e; exact e.symm
theorem ins_of (W : Wd K S₀ Hf M H) (n : ClsN K nm C) (h : M a = some (.ins nm fs)) : ∃ dx vs, H a = some (.ins C dx vs) ∧ Hf dx = some (.own a) ∧ IsKs K Hf fs vs := by
  obtain ⟨_, o, ho, C', dx, vs, rfl, hn, hd, hk⟩ := W.mem a _ h
  rw [n.eq hn] at ho
  exact ⟨dx, vs, ho, hd, hk⟩
theorem look_f {f : Str} : ∀ {fs : List (Str × D)} {vs : List (Str × V)}, IsKs K Hf fs vs → (look fs f = none → vs.lookup f = none) ∧ ∀ d, look fs f = some d → ∃ v, vs.lookup f = some v ∧ IsD K Hf d v
  | [], vs, h => by
    have h : vs = [] := h
    subst h
    exact ⟨fun _ => rfl, fun d e => by simp [look] at e⟩
  | (g, d) :: r, vs, h => by
    obtain ⟨v, t, rfl, h2, h3⟩ := h
    by_cases e : g = f
    · have e1 : look ((g, d) :: r) f = some d := by simp [look, e]
      have e2 : List.lookup f ((g, v) :: t) = some v := by rw [List.lookup_cons]; simp [e]
      rw [e1, e2]
      exact ⟨(fun z => nomatch z), fun d' z => ⟨v, rfl, by cases z; exact h2⟩⟩
    · have e1 : look ((g, d) :: r) f = look r f := by simp [look, e]
      have e2 : List.lookup f ((g, v) :: t) = List.lookup f t := by
        rw [List.lookup_cons]
        have : (f == g) = false := beq_eq_false_iff_ne.mpr (Ne.symm e)
        rw [this]
      rw [e1, e2]
      exact look_f h3
def putFD (f : Str) (d : D) : List (Str × D) → List (Str × D)
  | [] => [(f, d)]
  | (g, x) :: r => if g = f then (g, d) :: r else (g, x) :: putFD f d r
theorem IsKs.putF {f : Str} {d : D} {v : V} (hd : IsD K Hf d v) : ∀ {fs : List (Str × D)} {vs : List (Str × V)}, IsKs K Hf fs vs → IsKs K Hf (putFD f d fs) (putF f v vs)
  | [], vs, h => by
    have h : vs = [] := h
    subst h
    exact ⟨v, [], rfl, hd, rfl⟩
  | (g, d0) :: r, vs, h => by
    obtain ⟨v0, t, rfl, h2, h3⟩ := h
    by_cases e : g = f
    · rw [show putFD f d ((g, d0) :: r) = (g, d) :: r by simp [putFD, e], show L2.putF f v ((g, v0) :: t) = (g, v) :: t by simp [L2.putF, e]]
      exact ⟨v, t, rfl, hd, h3⟩
    · rw [show putFD f d ((g, d0) :: r) = (g, d0) :: putFD f d r by simp [putFD, e], show L2.putF f v ((g, v0) :: t) = (g, v0) :: L2.putF f v t by simp [L2.putF, e]]
      exact ⟨v0, _, rfl, h2, IsKs.putF hd h3⟩
end
def kFld (nm f : Str) (Φ : KD) : KD := fun x M => ∃ a fs d, x = .ref a ∧ M a = some (.ins nm fs) ∧ look fs f = some d ∧ Φ d M
def wFld (nm f : Str) (wo : WE) : WE := fun ρ M Φ => wo ρ M (kFld nm f Φ)
def kSetF (nm f : Str) (d : D) (PM : Mem → Prop) : KD := fun x M => ∃ a fs, x = .ref a ∧ M a = some (.ins nm fs) ∧ fs.length ≤ 30 ∧ PM (put M a (.ins nm (putFD f d fs)))
def wgFld (nm f : Str) (wo : WE) : WG := fun d ρ M P => wo ρ M (kSetF nm f d (P ρ))
section
variable {X : Cx} {o : Expr} {wo : WE} {pos : Pos} {nm f : Str} {C : Addr} {vs : List Nat}
theorem ve_fld (n : ClsN X.K nm C) (na : NoAttr X.K C f) (ho : VE X S₀ o wo) (hb : attributeBase o f X.env (eval o X.env) = eval o X.env := by rfl) : VE X S₀ (.Attribute o f pos) (wFld nm f wo) :=
  PE.imp (pe_fld ho hb) fun σ H Q ⟨Hf, ρ, M, Φ, W, e, h, k⟩ => by
    refine ⟨Hf, ρ, M, _, W, e, h, fun d M1 v Hf1 H1 ⟨a, fs, x, ex, ha, hl, q⟩ W1 s1 i1 => ?_⟩
    subst ex
    obtain ⟨dx, ws, hH, _, hk⟩ := ins_of W1 n ha
    obtain ⟨u, hu, iu⟩ := (look_f hk).2 _ hl
    exact ⟨a, C, dx, ws, u, isD_ref.mp i1, hH, n.cl, na, hu, (k.at s1).go W1 q iu⟩
theorem vg_fld (n : ClsN X.K nm C) (na : NoAttr X.K C f) (ho : VE X S₀ o wo)
    (hb : ∀ v, assign (.Attribute o f pos) X.env v = (do let ov ← holding [v] (eval o X.env); standAt pos.atName; holding [v, ov] (setAttr ov f v); release [v, ov] []) := by intro _; rfl) : VG X S₀ (.Attribute o f pos) (wgFld nm f wo) vs := by
  refine ⟨fun pins s σ H v u Q I ru ⟨Hf, ρ, M, Φ, d, W, e, i1, h, k⟩ => ?_⟩
  rw [hb u]
  have hq : liftE X.K S₀ wo σ H fun x H1 => ∃ a dx fs, x = .ref a ∧ H1 a = some (.ins C dx fs) ∧ fs.length < 1000 ∧ Q σ (upd H1 a (.ins C dx (putF f v fs))) := by
    refine ⟨Hf, ρ, M, _, W, e, h, fun y M1 w Hf1 H1 ⟨a, fs, ex, ha, hl, q⟩ W1 s1 i2 => ?_⟩
    subst ex
    obtain ⟨dx, ws, hH, hdx, hk⟩ := ins_of W1 n ha
    obtain ⟨W2, s2⟩ := W1.chg (o := .ins C dx (putF f v ws)) (m := .ins nm (putFD f d fs)) ha ⟨C, dx, _, rfl, n.ns, hdx, hk.putF (IsD.mono s1.ex _ _ i1)⟩
    exact ⟨a, dx, ws, isD_ref.mp i2, hH, by rw [← hk.len]; omega, k _ _ _ _ _ q W2 (s1.trans s2) (e.mono (s1.trans s2).ex) rfl⟩
  refine wpAny_bind (wpAny_holding (thn (ho.run pins s σ H _ I hq) fun ov s1 ⟨x, H1, I1, r1, a, dx, fs, ex, ea, hl, q⟩ => ?_))
  subst ex
  obtain rfl : ov = Value.ref a := r1
  exact wpAny_bind (wpAny_standAt (wpAny_bind (wpAny_holding (setattr_ok I1 ea n.cl na hl ru fun s2 I2 => wpAny_release ⟨σ, _, I2, q⟩))))
end
def kAugF2 (nm f : Str) (g : Int → Int → Int) (a : Addr) (i : Int) (De : WN) (ρ : Sg) : KD := fun y M => ∃ j fs, y = .int j ∧ M a = some (.ins nm fs) ∧ fs.length ≤ 30 ∧ De.nx ρ (put M a (.ins nm (putFD f (.int (g i j)) fs)))
def kAugF1 (nm f : Str) (g : Int → Int → Int) (wv : WE) (De : WN) (ρ : Sg) : KD := fun x M => ∃ a fs i, x = .ref a ∧ M a = some (.ins nm fs) ∧ look fs f = some (.int i) ∧ wv ρ M (kAugF2 nm f g a i De ρ)
def sAugF (nm f : Str) (wo wv : WE) (g : Int → Int → Int) : WS := fun De ρ M => wo ρ M (kAugF1 nm f g wv De ρ)
section
variable {X : Cx} {o e : Expr} {wo we : WE} {pos pos' tpos : Pos} {nm f : Str} {C : Addr} {op : Operator}
theorem vs_augF {g : Int → Int → Int} (n : ClsN X.K nm C) (na : NoAttr X.K C f) (ho : VE X S₀ o wo) (he : VE X S₀ e we) (hop : InOp X op fun x y H Q => ∃ i j, x = .int i ∧ y = .int j ∧ Q (.int (g i j)) H) : VS X S₀ (.AugAssign (.Attribute o f tpos) op e pos) (sAugF nm f wo we g) :=
  PS.imp (ps_fldaug ho he hop) fun D σ H ⟨Hf, ρ, M, De, W, ev, h, k⟩ => by
    refine ⟨Hf, ρ, M, _, W, ev, h, fun d M1 v Hf1 H1 ⟨a, fs, i, ex, ha, hl, q⟩ W1 s1 i1 => ?_⟩
    subst ex
    obtain ⟨dx, ws, hH, _, hk⟩ := ins_of W1 n ha
    obtain ⟨u, hu, iu⟩ := (look_f hk).2 _ hl
    refine ⟨a, C, dx, ws, u, isD_ref.mp i1, hH, n.cl, na, hu, Hf1, ρ, M1, _, W1, ev.mono s1.ex, q, fun y M2 w Hf2 H2 ⟨j, fs2, ey, ha2, hl2, q2⟩ W2 s2 i2 => ?_⟩
    subst ey
    obtain ⟨dx2, ws2, hH2, hd2, hk2⟩ := ins_of W2 n ha2
    obtain ⟨W3, s3⟩ := W2.chg (o := .ins C dx2 (putF f (.int (g i j)) ws2)) (m := .ins nm (putFD f (.int (g i j)) fs2)) ha2 ⟨C, dx2, _, rfl, n.ns, hd2, hk2.putF (isD_int.mpr rfl)⟩
    exact ⟨i, j, isD_int.mp iu, isD_int.mp i2, dx2, ws2, hH2, by rw [← hk2.len]; omega, k.nx _ _ _ _ _ q2 W3 ((s1.trans s2).trans s3) (ev.mono ((s1.trans s2).trans s3).ex)⟩
theorem vs_augFadd (n : ClsN X.K nm C) (na : NoAttr X.K C f) (ho : VE X S₀ o wo) (he : VE X S₀ e we) : VS X S₀ (.AugAssign (.Attribute o f tpos) .Add e pos) (sAugF nm f wo we (· + ·)) := vs_augF n na ho he in_add
theorem vs_augFsub (n : ClsN X.K nm C) (na : NoAttr X.K C f) (ho : VE X S₀ o wo) (he : VE X S₀ e we) : VS X S₀ (.AugAssign (.Attribute o f tpos) .Sub e pos) (sAugF nm f wo we (· - ·)) := vs_augF n na ho he in_sub
end
def kMet2 (Wf : W3) (x : D) (Φ : KD) : List D → Mem → Prop := fun ds M => Wf (x :: ds) M Φ
def kMet1 (nm m : Str) (Wf : W3) (wa : WA) (ρ : Sg) (Φ : KD) : KD := fun x M => ∃ a fs, x = .ref a ∧ M a = some (.ins nm fs) ∧ look fs m = none ∧ wa ρ M (kMet2 Wf x Φ)
def wMet (nm m : Str) (Wf : W3) (wo : WE) (wa : WA) : WE := fun ρ M Φ => wo ρ M (kMet1 nm m Wf wa ρ Φ)
abbrev atX (Wf : W4) (Ψ : XC) : W3 := fun ds M Φ => Wf ds M Φ Ψ
structure Runs (X : Cx) (S₀ : W0) (k : Nat) (f : Addr) (fd : FuncData) (ps : List Str) (Wf : W3) where
  sp : Sp
  E : XK
  CX : CXT
  ok : FnOk X.prog X.w X.K X.mg X.base CX k f fd ps sp
  pass : Passes CX X E
  call : ∀ {Hf M H ds vs Φ Q}, Wd X.K S₀ Hf M H → IsDs X.K Hf ds vs → Wf ds M Φ → Knt X.K S₀ Hf M H Φ Q → sp vs H Q E
def runsW {X : Cx} {k : Nat} {f : Addr} {fd : FuncData} {ps : List Str} {Wf : W3} (F : FnOk X.prog X.w X.K X.mg X.base CX0 k f fd ps (spW X.K Wf)) : Runs X S₀ k f fd ps Wf where
  sp := spW X.K Wf
  E := fun _ _ _ => False
  CX := CX0
  ok := F
  pass := pass0
  call := fun {Hf M H ds vs Φ Q} W i h k => ⟨Hf, M, ds, Φ, W.toWr, i, h, k.raw W⟩
def runsX {X : Cx} {k : Nat} {f : Addr} {fd : FuncData} {ps : List Str} {Wf : W4} {Ψ : XC} {E : XK} (hX : KnX X.K X.mg S₀ Ψ E) (tk : L2N.Takes X (fun cls d _ H => E cls d H)) (F : FnOk X.prog X.w X.K X.mg X.base (L2N.CX X.prog X.w) k f fd ps (spX X.K X.mg Wf)) : Runs X S₀ k f fd ps (atX Wf Ψ) where
  sp := spX X.K X.mg Wf
  E := E
  CX := L2N.CX X.prog X.w
  ok := F
  pass := L2N.passes_call tk fun _ _ _ _ h => h
  call := fun {Hf M H ds vs Φ Q} W i h k => ⟨Hf, M, ds, Φ, Ψ, W.toWr, i, h, k.raw W, hX.at W⟩
section
variable {X : Cx} {k : Nat} {f C : Addr} {fd : FuncData} {ps : List Str} {Wf : W3} {nm m : Str} {p pos apos : Pos} {o e : Expr} {es : List Expr} {wo : WE} {wa wk : WA} {pl : Sem Bool}
theorem ve_met (n : ClsN X.K nm C) (hm : Meth X.K C m f) (R : Runs X S₀ k f fd ps Wf) (hr : Room k X.A) (hb : Binds X.K fd ps []) (ho : VE X S₀ o wo) (ha : VA X S₀ (e :: es) wa)
    (hst : starEach (e :: es) X.env = (false, eval e X.env) :: starEach es X.env := by rfl) (hpl : (backTo pos (starEach es X.env)).any (·.1) = false := by rfl)
    (ht : eval (.Call (.Attribute o m apos) (e :: es) [] pos) X.env = (do
      let ov ← eval o X.env
      standAt apos.atName
      let (f, first) ← holding [ov] (getMethod ov m pl)
      callWith pos f first (backTo pos (starEach (e :: es) X.env)) (backToKw pos (keywordEach [] X.env))) := by rfl) : VE X S₀ (.Call (.Attribute o m apos) (e :: es) [] pos) (wMet nm m Wf wo wa) :=
  PE.imp (pe_meth ho n.cl hm R.ok hr hb .nil R.pass ha hst hpl ht) fun σ H Q ⟨Hf, ρ, M, Φ, W, ev, h, kn⟩ => by
    refine ⟨Hf, ρ, M, _, W, ev, h, fun d M1 v Hf1 H1 ⟨a, fs, ex, hM, hl, q⟩ W1 s1 i1 => ?_⟩
    subst ex
    obtain ⟨dx, ws, hH, _, hk⟩ := ins_of W1 n hM
    refine ⟨a, dx, ws, isD_ref.mp i1, hH, (look_f hk).1 hl, Hf1, ρ, M1, _, W1, ev.mono s1.ex, q, fun ds M2 vs Hf2 H2 q2 W2 s2 i2 => ?_⟩
    exact R.call W2 (isDs_cons (IsD.mono s2.ex _ _ i1) (by rw [List.append_nil]; exact i2)) q2 (kn.at (s1.trans s2))
theorem ve_met0 (n : ClsN X.K nm C) (hm : Meth X.K C m f) (R : Runs X S₀ k f fd ps Wf) (hr : Room k X.A) (hb : Binds X.K fd ps []) (ho : VE X S₀ o wo)
    (ht : eval (.Call (.Attribute o m apos) [] [] pos) X.env = (do
      let ov ← eval o X.env
      standAt apos.atName
      let (f, first) ← holding [ov] (getMethod ov m pl)
      callWith pos f first (backTo pos (starEach [] X.env)) (backToKw pos (keywordEach [] X.env))) := by rfl) : VE X S₀ (.Call (.Attribute o m apos) [] [] pos) (wMet nm m Wf wo wNil) :=
  PE.imp (pe_meth0 ho n.cl hm R.ok hr hb .nil R.pass ht) fun σ H Q ⟨Hf, ρ, M, Φ, W, ev, h, kn⟩ => by
    refine ⟨Hf, ρ, M, _, W, ev, h, fun d M1 v Hf1 H1 ⟨a, fs, ex, hM, hl, q⟩ W1 s1 i1 => ?_⟩
    subst ex
    obtain ⟨dx, ws, hH, _, hk⟩ := ins_of W1 n hM
    exact ⟨a, dx, ws, isD_ref.mp i1, hH, (look_f hk).1 hl, R.call W1 (isDs_cons i1 isDs_nil) q (kn.at s1)⟩
end
section
variable {X : Cx} {k : Nat} {f C : Addr} {fd : FuncData} {ps : List Str} {Wf : W3} {nm m : Str} {p pos apos : Pos} {o e : Expr} {es : List Expr} {wo : WE} {wa wk : WA} {pl : Sem Bool}
end
def kMade (a : Addr) (Φ : KD) : KD := fun d M => d = .non ∧ Φ (.ref a) M
def kMake (nm : Str) (Wf : W3) (Φ : KD) : List D → Mem → Prop := fun ds M => ∀ a, M a = none → Wf (.ref a :: ds) (put M a (.ins nm [])) (kMade a Φ)
def wMake (nm : Str) (Wf : W3) (wa : WA) : WE := fun ρ M Φ => wa ρ M (kMake nm Wf Φ)
theorem Wd.born {K : PySem.W.Frag} {Hf : Hp} {M : Mem} {H : Hp} {nm : Str} {C x dx : Addr} (W : Wd K S₀ Hf M H) (n : ClsN K nm C) (hx : H x = none) (hd : H dx = none) (ne : dx ≠ x) :
    Wd K S₀ (upd Hf dx (.own x)) (put M x (.ins nm [])) (upd (upd H dx (.own x)) x (.ins C dx [])) ∧ Stp Hf M H (upd Hf dx (.own x)) (put M x (.ins nm [])) (upd (upd H dx (.own x)) x (.ins C dx [])) := by
  obtain ⟨W1, s1⟩ := W.newF (o := .own x) hd
  obtain ⟨W2, s2⟩ := W1.newM (p := x) (o := .ins C dx []) (m := .ins nm []) (by rw [upd_ne ne.symm]; exact hx) ⟨C, dx, [], rfl, n.ns, upd_same, rfl⟩
  exact ⟨W2, s1.trans s2⟩
theorem Knt.made {K : PySem.W.Frag} {Hf : Hp} {M : Mem} {H : Hp} {Φ : KD} {Q : VK} {a : Addr} (k : Knt K S₀ Hf M H Φ Q) : Knt K S₀ Hf M H (kMade a Φ) (fun v H2 => v = .non ∧ Q (.ref a) H2) := fun d M' v Hf' H' p W' s' i => by
  obtain ⟨rfl, q⟩ := p
  exact ⟨isD_non.mp i, k _ _ _ _ _ q W' s' (isD_ref.mpr rfl)⟩
section
variable {X : Cx} {k : Nat} {f C : Addr} {fd : FuncData} {ps : List Str} {Wf : W3} {nm x : Str} {p pos : Pos} {e : Expr} {es : List Expr} {wa wk : WA}
theorem ve_make (n : ClsN X.K nm C) (mk : Mk X.K C f) (R : Runs X S₀ k f fd ps Wf) (hr : Room (k + 1) X.A) (hg : Gl X x) (hm : X.mg x = some (.ref C)) (hb : Binds X.K fd ps []) (ha : VA X S₀ (e :: es) wa)
    (hdb : (x == ("__debug__" : Str)) = false := by decide) (he : starEach (e :: es) X.env = (false, eval e X.env) :: starEach es X.env := by rfl) (hpl : (backTo pos (starEach es X.env)).any (·.1) = false := by rfl) : VE X S₀ (.Call (.Name x p) (e :: es) [] pos) (wMake nm Wf wa) :=
  PE.imp (pe_make mk R.ok hr hg hm hb .nil R.pass ha hdb he hpl) fun σ H Q ⟨Hf, ρ, M, Φ, W, ev, h, kn⟩ => by
    refine ⟨Hf, ρ, M, _, W, ev, h, fun ds M1 vs Hf1 H1 q W1 s1 i1 a dx ha hd ne => ?_⟩
    obtain ⟨W2, s2⟩ := W1.born n ha hd ne
    exact R.call W2 (isDs_cons (isD_ref.mpr rfl) (by rw [List.append_nil]; exact IsDs.mono s2.ex _ _ i1)) (q a (W1.fresh_m ha)) (kn.at (s1.trans s2)).made
end
section
variable {X : Cx} {k : Nat} {f C : Addr} {fd : FuncData} {ps : List Str} {Wf : W3} {nm x : Str} {p pos : Pos} {e : Expr} {es : List Expr} {wa wk : WA}
end
section
variable {ρ : Sg} {M : Mem} {Φ : KD} {Wf : W3} {wo we wv : WE} {wa wk : WA} {ds es dds : List D} {nm mm f : Str} {n m : Nat} {gD : List D → List D → List D} {De : WN} {a : Addr} {fs : List (Str × D)} {d x : D} {P : Sg → Mem → Prop} {PM : Mem → Prop} {g : Int → Int → Int} {i j : Int} {Ψ : XC} {W4f : W4}
theorem e_wFld : wFld nm f wo ρ M Φ = wo ρ M (kFld nm f Φ) := rfl
theorem e_fld (h : M a = some (.ins nm fs)) (l : look fs f = some d) : kFld nm f Φ (.ref a) M = Φ d M := by
  apply propext
  constructor
  · rintro ⟨b, gs, x, e, h1, h2, q⟩
    cases e
    rw [h] at h1; cases h1
    rw [l] at h2; cases h2
    exact q
  · exact fun q => ⟨a, fs, d, rfl, h, l, q⟩
theorem e_gFld : wgFld nm f wo d ρ M P = wo ρ M (kSetF nm f d (P ρ)) := rfl
theorem e_setF (h : M a = some (.ins nm fs)) (l : fs.length ≤ 30) : kSetF nm f d PM (.ref a) M = PM (put M a (.ins nm (putFD f d fs))) := by
  apply propext
  constructor
  · rintro ⟨b, gs, e, h1, _, q⟩
    cases e
    rw [h] at h1; cases h1
    exact q
  · exact fun q => ⟨a, fs, rfl, h, l, q⟩
theorem e_augF : sAugF nm f wo wv g De ρ M = wo ρ M (kAugF1 nm f g wv De ρ) := rfl
theorem e_augF1 (h : M a = some (.ins nm fs)) (l : look fs f = some (.int i)) : kAugF1 nm f g wv De ρ (.ref a) M = wv ρ M (kAugF2 nm f g a i De ρ) := by
  apply propext
  constructor
  · rintro ⟨b, gs, x, e, h1, h2, q⟩
    cases e
    rw [h] at h1; cases h1
    rw [l] at h2; cases h2
    exact q
  · exact fun q => ⟨a, fs, i, rfl, h, l, q⟩
theorem e_augF2 (h : M a = some (.ins nm fs)) (l : fs.length ≤ 30) : kAugF2 nm f g a i De ρ (.int j) M = De.nx ρ (put M a (.ins nm (putFD f (.int (g i j)) fs))) := by
  apply propext
  constructor
  · rintro ⟨b, gs, e, h1, _, q⟩
    cases e
    rw [h] at h1; cases h1
    exact q
  · exact fun q => ⟨j, fs, rfl, h, l, q⟩
theorem e_met : wMet nm mm Wf wo wa ρ M Φ = wo ρ M (kMet1 nm mm Wf wa ρ Φ) := rfl
theorem e_met1 (h : M a = some (.ins nm fs)) (l : look fs mm = none) : kMet1 nm mm Wf wa ρ Φ (.ref a) M = wa ρ M (kMet2 Wf (.ref a) Φ) := by
  apply propext
  constructor
  · rintro ⟨b, gs, e, h1, _, q⟩
    cases e
    exact q
  · exact fun q => ⟨a, fs, rfl, h, l, q⟩
theorem e_met2 : kMet2 Wf x Φ ds M = Wf (x :: ds) M Φ := rfl
theorem e_make : wMake nm Wf wa ρ M Φ = wa ρ M (kMake nm Wf Φ) := rfl
theorem e_makeK1 : kMake nm Wf Φ ds M = ∀ a, M a = none → Wf (.ref a :: ds) (put M a (.ins nm [])) (kMade a Φ) := rfl
theorem e_made : kMade a Φ .non M = Φ (.ref a) M := by
  apply propext
  exact ⟨fun h => h.2, fun h => ⟨rfl, h⟩⟩
end
end VL
namespace VL
open PySem PySem.Spec PyProof.Rows L2 XL
section
variable {X : Cx} {CZ : CXT} {n : Nat} {f C : Addr} {fd : FuncData} {ps : List Str} {sp : Sp} {E : XK}
end
section
variable {S₀ : W0} {X : Cx} {n : Nat} {f C : Addr} {fd : FuncData} {ps : List Str} {Wf : W3} {nm : Str} {p pos : Pos} {e : Expr} {wa : WA}
end
section
variable {M : Mem} {Φ : KD} {nm : Str} {Wf : W3} {a : Addr} {fs : List (Str × D)}
end
end VL
namespace VL
open PySem PySem.Spec PyProof.Rows L2
end VL
namespace VL
open PySem PySem.Spec PyProof.Rows L2
def kFmt (Φ : KD) : KD := fun d M => (∃ y : Str, d = .str y ∧ y.length ≤ lim ∧ Φ (.str y) M) ∨ ∃ i : Int, d = .int i ∧ i.natAbs.log2 < 1920 ∧ Φ (.str (toString i)) M
def wFmt (we : WE) : WE := fun ρ M Φ => we ρ M (kFmt Φ)
def wJs : List WE → Str → Sg → Mem → KD → Prop
  | [], acc, _, M, Φ => Φ (.str acc) M
  | w :: ws, acc, ρ, M, Φ => w ρ M fun d M' => ∃ y : Str, d = .str y ∧ (acc ++ y).length ≤ lim ∧ wJs ws (acc ++ y) ρ M' Φ
def wFstr (ws : List WE) : WE := fun ρ M Φ => wJs ws Str.empty ρ M Φ
section
variable {S₀ : W0} {X : Cx} {e : Expr} {we : WE} {pos : Pos}
theorem ve_fmt (he : VE X S₀ e we) : VE X S₀ (.FormattedValue e (-1) none pos) (wFmt we) := PE.imp (pe_fmt he) fun σ H Q ⟨Hf, ρ, M, Φ, W, en, h, k⟩ =>
  ⟨Hf, ρ, M, _, W, en, h, fun d M1 v Hf1 H1 q W1 s1 i1 => by
    rcases q with ⟨y, rfl, hl, q⟩ | ⟨n, rfl, hl, q⟩
    · exact .inl ⟨y, isD_str.mp i1, lim_ok hl, (k.at s1).go W1 q (isD_str.mpr rfl)⟩
    · exact .inr ⟨n, isD_int.mp i1, hl, (k.at s1).go W1 q (isD_str.mpr rfl)⟩⟩
inductive VJ (X : Cx) (S₀ : W0) : List Expr → List WE → Prop where
  | nil : VJ X S₀ [] []
  | cons {e : Expr} {w : WE} {es : List Expr} {ws : List WE} (h : VE X S₀ e w) (r : VJ X S₀ es ws) : VJ X S₀ (e :: es) (w :: ws)
theorem VJ.pj {es : List Expr} {ws : List WE} (h : VJ X S₀ es ws) : PJ X es (ws.map (liftE X.K S₀)) := by
  induction h with
  | nil => exact .nil
  | cons h _ ih => exact .cons h ih
theorem js_lift {K : PySem.W.Frag} {Φ : KD} {Q : VK} {σ : L2.St} {ρ : Sg} : ∀ (ws : List WE) {acc : Str} {Hf : Hp} {M : Mem} {H : Hp}, Wd K S₀ Hf M H → EnvOk K Hf σ ρ → wJs ws acc ρ M Φ → Knt K S₀ Hf M H Φ Q → tJs (ws.map (liftE K S₀)) acc σ H fun out H1 => Q (.str out) H1
  | [], acc, Hf, M, H, W, en, h, k => k.go W h (isD_str.mpr rfl)
  | w :: ws, acc, Hf, M, H, W, en, h, k => ⟨Hf, ρ, M, _, W, en, h, fun d M1 v Hf1 H1 ⟨y, ey, hl, q⟩ W1 s1 i1 => by
    subst ey
    exact ⟨y, isD_str.mp i1, lim_ok hl, js_lift ws W1 (en.mono s1.ex) q (k.at s1)⟩⟩
theorem ve_fstr {a b : Expr} {es : List Expr} {ws : List WE} (h : VJ X S₀ (a :: b :: es) ws) : VE X S₀ (.JoinedStr (a :: b :: es) pos) (wFstr ws) := PE.imp (pe_joined h.pj) fun σ H Q ⟨Hf, ρ, M, Φ, W, en, g, k⟩ => js_lift ws W en g k
end
def wrStrI : WC := fun ds M Φ => ∃ i : Int, ds = [.int i] ∧ i.natAbs.log2 < 1920 ∧ Φ (.str (toString i)) M
theorem lk_strI {K : PySem.W.Frag} : LkC K (fun xs H Q => ∃ i, xs = [.int i] ∧ i.natAbs.log2 < 1920 ∧ Q (.str (toString i)) H) wrStrI := by
  intro S₀ Hf M H ds vs Φ Q W i ⟨n, e, hl, h⟩ k
  subst e
  obtain ⟨v, r, rfl, iv, ir⟩ := isDs_cons_inv i
  obtain rfl := isDs_nil_inv ir
  obtain rfl := isD_int.mp iv
  exact ⟨n, rfl, hl, k.go W h (isD_str.mpr rfl)⟩
section
variable {S₀ : W0} {X : Cx} {e : Expr} {wa : WA} {p pos : Pos}
theorem ve_strI (hg : Gl X "str") (hm : X.mg "str" = none) (ha : VA X S₀ [e] wa) (he : starEach [e] X.env = (false, eval e X.env) :: starEach [] X.env := by rfl) : VE X S₀ (.Call (.Name "str" p) [e] [] pos) (wCB wrStrI wa) :=
  ve_callTy call_str_int lk_strI hg hm (by decide +kernel) ha (he := he)
end
section
variable {M : Mem} {Φ : KD} {ρ : Sg} {we w : WE} {ws : List WE} {acc y : Str} {i : Int}
theorem e_fmt : wFmt we ρ M Φ = we ρ M (kFmt Φ) := rfl
theorem e_fmtI (h : i.natAbs.log2 < 1920) (k : Φ (.str (toString i)) M) : kFmt Φ (.int i) M := .inr ⟨i, rfl, h, k⟩
theorem e_fstr : wFstr ws ρ M Φ = wJs ws Str.empty ρ M Φ := rfl
theorem e_js0 : wJs [] acc ρ M Φ = Φ (.str acc) M := rfl
theorem e_js1 : wJs (w :: ws) acc ρ M Φ = w ρ M fun d M' => ∃ y : Str, d = .str y ∧ (acc ++ y).length ≤ lim ∧ wJs ws (acc ++ y) ρ M' Φ := rfl
theorem e_strI : wrStrI [.int i] M Φ = (i.natAbs.log2 < 1920 ∧ Φ (.str (toString i)) M) := propext ⟨fun ⟨n, e, h, k⟩ => by cases e; exact ⟨h, k⟩, fun ⟨h, k⟩ => ⟨i, rfl, h, k⟩⟩
end
end VL
namespace VL
open PySem PySem.Spec PyProof.Rows L2
section
variable {X : Cx} {S₀ : W0}
abbrev WCK := List D → List D → Mem → KD → Prop
variable {e f : Expr} {we wf : WE} {p pos kpos : Pos}
end
section
variable {ρ : Sg} {M : Mem} {Φ : KD} {wb wd : WE} {ns : List Int} {d : D} {wr : WCK} {wa wk : WA} {ds zs : List D}
end
end VL
namespace VL
open PySem PySem.Spec PyProof.Rows L2
section
variable {X : Cx} {S₀ : W0} {s : Stmt} {w : WS}
end
section
variable {ρ : Sg} {M : Mem} {De : WN} {w : WS} {i : Nat} {nx : Sg → Mem → Prop} {a : Addr} {ds : List D}
end
end VL
namespace VL
open PySem PySem.Spec PyProof.Rows L2 LamX
structure FnOkG (P : Program) (w : World) (K : PySem.W.Frag) (mg : Str → Option Value) (base : Heap) (CX : CXT) (k : Nat) (f : Addr) (fd : FuncData) (ps : List Str) (sp : Sp) : Prop where
  run : ∀ (A : Around) (outer : List Env) (s : Shared) (H : Hp) (args : Args) (us : List Value) (vs : List V) (Q : VK) (E : XK), A.guards = some [] → Room k A → Env0 P w K mg base A outer s H → BindsTo s fd args (ps.zip us) → Vals vs us → sp vs H Q E → codeAny (model P w) A (.call (.ref f) args) (CR CX outer P w H s Q E) s
section
variable {P : Program} {w : World} {K : PySem.W.Frag} {mg mb : Str → Option Value} {h : Heap} {a : Addr} {cs : List (Addr × Addr)} {vs : List Value} {ns : List Int}
abbrev scr (vs : List Value) : Obj := { cls := .type "list", data := .seq vs.toArray }
abbrev tab0 : Obj := { cls := .none, data := .fields #[] }
open Classical in
noncomputable def H0 (K : PySem.W.Frag) (cs : List (Addr × Addr)) (a : Addr) (vs : List Value) (ns : List Int) : Hp := fun b =>
  if b ∈ cs.map (·.2) then some (.tbl #[]) else if b = a ∧ K.lookup a = none then some (.frz (scr vs) (.lst (ns.map V.int))) else none
theorem H0_some {b : Addr} {o : HO} (e : H0 K cs a vs ns b = some o) : (b ∈ cs.map (·.2) ∧ o = .tbl #[]) ∨ (b = a ∧ K.lookup a = none ∧ o = .frz (scr vs) (.lst (ns.map V.int))) := by
  unfold H0 at e
  split at e
  · rename_i m; exact .inl ⟨m, (Option.some.inj e).symm⟩
  · split at e
    · rename_i m; exact .inr ⟨m.1, m.2, (Option.some.inj e).symm⟩
    · cases e
structure At0 (K : PySem.W.Frag) (h : Heap) (cs : List (Addr × Addr)) (a : Addr) (vs : List Value) (ns : List Int) : Prop where
  kin : K.In h
  tabs : ∀ p ∈ cs, h.get? p.2 = some tab0
  free : ∀ p ∈ cs, K.lookup p.2 = none
  script : h.get? a = some (scr vs)
  whole : IntsAre vs ns
  few : ns.length ≤ sizeLine
theorem At0.tab (z : At0 K h cs a vs ns) {b : Addr} (m : b ∈ cs.map (·.2)) : h.get? b = some tab0 := by
  obtain ⟨p, hp, rfl⟩ := List.mem_map.mp m; exact z.tabs p hp
theorem At0.apart (z : At0 K h cs a vs ns) : a ∉ cs.map (·.2) := fun m => by cases (z.tab m).symm.trans z.script
theorem At0.hok (z : At0 K h cs a vs ns) : HOk P w (H0 K cs a vs ns) h := fun b o e => by
  obtain ⟨m, rfl⟩ | ⟨rfl, _, rfl⟩ := H0_some e
  · exact z.tab m
  · exact ⟨z.script, by rw [List.length_map]; exact z.few, vs, _, vals_ints z.whole, z.script⟩
theorem At0.sq (z : At0 K h cs a vs ns) : SqL K (H0 K cs a vs ns) a (ns.map V.int) := by
  cases k : K.lookup a with
  | none => exact .inl (.inr ⟨scr vs, by unfold H0; rw [if_neg z.apart, if_pos ⟨rfl, k⟩]⟩)
  | some o =>
    cases (z.kin a o k).symm.trans z.script
    exact .inr ⟨_, vs.toArray, _, k, rfl, rfl, rfl, by rw [List.size_toArray, z.whole.length]; exact z.few, by simpa using vals_ints z.whole⟩
theorem At0.hid (z : At0 K h cs a vs ns) {b : Addr} {o : Obj} (e : h.get? b = some o) (n1 : o ≠ scr vs) (n2 : o ≠ tab0) : (hidT h (H0 K cs a vs ns)).get? b = some o := by
  refine hidT_get e ?_
  cases q : H0 K cs a vs ns b with
  | none => rfl
  | some u =>
    obtain ⟨m, _⟩ | ⟨rfl, _, _⟩ := H0_some q
    · exact absurd (Option.some.inj (e.symm.trans (z.tab m))) n2
    · exact absurd (Option.some.inj (e.symm.trans z.script)) n1
theorem At0.nspace (z : At0 K h cs a vs ns) {b : Addr} {m : Str → Option Value} (n : h.Ns b m) : (hidT h (H0 K cs a vs ns)).Ns b m := by
  obtain ⟨o, es, ep, e, d, r⟩ := n
  exact ⟨o, es, ep, z.hid e (fun q => by rw [q] at d; cases d) (fun q => by rw [q] at d; cases d), d, r⟩
theorem At0.mod (z : At0 K h cs a vs ns) (g : h.Ns mainGlobals mg) (b : h.Ns builtinsNs mb) (bb : ∀ x : Str, x ≠ "__name__" → mb x = bootBuiltins x) (lim : h.NoLimit) : L2.Mod K mg (hidT h (H0 K cs a vs ns)) := by
  refine ⟨fun b o e => hidT_get (z.kin b o e) ?_, z.nspace g, ⟨mb, z.nspace b, bb⟩, ?_⟩
  · cases q : H0 K cs a vs ns b with
    | none => rfl
    | some u =>
      obtain ⟨m, _⟩ | ⟨rfl, n, _⟩ := H0_some q
      · obtain ⟨p, hp, rfl⟩ := List.mem_map.mp m
        exact nomatch (z.free p hp).symm.trans e
      · exact nomatch n.symm.trans e
  · obtain ⟨mc, h1, h2⟩ := lim; exact ⟨mc, z.nspace h1, h2⟩
end
structure LawG (l : PySem.W.OpenLaw) (w : World) (K : PySem.W.Frag) (CX : CXT) (k n : Nat) (x : Str) (mg : Str → Option Value) (fa : Addr) (h : Heap) where
  (fd : FuncData) (cs : List (Addr × Addr)) (sp : Sp)
  tabs : ∀ p ∈ cs, h.get? p.2 = some tab0
  free : ∀ p ∈ cs, K.lookup p.2 = none
  code : ∀ p ∈ cs, PySem.W.CodeHd h p.1 p.2
  bind : ∀ (s : Shared) (u : Value), BindsTo s fd ⟨[u], []⟩ [(x, u)]
  told : ∀ (H : Hp) (a : Addr) (ns : List Int), ns.length ≤ n → (∀ p ∈ cs, H p.2 = some (.tbl #[])) → SqL K H a (ns.map V.int) → sp [.ref a] H (fun v _ => v = .bl true) fun _ _ _ => False
  ok : ∀ base : Heap, K.In base → base.Ns mainGlobals mg → (∀ p ∈ cs, TabB base mg p.1 p.2) → FnOkG l.prog w K mg base CX k fa fd [x] sp
section
variable {P : Program} {w : World} {K : PySem.W.Frag} {mg : Str → Option Value} {base : Heap}
end
section
variable {X : Cx} {S₀ : W0}
end
end VL
namespace VL
open PySem PySem.Spec PyProof.Rows L2
variable {S₀ : W0}
section
variable {K : PySem.W.Frag} {Hf : Hp} {M : Mem} {H : Hp} {a : Addr} {ds : List D}
end
section
variable {X : Cx} {elt tg l : Expr} {ifs : List Expr} {scope : Scope} {own : List (Str × Nat)} {pos : Pos} {wl : WE} {g : WG} {tt : WT} {te : WE}
end
section
variable {ρ : Sg} {M : Mem} {Φ : KD} {a : Addr} {ds : List D} {g : WG} {tt : WT} {te we : WE} {vs : List Nat} {De : WN} {body : WS}
end
end VL
namespace VL
open PySem PySem.Spec PyProof.Rows L2
mutual
def wt : PyData → Nat
  | .none => 4 | .bool _ => 5 | .int _ => 1921
  | .str x => (reprText x).length
  | .list xs => 2 + wts xs
  | .tuple xs => 4 + wts xs
  | .dict _ => 0
def wts : List PyData → Nat
  | [] => 0
  | x :: xs => (wt x + 2) + wts xs
end
theorem textFrom_le : ∀ (ts : List Str) (k : Nat) (acc : Str), (textFrom k acc ts).length ≤ acc.length + piled ts
  | [], _, _ => Nat.le_add_right _ _
  | t :: r, k, acc => by
    have ih := textFrom_le r (k + 1) (acc ++ (if k > 0 then ", " else "" : String) ++ t)
    have e : ((if k > 0 then ", " else "" : String) : Str).length ≤ 2 := by split <;> decide
    rw [strLen_append, strLen_append] at ih
    show (textFrom (k + 1) _ r).length ≤ _
    rw [piled_cons]; omega
theorem listText_le (ts : List Str) : (listText ts).length ≤ 2 + piled ts := by
  unfold listText
  rw [strLen_append]
  have := textFrom_le ts 0 "["
  have e1 : (("[" : String) : Str).length = 1 := rfl
  have e2 : (("]" : String) : Str).length = 1 := rfl
  omega
theorem tupleText_le (ts : List Str) : (tupleText ts).length ≤ 4 + piled ts := by
  unfold tupleText
  rw [strLen_append, strLen_append]
  have e1 : (("(" : String) : Str).length = 1 := rfl
  have e2 : ((if ts.length == 1 then ",)" else ")" : String) : Str).length ≤ 2 := by split <;> decide
  by_cases h : ts = []
  · subst h
    have e3 : (Str.join ", " ([] : List Str)).length = 0 := rfl
    have e4 : piled [] = 0 := rfl
    omega
  · have := join_length_add ts h
    omega
mutual
theorem shown_le : ∀ d : PyData, d.showable = true → d.hasDict = false → d.shown.length ≤ wt d
  | .none, _, _ => by rw [PyData.shown, wt]; decide
  | .bool b, _, _ => by rw [PyData.shown, wt]; cases b <;> decide
  | .int i, h, _ => by
    rw [PyData.shown, wt]
    exact int_text_len_1921 (by rw [PyData.showable] at h; exact of_decide_eq_true h)
  | .str x, _, _ => by rw [PyData.shown, wt]; exact Nat.le_refl _
  | .list xs, h, g => by
    rw [PyData.shown, wt]
    rw [PyData.showable] at h; rw [PyData.hasDict] at g
    exact Nat.le_trans (listText_le _) (Nat.add_le_add_left (shownAll_le xs h g) 2)
  | .tuple xs, h, g => by
    rw [PyData.shown, wt]
    rw [PyData.showable] at h; rw [PyData.hasDict] at g
    exact Nat.le_trans (tupleText_le _) (Nat.add_le_add_left (shownAll_le xs h g) 4)
  | .dict _, _, g => by rw [PyData.hasDict] at g; cases g
theorem shownAll_le : ∀ xs : List PyData, PyData.showableAll xs = true → PyData.hasDictAll xs = false → piled (PyData.shownAll xs) ≤ wts xs
  | [], _, _ => Nat.le_refl _
  | x :: xs, h, g => by
    rw [PyData.showableAll, Bool.and_eq_true] at h
    rw [PyData.hasDictAll, Bool.or_eq_false_iff] at g
    rw [PyData.shownAll, wts, piled_cons]
    have h1 := shown_le x h.1 g.1
    have h2 := shownAll_le xs h.2 g.2
    omega
end
def wrNeS : WR := fun x y M Φ => match x, y with | .str a, .str b => Φ (.bl (!decide (a = b))) M | _, _ => False
def wrEqS : WR := fun x y M Φ => match x, y with | .str a, .str b => Φ (.bl (decide (a = b))) M | _, _ => False
theorem dec_str {a b : Str} : decide (V.str a = V.str b) = decide (a = b) := by
  by_cases h : a = b
  · rw [decide_eq_true h, decide_eq_true (congrArg V.str h)]
  · rw [decide_eq_false h, decide_eq_false fun e => h (V.str.inj e)]
theorem lk_neS {K : PySem.W.Frag} : LkR K rNe wrNeS := by
  intro S₀ Hf M H x y v u Φ Q W ix iy h k
  unfold wrNeS at h
  split at h
  · rw [isD_str.mp ix, isD_str.mp iy]
    exact ⟨rfl, k.go W h (isD_bl.mpr (by rw [dec_str]))⟩
  · exact h.elim
theorem lk_eqS {K : PySem.W.Frag} : LkR K rEq wrEqS := by
  intro S₀ Hf M H x y v u Φ Q W ix iy h k
  unfold wrEqS at h
  split at h
  · rw [isD_str.mp ix, isD_str.mp iy]
    exact ⟨rfl, k.go W h (isD_bl.mpr (by rw [dec_str]))⟩
  · exact h.elim
section
variable {X : Cx} {S₀ : W0} {a b : Expr} {wa wb : WE} {pos : Pos} {x y : Str} {M : Mem} {Φ : KD}
theorem ve_eqS (ha : VE X S₀ a wa) (hb : VE X S₀ b wb) : VE X S₀ (.Compare a [.Eq] [b] pos) (wOp wrEqS wa wb) := ve_cmp op_eq lk_eqS ha hb (nomark _)
theorem vt_neS (ha : VE X S₀ a wa) (hb : VE X S₀ b wb) : VT X S₀ (.Compare a [.NotEq] [b] pos) (wTest (wOp wrNeS wa wb)) := vt_cmp op_ne lk_neS ha hb (nomark _)
theorem vt_eqS (ha : VE X S₀ a wa) (hb : VE X S₀ b wb) : VT X S₀ (.Compare a [.Eq] [b] pos) (wTest (wOp wrEqS wa wb)) := vt_cmp op_eq lk_eqS ha hb (nomark _)
theorem e_neS' : wrNeS (.str x) (.str y) M Φ = Φ (.bl (!decide (x = y))) M := rfl
theorem e_eqS' : wrEqS (.str x) (.str y) M Φ = Φ (.bl (decide (x = y))) M := rfl
end
end VL
namespace VL
variable {S₀ : W0}
open PySem PySem.Spec PyProof.Rows L2
end VL
namespace VL
variable {S₀ : W0}
open PySem PySem.Spec PyProof.Rows L2
section
variable {prog : Program} {w : World} {A : Around} {E : Value → Shared → Prop} {s : Shared}
end
section
variable {ρ : Sg} {M : Mem} {Φ : KD} {we : WE} {ds : List D}
end
end VL
namespace VL
variable {S₀ : W0}
open PySem PySem.Spec PyProof.Rows L2
def SqG (t : Bool) (K : PySem.W.Frag) (H : Hp) (a : Addr) (xs : List V) : Prop := match t with | true => SqT K H a xs | false => SqL K H a xs
def ItG (t : Bool) (h : Heap) (it a : Addr) (i : Nat) : Prop := match t with | true => h.IsTupleIter it a i | false => h.IsListIter it a i
def HsG (t : Bool) (h : Heap) (a : Addr) (items : Array Value) : Prop := match t with | true => h.IsTuple a items | false => h.IsList a items
def itO (t : Bool) (a : Addr) : Obj := { cls := .type (match t with | true => "tuple_iterator" | false => "list_iterator"), data := .fields #[.ref a, .int 0 0] }
theorem ItG.obj {t : Bool} {h : Heap} {it a : Addr} {i : Nat} (x : ItG t h it a i) : ∃ o, h.get? it = some o ∧ ∀ v, o.data ≠ .cell v := by
  cases t <;> (obtain ⟨o, e, _, d⟩ := x; exact ⟨o, e, fun v q => by rw [d] at q; cases q⟩)
theorem ItG.at {t : Bool} {h h' : Heap} {it a : Addr} {i : Nat} (x : ItG t h it a i) (k : ∀ o, h.get? it = some o → h'.get? it = some o) : ItG t h' it a i := by
  cases t <;> (obtain ⟨o, e, c, d⟩ := x; exact ⟨o, k _ e, c, d⟩)
theorem ItG.new {t : Bool} {h : Heap} {it a : Addr} (e : h.get? it = some (itO t a)) : ItG t h it a 0 := by
  cases t <;> exact ⟨_, e, rfl, rfl⟩
section
variable {X : Cx} {pins : List (Addr × Obj)} {σ : St} {H : Hp} {s : Shared} {t : Bool} {a : Addr} {xs ys : List V}
theorem HsG.lt {h : Heap} {its : Array Value} (x : HsG t h a its) : a < h.objs.size := by
  cases t
  · obtain ⟨o, e, _⟩ := x; exact Heap.lt_size e
  · obtain ⟨o, e, _⟩ := x; exact Heap.lt_size e
end
theorem SqG.ex {t : Bool} {K : PySem.W.Frag} {H H' : Hp} {a : Addr} {xs : List V} (e : Ex H H') (h : SqG t K H a xs) : SqG t K H' a xs := by
  cases t
  · exact ex_l e h
  · exact ex_t e h
section
variable {X : Cx} {e e2 : Expr} {wa : WA} {p pos : Pos}
end
section
variable {ρ : Sg} {M : Mem} {wA : WA} {ΦA : List D → Mem → Prop} {ds es : List D}
end
end VL
namespace VL
variable {S₀ : W0}
open PySem PySem.Spec PyProof.Rows L2
section
variable {X : Cx} {e : Expr} {wa : WA} {p pos : Pos}
end
section
variable {ρ : Sg} {M : Mem} {wA : WA} {ΦA : List D → Mem → Prop} {ds : List D}
end
end VL
namespace VL
variable {S₀ : W0}
open PySem PySem.Spec PyProof.Rows L2
section
variable {X : Cx} {e : Expr} {we : WE} {wa : WA}
end
section
variable {X : Cx} {e : Expr} {wa : WA}
end
section
variable {ρ : Sg} {M : Mem} {Φ : KD} {we : WE} {wa : WA} {ns : List Int} {ds : List D} {i : Nat}
end
end VL
namespace VL
variable {S₀ : W0}
open PySem PySem.Spec PyProof.Rows L2
section
variable {X : Cx} {a b e : Expr} {es : List Expr} {wa wb we : WE} {wA : WA} {pos : Pos}
end
section
variable {ρ : Sg} {M : Mem} {Φ : KD} {we : WE} {wa : WA} {ns ms : List Int}
end
end VL
namespace VL
open PySem PySem.Spec PyProof.Rows L2 XL
section
variable {P : Program} {w : World} {K : PySem.W.Frag} {mg : Str → Option Value} {base : Heap} {CX : CXT} {k : Nat} {f : Addr} {fd : FuncData} {ps : List Str}
end
end VL
namespace VL
open PySem PySem.Spec PyProof.Rows L2
section
variable {X : Cx} {S₀ : W0} {a b : Expr} {wa wb : WE} {pos : Pos} {M : Mem} {Φ : KD}
end
end VL
namespace VL
open PySem PySem.Spec PyProof.Rows L2
structure Lay {α : Type} [DecidableEq α] (f : α → D) (g : α → PyData) (n : Nat) : Prop where
  py : ∀ a, py (f a) = some (g a)
  lay : ∀ a, (g a).canLay0 = true
  dep : ∀ a, (g a).depth ≤ n
  eqv : ∀ a b, PyData.eqv (g a) (g b) = decide (a = b)
section
variable {α β γ : Type} [DecidableEq α] [DecidableEq β] [DecidableEq γ] {f : α → D} {g : α → PyData} {n : Nat} {f2 : β → D} {g2 : β → PyData} {n2 : Nat} {f3 : γ → D} {g3 : γ → PyData} {n3 : Nat}
theorem Lay.pys (h : Lay f g n) : ∀ l : List α, pys (l.map f) = some (l.map g)
  | [] => rfl
  | a :: l => by rw [List.map_cons, VL.pys, h.py a, h.pys l]; rfl
theorem Lay.layAll (h : Lay f g n) : ∀ l : List α, PyData.canLayAll0 (l.map g) = true
  | [] => rfl
  | a :: l => by rw [List.map_cons, PyData.canLayAll0, h.lay a, h.layAll l]; rfl
theorem Lay.depAll (h : Lay f g n) : ∀ l : List α, PyData.depthAll (l.map g) ≤ n
  | [] => Nat.zero_le _
  | a :: l => by rw [List.map_cons, PyData.depthAll]; exact Nat.max_le.mpr ⟨h.dep a, h.depAll l⟩
theorem Lay.eqvAll (h : Lay f g n) : ∀ l m : List α, PyData.eqvAll (l.map g) (m.map g) = decide (l = m)
  | [], [] => by simp [PyData.eqvAll]
  | [], b :: m => by simp [PyData.eqvAll]
  | a :: l, [] => by simp [PyData.eqvAll]
  | a :: l, b :: m => by rw [List.map_cons, List.map_cons, PyData.eqvAll, h.eqv a b, h.eqvAll l m]; simp
theorem Lay.lst (h : Lay f g n) : Lay (fun l : List α => D.lst (l.map f)) (fun l => PyData.list (l.map g)) (n + 1) :=
  ⟨fun l => by rw [VL.py, h.pys l]; rfl, fun l => by rw [PyData.canLay0]; exact h.layAll l, fun l => by rw [PyData.depth]; exact Nat.succ_le_succ (h.depAll l), fun l m => by rw [PyData.eqv]; exact h.eqvAll l m⟩
theorem Lay.tup (h : Lay f g n) : Lay (fun l : List α => D.tup (l.map f)) (fun l => PyData.tuple (l.map g)) (n + 1) :=
  ⟨fun l => by rw [VL.py, h.pys l]; rfl, fun l => by rw [PyData.canLay0]; exact h.layAll l, fun l => by rw [PyData.depth]; exact Nat.succ_le_succ (h.depAll l), fun l m => by rw [PyData.eqv]; exact h.eqvAll l m⟩
theorem Lay.sh (h : Lay f g n) (hn : n ≤ 64) (a : α) : SeqAt.shaped (g a) = true := by
  unfold SeqAt.shaped
  rw [h.lay a]
  have := h.dep a
  simp; omega
variable {M : Mem} {Φ : KD} {a b : α} {l m : List α} {p q : Addr}
end
theorem e_eqSame {M : Mem} {Φ : KD} {x : D} {p : PyData} (h : pyM M x = some p) (hs : SeqAt.shaped p = true) (hr : PyData.eqv p p = true) : wrEq x x M Φ = Φ (.bl true) M := wrEq_of h h hs hs hr
end VL
namespace VL
variable {S₀ : W0}
open PySem PySem.Spec PyProof.Rows L2
abbrev sg (c : Nat) : Str := ⟨#[c]⟩
def sgD (c : Nat) : D := .str (sg c)
def signs (z : Str) : List D := z.cps.toList.map sgD
theorem signs_len {z : Str} : (signs z).length = z.length := by unfold signs; rw [List.length_map]; rfl
def kStrI (Φ : List D → Mem → Prop) : KD := fun x M => match x with | .str z => Φ (signs z) M | _ => False
def wiStr (we : WE) : WI := fun ρ M Φ => we ρ M (kStrI Φ)
theorem wk_str {K : PySem.W.Frag} {Hf0 : Hp} {z : Str} : Wk K (Its z) (signs z) Hf0 where
  go := fun j H hj e => by rw [signs_len] at hj; exact hj
  stop := fun j H hj e => by rw [signs_len] at hj; exact hj
  yld := fun j H x H' Hf d e1 e2 y hd => by
    obtain ⟨rfl, c, hc, rfl⟩ := y
    unfold signs at hd
    rw [List.getElem?_map, ← Array.getElem?_toList] at *
    rw [hc] at hd
    cases hd
    exact ⟨Hf, Ex.refl _, e2, fun _ _ q => .inl q, Ex.refl _, id, isD_str.mpr rfl⟩
theorem vi_str {X : Cx} {tg l : Expr} {wl : WE} (hl : VE X S₀ l wl) : VI X S₀ tg l (wiStr wl) := PI.imp (pi_str hl) fun σ H R ⟨Hf, ρ, M, Φ, W, e, h, k⟩ => by
  refine ⟨Hf, ρ, M, _, W, e, h, fun x M1 v Hf1 H1 h1 W1 s1 i1 => ?_⟩
  unfold kStrI at h1
  split at h1
  · exact ⟨_, isD_str.mp i1, k _ _ _ _ _ h1 W1 s1 wk_str⟩
  · exact h1.elim
theorem ve_gstr {X : Cx} {x : Str} {pos : Pos} {z : Str} {t : Tok} (hg : Gl X x) (hm : X.mg x = some (.str z t)) (hd : (x == ("__debug__" : Str)) = false := by decide) : VE X S₀ (.Name x pos) (wC (.str z)) :=
  PE.imp (pe_glob hg hm (show RelV (V.str z) (Value.str z t) from ⟨t, rfl⟩) hd) fun σ H Q ⟨Hf, ρ, M, Φ, W, e, h, k⟩ => k.go W h (isD_str.mpr rfl)
def oneS (x : Str) : Option Nat := match x.cps.toList with | [c] => some c | _ => none
def wrInS (neg : Bool) : WR := fun x y M Φ => match x, y with
  | .str a, .str z => match oneS a with | some c => Φ (.bl (if neg then !decide (c ∈ z.cps.toList) else decide (c ∈ z.cps.toList))) M | none => False
  | _, _ => False
theorem oneS_eq {a : Str} {c : Nat} (h : oneS a = some c) : a = sg c := by
  unfold oneS at h
  split at h
  · rename_i c' e
    cases h
    cases a with
    | mk cps =>
      show Str.mk cps = Str.mk #[c]
      congr 1
      have e : cps.toList = [c] := e
      have := congrArg List.toArray e
      simpa using this
  · cases h
theorem lk_inS {K : PySem.W.Frag} : LkR K (fun x y H Q => ∃ (c : Nat) (z : Str), x = .str ⟨#[c]⟩ ∧ y = .str z ∧ Q (.bl (decide (c ∈ z.cps.toList))) H) (wrInS false) := by
  intro S₀ Hf M H x y v u Φ Q W ix iy h k
  unfold wrInS at h
  split at h
  · rename_i a z
    split at h
    · rename_i c e
      obtain rfl := oneS_eq e
      exact ⟨c, z, isD_str.mp ix, isD_str.mp iy, k.go W h (isD_bl.mpr rfl)⟩
    · exact h.elim
  · exact h.elim
theorem lk_ninS {K : PySem.W.Frag} : LkR K (fun x y H Q => ∃ (c : Nat) (z : Str), x = .str ⟨#[c]⟩ ∧ y = .str z ∧ Q (.bl (!decide (c ∈ z.cps.toList))) H) (wrInS true) := by
  intro S₀ Hf M H x y v u Φ Q W ix iy h k
  unfold wrInS at h
  split at h
  · rename_i a z
    split at h
    · rename_i c e
      obtain rfl := oneS_eq e
      exact ⟨c, z, isD_str.mp ix, isD_str.mp iy, k.go W h (isD_bl.mpr rfl)⟩
    · exact h.elim
  · exact h.elim
def wrIxS : WR := fun x y M Φ => match x, y with
  | .str z, .int i => (0 ≤ i ∧ i < 2 ^ 63) ∧ match z.cps.toList[i.toNat]? with | some c => Φ (sgD c) M | none => False
  | _, _ => False
theorem lk_ixS {K : PySem.W.Frag} : LkR K (fun x y H Q => ∃ z i c, x = .str z ∧ y = .int i ∧ 0 ≤ i ∧ i < 2 ^ 63 ∧ i < z.length ∧ z.cps[i.toNat]? = some c ∧ Q (.str ⟨#[c]⟩) H) wrIxS := by
  intro S₀ Hf M H x y v u Φ Q W ix iy h k
  unfold wrIxS at h
  split at h
  · rename_i z i
    obtain ⟨⟨h0, h63⟩, h⟩ := h
    split at h
    · rename_i c e
      rw [Array.getElem?_toList] at e
      have hz : i.toNat < z.cps.size := (Array.getElem?_eq_some_iff.mp e).1
      have hz2 : i < z.length := by show i < (z.cps.size : Nat); omega
      exact ⟨z, i, c, isD_str.mp ix, isD_int.mp iy, h0, h63, hz2, e, k.go W h (isD_str.mpr rfl)⟩
    · exact h.elim
  · exact h.elim
section
variable {X : Cx} {a b e : Expr} {wa wb we : WE} {pos p2 p : Pos} {lo hi : Option Expr} {wl wh : WO}
theorem ve_inS (ha : VE X S₀ a wa) (hb : VE X S₀ b wb) (hm : behindInMarks .In b = false := by rfl) : VE X S₀ (.Compare a [.In] [b] pos) (wOp (wrInS false) wa wb) := ve_cmp op_in_sign lk_inS ha hb hm
theorem vt_ninS (ha : VE X S₀ a wa) (hb : VE X S₀ b wb) (hm : behindInMarks .NotIn b = false := by rfl) : VT X S₀ (.Compare a [.NotIn] [b] pos) (wTest (wOp (wrInS true) wa wb)) := vt_cmp op_notIn_sign lk_ninS ha hb hm
theorem ve_ixS (ha : VE X S₀ a wa) (hb : VE X S₀ b wb) (hs : PlainIxT b := by exact fun _ _ => rfl) : VE X S₀ (.Subscript a b pos) (wOp wrIxS wa wb) := PE.imp (pe_item_str ha hb hs) fun _ _ _ h => lift_op lk_ixS h
def kSlS3 (x : D) (lo : Option Int) (Φ : KD) : Option Int → Mem → Prop := fun hi M => match x with | .str z => z.length ≤ lim ∧ Φ (.str (cutS z lo hi)) M | _ => False
def kSlS2 (wh : WO) (ρ : Sg) (x : D) (Φ : KD) : Option Int → Mem → Prop := fun lo M => wh ρ M (kSlS3 x lo Φ)
def kSlS1 (wl wh : WO) (ρ : Sg) (Φ : KD) : KD := fun x M => wl ρ M (kSlS2 wh ρ x Φ)
def wSlS (we : WE) (wl wh : WO) : WE := fun ρ M Φ => we ρ M (kSlS1 wl wh ρ Φ)
theorem ve_slS (he : VE X S₀ e we) (hl : VO X S₀ lo wl) (hh : VO X S₀ hi wh) : VE X S₀ (.Subscript e (.Slice lo hi none p2) pos) (wSlS we wl wh) := PE.imp (pe_slice sl_str he hl hh) fun σ H Q ⟨Hf, ρ, M, Φ, W, en, h, k⟩ => by
  refine ⟨Hf, ρ, M, _, W, en, h, fun x M1 v Hf1 H1 h1 W1 s1 i1 => ?_⟩
  refine ⟨Hf1, ρ, M1, _, W1, en.mono s1.ex, h1, fun a M2 Hf2 H2 h2 W2 s2 => ?_⟩
  refine ⟨Hf2, ρ, M2, _, W2, en.mono (s1.ex.trans s2.ex), h2, fun b M3 Hf3 H3 h3 W3 s3 => ?_⟩
  have i3 := IsD.mono (s2.ex.trans s3.ex) _ _ i1
  have k3 := k.at ((s1.trans s2).trans s3)
  unfold kSlS3 at h3
  split at h3
  · rename_i z
    exact ⟨z, isD_str.mp i3, lim_ok h3.1, k3.go W3 h3.2 (isD_str.mpr rfl)⟩
  · exact h3.elim
def strsD : List D → Option (List Str)
  | [] => some []
  | .str z :: ds => (strsD ds).map fun r => z :: r
  | _ => none
theorem strsD_map : ∀ L : List Str, strsD (L.map D.str) = some L
  | [] => rfl
  | z :: L => by rw [List.map_cons, strsD, strsD_map L]; rfl
theorem strsD_eq : ∀ {ds : List D} {L : List Str}, strsD ds = some L → ds = L.map D.str
  | [], L, h => by cases h; rfl
  | d :: ds, L, h => by
    cases d <;> simp only [strsD] at h <;> try cases h
    obtain ⟨r, e, rfl⟩ := Option.map_eq_some_iff.mp h
    rw [strsD_eq e]
    rfl
theorem strs_vals {K : PySem.W.Frag} {Hf : Hp} : ∀ {L : List Str} {vs : List V}, IsDs K Hf (L.map D.str) vs → vs = L.map V.str
  | [], vs, h => by rw [isDs_nil_inv h]; rfl
  | z :: L, vs, h => by
    obtain ⟨v, r, rfl, h1, h2⟩ := isDs_cons_inv h
    rw [isD_str.mp h1, strs_vals h2]
    rfl
def kJoin2 (z : Str) (Φ : KD) : KD := fun y M => match (lstF M y).bind strsD with
  | some L => ((L.map (·.length)).sum + L.length * z.length ≤ lim) ∧ Φ (.str (Txt.join z L)) M
  | none => False
def kJoin1 (wa : WE) (ρ : Sg) (Φ : KD) : KD := fun x M => match x with | .str z => wa ρ M (kJoin2 z Φ) | _ => False
def wJoin (wo wa : WE) : WE := fun ρ M Φ => wo ρ M (kJoin1 wa ρ Φ)
variable {apos : Pos} {o : Expr} {wo : WE}
theorem ve_join (ho : VE X S₀ o wo) (ha : VE X S₀ a wa) (hs : starEach [a] X.env = [(false, eval a X.env)] := by rfl) (hbase : attributeBase o "join" X.env (eval o X.env) = eval o X.env := by rfl) (hline : (apos.endLine == pos.line) = true := by rfl) :
    VE X S₀ (.Call (.Attribute o "join" apos) [a] [] pos) (wJoin wo wa) := PE.imp (pe_join ho ha hs hbase hline) fun σ H Q ⟨Hf, ρ, M, Φ, W, en, h, k⟩ => by
  refine ⟨Hf, ρ, M, _, W, en, h, fun x M1 v Hf1 H1 h1 W1 s1 i1 => ?_⟩
  unfold kJoin1 at h1
  split at h1
  · rename_i z
    refine ⟨⟨z, isD_str.mp i1⟩, Hf1, ρ, M1, _, W1, en.mono s1.ex, h1, fun y M2 u Hf2 H2 h2 W2 s2 i2 => ?_⟩
    unfold kJoin2 at h2
    split at h2
    · rename_i L e
      obtain ⟨ds, e1, e2⟩ := Option.bind_eq_some_iff.mp e
      obtain ⟨p, xs, rfl, q1, q2⟩ := lstF_some W2 i2 e1
      rw [strsD_eq e2] at q2
      rw [strs_vals q2] at q1
      exact ⟨z, p, L, isD_str.mp (IsD.mono s2.ex _ _ i1), rfl, .inl q1, Nat.le_trans h2.1 (by decide), (k.at (s1.trans s2)).go W2 h2.2 (isD_str.mpr rfl)⟩
    · exact h2.elim
  · exact h1.elim
def wrIntS : WC := fun ds M Φ => match one ds with | some (.str z) => (match intText? z with | some n => z.length ≤ 640 ∧ Φ (.int n) M | none => False) | _ => False
theorem lk_intS {K : PySem.W.Frag} : LkC K (fun xs H Q => ∃ a n, xs = [.str a] ∧ PySem.intText? a = some n ∧ a.length ≤ 640 ∧ Q (.int n) H) wrIntS := by
  intro S₀ Hf M H ds vs Φ Q W i h k
  unfold wrIntS at h
  split at h
  · rename_i z e
    split at h
    · rename_i n e2
      obtain ⟨v, rfl, iv⟩ := one_some i e
      exact ⟨z, n, by rw [isD_str.mp iv], e2, h.1, k.go W h.2 (isD_int.mpr rfl)⟩
    · exact h.elim
  · exact h.elim
theorem ve_intS {wA : WA} (hg : Gl X "int") (hm : X.mg "int" = none) (ha : VA X S₀ [e] wA) (he : starEach [e] X.env = (false, eval e X.env) :: starEach [] X.env := by rfl) : VE X S₀ (.Call (.Name "int" p) [e] [] pos) (wCB wrIntS wA) :=
  ve_callTy call_int_str lk_intS hg hm (by decide +kernel) ha (he := he)
end
section
variable {ρ : Sg} {M : Mem} {Φ : KD} {we wo wa : WE} {wl wh : WO} {z : Str} {c : Nat} {i : Int} {lo hi : Option Int} {L : List Str} {P : List D → Mem → Prop} {a : Addr}
theorem e_wiStr : wiStr we ρ M P = we ρ M (kStrI P) := rfl
theorem e_kStrI : kStrI P (.str z) M = P (signs z) M := rfl
theorem e_inS : wrInS false (sgD c) (.str z) M Φ = Φ (.bl (decide (c ∈ z.cps.toList))) M := rfl
theorem e_ninS : wrInS true (sgD c) (.str z) M Φ = Φ (.bl (!decide (c ∈ z.cps.toList))) M := rfl
theorem e_ixS (h0 : 0 ≤ i) (h1 : i < 2 ^ 63) (h : z.cps.toList[i.toNat]? = some c) : wrIxS (.str z) (.int i) M Φ = Φ (sgD c) M := by
  unfold wrIxS
  simp only [h0, h1, h, true_and, and_self]
theorem e_slS : wSlS we wl wh ρ M Φ = we ρ M (kSlS1 wl wh ρ Φ) := rfl
theorem e_slS1 {x : D} : kSlS1 wl wh ρ Φ x M = wl ρ M (kSlS2 wh ρ x Φ) := rfl
theorem e_slS2 {x : D} : kSlS2 wh ρ x Φ lo M = wh ρ M (kSlS3 x lo Φ) := rfl
theorem e_slS3 : kSlS3 (.str z) lo Φ hi M = (z.length ≤ lim ∧ Φ (.str (cutS z lo hi)) M) := rfl
theorem e_join : wJoin wo wa ρ M Φ = wo ρ M (kJoin1 wa ρ Φ) := rfl
theorem e_join1 : kJoin1 wa ρ Φ (.str z) M = wa ρ M (kJoin2 z Φ) := rfl
theorem e_join2 : kJoin2 z Φ (.lst (L.map D.str)) M = (((L.map (·.length)).sum + L.length * z.length ≤ lim) ∧ Φ (.str (Txt.join z L)) M) := by
  unfold kJoin2
  simp only [lstF, Option.bind, strsD_map]
theorem e_intS {n : Int} (h : intText? z = some n) : wrIntS [.str z] M Φ = (z.length ≤ 640 ∧ Φ (.int n) M) := by
  unfold wrIntS
  simp only [one, h]
end
end VL
namespace VL
open PySem PySem.Spec PyProof.Rows L2
def sL (l : List Nat) : Str := ⟨l.toArray⟩
theorem tl_sL (l : List Nat) : (sL l).cps.toList = l := by unfold sL; simp
theorem sL_tl (z : Str) : sL z.cps.toList = z := TL.ext_tl (tl_sL _)
theorem sL_len (l : List Nat) : (sL l).length = l.length := by show l.toArray.size = _; simp
theorem sL_inj {a b : List Nat} (h : sL a = sL b) : a = b := by rw [← tl_sL a, h, tl_sL]
theorem sL_app (a b : List Nat) : sL a ++ sL b = sL (a ++ b) := TL.ext_tl (by rw [TL.tl_append, TL.tl, TL.tl, TL.tl, tl_sL, tl_sL, tl_sL])
theorem sL_dec {a b : List Nat} : decide (sL a = sL b) = decide (a = b) := decide_eq_decide.mpr ⟨sL_inj, fun h => by rw [h]⟩
theorem signs_sL (l : List Nat) : signs (sL l) = l.map sgD := by unfold signs; rw [tl_sL]
theorem sg_sL (c : Nat) : sgD c = .str (sL [c]) := rfl
theorem cut_sL {l : List Nat} {i j : Nat} : cutS (sL l) (some (i : Int)) (some (j : Int)) = sL ((l.drop (min i l.length)).take (min j l.length - min i l.length)) := by
  unfold cutS
  rw [tl_sL, sL_len, HT.sIx_nat, HT.sIx_nat]
  rfl
def oneAt (l : List Nat) (i : Nat) : List Nat := match l[i]? with | some c => [c] | none => []
theorem cutL_one {l : List Nat} {i : Nat} (h : i ≤ l.length) : cutS (sL l) (some (i : Int)) (some (((i : Nat) : Int) + 1)) = sL (oneAt l i) := by
  have e : ((i : Nat) : Int) + 1 = ((i + 1 : Nat) : Int) := rfl
  rw [e, cut_sL, Nat.min_eq_left h]
  congr 1
  unfold oneAt
  cases q : l[i]? with
  | none =>
    have := List.getElem?_eq_none_iff.mp q
    rw [show min (i + 1) l.length - i = 0 by omega]
    rfl
  | some c =>
    obtain ⟨h1, h2⟩ := List.getElem?_eq_some_iff.mp q
    rw [show min (i + 1) l.length - i = 1 by omega, List.drop_eq_getElem_cons h1, h2]
    rfl
theorem cutL_to {l : List Nat} {i : Nat} : cutS (sL l) none (some (i : Int)) = sL (l.take i) := by
  unfold cutS
  rw [tl_sL, sL_len, HT.sIx_nat, HT.sIx_none, List.drop_zero, Nat.sub_zero]
  show sL _ = _
  congr 1
  rw [List.take_eq_take_iff]
  omega
theorem cutL_from {l : List Nat} {i : Nat} : cutS (sL l) (some (i : Int)) none = sL (l.drop i) := by
  unfold cutS
  rw [tl_sL, sL_len, HT.sIx_nat, HT.sIx_none]
  show sL _ = _
  congr 1
  rw [List.take_of_length_le (by rw [List.length_drop]; omega)]
  by_cases h : i ≤ l.length
  · rw [Nat.min_eq_left h]
  · rw [Nat.min_eq_right (by omega), List.drop_length, List.drop_of_length_le (by omega)]
end VL
namespace VL
open PySem PySem.Spec PyProof.Rows L2
section
variable {S₀ : W0}
section
variable {X : Cx} {o e : Expr} {wo we : WE} {wa : WA} {apos cpos p pos : Pos}
end
end
def fz2 (M : Mem) : D → D
  | .lst ds => .lst (ds.map (fzr M))
  | d => fz1 M d
def kCallQ (Wf : W3) (Φ : KD) : List D → Mem → Prop := fun ds M => Wf (ds.map (fz2 M)) (fun _ => none) (fun d _ => flatD d = true ∧ Φ d M)
def wCallQ (Wf : W3) (wa : WA) : WE := fun ρ M Φ => wa ρ M (kCallQ Wf Φ)
section
variable {K : PySem.W.Frag} {Hf : Hp} {M : Mem} {H : Hp}
theorem fz2_isD (W : Wr K Hf M H) {d : D} {v : V} (i : IsD K Hf d v) : IsD K (frzH Hf M H) (fz2 M d) v := by
  cases d with
  | lst ds =>
    obtain ⟨a, xs, rfl, q1, q2⟩ := isD_lst.mp i
    exact isD_lst.mpr ⟨a, xs, rfl, frzH_ex W _ _ q1, fzr_isDs W q2⟩
  | _ => exact fz1_isD W i
theorem fz2_isDs (W : Wr K Hf M H) : ∀ {ds : List D} {vs : List V}, IsDs K Hf ds vs → IsDs K (frzH Hf M H) (ds.map (fz2 M)) vs
  | [], vs, i => by rw [isDs_nil_inv i]; exact isDs_nil
  | d :: ds, vs, i => by
    obtain ⟨v, r, rfl, i1, i2⟩ := isDs_cons_inv i
    exact isDs_cons (fz2_isD W i1) (fz2_isDs W i2)
end
section
variable {X : Cx} {S₀ : W0} {k : Nat} {f : Addr} {fd : FuncData} {ps : List Str} {Wf : W3} {x : Str} {p pos : Pos} {e : Expr} {es : List Expr} {wa : WA}
theorem ve_callQ (F : FnOk X.prog X.w X.K X.mg X.base CX0 k f fd ps (spW X.K Wf)) (hr : Room k X.A) (hg : Gl X x) (hm : X.mg x = some (.ref f)) (hk : PySem.W.keepIn X.K (.ref f) = true) (hb : Binds X.K fd ps [])
    (ha : VA X S₀ (e :: es) wa) (hdb : (x == ("__debug__" : Str)) = false := by decide) (he : starEach (e :: es) X.env = (false, eval e X.env) :: starEach es X.env := by rfl) (hpl : (backTo pos (starEach es X.env)).any (·.1) = false := by rfl) :
    VE X S₀ (.Call (.Name x p) (e :: es) [] pos) (wCallQ Wf wa) :=
  PE.imp (pe_call F hr hg hm hk hb .nil pass0 ha hdb he hpl) fun σ H Q ⟨Hf, ρ, M, Φ, W, e, h, k⟩ =>
    ⟨Hf, ρ, M, _, W, e, h, fun dd M1 vs Hf1 H1 h1 W1 s1 i1 => ⟨frzH Hf1 M1 H1, fun _ => none, dd.map (fz2 M1), _, frzH_wr W1.toWr, by rw [List.append_nil]; exact fz2_isDs W1.toWr i1, h1, fun d M' v Hf' H' q W' s' i => by
      obtain ⟨w2, s2⟩ := frz_back W1.toWr W' s'
      exact ((k.at s1).raw W1) d M1 v _ H' q.2 w2 s2 (flat_any q.1 i)⟩⟩
end
section
variable {ρ : Sg} {M : Mem} {Φ : KD} {Wf : W3} {wa : WA} {ds : List D} {a : Addr} {es : List D} {d : D} {ns : List Int}
theorem e_callQ : wCallQ Wf wa ρ M Φ = wa ρ M (kCallQ Wf Φ) := rfl
theorem e_callQk : kCallQ Wf Φ ds M = Wf (ds.map (fz2 M)) (fun _ => none) (fun d _ => flatD d = true ∧ Φ d M) := rfl
end
end VL
namespace VL
open PySem PySem.Spec PyProof.Rows L2
theorem loop_map {α : Type} {f : α → D} {g : WG} {body : WS} {De : WN} {L : List α} {ρ : Sg} {M : Mem} (P : List α → List α → Sg → Mem → Prop) (h0 : P [] L ρ M)
    (hs : ∀ pre x post ρ M (bk : Sg → Mem → Prop) (nx : Sg → Mem → Prop), L = pre ++ x :: post → P pre (x :: post) ρ M → bk = De.nx → (∀ ρ M, P (pre ++ [x]) post ρ M → nx ρ M) → g (f x) ρ M (body ⟨nx, De.rt, bk, nx⟩))
    (hd : ∀ ρ M, P L [] ρ M → De.nx ρ M) : sLoop g body De (L.map f) ρ M := by
  suffices h : ∀ (post pre : List α) ρ M, L = pre ++ post → P pre post ρ M → sLoop g body De (post.map f) ρ M from h L [] ρ M rfl h0
  intro post
  induction post with
  | nil => intro pre ρ M e p; rw [List.append_nil] at e; subst e; exact hd ρ M p
  | cons x post ih =>
    intro pre ρ M e p
    exact hs pre x post ρ M _ _ e p rfl fun ρ' M' p' => ih (pre ++ [x]) ρ' M' (by rw [e, List.append_assoc]; rfl) p'
theorem loop_rng {g : WG} {body : WS} {De : WN} {lo : Int} {n : Nat} {ρ : Sg} {M : Mem} (P : Nat → Sg → Mem → Prop) (h0 : P 0 ρ M)
    (hs : ∀ i ρ M (bk : Sg → Mem → Prop) (nx : Sg → Mem → Prop), i < n → P i ρ M → bk = De.nx → (∀ ρ M, P (i + 1) ρ M → nx ρ M) → g (.int (lo + (i : Nat))) ρ M (body ⟨nx, De.rt, bk, nx⟩))
    (hd : ∀ ρ M, P n ρ M → De.nx ρ M) : sLoop g body De (rgD lo n) ρ M := by
  unfold rgD
  refine loop_map (fun pre _ ρ M => P pre.length ρ M) h0 ?_ ?_
  · intro pre x post ρ M bk nx e hp hb hn
    have hl := congrArg List.length e
    rw [List.length_range, List.length_append, List.length_cons] at hl
    have hx : x = pre.length := by
      have h := congrArg (fun l : List Nat => l[pre.length]?) e
      simp only [List.getElem?_append_right (Nat.le_refl _), Nat.sub_self, List.getElem?_cons_zero] at h
      rw [List.getElem?_range (by omega)] at h
      exact (Option.some.inj h).symm
    subst hx
    exact hs _ ρ M bk nx (by omega) hp hb fun ρ M h => hn ρ M (by rw [List.length_append]; exact h)
  · intro ρ M h
    rw [List.length_range] at h
    exact hd ρ M h
theorem lc_of {α : Type} {f : α → D} {g : WG} {tt : WT} {te : WE} {ρ : Sg} {k : List D → Mem → Prop} {M : Mem} {L : List α} (r : α → D)
    (hx : ∀ x ∈ L, ∀ (Ψ : List D → Mem → Prop) acc, Ψ (acc ++ [r x]) M → g (f x) ρ M (kLc1 tt te acc Ψ)) (h : k (L.map r) M) : wLcGo g tt te ρ k (L.map f) [] M := by
  suffices h' : ∀ (L' : List α) (acc : List D), (∀ x ∈ L', x ∈ L) → k (acc ++ L'.map r) M → wLcGo g tt te ρ k (L'.map f) acc M from h' L [] (fun _ h => h) h
  clear h
  intro L'
  induction L' with
  | nil => intro acc _ h; show k acc M; simpa using h
  | cons x L' ih =>
    intro acc hL h
    refine hx x (hL x (List.mem_cons_self ..)) _ acc ?_
    exact ih _ (fun y hy => hL y (List.mem_cons_of_mem _ hy)) (by rw [List.append_assoc]; exact h)
theorem lc_mapM {α : Type} {f : α → D} {g : WG} {tt : WT} {te : WE} {ρ : Sg} {k : List D → Mem → Prop} {M : Mem} {L : List α} (r : α → D) (I : Mem → Prop) (h0 : I M)
    (hx : ∀ x ∈ L, ∀ M (Ψ : List D → Mem → Prop) acc, I M → (∀ M', I M' → Ψ (acc ++ [r x]) M') → g (f x) ρ M (kLc1 tt te acc Ψ)) (h : ∀ M, I M → k (L.map r) M) : wLcGo g tt te ρ k (L.map f) [] M := by
  suffices h' : ∀ (L' : List α) (acc : List D) M, (∀ x ∈ L', x ∈ L) → I M → (∀ M, I M → k (acc ++ L'.map r) M) → wLcGo g tt te ρ k (L'.map f) acc M from h' L [] M (fun _ h => h) h0 h
  clear h0 h
  intro L'
  induction L' with
  | nil => intro acc M _ hi h; show k acc M; simpa using h M hi
  | cons x L' ih =>
    intro acc M hL hi h
    refine hx x (hL x (List.mem_cons_self ..)) M _ acc hi fun M' hi' => ?_
    exact ih _ M' (fun y hy => hL y (List.mem_cons_of_mem _ hy)) hi' fun M2 h2 => by rw [List.append_assoc]; exact h M2 h2
end VL
namespace Tm
open PySem PyProof.Rows
def nmL (i : Int) : List Nat := if i < 0 then 45 :: TL.numL i.natAbs else TL.numL i.natAbs
theorem nm_str : ∀ i : Int, (Str.ofString (toString i)).cps.toList = nmL i
  | .ofNat n => by
    have := TL.tl_num n
    unfold nmL
    rw [if_neg (by simp)]
    exact this
  | .negSucc n => by
    have h := TL.tl_num (n + 1)
    unfold nmL
    rw [if_pos (Int.negSucc_lt_zero n)]
    have e : toString (Int.negSucc n) = "-" ++ toString ((n + 1 : Nat) : Int) := rfl
    show (Str.ofString (toString (Int.negSucc n))).cps.toList = 45 :: TL.numL (n + 1)
    rw [← h, e]
    show (Str.ofString ("-" ++ toString ((n + 1 : Nat) : Int))).cps.toList = 45 :: (Str.ofString (toString ((n + 1 : Nat) : Int))).cps.toList
    rw [signs_ofString, signs_ofString, String.toList_append, List.map_append]
    rfl
theorem nm_mem {i : Int} {c : Nat} (h : c ∈ nmL i) : c = 45 ∨ (48 ≤ c ∧ c ≤ 57) := by
  unfold nmL at h
  split at h
  · rcases List.mem_cons.mp h with h | h
    · exact .inl h
    · exact .inr (TL.numL_digits _ c h)
  · exact .inr (TL.numL_digits _ c h)
theorem nm_ne (i : Int) : nmL i ≠ [] := by
  unfold nmL
  split
  · simp
  · exact TL.numL_ne _
theorem nm_len {i : Int} {k : Nat} (hk : 0 < k) (h : i.natAbs < 10 ^ k) : (nmL i).length ≤ k + 1 := by
  have := TL.numL_len hk h
  unfold nmL
  split
  · rw [List.length_cons]; omega
  · omega
theorem nm_len0 {i : Int} {k : Nat} (hk : 0 < k) (h0 : 0 ≤ i) (h : i.natAbs < 10 ^ k) : (nmL i).length ≤ k := by
  unfold nmL
  rw [if_neg (by omega)]
  exact TL.numL_len hk h
theorem num_head (n : Nat) : n ≠ 0 → (TL.numL n).head? ≠ some 48 := by
  induction n using Nat.strongRecOn with
  | _ n ih =>
    intro h0
    by_cases h : n < 10
    · rw [TL.numL_lt h]
      intro e
      injection e with e
      omega
    · rw [TL.numL_step (by omega)]
      have := ih (n / 10) (by omega) (by omega)
      have ne := TL.numL_ne (n / 10)
      cases hh : TL.numL (n / 10) with
      | nil => exact absurd hh ne
      | cons a r => rw [hh] at this; exact this
def digL (l : List Nat) : List Nat := if l.take 1 = [45] then l.drop 1 else l
def isDig (c : Nat) : Bool := decide (c ∈ [48, 49, 50, 51, 52, 53, 54, 55, 56, 57])
def numOf (l : List Nat) : Option Int :=
  if (1 ≤ (digL l).length ∧ (digL l).length ≤ 31) ∧ (digL l).all isDig = true then
    if (digL l).head? = some 48 ∧ l ≠ [48] then none
    else some (if l.take 1 = [45] then -((NumText.digitsVal (digL l) : Nat) : Int) else ((NumText.digitsVal (digL l) : Nat) : Int))
  else none
theorem isDig_iff {c : Nat} : isDig c = true ↔ 48 ≤ c ∧ c ≤ 57 := by
  unfold isDig
  rw [decide_eq_true_eq]
  simp only [List.mem_cons, List.not_mem_nil, or_false]
  omega
theorem all_dig {l : List Nat} : l.all isDig = true ↔ NumText.AllDigits l := by
  rw [List.all_eq_true]
  exact ⟨fun h c hc => isDig_iff.mp (h c hc), fun h c hc => isDig_iff.mpr (h c hc)⟩
theorem num_take (n : Nat) : (TL.numL n).take 1 ≠ [45] := fun h => by
  have ne := TL.numL_ne n
  cases e : TL.numL n with
  | nil => exact ne e
  | cons a r =>
    rw [e] at h
    injection h with h
    have := TL.numL_digits n a (by rw [e]; exact List.mem_cons_self ..)
    omega
theorem numOf_nm {i : Int} (h : i.natAbs < 10 ^ 31) : numOf (nmL i) = some i := by
  have dl : digL (nmL i) = TL.numL i.natAbs := by
    unfold digL nmL
    split
    · rfl
    · rw [if_neg (num_take _)]
  have l1 : 1 ≤ (TL.numL i.natAbs).length := List.length_pos_iff.mpr (TL.numL_ne _)
  have l2 := TL.numL_len (by decide) h
  unfold numOf
  rw [dl, if_pos ⟨⟨l1, l2⟩, all_dig.mpr (TL.numL_digits _)⟩, if_neg, TL.numL_val]
  · congr 1
    unfold nmL
    by_cases c : i < 0
    · rw [if_pos c, if_pos (show List.take 1 (45 :: TL.numL i.natAbs) = [45] from rfl)]; omega
    · rw [if_neg c, if_neg (num_take _)]; omega
  · rintro ⟨a, b⟩
    by_cases z : i.natAbs = 0
    · refine b ?_
      have : i = 0 := by omega
      subst this
      rfl
    · exact num_head _ z a
theorem numOf_int {l : List Nat} {i : Int} (h : numOf l = some i) : intText? ⟨l.toArray⟩ = some i := by
  unfold numOf at h
  split at h
  · rename_i h1
    split at h
    · cases h
    · cases h
      have hd := all_dig.mp h1.2
      have hne : digL l ≠ [] := fun e => by have := h1.1.1; rw [e] at this; simp at this
      unfold digL at *
      split
      · rename_i c
        rw [if_pos c] at hd hne h1
        have e : l = 45 :: l.drop 1 := by
          have := List.take_append_drop 1 l
          rw [c] at this
          exact this.symm
        exact intText_neg (x := ⟨l.toArray⟩) (cs := l.drop 1) (by simpa using e) hd hne (by
          have h2 := h1.1.2
          show l.toArray.size ≤ 4300
          rw [List.size_toArray]
          rw [List.length_drop] at h2
          omega)
      · rename_i c
        rw [if_neg c] at hd hne h1
        have := intText_digits (x := ⟨l.toArray⟩) (by simpa using hd) (by simpa using hne) (by
          show l.toArray.size ≤ 4300
          rw [List.size_toArray]
          omega)
        simpa using this
  · cases h
end Tm
namespace Tm
open PySem PyProof.Rows
mutual
def HS.tx : HS → List Nat
  | .key k => nmL k
  | .rep _ c _ ss => nmL c ++ ([42, 40] ++ (txs ss ++ [41]))
  | .odd _ => []
def txs : List HS → List Nat
  | [] => []
  | s :: r => s.tx ++ txr r
def txr : List HS → List Nat
  | [] => []
  | s :: r => 32 :: (s.tx ++ txr r)
end
mutual
def HS.pl : HS → HS
  | .key k => .key k
  | .rep w c _ ss => .rep w c true (pls ss)
  | .odd c => .odd c
def pls : List HS → List HS
  | [] => []
  | s :: r => s.pl :: pls r
end
theorem txs_join : ∀ ss : List HS, TL.joinL [32] (ss.map HS.tx) = txs ss
  | [] => rfl
  | [s] => by rw [txs, txr, List.append_nil]; rfl
  | s :: q :: r => by
    have ih := txs_join (q :: r)
    rw [txs, txr]
    rw [List.map_cons, List.map_cons, TL.joinL]
    rw [List.map_cons] at ih
    rw [ih, txs]
    simp
mutual
theorem HS.pl_wr : ∀ s : HS, s.pl.wr = s.wr
  | .key k => rfl
  | .rep w c b ss => by rw [HS.pl, HS.wr, HS.wr, pls_wr ss]
  | .odd c => rfl
theorem pls_wr : ∀ ss : List HS, wrs (pls ss) = wrs ss
  | [] => rfl
  | s :: r => by rw [pls, wrs, wrs, HS.pl_wr s, pls_wr r]
end
mutual
theorem HS.pl_dp : ∀ s : HS, s.pl.dp = s.dp
  | .key k => rfl
  | .rep w c b ss => by rw [HS.pl, HS.dp, HS.dp, pls_dp ss]
  | .odd c => rfl
theorem pls_dp : ∀ ss : List HS, dps (pls ss) = dps ss
  | [] => rfl
  | s :: r => by rw [pls, dps, dps, HS.pl_dp s, pls_dp r]
end
mutual
theorem HS.pl_ok : ∀ s : HS, s.ok → s.pl.ok
  | .key k, h => h
  | .rep w c b ss, h => by rw [HS.pl, HS.ok]; rw [HS.ok] at h; exact ⟨h.1, pls_ok ss h.2⟩
  | .odd c, h => h
theorem pls_ok : ∀ ss : List HS, oks ss → oks (pls ss)
  | [], h => h
  | s :: r, h => by rw [pls, oks]; rw [oks] at h; exact ⟨HS.pl_ok s h.1, pls_ok r h.2⟩
end
mutual
theorem HS.tx_len : ∀ s : HS, s.ok → s.tx.length + 1 ≤ 36 * s.wr
  | .key k, h => by
    rw [HS.ok] at h
    rw [HS.tx, HS.wr]
    have := nm_len (i := k) (k := 10) (by decide) (by omega)
    omega
  | .rep w c b ss, h => by
    rw [HS.ok] at h
    rw [HS.tx, HS.wr]
    have h1 := nm_len0 (i := c) (k := 31) (by decide) h.1.2.1 (by omega)
    have h2 := txs_len ss h.2
    simp only [List.length_append, List.length_cons, List.length_nil]
    omega
  | .odd c, h => by rw [HS.ok] at h; exact h.elim
theorem txs_len : ∀ ss : List HS, oks ss → (txs ss).length ≤ 36 * wrs ss
  | [], _ => Nat.zero_le _
  | s :: r, h => by
    rw [oks] at h
    rw [txs, wrs, List.length_append]
    have h1 := HS.tx_len s h.1
    have h2 := txr_len r h.2
    omega
theorem txr_len : ∀ ss : List HS, oks ss → (txr ss).length ≤ 36 * wrs ss
  | [], _ => Nat.zero_le _
  | s :: r, h => by
    rw [oks] at h
    rw [txr, wrs, List.length_cons, List.length_append]
    have h1 := HS.tx_len s h.1
    have h2 := txr_len r h.2
    omega
end
end Tm
namespace XL
open PySem PySem.Spec PyProof.Rows L2 LamX VL
abbrev lamF (qual : Str) (params : Arguments) (scope : Scope) (cl : List (Str × Addr)) (c : Addr) : NdefX.NF := ⟨"<lambda>", qual, params, [], scope, cl, c⟩
abbrev lamZ (P : Program) (w : World) (K : PySem.W.Frag) (mg : Str → Option Value) (base : Heap) (N : List Str) (F : NdefX.NF) (f : Addr) (A : Around) (outer : List Env) (s : Shared) (H : Hp) (E : XK) : Cx :=
  NdefX.ncx (CXk P w) P w K mg base N F f A outer s H E
section
variable {P : Program} {w : World} {K : PySem.W.Frag} {mg : Str → Option Value} {base : Heap} {N ps fr : List Str} {qual : Str} {params : Arguments} {body : Expr} {scope : Scope} {cl : List (Str × Addr)} {c f : Addr}
end
end XL
namespace XL
open PySem PySem.Spec PyProof.Rows L2 LamX VL
section
variable {B : Cx} {tg elt : Expr} {σw : L2.St} {fp : List Addr} {tn : Nat → Heap → Prop} {W : Nat → Nat → Hp → Prop} {it D : Addr} {J : It} {vs : List Nat} {te : TE} {g : TG}
end
section
variable {X : Cx} {elt tg iter : Expr} {scope : Scope} {own : List (Str × Nat)} {pos : Pos} {wi : TI} {g : TG} {te : L2.St → TE}
end
end XL
namespace XL
open PySem PySem.Spec PyProof.Rows L2 LamX VL
section
variable {P : Program} {w : World} {K : PySem.W.Frag} {mg : Str → Option Value} {base : Heap} {N ps fr : List Str} {qual : Str} {params : Arguments} {body : Expr} {scope : Scope} {cl : List (Str × Addr)} {c f : Addr} {ws : List (Option V)}
def AtHand (f : Addr) (qual : Str) (params : Arguments) (body : Expr) (scope : Scope) (cl : List (Str × Addr)) (c : Addr) (ps : List Str) (us : List Value) (s1 : Shared) : Prop :=
  ∃ dV doc pm ctv : Value, s1.heap.get? f = some (PySem.W.kdv_obj "<lambda>" qual params (.expr body) scope cl dV doc pm c ctv) ∧ BindsTo s1 (PySem.W.kdv_fn "<lambda>" qual params (.expr body) scope cl dV doc pm (.ref c) ctv) ⟨[], []⟩ (ps.zip us)
end
section
variable {X : Cx} {S₀ : W0} {tl : List Str} {params : Arguments} {body : Expr} {scope : Scope} {wb : XC → WE} {k : Nat} {qual : Str} {cl : List (Str × Addr)} {N ps fr : List Str} {vs : List V} {us : List Value} {ws : List (Option V)}
end
end XL
namespace XL
open PySem PySem.Spec PyProof.Rows L2 LamX VL
abbrev dfT (dv : List Value) : Obj := { cls := .type "tuple", data := .seq dv.toArray }
section
variable {X : Cx} {pins : List (Addr × Obj)} {σ : L2.St} {H : Hp} {s : Shared}
end
abbrev LG := Addr → Addr → List Value → Obj → Prop
section
variable {X : Cx} {S₀ : W0} {c P : Addr} {params : Arguments} {body : Expr} {scope : Scope} {pos : Pos}
end
section
variable {P : Addr} {q : Str} {g : LG} {ρ : Sg} {M : Mem} {Φ : KD}
end
end XL
namespace XL
open PySem PySem.Spec PyProof.Rows L2 LamX VL
structure LE where
  g : LG
  dfl : List VL.D
  js : List Nat
  wb : XC → WE
structure EntOk (X : Cx) (own : List Nat) (k : Nat) (e : LE) : Prop where
  ex : ∃ (params : Arguments) (body : Expr) (scope : Scope) (ps fr : List Str),
    NdefX.NScope (ps ++ fr) ps fr scope ∧ NdefX.ndefB X.env.scope scope fr = true ∧ e.js.map (fun j => X.N[j]?) = fr.map some ∧ (∀ j ∈ e.js, j ∉ own) ∧ e.dfl.length = ps.length ∧
    (∀ (f c T : Addr) (dv : List Value) (ob : Obj), e.g c T dv ob → ∃ (vs : List V) (us : List Value), Vals vs us ∧ (∀ Hf, VL.IsDs X.K Hf e.dfl vs) ∧
      ∀ s1 : Shared, s1.heap.get? f = some ob → (dv = [] ∨ s1.heap.get? T = some (dfT dv)) → AtHand f (lname X) params body scope (cloFrom X.env.cells scope.names []) c ps us s1) ∧
    ∀ (c f : Addr) (A : Around) (outer : List Env) (s : Shared) (H : Hp) (E : XK), Room k (A.deeper (NdefX.envF (lamF (lname X) params scope (cloFrom X.env.cells scope.names []) c) f s.heap.objs.size)) → ∀ (S₂ : W0) (Ψ : XC), KnX X.K X.mg S₂ Ψ E →
      VE (lamZ X.prog X.w X.K X.mg X.base (ps ++ fr) (lamF (lname X) params scope (cloFrom X.env.cells scope.names []) c) f A outer s H E) S₂ body (e.wb Ψ)
section
variable {X : Cx} {own js : List Nat} {k : Nat} {params : Arguments} {body : Expr} {scope : Scope} {fr : List Str} {wb : XC → WE}
end
section
variable {X : Cx} {S₀ : W0} {tl : List Str} {scope : Scope} {own : List (Str × Nat)} {j k : Nat} {a : Str} {es : List LE} {p1 p2 p3 : Pos}
end
section
variable {j : Nat} {tl : List Str} {q : Str} {es : List LE} {ρ : Sg} {M : Mem} {Φ : KD} {f : Addr} {e : LE}
end
end XL
namespace XL
open PySem PySem.Spec PyProof.Rows L2 LamX VL
section
variable {X : Cx} {own : List Nat} {k : Nat} {e : LE} {es : List LE}
end
end XL
namespace VL
open PySem PySem.Spec PyProof.Rows L2 Tm XL
theorem cl_mkL {k : Nat} {ds : List D} (hl : ds.length ≤ lim) (h : ∀ d ∈ ds, cl k d) : cl (k + 1) (.lst ds) := ⟨hl, h⟩
theorem cl_mkT {k : Nat} {ds : List D} (hl : ds.length ≤ lim) (h : ∀ d ∈ ds, cl k d) : cl (k + 1) (.tup ds) := ⟨hl, h⟩
theorem cls_nil {k : Nat} : ∀ d ∈ ([] : List D), cl k d := fun _ h => nomatch h
theorem cls_cons {k : Nat} {a : D} {r : List D} (h : cl k a) (t : ∀ d ∈ r, cl k d) : ∀ d ∈ a :: r, cl k d := fun d m => by
  rcases List.mem_cons.mp m with rfl | m
  · exact h
  · exact t d m
end VL
--@LAW k56
namespace VL
open PySem PySem.Spec PyProof.Rows L2 Tm XL
theorem strI (i : Int) : Str.ofString (toString i) = sL (nmL i) := TL.ext_tl (by rw [TL.tl, TL.tl, tl_sL]; exact nm_str i)
theorem join_sp (ss : List HS) : Txt.join (" " : Str) (ss.map fun s => sL s.tx) = sL (txs ss) := by
  refine TL.ext_tl ?_
  rw [TL.join_eq, TL.tl_join, TL.tl, TL.tl, tl_sL, List.map_map, ← txs_join]
  congr 1
theorem log_ok {i : Int} (h : i.natAbs < 10 ^ 31) : i.natAbs.log2 < 1920 := by
  by_cases z : i.natAbs = 0
  · rw [z]; decide +kernel
  · rw [Nat.log2_lt z]
    exact Nat.lt_of_lt_of_le h (by decide +kernel)
theorem wr_mem : ∀ {ss : List HS} {s : HS}, s ∈ ss → s.wr ≤ wrs ss
  | x :: r, s, h => by
    rw [wrs]
    rcases List.mem_cons.mp h with rfl | h
    · omega
    · have := wr_mem h
      omega
theorem sum_txs : ∀ ss : List HS, oks ss → ((ss.map fun s => sL s.tx).map (·.length)).sum + ss.length ≤ 36 * wrs ss
  | [], _ => Nat.zero_le _
  | s :: r, h => by
    rw [oks] at h
    have h1 := HS.tx_len s h.1
    have h2 := sum_txs r h.2
    rw [List.map_cons, List.map_cons, List.sum_cons, List.length_cons, wrs, sL_len]
    omega
def W_format_steps : Nat → W3
  | 0 => fun _ _ _ => False
  | n + 1 => fun ds M Φ => ∃ (ss : List HS) (b : Bool), ds = [seqD b (hDs ss)] ∧ (oks ss ∧ dps ss ≤ n ∧ wrs ss ≤ 100) ∧ Φ (.str (sL (txs ss))) M
def W_format_step : Nat → W3 := fun n ds M Φ => ∃ s : HS, ds = [hD s] ∧ (s.ok ∧ s.dp ≤ n ∧ s.wr ≤ 100) ∧ Φ (.str (sL s.tx)) M
def w_format_step (W_format_steps : W3) : WS := (sSeq (sIf (wTest (wCB wrIsi (wCons (wVar 0) (wCons (wC (.ty "int")) wNil)))) (sRet (wCB wrStrI (wCons (wVar 0) wNil))) sNext)
  (sRet (wFstr [(wFmt (wOp wrIx (wVar 0) (wC (.int 1)))), (wC (.str "*(")), (wFmt (wCall W_format_steps (wCons (wOp wrIx (wVar 0) (wC (.int 2))) wNil))), (wC (.str ")"))])))
theorem start_x1 {a : D} : startD 1 [a] = [some a] := rfl
theorem start_x2 {a : D} : startD 2 [a] = [some a, none] := rfl
theorem ob_s : ("*(" : Str) = sL [42, 40] := rfl
theorem ob_c : (")" : Str) = sL [41] := rfl
theorem ob_sp : (" " : Str) = sL [32] := rfl
theorem e_fmtS {Φ : KD} {y : Str} {M : Mem} (h : y.length ≤ lim) (k : Φ (.str y) M) : kFmt Φ (.str y) M := .inl ⟨y, rfl, h, k⟩
theorem r_format_step (n : Nat) : ∀ ds M Φ, W_format_step n ds M Φ → w_format_step (W_format_steps n) (endsD Φ) (startD 1 ds) M := by
  intro ds M Φ ⟨s, eds, ⟨ok, dp, wr⟩, k⟩
  subst eds
  unfold w_format_step
  rw [start_x1]
  cases s with
  | key z =>
    rw [HS.ok] at ok
    rw [hD]
    wp_walk using e_isiK, e_strI, strI
    exact ⟨log_ok (by omega), k⟩
  | odd c => rw [HS.ok] at ok; exact ok.elim
  | rep w c b ss =>
    rw [HS.ok] at ok
    rw [HS.dp] at dp
    rw [HS.wr] at wr
    have tl := txs_len ss ok.2
    rw [hD]
    wp_walk using e_isiN, e_fstr, e_js1, e_js0, e_fmt, at3b, at3c
    have cl := nm_len0 (i := c) (k := 31) (by decide) ok.1.2.1 (by omega)
    have e0 : Str.empty ++ Str.ofString (toString c) = sL (nmL c) := by rw [strI, show Str.empty = sL [] from rfl, sL_app]; rfl
    have b1 : (sL (nmL c)).length ≤ lim := by rw [sL_len]; unfold lim; omega
    refine e_fmtI (log_ok (by omega)) ⟨_, rfl, by rw [e0]; exact b1, ?_⟩
    rw [e0]
    refine ⟨_, rfl, ?_, ?_⟩
    · rw [ob_s, sL_app, sL_len, List.length_append]; show _ + 2 ≤ lim; unfold lim; omega
    match n, dp with
    | 0, dp => omega
    | m + 1, dp =>
      refine ⟨ss, b, rfl, ⟨ok.2, by omega, by omega⟩, e_fmtS (by rw [sL_len]; unfold lim; omega) ⟨_, rfl, ?_, _, rfl, ?_, ?_⟩⟩
      · rw [ob_s, sL_app, sL_app, sL_len, List.length_append, List.length_append]; show _ + 2 + _ ≤ lim; unfold lim; omega
      · rw [ob_s, ob_c, sL_app, sL_app, sL_app, sL_len, List.length_append, List.length_append, List.length_append]; show _ + 2 + _ + 1 ≤ lim; unfold lim; omega
      · rw [ob_s, ob_c, sL_app, sL_app, sL_app]
        rw [HS.tx] at k
        simpa using k
def w_format_steps (W_format_step : W3) : WS := (sRet (wJoin (wC (.str " ")) (wLc (wiSeq (wVar 0)) (wgName 1) wYes (wCall W_format_step (wCons (wVar 1) wNil)) [1])))
theorem r_format_steps (n : Nat) : ∀ ds M Φ, W_format_steps (n + 1) ds M Φ → w_format_steps (W_format_step n) (endsD Φ) (startD 2 ds) M := by
  intro ds M Φ ⟨ss, b, eds, ⟨ok, dp, wr⟩, k⟩
  subst eds
  unfold w_format_steps
  rw [start_x2]
  have lw := wrs_len (ss := ss)
  wp_walk using e_join, e_join1, e_seqH
  refine ⟨by rw [hDs_len]; unfold lim; omega, ?_⟩
  rw [hDs_map]
  refine lc_of (fun s => .str (sL s.tx)) (fun s hs Ψ acc h => ?_) ?_
  · walk_at "vl"
    have o1 := oks_iff.mp ok s hs
    have d1 := dps_mem hs
    have w1 := wr_mem hs
    exact ⟨s, rfl, ⟨o1, by omega, by omega⟩, h⟩
  · rw [show (ss.map fun s => D.str (sL s.tx)) = (ss.map fun s => sL s.tx).map D.str by rw [List.map_map]; rfl]
    have := sum_txs ss ok
    wp_walk using e_join2, join_sp
    refine ⟨?_, k⟩
    rw [List.length_map, show (Str.ofString " ").length = 1 from rfl]
    unfold lim
    omega
def W_format_history : W4 := fun ds M Φ Ψ => ∃ (ss : List HS) (b : Bool), ds = [seqD b (hDs ss)] ∧ Gd ss ∧ Φ (.str (sL (txs ss))) M
def w_format_history (Ψ : XC) : WS := (sSeq (sDrop (wCallX W_check_history Ψ (wCons (wVar 0) wNil)))
  (sRet (wCall (W_format_steps 6) (wCons (wVar 0) wNil))))
theorem r_format_history (Ψ : XC) : ∀ ds M Φ, W_format_history ds M Φ Ψ → w_format_history Ψ (endsD Φ) (startD 1 ds) M := by
  intro ds M Φ ⟨ss, b, eds, g, k⟩
  subst eds
  unfold w_format_history
  rw [start_x1]
  walk_at "vl"
  refine ⟨ss, b, rfl, g.ckK ?_⟩
  walk_at "vl"
  exact ⟨ss, b, rfl, ⟨g.ok, Nat.le_trans g.dp (by decide), g.wr⟩, k⟩
theorem start_x3 {a : D} : startD 3 [a] = [some a, none, none] := rfl
def W_parse_number : W3 := fun ds M Φ => ∃ l : List Nat, ds = [.str (sL l)] ∧ l.length ≤ 4000 ∧ Φ (optD (numOf l)) M
def w_parse_number : WS := (sSeq (sAsg (wIfE (wTest (wOp wrEqS (wSlS (wVar 0) wNoPart (wPart (wC (.int 1)))) (wC (.str "-")))) (wSlS (wVar 0) (wPart (wC (.int 1))) wNoPart) (wVar 0)) (wgName 1))
  (sSeq (sIf (wOr (wNot (wTest (wChain wch_le wch_le (wC (.int 1)) (wCB wrLen (wCons (wVar 1) wNil)) (wC (.int 31))))) (wNot (wTest (wCB wrAll (wCons (wLc (wiStr (wVar 1)) (wgName 2) wYes (wOp (wrInS false) (wVar 2) (wC (.str "0123456789"))) [2]) wNil))))) (sRet (wC .non)) sNext)
  (sSeq (sIf (wAnd (wTest (wOp wrEqS (wOp wrIxS (wVar 1) (wC (.int 0))) (wC (.str "0")))) (wTest (wOp wrNeS (wVar 0) (wC (.str "0"))))) (sRet (wC .non)) sNext)
  (sRet (wCB wrIntS (wCons (wVar 0) wNil))))))
theorem dg_s : ("0123456789" : Str).cps.toList = [48, 49, 50, 51, 52, 53, 54, 55, 56, 57] := by decide +kernel
theorem mi_s : ("-" : Str) = sL [45] := rfl
theorem ze_s : ("0" : Str) = sL [48] := rfl
theorem r_parse_number : ∀ ds M Φ, W_parse_number ds M Φ → w_parse_number (endsD Φ) (startD 3 ds) M := by
  intro ds M Φ ⟨l, eds, hl, k⟩
  subst eds
  unfold w_parse_number
  rw [start_x3]
  have dl : (digL l).length ≤ l.length := by
    unfold digL
    split
    · rw [List.length_drop]; omega
    · exact Nat.le_refl _
  have c1 : cutS (sL l) none (some 1) = sL (l.take 1) := cutL_to (i := 1)
  have c2 : cutS (sL l) (some 1) none = sL (l.drop 1) := cutL_from (i := 1)
  wp_walk using e_slS, e_slS1, e_slS2, e_slS3, c1, c2, e_eqS', mi_s, sL_dec
  refine ⟨by rw [sL_len]; unfold lim; omega, ?_⟩
  have go : ∀ Φ' : KD, Φ' (.str (sL (digL l))) M → kIfE (wSlS (wVar 0) (wPart (wC (.int 1))) wNoPart) (wVar 0) [some (.str (sL l)), none, none] Φ' (decide (l.take 1 = [45])) M := fun Φ' h => by
    unfold digL at h
    by_cases c : l.take 1 = [45]
    · rw [if_pos c] at h
      rw [decide_eq_true c]
      wp_walk using e_slS, e_slS1, e_slS2, e_slS3, c2
      exact ⟨by rw [sL_len]; unfold lim; omega, h⟩
    · rw [if_neg c] at h
      rw [decide_eq_false c]
      walk_at "vl"
      exact h
  refine go _ ?_
  walk_at "vl"
  have eL : ∀ (Φ : KD) M (a : List Nat), wrLen [.str (sL a)] M Φ = (a.length ≤ lim ∧ Φ (.int a.length) M) := fun Φ M a => by
    show ((sL a).length ≤ lim ∧ Φ (.int (sL a).length) M) = _
    rw [sL_len]
  have lu : l.length ≤ (digL l).length + 1 := by
    unfold digL
    split
    · rw [List.length_drop]; omega
    · omega
  generalize hd : digL l = dg at dl lu
  have k' : Φ (optD (if (1 ≤ dg.length ∧ dg.length ≤ 31) ∧ dg.all isDig = true then if dg.head? = some 48 ∧ l ≠ [48] then none else some (if l.take 1 = [45] then -((NumText.digitsVal dg : Nat) : Int) else ((NumText.digitsVal dg : Nat) : Int)) else none)) M := by
    unfold Tm.numOf at k
    rw [hd] at k
    exact k
  wp_walk using e_chain, e_ch1, e_ch2, eL
  refine ⟨by unfold lim; omega, ?_⟩
  by_cases c3 : 1 ≤ dg.length
  case neg =>
    rw [decide_eq_false (show ¬ (1 : Int) ≤ dg.length by omega)]
    wp_walk using e_ch3F
    rw [if_neg (fun z => c3 z.1.1)] at k'
    exact k'
  rw [decide_eq_true (show (1 : Int) ≤ dg.length by omega)]
  wp_walk using e_ch3T, e_ch4
  by_cases c4 : dg.length ≤ 31
  case neg =>
    rw [decide_eq_false (show ¬ (dg.length : Int) ≤ 31 by omega)]
    walk_at "vl"
    rw [if_neg (fun z => c4 z.1.2)] at k'
    exact k'
  rw [decide_eq_true (show (dg.length : Int) ≤ 31 by omega)]
  wp_walk using e_wiStr, e_kStrI, signs_sL
  refine ⟨by rw [List.length_map]; unfold lim; omega, ?_⟩
  refine lc_of (f := sgD) (fun c => .bl (isDig c)) (fun c _ Ψ acc h => ?_) ?_
  · wp_walk using e_inS, dg_s
    exact h
  rw [show (dg.map fun c => D.bl (isDig c)) = (dg.map isDig).map D.bl by rw [List.map_map]; rfl]
  wp_walk using e_allL, List.all_map
  rw [show dg.all (id ∘ isDig) = dg.all isDig from rfl]
  by_cases c5 : dg.all isDig = true
  case neg =>
    rw [Bool.not_eq_true] at c5
    rw [c5]
    walk_at "vl"
    rw [c5, if_neg (fun z => by cases z.2)] at k'
    exact k'
  rw [c5]
  rw [if_pos ⟨⟨c3, c4⟩, c5⟩] at k'
  have last : ¬ (dg.head? = some 48 ∧ l ≠ [48]) → wrIntS [.str (sL l)] M Φ := fun c => by
    rw [if_neg c] at k'
    have hn : Tm.numOf l = some (if l.take 1 = [45] then -((NumText.digitsVal dg : Nat) : Int) else ((NumText.digitsVal dg : Nat) : Int)) := by
      unfold Tm.numOf
      rw [hd, if_pos ⟨⟨c3, c4⟩, c5⟩, if_neg c]
    rw [e_intS (show intText? (sL l) = some _ from numOf_int hn)]
    exact ⟨by rw [sL_len]; omega, k'⟩
  obtain ⟨c, r, rfl⟩ : ∃ c r, dg = c :: r := by
    cases dg with
    | nil => simp at c3
    | cons c r => exact ⟨c, r, rfl⟩
  wp_walk using e_ixS (z := sL (c :: r)) (i := 0) (c := c) (by decide) (by decide) (by rw [tl_sL]; rfl), sg_sL, e_eqS', ze_s, sL_dec
  by_cases c6 : c = 48
  · subst c6
    wp_walk using decide_true, e_neS', sL_dec
    by_cases c7 : l = [48]
    · rw [decide_eq_true c7]
      walk_at "vl"
      exact last fun z => z.2 c7
    · rw [decide_eq_false c7]
      walk_at "vl"
      rw [if_pos ⟨rfl, c7⟩] at k'
      exact k'
  · rw [decide_eq_false (fun z => c6 (by injection z))]
    walk_at "vl"
    exact last fun z => c6 (by have := z.1; injection this)
end VL
--@LAW k56
namespace VL
open PySem PySem.Spec PyProof.Rows L2 Tm XL
def rdF (l : List Nat) (i k : Nat) : List (Str × D) := [("text", .str (sL l)), ("at", .int (i : Int)), ("nesting", .int (k : Int))]
def Rd (M : Mem) (r : Addr) (l : List Nat) (i k : Nat) : Prop := M r = some (.ins "Reader" (rdF l i k))
def Ot (r : Addr) (M M' : Mem) : Prop := ∀ b o, b ≠ r → M b = some o → M' b = some o
theorem Ot.refl {r : Addr} {M : Mem} : Ot r M M := fun _ _ _ h => h
theorem Ot.trans {r : Addr} {M M1 M2 : Mem} (a : Ot r M M1) (b : Ot r M1 M2) : Ot r M M2 := fun x o n h => b x o n (a x o n h)
theorem Ot.put {r : Addr} {M : Mem} {o : MO} : Ot r M (put M r o) := fun b u n h => by rw [put_ne n]; exact h
def W_Reader_init : W3 := fun ds M Φ => ∃ (r : Addr) (l : List Nat), ds = [.ref r, .str (sL l)] ∧ M r = some (.ins "Reader" []) ∧ ∀ M', Rd M' r l 0 0 → Ot r M M' → Φ .non M'
def w_Reader_init : WS := (sAsg (wTup (wCons (wVar 1) (wCons (wC (.int 0)) (wCons (wC (.int 0)) wNil)))) (wgTup 3 (wgCons (wgFld "Reader" "text" (wVar 0)) (wgCons (wgFld "Reader" "at" (wVar 0)) (wgCons (wgFld "Reader" "nesting" (wVar 0)) wgNil)))))
theorem start_y2 {a b : D} : startD 2 [a, b] = [some a, some b] := rfl
theorem r_Reader_init : ∀ ds M Φ, W_Reader_init ds M Φ → w_Reader_init (endsD Φ) (startD 2 ds) M := by
  intro ds M Φ ⟨r, l, eds, hr, k⟩
  subst eds
  unfold w_Reader_init
  rw [start_y2]
  have h1 : put M r (.ins "Reader" (putFD "text" (.str (sL l)) [])) r = some (.ins "Reader" (putFD "text" (.str (sL l)) [])) := put_same
  have h2 : put M r (.ins "Reader" (putFD "at" (.int 0) (putFD "text" (.str (sL l)) []))) r = some (.ins "Reader" (putFD "at" (.int 0) (putFD "text" (.str (sL l)) []))) := put_same
  wp_walk using e_gFld, e_setF hr (show (0 : Nat) ≤ 30 by decide), e_setF h1 (show (1 : Nat) ≤ 30 by decide), e_setF h2 (show (2 : Nat) ≤ 30 by decide)
  exact ⟨(show (3 : Nat) ≤ lim by decide), rfl, trivial, k _ put_same Ot.put⟩
def seps : List Nat := [32, 40, 41, 42]
def W_Reader_read_word : W3 := fun ds M Φ => ∃ (r : Addr) (l : List Nat) (i k : Nat) (w rest : List Nat), ds = [.ref r] ∧ Rd M r l i k ∧ (l.drop i = w ++ rest ∧ i ≤ l.length ∧ l.length ≤ 4000) ∧ (∀ c ∈ w, c ∉ seps) ∧ (∀ c r, rest = c :: r → c ∈ seps) ∧
  ∀ M', Rd M' r l (i + w.length) k → Ot r M M' → Φ (.str (sL w)) M'
def w_Reader_read_word : WS := (sSeq (sAsg (wFld "Reader" "at" (wVar 0)) (wgName 1))
  (sSeq (sWhile (wAnd (wTest (wOp (wrI fun i j => .bl (decide (i < j))) (wFld "Reader" "at" (wVar 0)) (wCB wrLen (wCons (wFld "Reader" "text" (wVar 0)) wNil)))) (wTest (wOp (wrInS true) (wOp wrIxS (wFld "Reader" "text" (wVar 0)) (wFld "Reader" "at" (wVar 0))) (wC (.str " ()*"))))) (sAugF "Reader" "at" (wVar 0) (wC (.int 1)) (· + ·)))
  (sRet (wSlS (wFld "Reader" "text" (wVar 0)) (wPart (wVar 1)) (wPart (wFld "Reader" "at" (wVar 0)))))))
theorem r_Reader_read_word : ∀ ds M Φ, W_Reader_read_word ds M Φ → w_Reader_read_word (endsD Φ) (startD 2 ds) M := by
  intro ds M Φ ⟨r, l, i, k, w, rest, eds, R, ⟨el, il, ll⟩, hw, hr, h⟩
  subst eds
  unfold w_Reader_read_word
  rw [start_x2]
  wp_walk using e_wFld, e_fld R (show look (rdF l i k) "at" = some (.int (i : Int)) from rfl)
  refine ⟨fun m ρ M2 => ∃ j : Nat, j ≤ w.length ∧ m + j = w.length ∧ ρ = [some (.ref r), some (.int (i : Int))] ∧ Rd M2 r l (i + j) k ∧ Ot r M M2, ⟨w.length, 0, Nat.zero_le _, rfl, rfl, R, Ot.refl⟩, ?_⟩
  rintro m ρ M2 ⟨j, jl, mj, rfl, R2, o2⟩
  have len : l.length = i + (w.length + rest.length) := by
    have := congrArg List.length el
    rw [List.length_drop, List.length_append] at this
    omega
  have at_ : l[i + j]? = (w ++ rest)[j]? := by rw [← el, List.getElem?_drop]
  have l1 : look (rdF l (i + j) k) "at" = some (.int ((i + j : Nat) : Int)) := rfl
  have l2 : look (rdF l (i + j) k) "text" = some (.str (sL l)) := rfl
  have eL : ∀ (Φ : KD) M (a : List Nat), wrLen [.str (sL a)] M Φ = (a.length ≤ lim ∧ Φ (.int a.length) M) := fun Φ M a => by
    show ((sL a).length ≤ lim ∧ Φ (.int (sL a).length) M) = _
    rw [sL_len]
  have ss : (" ()*" : Str).cps.toList = seps := by decide +kernel
  wp_walk using e_wFld, e_fld R2 l1, e_fld R2 l2, eL
  refine ⟨by unfold lim; omega, ?_⟩
  have fin : j = w.length → sRet (wSlS (wFld "Reader" "text" (wVar 0)) (wPart (wVar 1)) (wPart (wFld "Reader" "at" (wVar 0)))) (endsD Φ) [some (.ref r), some (.int (i : Int))] M2 := fun e => by
    have eC : cutS (sL l) (some (i : Int)) (some ((i + j : Nat) : Int)) = sL w := by
      rw [cut_sL, Nat.min_eq_left il, Nat.min_eq_left (by omega), el, Nat.add_sub_cancel_left, e, List.take_left']
      rfl
    wp_walk using e_slS, e_slS1, e_slS2, e_slS3, e_wFld, e_fld R2 l1, e_fld R2 l2, eC
    refine ⟨by rw [sL_len]; unfold lim; omega, h M2 ?_ o2⟩
    rw [← e]
    exact R2
  by_cases c1 : i + j < l.length
  · rw [decide_eq_true (show ((i + j : Nat) : Int) < l.length by omega)]
    obtain ⟨c, hc⟩ : ∃ c, l[i + j]? = some c := ⟨_, List.getElem?_eq_getElem c1⟩
    have hcl : (sL l).cps.toList[((i + j : Nat) : Int).toNat]? = some c := by rw [tl_sL]; exact hc
    have ei : ∀ Φ : KD, wrIxS (.str (sL l)) (.int ((i + j : Nat) : Int)) M2 Φ = Φ (sgD c) M2 := fun Φ => e_ixS (by omega) (by omega) hcl
    wp_walk using e_wFld, e_fld R2 l1, e_fld R2 l2, ei, e_ninS, ss
    rw [at_] at hc
    by_cases c2 : j < w.length
    · rw [List.getElem?_append_left c2] at hc
      have := hw c (List.mem_of_getElem? hc)
      rw [decide_eq_false this]
      wp_walk using e_augF, e_wFld, e_augF1 R2 l1, e_augF2 R2 (show (3 : Nat) ≤ 30 by decide)
      exact ⟨m - 1, by omega, j + 1, by omega, by omega, trivial, put_same, o2.trans Ot.put⟩
    · rw [List.getElem?_append_right (by omega)] at hc
      have hs : c ∈ seps := by
        have e : j - w.length = 0 := by omega
        rw [e] at hc
        cases rest with
        | nil => cases hc
        | cons a r => cases hc; exact hr _ _ rfl
      rw [decide_eq_true hs]
      walk_at "vl"
      exact fin (by omega)
  · rw [decide_eq_false (show ¬ ((i + j : Nat) : Int) < l.length by omega)]
    walk_at "vl"
    exact fin (by omega)
def W_Reader_expect : W4 := fun ds M Φ Ψ => ∃ (r : Addr) (l : List Nat) (i k c : Nat), ds = [.ref r, .str (sL [c])] ∧ Rd M r l i k ∧ (i ≤ l.length ∧ l.length ≤ 4000) ∧ (l[i]? = some c → ∀ M', Rd M' r l (i + 1) k → Ot r M M' → Φ .non M') ∧ (l[i]? ≠ some c → Ψ "ParseError" (.int 0) M)
def w_Reader_expect (Ψ : XC) : WS := (sSeq (sIf (wTest (wOp wrNeS (wSlS (wFld "Reader" "text" (wVar 0)) (wPart (wFld "Reader" "at" (wVar 0))) (wPart (wOp wrAdd (wFld "Reader" "at" (wVar 0)) (wC (.int 1))))) (wVar 1))) (sRaise "ParseError" Ψ (wCons (wC (.int 0)) wNil)) sNext)
  (sAugF "Reader" "at" (wVar 0) (wC (.int 1)) (· + ·)))
theorem one_at {l : List Nat} {i c : Nat} : decide (sL (oneAt l i) = sL [c]) = decide (l[i]? = some c) := by
  rw [sL_dec]
  unfold oneAt
  refine decide_eq_decide.mpr ?_
  cases l[i]? with
  | none => simp
  | some d => simp
theorem r_Reader_expect (Ψ : XC) : ∀ ds M Φ, W_Reader_expect ds M Φ Ψ → w_Reader_expect Ψ (endsD Φ) (startD 2 ds) M := by
  intro ds M Φ ⟨r, l, i, k, c, eds, R, ⟨il, ll⟩, h1, h2⟩
  subst eds
  unfold w_Reader_expect
  rw [start_y2]
  have l1 : look (rdF l i k) "at" = some (.int ((i : Nat) : Int)) := rfl
  have l2 : look (rdF l i k) "text" = some (.str (sL l)) := rfl
  have ec := cutL_one il
  wp_walk using e_slS, e_slS1, e_slS2, e_slS3, e_wFld, e_fld R l1, e_fld R l2, ec, e_neS', one_at
  refine ⟨by rw [sL_len]; unfold lim; omega, ?_⟩
  by_cases c1 : l[i]? = some c
  · rw [decide_eq_true c1]
    wp_walk using e_augF, e_wFld, e_augF1 R l1, e_augF2 R (show (3 : Nat) ≤ 30 by decide)
    exact h1 c1 _ put_same Ot.put
  · rw [decide_eq_false c1]
    walk_at "vl"
    exact raise1 rfl (h2 c1)
end VL
namespace XL
open PySem PySem.Spec PyProof.Rows L2 HotX L2H
structure OnlyAt (a : Addr) (o : Obj) (gs : Array Value) (h h' : Heap) : Prop where
  far : ∀ b u, b ≠ a → h.get? b = some u → h'.get? b = some u
  new : ∃ o', h'.get? a = some o' ∧ o'.data = .fields gs ∧ o'.cls = o.cls ∧ o'.dict = o.dict
theorem OnlyAt.refl {a : Addr} {o : Obj} {vs : Array Value} {h : Heap} (g : h.get? a = some o) (d : o.data = .fields vs) : OnlyAt a o vs h h := ⟨fun _ _ _ e => e, o, g, d, rfl, rfl⟩
theorem OnlyAt.set {a : Addr} {o : Obj} {vs : Array Value} {h h' : Heap} (k : OnlyAt a o vs h h') (i : Nat) (v : Value) : OnlyAt a o (vs.setIfInBounds i v) h (h'.update a (Obj.mapFields (·.setIfInBounds i v))) := by
  obtain ⟨far, o', g, d, c, dd⟩ := k
  have d2 := Obj.data_mapFields d (·.setIfInBounds i v)
  refine ⟨fun b u n e => (Heap.get?_update_other _ _ (Ne.symm n)).trans (far b u n e), _, Heap.get?_update_self _ g (Obj.isFreed_of_fields d2), d2, ?_, ?_⟩
  · rw [Obj.cls_mapFields, c]
  · rw [HandSPX.dict_mapFields, dd]
section
variable {prog : Program} {w : World} {A : Around} {E : Value → Shared → Prop} {s : Shared}
theorem exc_value {a : Addr} {o : Obj} {vs : Array Value} {msg : String} {Q : Value → Shared → Prop} (g : s.heap.get? a = some o) (d : o.data = .fields vs) (sub : PySem.W.Looks (model prog w) s.heap (isSubtype o.cls (.type "BaseException")) true) (h : Q (.ref a) s) :
    wpAny (model prog w) A (excFromValue (.ref a) msg) Q E s := by
  have plain : wpAny (model prog w) A (isExcClass (.ref a)) (fun b s' => b = false ∧ s' = s) E s := by
    unfold isExcClass isType loadHead
    refine wpAny_bind (wpAny_bind (wpAny_loadPart g ?_))
    rw [d]
    exact wpAny_pure (wpAny_pure ⟨rfl, rfl⟩)
  have kind : PySem.W.Looks (model prog w) s.heap (isInstance (.ref a) (.type "BaseException")) true :=
    PySem.W.Looks.andThen (fun A Q E s' k q => wpAny_typeOf_ref (k _ _ g) q) sub
  unfold excFromValue
  refine wpAny_bind (wpAny_mono plain (fun b s' z => ?_) fun _ _ x => x)
  obtain ⟨rfl, rfl⟩ := z
  rw [if_neg Bool.false_ne_true]
  refine wpAny_bind (kind.here ?_)
  rw [if_pos rfl]
  exact wpAny_pure h
theorem raise_from {env : Env} {x c : Sem Value} {Q : Flow → Shared → Prop} {x1 : Addr}
    (h : wpAny (model prog w) A x (fun v s1 => ∃ a o vs, v = .ref a ∧ s1.heap.get? a = some o ∧ o.data = .fields vs ∧ vs[1]? = some .none ∧ 4 < vs.size ∧ x1 ≠ a ∧ HotAt A x1 s1.heap ∧
      (∃ o1 vs1, s1.heap.get? x1 = some o1 ∧ o1.data = .fields vs1 ∧ ∀ h', (∀ b u, b ≠ a → s1.heap.get? b = some u → h'.get? b = some u) → PySem.W.Looks (model prog w) h' (isSubtype o1.cls (.type "BaseException")) true) ∧
      (∀ h', (∀ b u, b ≠ a → s1.heap.get? b = some u → h'.get? b = some u) → PySem.W.Looks (model prog w) h' (isSubtype o.cls (.type "BaseException")) true ∧ PySem.W.Looks (model prog w) h' (typeOf o.cls) (.type "type")) ∧
      (∀ Q' : Value → Shared → Prop, Q' (.ref x1) s1 → wpAny (model prog w) A c Q' E s1) ∧
      ∀ h' gs, OnlyAt a o gs s1.heap h' → gs[1]? = some .none → gs[2]? = some (.ref x1) → E (.ref a) { s1 with heap := h' }) E s) :
    wpAny (model prog w) A (raiseStmt env (some x) (some c)) Q E s := by
  unfold raiseStmt
  dsimp only
  refine wpAny_bind (wpAny_mono h (fun v s1 z => ?_) fun _ _ x => x)
  obtain ⟨a, o, vs, rfl, g, d, h1, h4, ne, hot, ⟨o1, vs1, g1, d1, L1⟩, L, hc, fin⟩ := z
  have same : ∀ b u, b ≠ a → s1.heap.get? b = some u → s1.heap.get? b = some u := fun _ _ _ e => e
  refine wpAny_bind (wpAny_holding (hc _ (wpAny_bind (wpAny_pure ?_))))
  dsimp only
  refine wpAny_bind (wpAny_holding (exc_value g d (L _ same).1 ?_))
  rw [if_neg (show ¬ ((Value.ref x1 == Value.none) = true) from by simp)]
  refine wpAny_bind (wpAny_holding (exc_value g1 d1 (L1 _ same) ?_))
  refine wpAny_bind (wpAny_setField g d (by omega) ?_)
  have k3 := (OnlyAt.refl g d).set 3 (.ref x1)
  obtain ⟨o3, g3, d3, c3, _⟩ := id k3.new
  refine wpAny_bind (wpAny_setField g3 d3 (by rw [Array.size_setIfInBounds]; omega) ?_)
  have k4 := k3.set 4 (.bool true)
  obtain ⟨o4, g4, d4, c4, _⟩ := id k4.new
  have e1 : ((vs.setIfInBounds 3 (Value.ref x1)).setIfInBounds 4 (Value.bool true))[1]? = some .none := by
    rw [Array.getElem?_setIfInBounds_ne (by decide), Array.getElem?_setIfInBounds_ne (by decide)]
    exact h1
  have e2 : 2 < ((vs.setIfInBounds 3 (Value.ref x1)).setIfInBounds 4 (Value.bool true)).size := by
    rw [Array.size_setIfInBounds, Array.size_setIfInBounds]; omega
  generalize ((vs.setIfInBounds 3 (Value.ref x1)).setIfInBounds 4 (Value.bool true)) = gs at k4 d4 e1 e2
  generalize (s1.heap.update a (Obj.mapFields (·.setIfInBounds 3 (Value.ref x1)))).update a (Obj.mapFields (·.setIfInBounds 4 (Value.bool true))) = h4 at k4 g4 ⊢
  have notType : wpAny (model prog w) A (isType (.ref a)) (fun b s' => b = false ∧ s' = { s1 with heap := h4 }) E { s1 with heap := h4 } := by
    unfold isType loadHead
    refine wpAny_bind (wpAny_loadPart g4 ?_)
    rw [d4]
    exact wpAny_pure ⟨rfl, rfl⟩
  refine wpAny_bind (wpAny_mono notType (fun b s' z => ?_) fun _ _ x => x)
  obtain ⟨rfl, rfl⟩ := z
  rw [if_neg Bool.false_ne_true]
  have kind : PySem.W.Looks (model prog w) h4 (typeOf (.ref a)) o.cls := fun A Q E s' k q => wpAny_typeOf_ref (k _ _ g4) (by rw [c4]; exact q)
  unfold raisedInstance
  refine wpAny_bind (wpAny_bind (kind.here (wpAny_bind ((L _ k4.far).2.here ?_))))
  rw [if_pos (beq_self_eq_true _)]
  refine wpAny_pure ?_
  unfold setFlight
  refine wpAny_bind (wpAny_bind (wpAny_field g4 d4 e1 ?_))
  rw [if_neg (by decide)]
  refine wpAny_pure ?_
  obtain ⟨hh, oh, vh, gh, dh, ch⟩ := hot
  exact raiseNew_hot ⟨hh, oh, vh, k4.far _ _ ne gh, dh, ch⟩ ne g4 d4 e2 (fin _ _ (k4.set 2 (.ref x1)) (by rw [Array.getElem?_setIfInBounds_ne (by decide)]; exact e1) (Array.getElem?_setIfInBounds_self_of_lt e2))
end
section
variable {X : Cx} {W : WX} {e : Expr} {t : L2.St → Hp → XK → Prop} {n : Str} {i : Nat} {p : Addr × Obj} {cls1 : Value} {np pos : Pos}
theorem ps_raise_from (hp : p ∈ X.pn) (hot : Hot1 X.A p) (hc : p.2.cls = cls1) (r1 : L2.Raises X cls1) (hi : X.N[i]? = some n) (hln : X.env.kindOf n = some .local) (tk : Takesk X W) (he : PMk5 X e t) (hd : (n == ("__debug__" : Str)) = false := by decide) :
    PS X (.Raise (some e) (some (.Name n np)) pos) (fun _ σ H => σ[i]? = some (some (.ref p.1)) ∧ t σ H fun cls d H' => W cls d σ H') := by
  refine ⟨fun pins s σ H D I ⟨hσ, h⟩ => ?_⟩
  -- the new exception first, then the name
  have stand : ∀ {E1 : Expr} {Q1 : Value → Shared → Prop} {E2 : Value → Shared → Prop} {s1 : Shared}, wpAny (model X.prog X.w) X.A (eval E1 X.env) Q1 E2 s1 → wpAny (model X.prog X.w) X.A (do let v ← eval E1 X.env; standAt pos; pure v) Q1 E2 s1 := fun r => wpAny_bind (thn r fun _ _ q1 => wpAny_bind (wpAny_standAt (wpAny_pure q1)))
  suffices whole : wpAny (model X.prog X.w) X.A (raiseStmt X.env (some (do let v ← eval e X.env; standAt pos; pure v)) (some (do let v ← eval (.Name n np) X.env; standAt pos; pure v))) (SP X pins D) X.xe s from wpAny_bind (wpAny_standAt whole)
  refine raise_from (x1 := p.1) (stand (thn (he pins s σ H _ I h) fun u s1 made => ?_))
  obtain ⟨mk, h5⟩ := made
  obtain ⟨a, oe, vs, sI, H', cls, d, rfl, J, mk2⟩ := mk
  obtain ⟨k, hne, ha, hz, hd1, h1, na, os, mk3⟩ := mk2
  obtain ⟨ag, r, q⟩ := mk3
  have P1 := (J.pin p (List.mem_append_left _ hp)).1
  have nap : p.1 ≠ a := fun z => by rw [z, hne] at P1; cases P1
  obtain ⟨hh, v1, e1, c1⟩ := hot
  have far : ∀ {h' : Heap}, (∀ b u, b ≠ a → s1.heap.get? b = some u → h'.get? b = some u) → ∀ b u, sI.heap.get? b = some u → h'.get? b = some u := fun f b u z => f b u (fun y => by rw [y, hne] at z; cases z) (k b u z)
  have I1 : Inv X pins σ H' s1 := J.landed (B := sI.heap) (fun b o z _ => z) (fun b o z => k b o z) (Heap.UpToSlots.of_keeps k) os ag
  refine ⟨a, oe, vs, rfl, ha, hd1, h1, h5 a oe vs rfl ha hd1, nap, ⟨hh, p.2, v1, k _ _ P1, e1, c1⟩, ⟨p.2, v1, k _ _ P1, e1, fun h' f => by rw [hc]; exact (r1 _ h' (J.kIn.keeps (far f))).1⟩, fun h' f => by rw [hz.1]; exact r _ h' (J.kIn.keeps (far f)), fun Q' q' => ?_, fun h' gs o1 g1 g2 => ?_⟩
  · obtain ⟨m, hn, hl⟩ := I1.loc
    obtain ⟨u, ru, l⟩ := hl i n _ hi hσ (.inl hln)
    cases ru
    rcases l with ⟨hk, hm⟩ | ⟨hk, _⟩
    · exact stand (wpAny_Name (wpAny_loadName_local I1.ok.kind hk hn hm q') hd)
    · rw [hln] at hk; rcases hk with hk | hk <;> cases hk
  · obtain ⟨o', g', d', c', dd⟩ := o1.new
    obtain ⟨q1, q2, q3, q4, _⟩ := J.pin p (List.mem_append_left _ hp)
    have ground : ∀ b o, (PySem.W.hideAll sI.heap (frs X.stack)).get? b = some o → sI.heap.get? b = some o := fun b o g => PySem.W.of_hideAll _ g
    have nofr : p.1 ∉ frs X.stack := fun m => (List.mem_cons.mp (J.stkSub p.1 m)).elim q3 q4
    refine tk _ _ ⟨a, PySem.W.hideAll sI.heap (frs X.stack), sI, pins, σ, H', cls, d, rfl, J, fun b o g m => PySem.W.hideAll_get _ g m, Heap.UpToSlots.of_keeps (far o1.far), .inl ⟨fun b o g => far o1.far b o (ground b o g), ?_, ?_, o', gs, g', ⟨c'.trans hz.1, dd.trans hz.2.1, fun ws e => ?_⟩, d', g1⟩, na, os, ag, q⟩
    · cases z : (PySem.W.hideAll sI.heap (frs X.stack)).get? a with
      | none => rfl
      | some o => rw [ground a o z] at hne; cases hne
    · exact Heap.FunFrames.of_keeps (fun b o g _ => ⟨o, far o1.far b o g, rfl⟩) (funFrames_none J.stack fun b m => PySem.W.hideAll_none _ m)
    · rw [e] at d'; cases d'
      exact .inr ⟨p.1, p.2, v1, g2, PySem.W.hideAll_get _ q1 nofr, q2, e1, c1⟩
end
theorem note_sky {M : Model} {A : Around} {E : Value → Shared → Prop} {s : Shared} {env : Env} {outer : List Env} {B : Heap} {L a : Addr} {Z : Obj → Prop} {Q : Unit → Shared → Prop} (hZ : PXN.Steady1 Z) (hfr : A.frames = some (env :: outer)) (hf : env.frame = some L) (x : L2.Sky B (env :: outer) a Z L s.heap)
    (k : ∀ h', HandSPX.HeldZ B (env :: outer) a Z L h' → s.heap.UpToSlots h' → Q () { s with heap := h' }) : wpAny M A (noteFrame (.ref a) env) Q E s := by
  rcases x with ⟨b1, b2, b3, oe, vs, g, z, d, h1⟩ | fl | hd
  · exact PXN.look_newZ hZ hfr b3 hf g b1 b2 d h1 z k
  · exact PXN.looks_onZ hZ hfr hf fl k
  · exact HandSPX.againZ hf hd.2.2.2 (k _ hd (Heap.UpToSlots.of_keeps fun _ _ e => e))
section
variable {X : Cx} {pins : List (Addr × Obj)} {σ : L2.St} {H : Hp} {s sI : Shared} {a : Addr} {cls : Value} {d : Option Addr} {B : Heap} {n : Str} {i : Nat}
theorem held_gone {M : Model} {A : Around} {E : Value → Shared → Prop} {Q : Unit → Shared → Prop} {W : WX} {pos : Pos} (hs : X.stack = X.env :: X.outer) (hf : X.env.frame = some X.env.locals) (hex : X.ex = []) (hN : X.N.Nodup) (hi : X.N[i]? = some n) (hln : X.env.kindOf n = some .local)
    (I : Inv X pins σ H sI) (nb : ∀ b o, sI.heap.get? b = some o → b ∉ frs X.stack → B.get? b = some o) (up : sI.heap.UpToSlots s.heap) (na : H a = none) (os : s.os = sI.os) (ag : AllBare s.gens) (hd : HandSPX.HeldZ B (X.env :: X.outer) a (Zk B H cls d) X.env.locals s.heap) (w : W cls d (σ.set i none) H)
    (k : ∀ (s' : Shared) (B' : Heap), HandSPX.HeldZ B' (X.env :: X.outer) a (Zk B' H cls d) X.env.locals s'.heap → (∀ h', HandSPX.HeldZ B' (X.env :: X.outer) a (Zk B' H cls d) X.env.locals h' → s'.heap.UpToSlots h' → XEk X W (.ref a) { s' with heap := h' }) → Q () s') :
    wpAny M A (do bindName X.env n .none; unbindBehindTheSuite X.env n pos) Q E s := by
  have J : Inv X pins σ H s := I.landed nb hd.1 up os ag
  obtain ⟨b1, b2, b3, oe, vs, T, oT, ts, ga, hz, da, h1, nT, Ta, gT, dT, h3⟩ := hd
  have free : H T = none := (I.inGround nb).gone nT
  -- a record is no frame
  have norec : ∀ (b : Addr) (o : Obj) (fv : Array Value), s.heap.get? b = some o → o.data = .fields fv → b ∉ frs (X.env :: X.outer) := fun b o fv g df m => by
    obtain ⟨_, o', g', nf⟩ := b3.mem m
    cases g.symm.trans g'
    exact nf _ df
  have fra := norec _ _ _ ga da
  have frT := norec _ _ _ gT dT
  have inL : X.env.locals ∈ frs (X.env :: X.outer) := List.mem_filterMap.mpr ⟨X.env, List.mem_cons_self, hf⟩
  have inF : ∀ b, b ∈ X.fs → b ∈ frs (X.env :: X.outer) := fun b m => by
    obtain ⟨e, me, q⟩ := List.mem_filterMap.mp m
    exact List.mem_filterMap.mpr ⟨e, List.mem_cons_of_mem _ me, q⟩
  -- the context
  have ctx : ∃ ex : List (Addr × Obj), (∀ p ∈ ex, B.get? p.1 = some p.2 ∧ H p.1 = none ∧ ∃ v, p.2.data = .fields v) ∧ ∀ B' : Heap, (∀ p ∈ ex, B'.get? p.1 = some p.2) → CtxB B' H oe := by
    rcases hz.2.2 vs da with c | ⟨x0, o0, v0, c, gB, n0, d0, c0⟩
    · exact ⟨[], (fun p m => nomatch m), fun B' _ ws e => by rw [e] at da; cases da; exact .inl c⟩
    · refine ⟨[(x0, o0)], fun p m => ?_, fun B' f ws e => ?_⟩
      · rcases List.mem_singleton.mp m with rfl
        exact ⟨gB, n0, v0, d0⟩
      · rw [e] at da; cases da
        exact .inr ⟨x0, o0, v0, c, f _ (List.mem_singleton.mpr rfl), n0, d0, c0⟩
  obtain ⟨ex, exB, exC⟩ := ctx
  have exf : ∀ p ∈ ex, p.1 ∉ frs (X.env :: X.outer) := fun p m => by
    obtain ⟨g, _, v, dv⟩ := exB p m
    exact norec _ _ _ (b1 _ _ g) dv
  have pinned : ∀ p : Addr × Obj, p ∈ (a, oe) :: (T, oT) :: (ex ++ pins) → s.heap.get? p.1 = some p.2 ∧ H p.1 = none ∧ p.1 ≠ X.env.locals ∧ p.1 ∉ X.fs ∧ ∀ v, p.2.data ≠ .cell v := fun p m => by
    rcases List.mem_cons.mp m with rfl | m
    · exact ⟨ga, na, fun z => fra (by rw [show a = X.env.locals from z]; exact inL), fun z => fra (inF _ z), fun v z => by rw [show oe.data = _ from z] at da; cases da⟩
    · rcases List.mem_cons.mp m with rfl | m
      · exact ⟨gT, free, fun z => frT (by rw [show T = X.env.locals from z]; exact inL), fun z => frT (inF _ z), fun v z => by rw [show oT.data = _ from z] at dT; cases dT⟩
      · rcases List.mem_append.mp m with m | m
        · obtain ⟨g, nH, v, dv⟩ := exB p m
          exact ⟨b1 _ _ g, nH, fun z => exf p m (by rw [z]; exact inL), fun z => exf p m (inF _ z), fun v z => by rw [z] at dv; cases dv⟩
        · exact J.pin p (List.mem_append_right _ m)
  -- what stood ahead of the exception
  have old : ∀ b o, sI.heap.get? b = some o → b ≠ a ∧ b ≠ T := fun b o g => by
    by_cases m : b ∈ frs X.stack
    · rw [hs] at m
      exact ⟨fun z => fra (z ▸ m), fun z => frT (z ▸ m)⟩
    · have q := nb b o g m
      refine ⟨fun z => ?_, fun z => ?_⟩
      · rw [z, b2] at q; cases q
      · rw [z, nT] at q; cases q
  refine gone_ok (J.pins_of (pins' := (a, oe) :: (T, oT) :: (ex ++ pins)) pinned) hN hi hln fun s6 K6 => ?_
  have pa := K6.pin (a, oe) (List.mem_append_right _ List.mem_cons_self)
  have pT := K6.pin (T, oT) (List.mem_append_right _ (List.mem_cons_of_mem _ List.mem_cons_self))
  have J6 : Inv X pins (σ.set i none) H s6 := K6.pins_of fun p m => K6.pin p (List.mem_append_right _ (List.mem_cons_of_mem _ (List.mem_cons_of_mem _ (List.mem_append_right _ m))))
  have old0 : ∀ b o, X.s_0.heap.get? b = some o → b ≠ a ∧ b ≠ T := fun b o g => by
    obtain ⟨o', g'⟩ := I.base.there b o g (by rw [hex]; simp)
    exact old b o' g'
  obtain ⟨G, gy, gn⟩ := restrict s6.heap fun b => decide (b ≠ a ∧ b ≠ T)
  have sub : ∀ b o, G.get? b = some o → s6.heap.get? b = some o ∧ b ≠ a ∧ b ≠ T := fun b o g => by
    by_cases q : b ≠ a ∧ b ≠ T
    · rw [gy b (decide_eq_true q)] at g; exact ⟨g, q⟩
    · rw [gn b (decide_eq_false q)] at g; cases g
  have keep : ∀ b o, b ≠ a → b ≠ T → s6.heap.get? b = some o → G.get? b = some o := fun b o q1 q2 g => by rw [gy b (decide_eq_true ⟨q1, q2⟩)]; exact g
  have I6 : Inv X pins (σ.set i none) H { s6 with heap := G } := J6.less (fun b o g => (sub b o g).1) keep ⟨oe, vs, pa.1, da⟩ ⟨oT, ts, pT.1, dT⟩ na free old0 fun p m => old p.1 p.2 (I.pin p m).1
  have ground : ∀ b o, (PySem.W.hideAll G (frs X.stack)).get? b = some o → G.get? b = some o := fun b o g => PySem.W.of_hideAll _ g
  have none_of : ∀ b, (b = a ∨ b = T) → (PySem.W.hideAll G (frs X.stack)).get? b = none := fun b q => by
    cases g : (PySem.W.hideAll G (frs X.stack)).get? b with
    | none => rfl
    | some o =>
      obtain ⟨_, n1, n2⟩ := sub b o (ground b o g)
      rcases q with q | q
      · exact absurd q n1
      · exact absurd q n2
  have held6 : HandSPX.HeldZ (PySem.W.hideAll G (frs X.stack)) (X.env :: X.outer) a (Zk (PySem.W.hideAll G (frs X.stack)) H cls d) X.env.locals s6.heap := by
    refine ⟨fun b o g => (sub b o (ground b o g)).1, none_of a (.inl rfl), ?_, oe, vs, T, oT, ts, pa.1, ⟨hz.1, hz.2.1, exC _ fun p m => ?_⟩, da, h1, none_of T (.inr rfl), Ta, pT.1, dT, h3⟩
    rotate_left
    · obtain ⟨g, _, v, dv⟩ := exB p m
      have g6 := (K6.pin p (List.mem_append_right _ (List.mem_cons_of_mem _ (List.mem_cons_of_mem _ (List.mem_append_left _ m))))).1
      refine PySem.W.hideAll_get _ (keep _ _ (fun z => ?_) (fun z => ?_) g6) (by rw [hs]; exact exf p m)
      · rw [z, b2] at g; cases g
      · rw [z, nT] at g; cases g
    have ff := funFrames_none (B := PySem.W.hideAll G (frs X.stack)) J6.stack fun b m => PySem.W.hideAll_none _ m
    rw [← hs]
    exact ff
  refine k s6 _ held6 fun h' hd' up' => ⟨a, _, { s6 with heap := G }, pins, σ.set i none, H, cls, d, rfl, I6, fun b o g m => PySem.W.hideAll_get _ g m, fun b o g nf => up' b o (sub b o g).1 nf, .inr (.inr ?_), na, rfl, J6.bare, w⟩
  rw [← hs] at hd'
  exact hd'
end
abbrev asX (X : Cx) (a : Addr) (n : Str) (pos : Pos) (E2 E3 : Value → Value → Shared → Prop) : Value → Shared → Prop := fun x s3 =>
  wpAny (model X.prog X.w) (X.A.mark (some (.ref a))) (noteFrame x X.env) (fun _ s4 => wpAny (model X.prog X.w) (X.A.mark (some (.ref a))) (do bindName X.env n .none; unbindBehindTheSuite X.env n pos)
    (fun _ s5 => wpAny (model X.prog X.w) (X.A.mark (some (.ref a))) (PySem.passOn "try.except-as" x X.env : Sem Flow) (fun _ _ => False) (notedBy (model X.prog X.w) (X.A.mark (some (.ref a))) X.env (cameBackBy (model X.prog X.w) X.A X.env X.xe)) s5) (E2 x) s4) (E3 x) s3
section
variable {X : Cx} {W : WX} {n : Str} {i : Nat} {pos : Pos}
theorem takes_as {a1 : Addr} {q : Addr × Obj} {pins : List (Addr × Obj)} {E2 E3 : Value → Value → Shared → Prop} (hs : X.stack = X.env :: X.outer) (hf : X.env.frame = some X.env.locals) (hex : X.ex = []) (hN : X.N.Nodup) (hi : X.N[i]? = some n) (hln : X.env.kindOf n = some .local) (ok : X.Ok)
    (tk : Takesk X W) (hpa : ∀ hd : Option Value, PassesOwnAt (model X.prog X.w) (X.A.mark hd) X.A X.env X.xe) : Takesk ((X.suite a1 (q :: (X.pn ++ pins))).wish (asX X a1 n pos E2 E3)) (fun cls d σ H => W cls d (σ.set i none) H) := by
  rintro u s' ⟨a, B, sI, pins', σ', H', cls, d, rfl, J', nb, up, sky, na, os, ag, w⟩
  have J : Inv X pins σ' H' sI := Inv.unsuite (X := X) (a := a1) (q := q) (pn' := pins') (Inv.unwish (X := X.suite a1 (q :: (X.pn ++ pins))) J') ok
  have frames : (X.A.mark (some (.ref a1))).frames = some (X.env :: X.outer) := by
    have := ok.frames
    rw [hs] at this
    exact this
  have sky' : L2.Sky B (X.env :: X.outer) a (Zk B H' cls d) X.env.locals s'.heap := by rw [← hs]; exact sky
  refine note_sky Zk.steady frames hf sky' fun h3 hd3 up3 => ?_
  refine held_gone hs hf hex hN hi hln J nb (up.trans up3) na os ag hd3 w fun s6 B6 hd6 k6 => ?_
  obtain ⟨_, _, _, oe, vs, T, oT, ts, g, _, dd, h1, _⟩ := id hd6
  unfold PySem.passOn
  refine wpAny_bind (wpAny_field g dd h1 ?_)
  rw [if_neg (show ¬ ((Value.ref T == Value.none) = true) from by simp)]
  have up_ : wpAny (model X.prog X.w) (X.A.mark (some (.ref a1))) (setFlight (.ref a) X.env.frame) (fun _ s7 => wpAny (model X.prog X.w) (X.A.mark (some (.ref a1))) (throw (.ref a) : Sem Flow) (fun _ _ => False) (notedBy (model X.prog X.w) (X.A.mark (some (.ref a1))) X.env (cameBackBy (model X.prog X.w) X.A X.env X.xe)) s7) (notedBy (model X.prog X.w) (X.A.mark (some (.ref a1))) X.env (cameBackBy (model X.prog X.w) X.A X.env X.xe)) s6 := by
    rw [hf]
    exact HandSPX.setFlight_onZ hd6 fun h7 hd7 up7 => wpAny_throw (hpa (some (.ref a1)) _ _ (tk _ _ (k6 h7 hd7 up7)))
  exact wpAny_bind up_
end
def wFrom (K : PySem.W.Frag) (c : Value) (i : Nat) (t : L2.St → Hp → XK → Prop) (Wout : WX) : WX := fun cls d σ H =>
  PySem.W.exmOne K cls c = some true ∧ (PySem.W.subIn K cls (.type "BaseException") = some true ∧ PySem.W.typeIn K cls = some (.type "type")) ∧ ∀ a, H a = none → t (σ.set i (some (.ref a))) H fun cls2 d2 H2 => Wout cls2 d2 (σ.set i none) H2
theorem PMk5.wish {X : Cx} {e : Expr} {t : L2.St → Hp → XK → Prop} {E : Value → Shared → Prop} (h : PMk5 X.nox e t) : PMk5 (X.wish E) e t := fun pins s σ H Q I q =>
  wpAny_mono (h pins s σ H Q (Inv.wish (X := X) (Inv.unwish (X := X) I) _) q) (fun u s' z => by
    obtain ⟨⟨a, oe, vs, sI, H', cls, d, e1, J, r⟩, six⟩ := z
    exact ⟨⟨a, oe, vs, sI, H', cls, d, e1, Inv.wish (X := X) (Inv.unwish (X := X) J) _, r⟩, six⟩) fun _ _ z => z.elim
section
variable {X : Cx} {x n : Str} {c : Value} {i : Nat} {body : List Stmt} {e : Expr} {np np2 pos pos2 pos3 : Pos} {tb : WX → TS} {t : L2.St → Hp → XK → Prop} {Wout : WX}
theorem ps_try_from (hs : X.stack = X.env :: X.outer) (hf : X.env.frame = some X.env.locals) (hex : X.ex = []) (hN : X.N.Nodup) (hi : X.N[i]? = some n) (hln : X.env.kindOf n = some .local) (g1 : Gl X x) (m1 : X.mg x = some c) (tk : Takesk X Wout)
    (hpa : ∀ hd : Option Value, PassesOwnAt (model X.prog X.w) (X.A.mark hd) X.A X.env X.xe)
    (hb : ∀ (W : WX) (pn : List (Addr × Obj)) (xe : Value → Shared → Prop), L2N.Takes (X.tr pn xe) W → PSs (X.tr pn xe) body (tb W))
    (he : ∀ (a : Addr) (oe : Obj) (cls : Value) (d : Option Addr) (pn : List (Addr × Obj)), L2N.Zn cls d oe → (∃ vs, oe.data = .fields vs) → PMk5 (X.suite a ((a, oe) :: pn)) e t)
    (d1 : (x == ("__debug__" : Str)) = false := by decide) (d2 : (n == ("__debug__" : Str)) = false := by decide) :
    PS X (.Try body [.ExceptHandler (some (.Name x np)) (some n) [.Raise (some e) (some (.Name n np2)) pos2] pos3] [] [] pos) (fun D σ H => tb (wFrom X.K c i t Wout) D σ H) := by
  constructor
  intro pins s σ H D I h
  have frames : X.A.frames = some (X.env :: X.outer) := by rw [I.ok.frames, hs]
  have takes : L2N.Takes (X.tr (X.pn ++ pins) (fun u s1 => wpAny (model X.prog X.w) X.A (noteFrame u X.env) (fun _ s2 => wpAny (model X.prog X.w) X.A (setFlight u none) (fun _ s3 => wpAny (model X.prog X.w) X.A (handleBy u X.env [.ExceptHandler (some (.Name x np)) (some n) [.Raise (some e) (some (.Name n np2)) pos2] pos3]) (SP X pins D) X.xe s3) X.xe s2) X.xe s1)) (wFrom X.K c i t Wout) := by
    rintro u s' ⟨a, B, sI, pins', σ', H', cls, d, rfl, J, nb, up, sky, na, os, ag, b1, ⟨x1, x2⟩, told⟩
    have J' : Inv X pins σ' H' sI := J.ofTry I.ok
    refine L2N.Sky.land L2N.Zn.steady frames hf (by rw [← hs]; exact sky) fun h3 fl3 up3 => ?_
    have J3 : Inv X pins σ' H' { s' with heap := h3 } := J'.landed nb fl3.1 (up.trans up3) os ag
    have S := Caught.of J3 na hf fl3
    obtain ⟨oe, z, hd, SI⟩ := S.suite
    refine wpAny_handleBy_cons (codeAny_handlers_test ?_) (by intro q; cases q)
    refine ld_glob SI g1 m1 ((PySem.W.exm_one S.inv.kIn (S.typ fun o z => z.1) b1).here (codeAny_handlers_suite_as ?_)) d1
    refine HandSPX.lands_againZ fl3 fun h4 fl4 up4 => ?_
    have J4 : Inv X pins σ' H' { s' with heap := h4 } := J'.landed nb fl4.1 ((up.trans up3).trans up4) os ag
    obtain ⟨oe4, z4, hd4, S4⟩ := (Caught.of J4 na hf fl4).suite
    have il : i < σ'.length := by rw [J'.len]; exact (List.getElem?_eq_some_iff.mp hi).1
    refine store_ok (X := X.suite a ((a, oe4) :: (X.pn ++ pins))) (v := .ref a) S4 hN hi (.inl hln) rfl (fun s5 S5 => ?_) (.inr hln)
    have dv := hd4
    obtain ⟨v4, hv4⟩ := hd4
    refine wpAny_mono ((pss_one (ps_raise_from (X := (X.suite a ((a, oe4) :: (X.pn ++ pins))).wish (asX X a n pos3 _ _)) (p := (a, oe4)) (np := np2) (pos := pos2) List.mem_cons_self ⟨rfl, v4, hv4, z4.2.2 v4 hv4⟩ z4.1 (raises_own x1 x2) hi hln
      (takes_as (pos := pos3) hs hf hex hN hi hln I.ok tk hpa) (XL.PMk5.wish (X := X.suite a ((a, oe4) :: (X.pn ++ pins))) (he a oe4 cls d (X.pn ++ pins) z4 dv)) d2)).run [] s5 _ H' { nx := fun _ _ => False, rt := fun _ _ => False, bk := fun _ _ => False, ct := fun _ _ => False } (Inv.wish (X := X.suite a ((a, oe4) :: (X.pn ++ pins))) S5 _) ⟨List.getElem?_set_self il, ?_⟩) (fun f s6 q => ?_) fun u s6 q => q
    · have := told a na
      simp only [List.set_set]
      exact this
    · cases f
      case ret u => obtain ⟨_, _, _, _, _, no⟩ := q; exact no.elim
      all_goals (obtain ⟨_, _, _, no⟩ := q; exact no.elim)
  refine wpAny_Try_except (wpAny_mono ((hb _ _ _ takes).run [] s σ H D (I.toTry _) h) (fun f s1 end1 => ?_) fun _ _ z => z)
  cases f
  case ret u => obtain ⟨v, σ', H', J, r, q⟩ := end1; exact ⟨v, σ', H', J.ofTry I.ok, r, q⟩
  case next => obtain ⟨σ', H', J, q⟩ := end1; exact wpAny_execs_nil ⟨σ', H', J.ofTry I.ok, q⟩
  all_goals (obtain ⟨σ', H', J, q⟩ := end1; exact ⟨σ', H', J.ofTry I.ok, q⟩)
end
theorem pmk5_xh {X : Cx} {x qual : Str} {C fI : Addr} {st : Stmt} {fd : FuncData} {N ps : List Str} {k : Nat} {sp : Sp} {e : Expr} {es : List Expr} {ta : TA} {p pos : Pos} (T : XCls X.K C fI) (F : Fun X.K "__init__" qual st fI fd) (S : FnScope N ps (defScope st)) (hc : HotC X) (hr : RoomH (k + 2) X.A) (hb : Binds X.K fd ps [])
    (len : ∀ vs H Q E, sp vs H Q E → vs.length = ps.length)
    (hbody : ∀ (cdv : Value) (A : Around) (outer : List Env) (s : Shared) (H : Hp) (q : Addr × Obj) (vs : List V) (Q : VK), Hot1 A q → sp vs H Q (fun _ _ _ => False) → ∃ t, PSs (cxH CX0 X.prog X.w X.K X.mg X.base N qual (defScope st) fI cdv A outer s H (fun _ _ _ => False) q) (defBody st) t ∧ t { nx := fun _ H' => Q .non H', rt := Q } (L2.start N vs) H)
    (hg : Gl X x) (hm : X.mg x = some (.ref C)) (ha : PA X (e :: es) ta) (hdb : (x == ("__debug__" : Str)) = false := by decide) (he : starEach (e :: es) X.env = (false, eval e X.env) :: starEach es X.env := by rfl) (hpl : (backTo pos (starEach es X.env)).any (·.1) = false := by rfl) :
    PMk5 X (.Call (.Name x p) (e :: es) [] pos) (tMkO C sp [] ta) := by
  intro pins s σ H Q I h
  refine wpAny_Call_Name_kw (ld_glob I hg hm (PySem.W.callWith_K (h₀ := X.base) I.ok.mod.kin T.kC (thn (ha.run pos pins s σ H _ I h) fun us s1 ⟨vs, H1, I1, r1, hz, q1⟩ => ⟨I1.kIn, ?_⟩) he hpl) hdb)
  obtain ⟨_, _, _, _, FB, _, shape, _⟩ := T.base
  obtain ⟨_, _, _, _, _, _, _, _, _, _, _, _, _, _, _, _, gC, rest⟩ := PySem.W.excInit_of I1.kIn shape
  obtain ⟨hp, g, dr, tk, os⟩ := s1
  have le : hp.objs.size ≤ hp.objs.size + 1 := Nat.le_succ _
  have J := xborn I1 C us
  have told := q1 _ (I1.hok.fresh le)
  rw [List.append_nil] at told
  obtain ⟨q, hot, hq⟩ := hc
  obtain ⟨p1, p2, p3, p4, p5⟩ := J.pin q (List.mem_append_left _ hq)
  have pin : PinOk X.stack _ _ q := ⟨p1, p2, fun m => (List.mem_cons.mp (J.stkSub q.1 m)).elim p3 p4, p5⟩
  have args : Vals (V.ref (hp.objs.size + 1) :: vs) (Value.ref (hp.objs.size + 1) :: us) := .cons rfl r1
  have same := len _ _ _ _ told
  have bound := hb _ (Value.ref (hp.objs.size + 1) :: us) J.kIn (by rw [List.append_nil, ← args.length]; exact same)
  rw [List.append_nil] at bound
  have e0 := J.env0.make C us []
  have inits := hot_runs (k := k) F S bound pin e0 (hr.make C us []) same args fun cdv room => hbody cdv _ _ _ _ q _ _ ⟨hot.1, hot.2⟩ told
  refine wpAny_call (PySem.HandSPX.call_own FB rest gC (PySem.W.looks_findIn I1.kIn T.iC) (fun self => PySem.W.bind_fn I1.kIn self T.tI) (by show us.length ≤ sizeLine; rw [← r1.length, sizeLine_eq]; omega) (codeAny_mono inits ?_))
  rintro (er | fl) ⟨h2, g2, d2, t2, os2'⟩ back
  · exact back.elim
  · cases fl <;> first | exact False.elim back | skip
    obtain ⟨_, H2, os2, bare2, un2, hok2, rv, rfl, d, fs, ea, ed, hd1, q2⟩ := back
    obtain ⟨t0, G, J2, kG, ge, hoe, na⟩ := mk_end0 (d2 := d2) (t2 := t2) I1 le (fun b o z => Heap.get?_push_of_some _ (Heap.get?_push_of_some _ z)) un2 hok2 os2 bare2 ea ed hd1
    refine ⟨rv, ⟨_, _, _, ⟨G, g2, d2, t2, os2'⟩, _, .ref C, some d, rfl, J2, kG, ge, hoe, ⟨rfl, rfl, fun vs hv => by cases hv; rfl⟩, rfl, rfl, na, rfl, bare2, raises_own T.exC T.tyC, q2⟩, fun a oe vs ea2 hg2 hd2 => ?_⟩
    cases ea2
    cases hoe.symm.trans hg2
    cases hd2
    exact (show (4 : Nat) < 6 by decide)
theorem pg_tupHot {X : Cx} {es : List Expr} {k : Nat} {t : TGs} {n : Nat} {pos : Pos} (hc : HotX2 X) (h : PGs X es t) (hn : (assignEach es X.env).length = n := by rfl) (hst : (assignEach es X.env).findIdx? (·.1) = none := by rfl) : PG X (.Tuple es k pos) (gTup X.K n t) := by
  constructor
  rintro pins s σ H v u Q I r ⟨a, xs, rfl, hq, hl, hw⟩
  cases r
  obtain ⟨its, rv, ht, hz⟩ := I.tuple hq
  obtain ⟨x1, hot⟩ := hc.at I
  rw [assign_Tuple]
  refine wpAny_bind (wpAny_standAt ?_)
  unfold unpack
  rw [hst, show (assignEach es X.env).length = its.toArray.size by rw [hn, List.size_toArray, ← hl]; exact rv.length]
  refine wpAny_bind (wpAny_holding (unpackHot hot ht fun h' k' => ?_))
  exact h.run pins _ σ H xs _ Q (I.kept (t' := s.toks) fun b o e => k' b o (Nat.ne_of_lt (Heap.lt_size e)) e) (by simpa using rv) hw
theorem init_stores {K : PySem.W.Frag} {tag fl : Str} {C fI : Addr} {vs : List V} {H : Hp} {Q : VK} {E : XK} (hf : fieldOf tag = some fl) (sp : spInit K tag C fI vs H Q E) :
    tAsg (tTup (tCons (tC (.str tag)) (tCons (tVar 1) tNil))) (gTup K 2 (gCons (gOst K "tag" (tVar 0)) (gCons (gOst K fl (tVar 0)) gNil))) { nx := fun _ H' => Q .non H', rt := Q } (L2.start ["self", fl] vs) H := by
  obtain ⟨T, a, x, ha, ⟨rfl, _⟩ | ⟨_, h0⟩, q⟩ := sp
  · refine ⟨x, rfl, show _ ≤ _ by rw [sizeLine_eq]; show 2 ≤ _; omega, fun p hp => ?_⟩
    have pa : p ≠ a := fun z => by rw [z, ha] at hp; cases hp
    refine ⟨p, _, rfl, .inl (.inl upd_same), rfl, _, _, rfl, .ref a, rfl, a, C, fI, rfl, T.toXCls, T.tg, .inl ⟨by rw [upd_ne pa.symm]; exact ha, fun d hd hda => ?_⟩⟩
    have dp : d ≠ p := fun z => by rw [z, upd_same] at hd; cases hd
    rw [upd_ne dp] at hd
    refine ⟨_, _, rfl, .ref a, rfl, a, C, fI, rfl, T.toXCls, T.fld _ hf, .inr ⟨d, [("tag", V.str tag)], upd_same, by rw [upd_ne hda, upd_same], (show 1 ≤ 900 by decide), rfl, ?_⟩⟩
    refine q d _ hd hda (by rw [upd_ne hda.symm, upd_same]) (by rw [upd_same]; unfold xfs; rw [hf]) fun b o hb hba => ?_
    rw [upd_ne (fun z => by rw [z, hd] at hb; cases hb), upd_ne hba, upd_ne (fun z => by rw [z, hd] at hb; cases hb), upd_ne (fun z => by rw [z, hp] at hb; cases hb)]
    exact hb
  · rw [hf] at h0; cases h0
end XL
namespace VL
open PySem PySem.Spec PyProof.Rows L2 XL L2H
variable {S₀ : W0}
section
variable {P : Program} {w : World} {K : PySem.W.Frag} {mg : Str → Option Value} {base : Heap}
theorem fnXk {x qual : Str} {st : Stmt} {f : Addr} {fd : FuncData} {N ps : List Str} {k : Nat} {Wf : W4} (F : Fun K x qual st f fd) (S : FnScope N ps (defScope st)) (len : ∀ ds M Φ Ψ, Wf ds M Φ Ψ → ds.length = ps.length)
    (h : ∀ (cdv : Value) (A : Around) (outer : List Env) (s : Shared) (H : Hp) (E : XK), Room k (A.deeper (envOfC qual (defScope st) s.heap.objs.size f cdv)) → ∀ (S₀ : W0) (Ψ : XC), KnX K mg S₀ Ψ E →
      ∃ w', VSs (cxOf (CXk P w) P w K mg base N qual (defScope st) f cdv A outer s H E) S₀ (defBody st) w' ∧ ∀ ds M Φ, Wf ds M Φ Ψ → w' (endsD Φ) (startD N.length ds) M) : FnOk P w K mg base (CXk P w) (k + 1) f fd ps (spX K mg Wf) := by
  obtain ⟨oc, od, kV, doc, pm, an, cdv, ct, osl, rfl, lk, hcd⟩ := F.ex
  refine fn_of lk hcd S (fun vs H Q E ⟨Hf, M, ds, Φ, Ψ, _, i, hw, _⟩ => by rw [← i.len]; exact len ds M Φ Ψ hw) fun A outer s H vs Q E hr ⟨Hf, M, ds, Φ, Ψ, W, i, hw, kn, kx⟩ => ?_
  have kn := kn.of
  obtain ⟨w', hv, hw'⟩ := h cdv A outer s H E hr ⟨Hf, M, H⟩ Ψ kx
  refine ⟨_, hv, Hf, startD N.length ds, M, endsD Φ, W.begin, ?_, hw' ds M Φ hw, ⟨fun ρ' M' σ' Hf' H' p W' s' e' => kn _ _ _ _ _ p W' s' (isD_non.mpr rfl), kn, (fun ρ' M' σ' Hf' H' p W' s' e' => (p : False).elim), (fun ρ' M' σ' Hf' H' p W' s' e' => (p : False).elim)⟩⟩
  have e := env_start (K := K) (Hf := Hf) (N.length - ds.length) i
  unfold startD
  rw [show start N vs = vs.map some ++ List.replicate (N.length - vs.length) none from rfl, ← i.len]
  exact e
end
section
variable {X : Cx} {k : Nat} {f : Addr} {fd : FuncData} {ps : List Str} {Wf : W4} {Ψ : XC} {E : XK} {x : Str} {p pos : Pos} {e : Expr} {es : List Expr} {wa : WA}
theorem ve_callXk (hX : KnX X.K X.mg S₀ Ψ E) (tk : Takesk X (fun cls d _ H => E cls d H)) (F : FnOk X.prog X.w X.K X.mg X.base (CXk X.prog X.w) k f fd ps (spX X.K X.mg Wf)) (hr : Room k X.A) (hg : Gl X x) (hm : X.mg x = some (.ref f)) (hk : PySem.W.keepIn X.K (.ref f) = true) (hb : L2.Binds X.K fd ps [])
    (ha : VA X S₀ (e :: es) wa) (hdb : (x == ("__debug__" : Str)) = false := by decide) (he : starEach (e :: es) X.env = (false, eval e X.env) :: starEach es X.env := by rfl) (hpl : (backTo pos (starEach es X.env)).any (·.1) = false := by rfl) :
    VE X S₀ (.Call (.Name x p) (e :: es) [] pos) (wCallX Wf Ψ wa) :=
  PE.imp (pe_call F hr hg hm hk hb .nil (passesk tk fun _ _ _ _ h => h) ha hdb he hpl) fun σ H Q ⟨Hf, ρ, M, Φ, W, e, h, k⟩ =>
    ⟨Hf, ρ, M, _, W, e, h, fun dd M1 vs Hf1 H1 h1 W1 s1 i1 => ⟨Hf1, M1, dd, Φ, Ψ, W1.toWr, by rw [List.append_nil]; exact i1, h1, (k.at s1).raw W1, hX.at W1⟩⟩
end
def kFrom (ts : List Str) (tag : Str) (k : Int) (Ψ : XC) : XC := fun t _ M => t ∈ ts ∧ (fieldOf tag).isSome = true ∧ Ψ tag (.int k) M
def sTryFrom (ts : List Str) (tag : Str) (k : Int) (Ψ : XC) (wb : XC → WS) : WS := fun De ρ M => wb (kFrom ts tag k Ψ) De ρ M
section
variable {X : Cx} {x n qual : Str} {i : Nat} {c C fI : Addr} {ts : List Str} {tag fl : Str} {Ψ : XC} {E : XK} {st : Stmt} {fd : FuncData} {body : List Stmt} {wb : XC → WS} {k : Int} {j : _} {cp pp np np2 pos pos1 pos2 pos3 : Pos}
theorem vs_tryFrom (hX : KnX X.K X.mg S₀ Ψ E) (tk : Takesk X (fun cls d _ H => E cls d H)) (hpa : ∀ hd : Option Value, PassesOwnAt (model X.prog X.w) (X.A.mark hd) X.A X.env X.xe) (hs : X.stack = X.env :: X.outer) (hf : X.env.frame = some X.env.locals) (hex : X.ex = []) (hN : X.N.Nodup) (hi : X.N[i]? = some n) (hln : X.env.kindOf n = some .local)
    (g1 : Gl X x) (m1 : X.mg x = some (.ref c)) (kn : ∀ t ∈ ts, ∀ C', X.mg t = some (.ref C') → PySem.W.exmOne X.K (.ref C') (.ref c) = some true ∧ ∃ fI', XKnown X.K t C' fI')
    (T : XKnown X.K tag C fI) (hfl : fieldOf tag = some fl) (F : Fun X.K "__init__" qual st fI fd) (S : FnScope ["self", fl] ["self", fl] (defScope st)) (bI : L2.Binds X.K fd ["self", fl] []) (gT : Gl X tag) (mT : X.mg tag = some (.ref C)) (hr : Room 3 X.A)
    (hot : ∀ (cdv : Value) (A : Around) (outer : List Env) (s : Shared) (H : Hp) (q : Addr × Obj), Hot1 A q → PSs (cxH CX0 X.prog X.w X.K X.mg X.base ["self", fl] qual (defScope st) fI cdv A outer s H (fun _ _ _ => False) q) (defBody st)
      (tAsg (tTup (tCons (tC (.str tag)) (tCons (tVar 1) tNil))) (gTup X.K 2 (gCons (gOst X.K "tag" (tVar 0)) (gCons (gOst X.K fl (tVar 0)) gNil)))))
    (hb : ∀ (pn : List (Addr × Obj)) (xe : Value → Shared → Prop) (Ψ' : XC) (E' : XK), KnX X.K X.mg S₀ Ψ' E' → L2N.Takes (X.tr pn xe) (fun cls d _ H => E' cls d H) → VSs (X.tr pn xe) S₀ body (wb Ψ'))
    (he : ∀ (a : Addr) (pn : List (Addr × Obj)), starEach [.Constant (.int k) j cp] (X.suite a pn).env = [(false, eval (.Constant (.int k) j cp) (X.suite a pn).env)] := by intro _ _; rfl)
    (d1 : (x == ("__debug__" : Str)) = false := by decide) (d2 : (n == ("__debug__" : Str)) = false := by decide) (d3 : (tag == ("__debug__" : Str)) = false := by decide) :
    VS X S₀ (.Try body [.ExceptHandler (some (.Name x np)) (some n) [.Raise (some (.Call (.Name tag pp) [.Constant (.int k) j cp] [] pos1)) (some (.Name n np2)) pos2] pos3] [] [] pos) (sTryFrom ts tag k Ψ wb) := by
  refine PS.imp (ps_try_from (t := tMkX C tag (tCons (tC (.int k)) tNil)) (tb := fun W D σ H => ∃ Ψ' E', KnX X.K X.mg S₀ Ψ' E' ∧ (∀ cls d σ H, E' cls d H → W cls d σ H) ∧ liftS X.K S₀ (wb Ψ') D σ H) hs hf hex hN hi hln g1 m1 tk hpa
    (fun W pn xe tkW => ⟨fun pins s σ H D I ⟨Ψ', E', kx, hw, l⟩ => (hb pn xe Ψ' E' kx (tkW.imp hw)).run pins s σ H D I l⟩)
    (fun a oe cls d pn z ⟨vs, dv⟩ => ?_) d1 d2) fun D σ H l => ?_
  · have mk := pmk5_xh (X := X.suite a ((a, oe) :: pn)) (k := 0) (sp := spInit X.K tag C fI) (pos := pos1) (p := pp) T.toXCls F S ⟨(a, oe), ⟨rfl, vs, dv, z.2.2 vs dv⟩, List.mem_cons_self⟩ (roomH_mark (hr.mono (by omega)) _) bI
      (fun vs H Q E ⟨_, _, _, _, h, _⟩ => by
        rcases h with ⟨rfl, _⟩ | ⟨_, h0⟩
        · rfl
        · rw [hfl] at h0; cases h0)
      (fun cdv A outer s H q vs Q hq sp => ⟨_, hot cdv A outer s H q hq, init_stores hfl sp⟩) gT mT (pa_cons pe_int pa_nil) d3 (he a _) rfl
    exact fun pins s σ H Q I h => mk pins s σ H Q I (mkx_of (ta := tCons (tC (.int k)) tNil) (σ := σ) (H := H) T (fun σ H Q Q2 i q => i _ _ q) h)
  · refine ⟨kFrom ts tag k Ψ, fun cls d H => PySem.W.exmOne X.K cls (.ref c) = some true ∧ (PySem.W.subIn X.K cls (.type "BaseException") = some true ∧ PySem.W.typeIn X.K cls = some (.type "type")) ∧ ∀ a, H a = none → tMkX C tag (tCons (tC (.int k)) tNil) [] H fun cls2 d2 H2 => E cls2 d2 H2, ?_, fun cls d σ H h => h, l⟩
    intro t y C' M' v d Hf' H' hm ⟨ht, hs', hp⟩ W' hd iy
    obtain ⟨q1, fI', q2⟩ := kn t ht C' hm
    refine ⟨q1, ⟨q2.exC, q2.tyC⟩, fun a ha => ⟨.int k, .inl ⟨rfl, hs'⟩, fun d2 H3 hd2 h3 hk => ?_⟩⟩
    obtain ⟨w3, s3⟩ := W'.grow hk
    exact hX tag (.int k) C M' (.int k) d2 (grw Hf' H' H3) H3 mT hp w3 (by rw [grw_new hd2]; exact h3) (isD_int.mpr rfl)
end
end VL
namespace Tm
open PySem PyProof.Rows
theorem rev_ind {P : List Nat → Prop} (h0 : P []) (hs : ∀ d c, P d → P (d ++ [c])) (l : List Nat) : P l := by
  rw [← List.reverse_reverse l]
  induction l.reverse with
  | nil => exact h0
  | cons c d ih => rw [List.reverse_cons]; exact hs _ c ih
theorem dv_snoc (d : List Nat) (c : Nat) : NumText.digitsVal (d ++ [c]) = NumText.digitsVal d * 10 + (c - 48) := by
  unfold NumText.digitsVal
  rw [List.foldl_append]
  rfl
theorem num_back (d : List Nat) : NumText.AllDigits d → d ≠ [] → (d.head? ≠ some 48 ∨ d = [48]) → TL.numL (NumText.digitsVal d) = d := by
  refine rev_ind (P := fun d => NumText.AllDigits d → d ≠ [] → (d.head? ≠ some 48 ∨ d = [48]) → TL.numL (NumText.digitsVal d) = d) (fun _ h => absurd rfl h) ?_ d
  · intro d c ih hd _ hh
    have hc := hd c (by simp)
    rw [dv_snoc]
    by_cases e : d = []
    · subst e
      have : NumText.digitsVal [] = 0 := rfl
      rw [this, TL.numL_lt (by omega)]
      show [48 + (0 * 10 + (c - 48))] = [c]
      congr 1
      omega
    · have hh2 : d.head? ≠ some 48 := by
        rcases hh with hh | hh
        · cases d with
          | nil => exact absurd rfl e
          | cons a r => exact hh
        · have := congrArg List.length hh
          rw [List.length_append] at this
          have : d.length = 0 := by simpa using this
          exact absurd (List.eq_nil_of_length_eq_zero this) e
      have r := ih (fun x hx => hd x (List.mem_append_left _ hx)) e (.inl hh2)
      have nz : NumText.digitsVal d ≠ 0 := fun z => by
        rw [z] at r
        rw [← r] at hh2
        exact hh2 rfl
      rw [TL.numL_step (by omega)]
      have e1 : (NumText.digitsVal d * 10 + (c - 48)) / 10 = NumText.digitsVal d := by omega
      have e2 : (NumText.digitsVal d * 10 + (c - 48)) % 10 = c - 48 := by omega
      rw [e1, e2, r]
      congr 1
      congr 1
      omega
theorem numOf_back {l : List Nat} {i : Int} (h : numOf l = some i) : l = nmL i ∧ i.natAbs < 10 ^ 31 := by
  have len : ∀ d : List Nat, NumText.AllDigits d → NumText.digitsVal d < 10 ^ d.length := fun d => by
    refine rev_ind (P := fun d => NumText.AllDigits d → NumText.digitsVal d < 10 ^ d.length) (fun _ => by decide) ?_ d
    · intro d c ih hd
      have hc := hd c (by simp)
      have := ih fun x hx => hd x (List.mem_append_left _ hx)
      rw [dv_snoc, List.length_append, List.length_singleton, Nat.pow_succ]
      omega
  unfold numOf at h
  split at h
  · rename_i h1
    have hd := all_dig.mp h1.2
    have hne : digL l ≠ [] := fun e => by have := h1.1.1; rw [e] at this; simp at this
    have lb : NumText.digitsVal (digL l) < 10 ^ 31 := Nat.lt_of_lt_of_le (len _ hd) (Nat.pow_le_pow_right (by decide) h1.1.2)
    split at h
    · cases h
    · rename_i h2
      cases h
      by_cases c : l.take 1 = [45]
      · rw [if_pos c]
        have el : l = 45 :: l.drop 1 := by
          have := List.take_append_drop 1 l
          rw [c] at this
          exact this.symm
        have dl : digL l = l.drop 1 := by unfold digL; rw [if_pos c]
        have n48 : l ≠ [48] := fun e => by rw [e] at c; cases c
        have hh : (digL l).head? ≠ some 48 := fun e => h2 ⟨e, n48⟩
        have r := num_back _ hd hne (.inl hh)
        have nz : NumText.digitsVal (digL l) ≠ 0 := fun z => by
          rw [z] at r
          rw [← r] at hh
          exact hh rfl
        refine ⟨?_, by omega⟩
        unfold nmL
        rw [if_pos (by omega), show (-((NumText.digitsVal (digL l) : Nat) : Int)).natAbs = NumText.digitsVal (digL l) by omega, r, dl]
        exact el
      · rw [if_neg c]
        have dl : digL l = l := by unfold digL; rw [if_neg c]
        have hh : (digL l).head? ≠ some 48 ∨ digL l = [48] := by
          by_cases e : (digL l).head? = some 48
          · right
            rw [dl]
            by_cases e2 : l = [48]
            · exact e2
            · exact absurd ⟨e, e2⟩ h2
          · exact .inl e
        have r := num_back _ hd hne hh
        refine ⟨?_, by omega⟩
        unfold nmL
        rw [if_neg (by omega), show ((NumText.digitsVal (digL l) : Nat) : Int).natAbs = NumText.digitsVal (digL l) by omega, r, dl]
  · cases h
def nsep (c : Nat) : Bool := !decide (c ∈ [32, 40, 41, 42])
def psStep (sub : Option (List Nat → Option (List HS × List Nat))) (l : List Nat) : Option (HS × List Nat) :=
  match numOf (l.takeWhile nsep) with
  | none => none
  | some i => match l.dropWhile nsep with
    | 42 :: r => match sub, r with
      | some f, 40 :: r2 => match f r2 with
        | some (ss, 41 :: q) => some (.rep 0 i true ss, q)
        | _ => none
      | _, _ => none
    | r => some (.key i, r)
def psLoop (step : List Nat → Option (HS × List Nat)) : Nat → List Nat → Option (List HS × List Nat)
  | 0, _ => none
  | f + 1, l => match l with
    | 32 :: r => match step r with
      | none => none
      | some (s, q) => (psLoop step f q).map fun z => (s :: z.1, z.2)
    | r => some ([], r)
def psMany (step : List Nat → Option (HS × List Nat)) (l : List Nat) : Option (List HS × List Nat) :=
  match l with
  | [] => some ([], [])
  | 41 :: r => some ([], 41 :: r)
  | c :: r => match step (c :: r) with
    | none => none
    | some (s, q) => (psLoop step (q.length + 1) q).map fun z => (s :: z.1, z.2)
def psS : Nat → List Nat → Option (List HS × List Nat)
  | 0, l => psMany (psStep none) l
  | m + 1, l => psMany (psStep (some (psS m))) l
mutual
def HS.nok : HS → Prop
  | .key k => k.natAbs < 10 ^ 31
  | .rep w c b ss => (w = 0 ∧ b = true ∧ c.natAbs < 10 ^ 31) ∧ noks ss
  | .odd _ => False
def noks : List HS → Prop
  | [] => True
  | s :: r => s.nok ∧ noks r
end
def StepOk (m : Nat) (step : List Nat → Option (HS × List Nat)) : Prop := ∀ l s q, step l = some (s, q) → l = s.tx ++ q ∧ s.nok ∧ s.dp ≤ m
theorem loop_sound {m : Nat} {step : List Nat → Option (HS × List Nat)} (h : StepOk m step) : ∀ (f : Nat) (l : List Nat) (ss : List HS) (q : List Nat), psLoop step f l = some (ss, q) → l = txr ss ++ q ∧ noks ss ∧ dps ss ≤ m ∧ ∀ r, q ≠ 32 :: r
  | 0, l, ss, q, e => by cases e
  | f + 1, l, ss, q, e => by
    unfold psLoop at e
    split at e
    · rename_i r
      split at e
      · cases e
      · rename_i s q1 e1
        obtain ⟨z, e2, e3⟩ := Option.map_eq_some_iff.mp e
        cases e3
        obtain ⟨h1, h2, h3⟩ := h _ _ _ e1
        obtain ⟨h4, h5, h6, h7⟩ := loop_sound h f q1 z.1 z.2 e2
        refine ⟨?_, ⟨h2, h5⟩, by rw [dps]; exact Nat.max_le.mpr ⟨h3, h6⟩, h7⟩
        rw [txr, h1]
        show 32 :: (s.tx ++ q1) = 32 :: (s.tx ++ txr z.1) ++ z.2
        rw [List.cons_append, List.append_assoc, ← h4]
    · rename_i hn
      cases e
      exact ⟨rfl, trivial, Nat.zero_le _, fun r e => hn r e⟩
theorem many_sound {m : Nat} {step : List Nat → Option (HS × List Nat)} (h : StepOk m step) {l : List Nat} {ss : List HS} {q : List Nat} (e : psMany step l = some (ss, q)) : l = txs ss ++ q ∧ noks ss ∧ dps ss ≤ m := by
  unfold psMany at e
  split at e
  · cases e; exact ⟨rfl, trivial, Nat.zero_le _⟩
  · cases e; exact ⟨rfl, trivial, Nat.zero_le _⟩
  · split at e
    · cases e
    · rename_i s q1 e1
      obtain ⟨z, e2, e3⟩ := Option.map_eq_some_iff.mp e
      cases e3
      obtain ⟨h1, h2, h3⟩ := h _ _ _ e1
      obtain ⟨h4, h5, h6, _⟩ := loop_sound h _ q1 z.1 z.2 e2
      refine ⟨?_, ⟨h2, h5⟩, by rw [dps]; exact Nat.max_le.mpr ⟨h3, h6⟩⟩
      rw [txs, h1, List.append_assoc, ← h4]
theorem step_key {sub : Option (List Nat → Option (List HS × List Nat))} {l : List Nat} : l = l.takeWhile nsep ++ l.dropWhile nsep := (List.takeWhile_append_dropWhile).symm
theorem step_sound {m : Nat} {sub : Option (List Nat → Option (List HS × List Nat))} (h : ∀ f, sub = some f → 1 ≤ m ∧ ∀ l ss q, f l = some (ss, q) → l = txs ss ++ q ∧ noks ss ∧ dps ss ≤ m - 1) : StepOk m (psStep sub) := by
  intro l s q e
  unfold psStep at e
  split at e
  · cases e
  · rename_i i ei
    obtain ⟨w1, w2⟩ := numOf_back ei
    have el := step_key (sub := sub) (l := l)
    split at e
    · rename_i r er
      split at e
      · rename_i f r2
        split at e
        · rename_i ss q2 ef
          cases e
          obtain ⟨m1, hf⟩ := h f rfl
          obtain ⟨h1, h2, h3⟩ := hf _ _ _ ef
          refine ⟨?_, ⟨⟨rfl, rfl, w2⟩, h2⟩, by rw [HS.dp]; omega⟩
          rw [el, er, w1, h1, HS.tx]
          simp
        · cases e
      · cases e
    · cases e
      refine ⟨?_, w2, Nat.zero_le _⟩
      rw [HS.tx, ← w1]
      exact el
theorem psS_sound : ∀ (m : Nat) {l : List Nat} {ss : List HS} {q : List Nat}, psS m l = some (ss, q) → l = txs ss ++ q ∧ noks ss ∧ dps ss ≤ m
  | 0, l, ss, q, e => many_sound (step_sound (sub := none) fun f h => by cases h) e
  | m + 1, l, ss, q, e => many_sound (step_sound (sub := some (psS m)) fun f h => by
      cases h
      exact ⟨by omega, fun l ss q e => psS_sound m e⟩) e
theorem nm_nsep {i : Int} : ∀ c ∈ nmL i, nsep c = true := fun c hc => by
  have := nm_mem hc
  unfold nsep
  rw [Bool.not_eq_true', decide_eq_false_iff_not]
  simp only [List.mem_cons, List.not_mem_nil, or_false]
  omega
theorem cut_w {i : Int} {q : List Nat} (h : q = [] ∨ ∃ c r, q = c :: r ∧ nsep c = false) : (nmL i ++ q).takeWhile nsep = nmL i ∧ (nmL i ++ q).dropWhile nsep = q := by
  rw [List.takeWhile_append_of_pos nm_nsep, List.dropWhile_append_of_pos nm_nsep]
  rcases h with rfl | ⟨c, r, rfl, hc⟩
  · simp
  · rw [List.takeWhile_cons_of_neg (by simp [hc]), List.dropWhile_cons_of_neg (by simp [hc])]
    simp
def Behind (q : List Nat) : Prop := q = [] ∨ ∃ c r, q = c :: r ∧ (c = 32 ∨ c = 41)
theorem Behind.sep {q : List Nat} (h : Behind q) : q = [] ∨ ∃ c r, q = c :: r ∧ nsep c = false := by
  rcases h with h | ⟨c, r, e, h⟩
  · exact .inl h
  · refine .inr ⟨c, r, e, ?_⟩
    rcases h with rfl | rfl <;> rfl
def StepFull (m : Nat) (step : List Nat → Option (HS × List Nat)) : Prop := ∀ s q, s.nok → s.dp ≤ m → Behind q → step (s.tx ++ q) = some (s, q)
theorem behind_r (ss : List HS) {q : List Nat} (h : q = [] ∨ ∃ r, q = 41 :: r) : Behind (txr ss ++ q) := by
  cases ss with
  | nil =>
    rcases h with h | ⟨r, h⟩
    · exact .inl (by rw [h]; rfl)
    · exact .inr ⟨41, r, by rw [h]; rfl, .inr rfl⟩
  | cons s ss => exact .inr ⟨32, s.tx ++ txr ss ++ q, by rw [txr]; rfl, .inl rfl⟩
theorem loop_full {m : Nat} {step : List Nat → Option (HS × List Nat)} (h : StepFull m step) : ∀ (ss : List HS) (f : Nat) (q : List Nat), noks ss → dps ss ≤ m → (q = [] ∨ ∃ r, q = 41 :: r) → (txr ss ++ q).length < f → psLoop step f (txr ss ++ q) = some (ss, q)
  | [], 0, q, _, _, _, hf => by omega
  | [], f + 1, q, _, _, hq, _ => by
    rw [txr, List.nil_append]
    unfold psLoop
    rcases hq with rfl | ⟨r, rfl⟩ <;> rfl
  | s :: ss, 0, q, _, _, _, hf => by omega
  | s :: ss, f + 1, q, hn, hd, hq, hf => by
    rw [noks] at hn
    rw [dps] at hd
    rw [txr] at hf ⊢
    have hl : (txr ss ++ q).length < f := by
      simp only [List.cons_append, List.length_cons, List.length_append] at hf ⊢
      omega
    have ih := loop_full h ss f q hn.2 (Nat.le_trans (Nat.le_max_right ..) hd) hq hl
    unfold psLoop
    simp only [List.cons_append, List.append_assoc]
    rw [h s (txr ss ++ q) hn.1 (Nat.le_trans (Nat.le_max_left ..) hd) (behind_r ss hq)]
    simp only [ih]
    rfl
theorem nok_head : ∀ s : HS, s.nok → ∃ c r, s.tx = c :: r ∧ (c = 45 ∨ (48 ≤ c ∧ c ≤ 57))
  | .key k, _ => by
    rw [HS.tx]
    cases e : nmL k with
    | nil => exact absurd e (nm_ne k)
    | cons c r => exact ⟨c, r, rfl, nm_mem (by rw [e]; exact List.mem_cons_self ..)⟩
  | .rep w c b ss, _ => by
    rw [HS.tx]
    cases e : nmL c with
    | nil => exact absurd e (nm_ne c)
    | cons d r => exact ⟨d, _, rfl, nm_mem (by rw [e]; exact List.mem_cons_self ..)⟩
  | .odd c, h => by rw [HS.nok] at h; exact h.elim
theorem many_full {m : Nat} {step : List Nat → Option (HS × List Nat)} (h : StepFull m step) {ss : List HS} {q : List Nat} (hn : noks ss) (hd : dps ss ≤ m) (hq : q = [] ∨ ∃ r, q = 41 :: r) : psMany step (txs ss ++ q) = some (ss, q) := by
  cases ss with
  | nil =>
    rw [txs, List.nil_append]
    rcases hq with rfl | ⟨r, rfl⟩ <;> rfl
  | cons s ss =>
    rw [noks] at hn
    rw [dps] at hd
    have st := h s (txr ss ++ q) hn.1 (Nat.le_trans (Nat.le_max_left ..) hd) (behind_r ss hq)
    have ih := loop_full h ss _ q hn.2 (Nat.le_trans (Nat.le_max_right ..) hd) hq (Nat.lt_succ_self _)
    obtain ⟨c, r, et, hc⟩ := nok_head s hn.1
    rw [txs, List.append_assoc]
    rw [et, List.cons_append] at st ⊢
    have n41 : c ≠ 41 := by omega
    unfold psMany
    split
    · rename_i e; cases e
    · rename_i e; cases e; exact absurd rfl n41
    · rename_i e
      cases e
      rw [st]
      simp only [ih]
      rfl
theorem step_full {m : Nat} {sub : Option (List Nat → Option (List HS × List Nat))} (h : 1 ≤ m → ∃ f, sub = some f ∧ ∀ ss q, noks ss → dps ss ≤ m - 1 → (q = [] ∨ ∃ r, q = 41 :: r) → f (txs ss ++ q) = some (ss, q)) : StepFull m (psStep sub) := by
  intro s q hn hd hq
  cases s with
  | odd c => rw [HS.nok] at hn; exact hn.elim
  | key k =>
    rw [HS.nok] at hn
    obtain ⟨c1, c2⟩ := cut_w (i := k) hq.sep
    unfold psStep
    rw [HS.tx, c1, numOf_nm hn, c2]
    rcases hq with rfl | ⟨c, r, rfl, rfl | rfl⟩ <;> rfl
  | rep w c b ss =>
    rw [HS.nok] at hn
    rw [HS.dp] at hd
    obtain ⟨⟨rfl, rfl, hc⟩, hss⟩ := hn
    obtain ⟨f, rfl, hf⟩ := h (by omega)
    have e : HS.tx (.rep 0 c true ss) ++ q = nmL c ++ (42 :: 40 :: (txs ss ++ (41 :: q))) := by rw [HS.tx]; simp
    obtain ⟨c1, c2⟩ := cut_w (i := c) (q := 42 :: 40 :: (txs ss ++ (41 :: q))) (.inr ⟨42, _, rfl, rfl⟩)
    unfold psStep
    rw [e, c1, numOf_nm hc, c2]
    show (match f (txs ss ++ 41 :: q) with | some (ss, 41 :: q) => some (HS.rep 0 c true ss, q) | _ => none) = _
    rw [hf ss (41 :: q) hss (by omega) (.inr ⟨q, rfl⟩)]
    rfl
theorem psS_full : ∀ (m : Nat) {ss : List HS} {q : List Nat}, noks ss → dps ss ≤ m → (q = [] ∨ ∃ r, q = 41 :: r) → psS m (txs ss ++ q) = some (ss, q)
  | 0, ss, q, hn, hd, hq => many_full (step_full (sub := none) (m := 0) fun h => by omega) hn hd hq
  | m + 1, ss, q, hn, hd, hq => many_full (step_full (sub := some (psS m)) (m := m + 1) fun h => ⟨psS m, rfl, fun ss q h1 h2 h3 => psS_full m h1 h2 h3⟩) hn hd hq
def psAll (l : List Nat) : Option (List HS) := match psS 4 l with | some (ss, []) => some ss | _ => none
theorem psAll_iff {l : List Nat} {ss : List HS} : psAll l = some ss ↔ l = txs ss ∧ noks ss ∧ dps ss ≤ 4 := by
  unfold psAll
  constructor
  · intro h
    split at h
    · rename_i e
      cases h
      have := psS_sound 4 e
      rw [List.append_nil] at this
      exact this
    · cases h
  · rintro ⟨rfl, h1, h2⟩
    have := psS_full 4 (ss := ss) (q := []) h1 h2 (.inl rfl)
    rw [List.append_nil] at this
    rw [this]
end Tm
namespace Tm
open PySem PyProof.Rows
def subR : Nat → Option (List Nat → Option (List HS × List Nat))
  | 0 => none
  | m + 1 => some (psS m)
theorem psS_eq (m : Nat) (l : List Nat) : psS m l = psMany (psStep (subR m)) l := by cases m <;> rfl
theorem sub_sound (m : Nat) : StepOk m (psStep (subR m)) := by
  cases m with
  | zero => exact step_sound (sub := none) fun f h => by cases h
  | succ m =>
    refine step_sound (sub := some (psS m)) fun f h => ?_
    cases h
    exact ⟨by omega, fun l ss q e => psS_sound m e⟩
section
variable {sub : Option (List Nat → Option (List HS × List Nat))} {f : List Nat → Option (List HS × List Nat)} {l r r2 q : List Nat} {i : Int} {ss : List HS}
theorem ps_none (h : numOf (l.takeWhile nsep) = none) : psStep sub l = none := by unfold psStep; rw [h]
theorem ps_key (h : numOf (l.takeWhile nsep) = some i) (h2 : ∀ r, l.dropWhile nsep ≠ 42 :: r) : psStep sub l = some (.key i, l.dropWhile nsep) := by
  unfold psStep
  rw [h]
  simp only
theorem ps_deep (h : numOf (l.takeWhile nsep) = some i) (h2 : l.dropWhile nsep = 42 :: r) : psStep none l = none := by unfold psStep; rw [h, h2]; rfl
theorem ps_open (h : numOf (l.takeWhile nsep) = some i) (h2 : l.dropWhile nsep = 42 :: r) (h3 : r[0]? ≠ some 40) : psStep (some f) l = none := by
  unfold psStep
  rw [h, h2]
  simp only
  split
  · exact absurd rfl h3
  · rfl
theorem ps_inn (h : numOf (l.takeWhile nsep) = some i) (h2 : l.dropWhile nsep = 42 :: 40 :: r2) (h3 : f r2 = none) : psStep (some f) l = none := by
  unfold psStep
  rw [h, h2]
  simp only [h3]
theorem ps_close (h : numOf (l.takeWhile nsep) = some i) (h2 : l.dropWhile nsep = 42 :: 40 :: r2) (h3 : f r2 = some (ss, q)) (h4 : q[0]? ≠ some 41) : psStep (some f) l = none := by
  unfold psStep
  rw [h, h2]
  simp only [h3]
  split
  · rename_i e; cases e; exact absurd rfl h4
  · rfl
theorem ps_rep (h : numOf (l.takeWhile nsep) = some i) (h2 : l.dropWhile nsep = 42 :: 40 :: r2) (h3 : f r2 = some (ss, 41 :: q)) : psStep (some f) l = some (.rep 0 i true ss, q) := by
  unfold psStep
  rw [h, h2]
  simp only [h3]
end
section
variable {step : List Nat → Option (HS × List Nat)} {l q : List Nat} {s : HS} {n : Nat}
theorem pm_end (h : l[0]? = none ∨ l[0]? = some 41) : psMany step l = some ([], l) := by
  cases l with
  | nil => rfl
  | cons c r =>
    rcases h with h | h
    · cases h
    · cases h; rfl
theorem pm_none (h : ¬ (l[0]? = none ∨ l[0]? = some 41)) (h2 : step l = none) : psMany step l = none := by
  cases l with
  | nil => exact absurd (.inl rfl) h
  | cons c r =>
    unfold psMany
    split
    · rename_i e; cases e
    · rename_i e; cases e; exact absurd (.inr rfl) h
    · rename_i e; cases e; rw [h2]
theorem pm_some (h : ¬ (l[0]? = none ∨ l[0]? = some 41)) (h2 : step l = some (s, q)) : psMany step l = (psLoop step (q.length + 1) q).map fun z => (s :: z.1, z.2) := by
  cases l with
  | nil => exact absurd (.inl rfl) h
  | cons c r =>
    unfold psMany
    split
    · rename_i e; cases e
    · rename_i e; cases e; exact absurd (.inr rfl) h
    · rename_i e; cases e; rw [h2]
theorem pl_end (h : l[0]? ≠ some 32) : psLoop step (n + 1) l = some ([], l) := by
  cases l with
  | nil => rfl
  | cons c r =>
    unfold psLoop
    split
    · rename_i e; cases e; exact absurd rfl h
    · rfl
theorem pl_none (h : step l = none) : psLoop step (n + 1) (32 :: l) = none := by
  unfold psLoop
  simp only [h]
theorem pl_some (h : step l = some (s, q)) : psLoop step (n + 1) (32 :: l) = (psLoop step n q).map fun z => (s :: z.1, z.2) := by
  conv => lhs; unfold psLoop
  simp only [h]
end
mutual
theorem ck_back : ∀ (s : HS) (nest : Nat) (pos p : Int), nest ≤ 4 → s.ck nest pos = .inr p → pos ≤ 100 → s.nok → (s.ok ∧ nest + s.dp ≤ 4 ∧ p = pos + s.wr ∧ p ≤ 100)
  | .key k, nest, pos, p, hn, h, hp, _ => by
    rw [HS.ck] at h
    split at h
    · cases h
    · split at h
      · rename_i h1 h2
        cases h
        rw [HS.ok, HS.dp, HS.wr]
        exact ⟨h2, by omega, rfl, by omega⟩
      · cases h
  | .odd _, _, _, _, _, _, _, hk => by rw [HS.nok] at hk; exact hk.elim
  | .rep w c b ss, nest, pos, p, hn, h, hp, hk => by
    rw [HS.nok] at hk
    rw [HS.ck] at h
    split at h
    · cases h
    · split at h
      · rename_i h1 h2
        obtain ⟨a1, a2, a3, a4⟩ := cks_back ss (nest + 1) (pos + 1) p (by omega) h (by omega) hk.2
        rw [HS.ok, HS.dp, HS.wr]
        exact ⟨⟨h2.1, a1⟩, by omega, by omega, a4⟩
      · cases h
theorem cks_back : ∀ (ss : List HS) (nest : Nat) (pos p : Int), nest ≤ 4 → cks nest pos ss = .inr p → pos ≤ 100 → noks ss → (oks ss ∧ nest + dps ss ≤ 4 ∧ p = pos + wrs ss ∧ p ≤ 100)
  | [], nest, pos, p, hn, h, hp, _ => by
    rw [cks] at h; cases h
    rw [dps, wrs]
    exact ⟨trivial, by omega, by simp, hp⟩
  | s :: r, nest, pos, p, hn, h, hp, hk => by
    rw [noks] at hk
    rw [cks] at h
    split at h
    · cases h
    · rename_i q hq
      obtain ⟨a1, a2, a3, a4⟩ := ck_back s nest pos q hn hq hp hk.1
      obtain ⟨b1, b2, b3, b4⟩ := cks_back r nest q p hn h a4 hk.2
      rw [oks, dps, wrs]
      exact ⟨⟨a1, b1⟩, by have := Nat.max_le (a := s.dp) (b := dps r) (c := 4 - nest); omega, by omega, b4⟩
end
end Tm
--@LAW k56
namespace VL
open PySem PySem.Spec PyProof.Rows L2 Tm XL
def W_Reader_read_steps : Nat → W4
  | 0 => fun _ _ _ _ => False
  | n + 1 => fun ds M Φ Ψ => ∃ (r : Addr) (l : List Nat) (i k m : Nat), ds = [.ref r] ∧ Rd M r l i k ∧ (i ≤ l.length ∧ l.length ≤ 4000) ∧ (k + m = 4 ∧ m ≤ n) ∧
    (∀ ss rest, psS m (l.drop i) = some (ss, rest) → ∀ M' p, Rd M' r l (l.length - rest.length) k → M p = none → M' p = some (.lst (hDs ss)) → Ot r M M' → Φ (.ref p) M') ∧
    (psS m (l.drop i) = none → ∀ M', Ot r M M' → Ψ "ParseError" (.int 0) M')
def W_Reader_read_step : Nat → W4 := fun n ds M Φ Ψ => ∃ (r : Addr) (l : List Nat) (i k m : Nat), ds = [.ref r] ∧ Rd M r l i k ∧ (i ≤ l.length ∧ l.length ≤ 4000) ∧ (k + m = 4 ∧ m ≤ n) ∧
    (∀ s rest, psStep (subR m) (l.drop i) = some (s, rest) → ∀ M', Rd M' r l (l.length - rest.length) k → Ot r M M' → Φ (hD s) M') ∧
    (psStep (subR m) (l.drop i) = none → ∀ M', Ot r M M' → Ψ "ParseError" (.int 0) M')
def w_Reader_read_step (Ψ : XC) (W_Reader_read_steps : W4) : WS := (sSeq (sAsg (wCall W_parse_number (wCons (wMet "Reader" "read_word" W_Reader_read_word (wVar 0) wNil) wNil)) (wgName 1))
  (sSeq (sIf (wTest (wOp wrIsN (wVar 1) (wC .non))) (sRaise "ParseError" Ψ (wCons (wC (.int 0)) wNil)) sNext)
  (sSeq (sIf (wTest (wOp wrNeS (wSlS (wFld "Reader" "text" (wVar 0)) (wPart (wFld "Reader" "at" (wVar 0))) (wPart (wOp wrAdd (wFld "Reader" "at" (wVar 0)) (wC (.int 1))))) (wC (.str "*")))) (sRet (wVar 1)) sNext)
  (sSeq (sIf (wTest (wOp wrEq (wFld "Reader" "nesting" (wVar 0)) (wC (.int 4)))) (sRaise "ParseError" Ψ (wCons (wC (.int 0)) wNil)) sNext)
  (sSeq (sAugF "Reader" "nesting" (wVar 0) (wC (.int 1)) (· + ·))
  (sSeq (sDrop (wMet "Reader" "expect" (atX W_Reader_expect Ψ) (wVar 0) (wCons (wC (.str "*")) wNil)))
  (sSeq (sDrop (wMet "Reader" "expect" (atX W_Reader_expect Ψ) (wVar 0) (wCons (wC (.str "(")) wNil)))
  (sSeq (sAsg (wMet "Reader" "read_steps" (atX W_Reader_read_steps Ψ) (wVar 0) wNil) (wgName 2))
  (sSeq (sDrop (wMet "Reader" "expect" (atX W_Reader_expect Ψ) (wVar 0) (wCons (wC (.str ")")) wNil)))
  (sSeq (sAugF "Reader" "nesting" (wVar 0) (wC (.int 1)) (· - ·))
  (sRet (wTup (wCons (wC (.str "repeat")) (wCons (wVar 1) (wCons (wCB wrTupC (wCons (wVar 2) wNil)) wNil)))))))))))))))
theorem drop_rest {l a b : List Nat} {i : Nat} (h : l.drop i = a ++ b) (hi : i ≤ l.length) : i + a.length = l.length - b.length ∧ b.length ≤ l.length ∧ l.drop (l.length - b.length) = b := by
  have e := congrArg List.length h
  rw [List.length_drop, List.length_append] at e
  have e2 : i + a.length = l.length - b.length := by omega
  refine ⟨e2, by omega, ?_⟩
  rw [← e2, ← List.drop_drop, h, List.drop_left']
  rfl
theorem get_drop {l b : List Nat} {i : Nat} (h : l.drop i = b) : l[i]? = b[0]? := by rw [← h, List.getElem?_drop, Nat.add_zero]
theorem tail_drop {l b : List Nat} {i c : Nat} (h : l.drop i = c :: b) : l.drop (i + 1) = b ∧ i + 1 ≤ l.length ∧ l.length - b.length = i + 1 := by
  have e := congrArg List.length h
  rw [List.length_drop, List.length_cons] at e
  refine ⟨?_, by omega, by omega⟩
  rw [← List.drop_drop, h]
  rfl
theorem nsep_iff {c : Nat} : nsep c = true ↔ c ∉ seps := by
  unfold nsep seps
  simp
theorem r_Reader_read_step (n : Nat) (Ψ : XC) : ∀ ds M Φ, W_Reader_read_step n ds M Φ Ψ → w_Reader_read_step Ψ (W_Reader_read_steps n) (endsD Φ) (startD 3 ds) M := by
  intro ds M Φ ⟨r, l, i, k, m, eds, R, ⟨il, ll⟩, ⟨km, mn⟩, hS, hN⟩
  subst eds
  unfold w_Reader_read_step
  rw [start_x3]
  generalize ed : l.drop i = dd at hS hN
  have ew := (List.takeWhile_append_dropWhile (p := nsep) (l := dd)).symm
  have eD := ed
  rw [ew] at eD
  obtain ⟨p1, p2, p3⟩ := drop_rest eD il
  have wl : (dd.takeWhile nsep).length ≤ l.length := by omega
  generalize hw : dd.takeWhile nsep = w at ew eD p1 p2 p3 wl
  generalize hr : dd.dropWhile nsep = rest at ew eD p1 p2 p3
  wp_walk using e_met, e_met1 R (show look (rdF l i k) "read_word" = none from rfl), e_met2
  refine ⟨r, l, i, k, w, rest, rfl, R, ⟨eD, il, ll⟩, fun c hc => ?_, fun c q e => ?_, fun M1 R1 o1 => ?_⟩
  · rw [← hw] at hc
    exact nsep_iff.mp (List.all_eq_true.mp List.all_takeWhile c hc)
  · have := List.head?_dropWhile_not nsep dd
    rw [hr, e] at this
    simp only [List.head?_cons] at this
    have h2 : ¬ (nsep c = true) := by simpa using this
    exact Classical.not_not.mp fun h3 => h2 (nsep_iff.mpr h3)
  refine ⟨w, rfl, by omega, ?_⟩
  generalize hj : i + w.length = j at R1 p1
  subst p1
  have j2 : l.length - rest.length ≤ l.length := Nat.sub_le ..
  generalize hj2 : l.length - rest.length = j at R1 p3 j2 hj
  have l1 : look (rdF l j k) "at" = some (.int ((j : Nat) : Int)) := rfl
  have l2 : look (rdF l j k) "text" = some (.str (sL l)) := rfl
  have l3 : look (rdF l j k) "nesting" = some (.int ((k : Nat) : Int)) := rfl
  cases hn : numOf w with
  | none =>
    show _
    rw [show optD (none : Option Int) = .non from rfl]
    walk_at "vl"
    exact raise1 rfl (hN (ps_none (by rw [hw]; exact hn)) M1 o1)
  | some z =>
    rw [show optD (some z) = .int z from rfl]
    have hn' : numOf (dd.takeWhile nsep) = some z := by rw [hw]; exact hn
    have ec := cutL_one j2
    have em : ("*" : Str) = sL [42] := rfl
    wp_walk using e_slS, e_slS1, e_slS2, e_slS3, e_wFld, e_fld R1 l1, e_fld R1 l2, ec, e_neS', em, one_at
    refine ⟨by rw [sL_len]; unfold lim; omega, ?_⟩
    have g0 := get_drop p3
    by_cases c0 : l[j]? = some 42
    · rw [decide_eq_true c0]
      obtain ⟨q, eq⟩ : ∃ q, rest = 42 :: q := by
        rw [g0] at c0
        cases rest with
        | nil => cases c0
        | cons a q => cases c0; exact ⟨q, rfl⟩
      subst eq
      match m, km, mn, hS, hN with
      | 0, km, mn, hS, hN =>
        wp_walk using e_wFld, e_fld R1 l3, e_eqI, decide_eq_true (show ((k : Nat) : Int) = 4 by omega)
        exact raise1 rfl (hN (ps_deep hn' hr) M1 o1)
      | m + 1, km, mn, hS, hN =>
        wp_walk using e_wFld, e_fld R1 l3, e_eqI, decide_eq_false (show ¬ ((k : Nat) : Int) = 4 by omega), e_augF, e_augF1 R1 l3, e_augF2 R1 (show (3 : Nat) ≤ 30 by decide)
        have R2 : Rd (put M1 r (.ins "Reader" (putFD "nesting" (.int ((k : Int) + 1)) (rdF l j k)))) r l j (k + 1) := put_same
        have o2 : Ot r M (put M1 r (.ins "Reader" (putFD "nesting" (.int ((k : Int) + 1)) (rdF l j k)))) := o1.trans Ot.put
        generalize put M1 r (.ins "Reader" (putFD "nesting" (.int ((k : Int) + 1)) (rdF l j k))) = M2 at R2 o2
        wp_walk using e_met, e_met1 R2 (show look (rdF l j (k + 1)) "expect" = none from rfl), e_met2
        refine ⟨r, l, j, k + 1, 42, rfl, R2, ⟨j2, ll⟩, fun _ M3 R3 o3 => ?_, fun z => absurd c0 z⟩
        obtain ⟨t1, t2, t3⟩ := tail_drop p3
        wp_walk using e_met, e_met1 R3 (show look (rdF l (j + 1) (k + 1)) "expect" = none from rfl), e_met2
        have g1 := get_drop t1
        refine ⟨r, l, j + 1, k + 1, 40, rfl, R3, ⟨t2, ll⟩, fun c1 M4 R4 o4 => ?_, fun c1 => hN (ps_open hn' hr (by rw [← g1]; exact c1)) M3 (o2.trans o3)⟩
        obtain ⟨q2, eq⟩ : ∃ q2, q = 40 :: q2 := by
          rw [g1] at c1
          cases q with
          | nil => cases c1
          | cons a q => cases c1; exact ⟨q, rfl⟩
        subst eq
        obtain ⟨u1, u2, u3⟩ := tail_drop t1
        wp_walk using e_met, e_met1 R4 (show look (rdF l (j + 1 + 1) (k + 1)) "read_steps" = none from rfl), e_met2
        match n, mn with
        | 0, mn => omega
        | n + 1, mn =>
          refine ⟨r, l, j + 1 + 1, k + 1, m, rfl, R4, ⟨u2, ll⟩, ⟨by omega, by omega⟩, fun ss q3 hs M5 p R5 hp hM5 o5 => ?_, fun hs M5 o5 => hN (ps_inn hn' hr (by rw [← u1]; exact hs)) M5 (((o2.trans o3).trans o4).trans o5)⟩
          have pr : p ≠ r := fun e => by rw [e, R4] at hp; cases hp
          have hs' : psS m q2 = some (ss, q3) := by rw [← u1]; exact hs
          obtain ⟨so, _, _⟩ := psS_sound m hs
          obtain ⟨v1, v2, v3⟩ := drop_rest so u2
          have g3 := get_drop v3
          have jl : l.length - q3.length ≤ l.length := Nat.sub_le ..
          generalize hj3 : l.length - q3.length = j3 at R5 v3 g3 jl
          wp_walk using e_met, e_met1 R5 (show look (rdF l j3 (k + 1)) "expect" = none from rfl), e_met2
          refine ⟨r, l, j3, k + 1, 41, rfl, R5, ⟨jl, ll⟩, fun c3 M6 R6 o6 => ?_, fun c3 => hN (ps_close hn' hr hs' (by rw [← g3]; exact c3)) M5 (((o2.trans o3).trans o4).trans o5)⟩
          obtain ⟨q4, eq⟩ : ∃ q4, q3 = 41 :: q4 := by
            rw [g3] at c3
            cases q3 with
            | nil => cases c3
            | cons a q => cases c3; exact ⟨q, rfl⟩
          subst eq
          have hM6 := o6 _ _ pr hM5
          have l6 : look (rdF l (j3 + 1) (k + 1)) "nesting" = some (.int (((k + 1 : Nat)) : Int)) := rfl
          wp_walk using e_augF, e_wFld, e_augF1 R6 l6, e_augF2 R6 (show (3 : Nat) ≤ 30 by decide)
          have ek : (((k + 1 : Nat) : Int) - 1) = (k : Int) := by omega
          rw [ek]
          have R7 : Rd (put M6 r (.ins "Reader" (putFD "nesting" (.int (k : Int)) (rdF l (j3 + 1) (k + 1))))) r l (j3 + 1) k := put_same
          have hM7 : put M6 r (.ins "Reader" (putFD "nesting" (.int (k : Int)) (rdF l (j3 + 1) (k + 1)))) p = some (.lst (hDs ss)) := by rw [put_ne pr]; exact hM6
          have o7 : Ot r M (put M6 r (.ins "Reader" (putFD "nesting" (.int (k : Int)) (rdF l (j3 + 1) (k + 1))))) := (((((o2.trans o3).trans o4).trans o5).trans o6)).trans Ot.put
          generalize put M6 r (.ins "Reader" (putFD "nesting" (.int (k : Int)) (rdF l (j3 + 1) (k + 1)))) = M7 at R7 hM7 o7
          wp_walk using e_tupCR hM7
          refine ⟨(show (3 : Nat) ≤ lim by decide), ?_⟩
          have := hS (.rep 0 z true ss) q4 (ps_rep hn' hr hs') M7 (by
            obtain ⟨_, _, e⟩ := tail_drop v3
            rw [e]; exact R7) o7
          rw [hD] at this
          exact this
    · rw [decide_eq_false c0]
      walk_at "vl"
      have := hS (.key z) rest (by
        have := ps_key (sub := subR m) hn' (fun q e => c0 (by rw [g0, ← hr, e]; rfl))
        rw [hr] at this
        exact this) M1 (by rw [hj2]; exact R1) o1
      rw [hD] at this
      exact this
def w_Reader_read_steps (Ψ : XC) (W_Reader_read_step : W4) : WS := (sSeq (sAsg (wLstM wNil) (wgName 1))
  (sSeq (sIf (wTest (wOp (wrIn false) (wSlS (wFld "Reader" "text" (wVar 0)) (wPart (wFld "Reader" "at" (wVar 0))) (wPart (wOp wrAdd (wFld "Reader" "at" (wVar 0)) (wC (.int 1))))) (wTup (wCons (wC (.str "")) (wCons (wC (.str ")")) wNil))))) (sRet (wVar 1)) sNext)
  (sSeq (sDrop (wBM wrAppend (wVar 1) (wCons (wMet "Reader" "read_step" (atX W_Reader_read_step Ψ) (wVar 0) wNil) wNil)))
  (sSeq (sWhile (wTest (wOp wrEqS (wSlS (wFld "Reader" "text" (wVar 0)) (wPart (wFld "Reader" "at" (wVar 0))) (wPart (wOp wrAdd (wFld "Reader" "at" (wVar 0)) (wC (.int 1))))) (wC (.str " ")))) (sSeq (sDrop (wMet "Reader" "expect" (atX W_Reader_expect Ψ) (wVar 0) (wCons (wC (.str " ")) wNil)))
  (sDrop (wBM wrAppend (wVar 1) (wCons (wMet "Reader" "read_step" (atX W_Reader_read_step Ψ) (wVar 0) wNil) wNil)))))
  (sRet (wVar 1))))))
theorem e_inTwo {z a b : Str} {M : Mem} {Φ : KD} : wrIn false (.str z) (.tup [.str a, .str b]) M Φ = Φ (.bl (decide (z = a ∨ z = b))) M := by
  show ((flatD (.str z) = true ∧ [D.str a, D.str b].all flatD = true) ∧ Φ (.bl (if false = true then !inF (.str z) [.str a, .str b] else inF (.str z) [.str a, .str b])) M) = _
  have e : inF (.str z) [.str a, .str b] = decide (z = a ∨ z = b) := by
    unfold inF
    simp only [List.any_cons, List.any_nil, Bool.or_false, eqF]
    by_cases h1 : a = z
    · subst h1; simp
    · have h1' : ¬ z = a := fun e => h1 e.symm
      by_cases h2 : b = z
      · subst h2; simp
      · have h2' : ¬ z = b := fun e => h2 e.symm
        simp [h1, h2, h1', h2']
  rw [e]
  simp only [flatD, List.all_cons, List.all_nil, Bool.and_self, true_and, if_false]
  rfl
theorem em_s : ("" : Str) = sL [] := rfl
theorem one_or {l : List Nat} {i : Nat} : decide (sL (oneAt l i) = sL [] ∨ sL (oneAt l i) = sL [41]) = decide (l[i]? = none ∨ l[i]? = some 41) := by
  refine decide_eq_decide.mpr ?_
  unfold oneAt
  cases l[i]? with
  | none => simp
  | some d =>
    constructor
    · rintro (h | h)
      · have := sL_inj h; cases this
      · have := sL_inj h; cases this; exact .inr rfl
    · rintro (h | h)
      · cases h
      · cases h; exact .inr rfl
theorem tx_pos : ∀ {s : HS}, s.nok → 1 ≤ s.tx.length := fun {s} h => by
  obtain ⟨c, r, e, _⟩ := nok_head s h
  rw [e, List.length_cons]
  omega
theorem r_Reader_read_steps (n : Nat) (Ψ : XC) : ∀ ds M Φ, W_Reader_read_steps (n + 1) ds M Φ Ψ → w_Reader_read_steps Ψ (W_Reader_read_step n) (endsD Φ) (startD 2 ds) M := by
  intro ds M Φ ⟨r, l, i, k, m, eds, R, ⟨il, ll⟩, ⟨km, mn⟩, hS, hN⟩
  subst eds
  unfold w_Reader_read_steps
  rw [start_x2]
  generalize ed : l.drop i = dd at hS hN
  have g0 := get_drop ed
  walk_at "vl"
  refine ⟨Nat.zero_le _, fun p hp => ?_⟩
  have pr : p ≠ r := fun e => by rw [e, R] at hp; cases hp
  have R1 : Rd (put M p (.lst [])) r l i k := by unfold Rd; rw [put_ne (Ne.symm pr)]; exact R
  have hM1 : put M p (.lst []) p = some (.lst []) := put_same
  have o1 : Ot r M (put M p (.lst [])) := fun b o _ hb => ((Kept.refl M).new hp _) b o hb
  generalize put M p (.lst []) = M1 at R1 hM1 o1
  have l1 : look (rdF l i k) "at" = some (.int ((i : Nat) : Int)) := rfl
  have l2 : look (rdF l i k) "text" = some (.str (sL l)) := rfl
  have ec := cutL_one il
  wp_walk using e_slS, e_slS1, e_slS2, e_slS3, e_wFld, e_fld R1 l1, e_fld R1 l2, ec, e_inTwo, em_s, ob_c, one_or
  refine ⟨by rw [sL_len]; unfold lim; omega, (show (2 : Nat) ≤ lim by decide), ?_⟩
  by_cases c0 : l[i]? = none ∨ l[i]? = some 41
  · rw [decide_eq_true c0]
    walk_at "vl"
    have e : psS m dd = some ([], dd) := by
      rw [psS_eq]
      exact pm_end (by rw [← g0]; exact c0)
    have len := congrArg List.length ed
    rw [List.length_drop] at len
    exact hS [] dd e M1 p (by rw [← len, show l.length - (l.length - i) = i by omega]; exact R1) hp hM1 o1
  · rw [decide_eq_false c0]
    have c0' : ¬ (dd[0]? = none ∨ dd[0]? = some 41) := by rw [← g0]; exact c0
    wp_walk using e_bm1 hM1, e_met, e_met1 R1 (show look (rdF l i k) "read_step" = none from rfl), e_met2
    refine ⟨r, l, i, k, m, rfl, R1, ⟨il, ll⟩, ⟨km, mn⟩, fun s rest hs M2 R2 o2 => ?_, fun hs M2 o2 => hN ?_ M2 (o1.trans o2)⟩
    rotate_left
    · rw [psS_eq]
      exact pm_none c0' (by rw [← ed]; exact hs)
    have hs' : psStep (subR m) dd = some (s, rest) := by rw [← ed]; exact hs
    obtain ⟨so, sn, _⟩ := sub_sound m _ _ _ hs
    obtain ⟨v1, v2, v3⟩ := drop_rest so il
    have sp := tx_pos sn
    have whole : psS m dd = (psLoop (psStep (subR m)) (rest.length + 1) rest).map fun z => ([s] ++ z.1, z.2) := by
      rw [psS_eq]
      exact pm_some c0' hs'
    have hM2 := o2 _ _ pr hM1
    wp_walk using e_append hM2
    refine ⟨(show (0 : Nat) < lim by decide), ?_⟩
    refine ⟨fun ms ρ M3 => ∃ (dn_ : List HS) (q : List Nat) (f : Nat), q.length < f ∧ ms = q.length ∧ psS m dd = (psLoop (psStep (subR m)) f q).map (fun z => (dn_ ++ z.1, z.2)) ∧ ρ = [some (.ref r), some (.ref p)] ∧ (l.drop (l.length - q.length) = q ∧ q.length ≤ l.length ∧ dn_.length + q.length ≤ l.length) ∧ Rd M3 r l (l.length - q.length) k ∧ M3 p = some (.lst (hDs dn_)) ∧ Ot r M M3, ⟨rest.length, [s], rest, rest.length + 1, Nat.lt_succ_self _, rfl, whole, rfl, ⟨v3, v2, ?_⟩, ?_, ?_, ?_⟩, ?_⟩
    · rw [List.length_singleton]; omega
    · unfold Rd; rw [put_ne (Ne.symm pr)]; exact R2
    · rw [put_same]; rfl
    · intro b o hb hM
      have : b ≠ p := fun e => by rw [e, hp] at hM; cases hM
      rw [put_ne this]
      exact o2 _ _ hb (o1 _ _ hb hM)
    rintro ms ρ M3 ⟨dn_, q, f, qf, rfl, eq, rfl, ⟨dj, ql, dl⟩, R3, hM3, o3⟩
    have jl : l.length - q.length ≤ l.length := Nat.sub_le ..
    generalize hj : l.length - q.length = j at R3 dj jl
    have m1 : look (rdF l j k) "at" = some (.int ((j : Nat) : Int)) := rfl
    have m2 : look (rdF l j k) "text" = some (.str (sL l)) := rfl
    have ec := cutL_one jl
    have aj := get_drop dj
    wp_walk using e_slS, e_slS1, e_slS2, e_slS3, e_wFld, e_fld R3 m1, e_fld R3 m2, ec, e_eqS', ob_sp, one_at
    refine ⟨by rw [sL_len]; unfold lim; omega, ?_⟩
    obtain ⟨f', rfl⟩ : ∃ f', f = f' + 1 := ⟨f - 1, by omega⟩
    by_cases c1 : l[j]? = some 32
    rotate_left
    · rw [decide_eq_false c1]
      walk_at "vl"
      rw [pl_end (by rw [← aj]; exact c1)] at eq
      have := hS dn_ q (by rw [eq]; simp) M3 p (by rw [hj]; exact R3) hp hM3 o3
      exact this
    · rw [decide_eq_true c1]
      obtain ⟨q2, e2⟩ : ∃ q2, q = 32 :: q2 := by
        rw [aj] at c1
        cases q with
        | nil => cases c1
        | cons a q => cases c1; exact ⟨q, rfl⟩
      subst e2
      obtain ⟨t1, t2, t3⟩ := tail_drop dj
      wp_walk using e_met, e_met1 R3 (show look (rdF l j k) "expect" = none from rfl), e_met2
      refine ⟨r, l, j, k, 32, rfl, R3, ⟨jl, ll⟩, fun _ M4 R4 o4 => ?_, fun z => absurd c1 z⟩
      have hM4 := o4 _ _ pr hM3
      wp_walk using e_bm1 hM4, e_met, e_met1 R4 (show look (rdF l (j + 1) k) "read_step" = none from rfl), e_met2
      refine ⟨r, l, j + 1, k, m, rfl, R4, ⟨t2, ll⟩, ⟨km, mn⟩, fun s2 q3 hs2 M5 R5 o5 => ?_, fun hs2 M5 o5 => hN ?_ M5 ((o3.trans o4).trans o5)⟩
      rotate_left
      · rw [eq, pl_none (by rw [← t1]; exact hs2)]; rfl
      obtain ⟨so2, sn2, _⟩ := sub_sound m _ _ _ hs2
      obtain ⟨w1, w2, w3⟩ := drop_rest so2 t2
      have sp2 := tx_pos sn2
      have hM5 := o5 _ _ pr hM4
      rw [List.length_cons] at qf dl ql
      have lq := congrArg List.length t1
      rw [List.length_drop] at lq
      wp_walk using e_bm1 hM5, e_append hM5
      refine ⟨by rw [hDs_len]; unfold lim; omega, q3.length, by rw [List.length_cons]; omega, dn_ ++ [s2], q3, f', by omega, rfl, ?_, trivial, ⟨w3, w2, by rw [List.length_append, List.length_singleton]; omega⟩, ?_, ?_, fun b o hb hM => ?_⟩
      · rw [eq, pl_some (by rw [← t1]; exact hs2), Option.map_map]
        congr 1
        funext z
        simp
      · unfold Rd; rw [put_ne (Ne.symm pr)]; exact R5
      · rw [put_same, hDs_map, hDs_map, List.map_append]; rfl
      · have : b ≠ p := fun e => by rw [e, hp] at hM; cases hM
        rw [put_ne this]
        exact o5 _ _ hb (o4 _ _ hb (o3 _ _ hb hM))
end VL
namespace Tm
open PySem PyProof.Rows
def cutSt : List Nat → List Nat
  | [] => []
  | c :: r => if c = 42 ∧ r.head? = some 40 then [] else c :: cutSt r
theorem spl_cut : ∀ (l acc : List Nat), (TL.spl [42, 40] 0 acc l)[0]? = some (acc ++ cutSt l)
  | [], acc => by rw [TL.spl_nil, cutSt, List.append_nil]; rfl
  | c :: r, acc => by
    rw [TL.spl, cutSt]
    by_cases h : c = 42 ∧ r.head? = some 40
    · obtain ⟨rfl, h⟩ := h
      cases r with
      | nil => cases h
      | cons d r =>
        cases h
        rw [if_pos (show TL.pre [42, 40] (42 :: 40 :: r) = true from rfl), if_pos ⟨rfl, rfl⟩, List.append_nil]
        rfl
    · rw [if_neg h, if_neg, spl_cut r (acc ++ [c])]
      · simp
      · intro z
        refine h ?_
        unfold TL.pre at z
        cases r with
        | nil => revert z; simp
        | cons d r =>
          have := eq_of_beq z
          simp at this
          exact ⟨this.1.symm ▸ rfl, by rw [List.head?_cons, this.2]⟩
def nxl (lv : Int) (c : Nat) : Int := lv + (if c = 40 then 1 else 0) - (if c = 41 then 1 else 0)
theorem nxl_o {lv : Int} {c : Nat} (h1 : c ≠ 40) (h2 : c ≠ 41) : nxl lv c = lv := by unfold nxl; rw [if_neg h1, if_neg h2]; omega
theorem nxl_40 {lv : Int} : nxl lv 40 = lv + 1 := by unfold nxl; rw [if_pos rfl, if_neg (by decide)]; omega
theorem nxl_41 {lv : Int} : nxl lv 41 = lv - 1 := by unfold nxl; rw [if_neg (by decide), if_pos rfl]; omega
def itms (lv : Int) (cur : List Nat) : List Nat → List (List Nat)
  | [] => [cur]
  | c :: r => if c = 32 ∧ nxl lv c = 0 then cur :: itms (nxl lv c) [] r else itms (nxl lv c) (cur ++ [c]) r
theorem itms_ne : ∀ (l : List Nat) (lv : Int) (cur : List Nat), itms lv cur l ≠ []
  | [], lv, cur => by rw [itms]; simp
  | c :: r, lv, cur => by
    rw [itms]
    split
    · simp
    · exact itms_ne r _ _
theorem itms_join : ∀ (l : List Nat) (lv : Int) (cur : List Nat), TL.joinL [32] (itms lv cur l) = cur ++ l
  | [], lv, cur => by rw [itms, List.append_nil]; rfl
  | c :: r, lv, cur => by
    rw [itms]
    split
    · rename_i h
      obtain ⟨rfl, _⟩ := h
      have ih := itms_join r (nxl lv 32) []
      have ne := itms_ne r (nxl lv 32) []
      revert ih ne
      generalize itms (nxl lv 32) [] r = L
      intro ih ne
      cases L with
      | nil => exact absurd rfl ne
      | cons a b =>
        show cur ++ ([32] ++ TL.joinL [32] (a :: b)) = _
        rw [ih]
        simp
    · rw [itms_join r _ (cur ++ [c])]; simp
def itmR (rd : Option (List Nat → Option (List HS))) (it : List Nat) : Option HS :=
  match numOf (cutSt it) with
  | none => none
  | some i => if cutSt it = it then (if i.natAbs > 10 ^ 9 then none else some (.key i))
    else match rd with
      | none => none
      | some f => if it.getLast? = some 41 then
          match f ((it.drop ((cutSt it).length + 2)).dropLast) with
          | none => none
          | some ss => if 0 ≤ i ∧ i ≤ 10 ^ 30 then some (.rep 0 i true ss) else none
        else none
def allR (f : List Nat → Option HS) : List (List Nat) → Option (List HS)
  | [] => some []
  | a :: r => match f a with
    | none => none
    | some s => (allR f r).map (s :: ·)
def lrd : Nat → List Nat → Option (List HS)
  | 0, l => if l = [] then some [] else allR (itmR none) (itms 0 [] l)
  | m + 1, l => if l = [] then some [] else allR (itmR (some (lrd m))) (itms 0 [] l)
def subL : Nat → Option (List Nat → Option (List HS))
  | 0 => none
  | m + 1 => some (lrd m)
theorem lrd_eq (m : Nat) (l : List Nat) : lrd m l = if l = [] then some [] else allR (itmR (subL m)) (itms 0 [] l) := by cases m <;> rfl
def Rdb (m : Nat) (s : HS) : Prop := s.ok ∧ s.nok ∧ s.dp ≤ m
def Rdbs (m : Nat) (ss : List HS) : Prop := oks ss ∧ noks ss ∧ dps ss ≤ m
theorem rdbs_cons {m : Nat} {s : HS} {r : List HS} : Rdbs m (s :: r) ↔ Rdb m s ∧ Rdbs m r := by
  unfold Rdbs Rdb
  rw [oks, noks, dps, Nat.max_le]
  constructor
  · rintro ⟨⟨a, b⟩, ⟨c, d⟩, e, f⟩; exact ⟨⟨a, c, e⟩, b, d, f⟩
  · rintro ⟨⟨a, c, e⟩, b, d, f⟩; exact ⟨⟨a, b⟩, ⟨c, d⟩, e, f⟩
theorem cut_form : ∀ (l : List Nat), cutSt l = l ∨ ∃ t, l = cutSt l ++ (42 :: 40 :: t)
  | [] => .inl rfl
  | c :: r => by
    rw [cutSt]
    by_cases h : c = 42 ∧ r.head? = some 40
    · rw [if_pos h]
      obtain ⟨rfl, h⟩ := h
      cases r with
      | nil => cases h
      | cons d r => cases h; exact .inr ⟨r, rfl⟩
    · rw [if_neg h]
      rcases cut_form r with e | ⟨t, e⟩
      · exact .inl (by rw [e])
      · exact .inr ⟨t, by rw [List.cons_append, ← e]⟩
theorem cut_no : ∀ {l : List Nat} {q : List Nat}, (∀ c ∈ l, c ≠ 42) → (q = [] ∨ ∃ t, q = 42 :: 40 :: t) → cutSt (l ++ q) = l
  | [], q, _, hq => by
    rcases hq with rfl | ⟨t, rfl⟩
    · rfl
    · rw [List.nil_append, cutSt, if_pos ⟨rfl, rfl⟩]
  | c :: l, q, h, hq => by
    rw [List.cons_append, cutSt, if_neg (fun z => h c (List.mem_cons_self ..) z.1), cut_no (fun c hc => h c (List.mem_cons_of_mem _ hc)) hq]
theorem nm_no {i : Int} : ∀ c ∈ nmL i, c ≠ 42 := fun c hc => by have := nm_mem hc; omega
theorem itmR_sound {m : Nat} {rd : Option (List Nat → Option (List HS))} (h : ∀ f, rd = some f → 1 ≤ m ∧ ∀ l ss, f l = some ss → l = txs ss ∧ Rdbs (m - 1) ss) {it : List Nat} {s : HS} (e : itmR rd it = some s) : it = s.tx ∧ Rdb m s := by
  unfold itmR at e
  split at e
  · cases e
  · rename_i i hi
    obtain ⟨w1, w2⟩ := numOf_back hi
    split at e
    · rename_i hc
      split at e
      · cases e
      · rename_i hb
        cases e
        refine ⟨by rw [HS.tx, ← w1, hc], ?_, w2, Nat.zero_le _⟩
        rw [HS.ok]; omega
    · rename_i hc
      split at e
      · cases e
      · rename_i f
        obtain ⟨m1, hf⟩ := h f rfl
        split at e
        · rename_i hl
          split at e
          · cases e
          · rename_i ss hs
            split at e
            · rename_i hb
              cases e
              obtain ⟨a1, a2, a3, a4⟩ := hf _ _ hs
              rcases cut_form it with q | ⟨t, q⟩
              · exact absurd q hc
              · have tl : t ≠ [] ∧ t.getLast? = some 41 := by
                  rw [q] at hl
                  cases t with
                  | nil => rw [List.getLast?_append] at hl; simp at hl
                  | cons a b =>
                    refine ⟨by simp, ?_⟩
                    rw [List.getLast?_append] at hl
                    simp only [List.getLast?_cons_cons] at hl
                    cases z : (a :: b).getLast? with
                    | none => simp at z
                    | some y => rw [z] at hl; simpa using hl
                have te : t = t.dropLast ++ [41] := by
                  have := List.dropLast_concat_getLast tl.1
                  rw [List.getLast?_eq_some_getLast tl.1] at tl
                  have h41 := Option.some.inj tl.2
                  rw [h41] at this
                  exact this.symm
                have dr : (it.drop ((cutSt it).length + 2)) = t := by
                  conv => lhs; rw [q]
                  rw [← List.drop_drop, List.drop_left']
                  · rfl
                  · rw [← q]
                rw [dr] at a1
                refine ⟨?_, ⟨⟨rfl, hb.1, hb.2⟩, a2⟩, ⟨⟨rfl, rfl, w2⟩, a3⟩, by rw [HS.dp]; omega⟩
                rw [HS.tx, ← w1, ← a1]
                conv => lhs; rw [q, te]
                simp
            · cases e
        · cases e
theorem allR_sound {m : Nat} {f : List Nat → Option HS} (h : ∀ it s, f it = some s → it = s.tx ∧ Rdb m s) : ∀ {L : List (List Nat)} {ss : List HS}, allR f L = some ss → L = ss.map HS.tx ∧ Rdbs m ss
  | [], ss, e => by cases e; exact ⟨rfl, trivial, trivial, Nat.zero_le _⟩
  | a :: L, ss, e => by
    rw [allR] at e
    split at e
    · cases e
    · rename_i s hs
      obtain ⟨r, e2, rfl⟩ := Option.map_eq_some_iff.mp e
      obtain ⟨a1, a2⟩ := h _ _ hs
      obtain ⟨b1, b2⟩ := allR_sound h e2
      exact ⟨by rw [a1, b1, List.map_cons], rdbs_cons.mpr ⟨a2, b2⟩⟩
theorem lrd_sound : ∀ (m : Nat) {l : List Nat} {ss : List HS}, lrd m l = some ss → l = txs ss ∧ Rdbs m ss := by
  intro m
  induction m with
  | zero =>
    intro l ss e
    rw [lrd_eq] at e
    split at e
    · rename_i h; cases e; exact ⟨h, trivial, trivial, Nat.zero_le _⟩
    · obtain ⟨a1, a2⟩ := allR_sound (m := 0) (fun it s e => itmR_sound (m := 0) (fun f hf => by cases hf) e) e
      refine ⟨?_, a2⟩
      rw [← txs_join, ← a1, itms_join, List.nil_append]
  | succ m ih =>
    intro l ss e
    rw [lrd_eq] at e
    split at e
    · rename_i h; cases e; exact ⟨h, trivial, trivial, Nat.zero_le _⟩
    · obtain ⟨a1, a2⟩ := allR_sound (m := m + 1) (fun it s e => itmR_sound (m := m + 1) (fun f hf => by cases hf; exact ⟨by omega, fun l ss e => ih e⟩) e) e
      refine ⟨?_, a2⟩
      rw [← txs_join, ← a1, itms_join, List.nil_append]
theorem itms_plain : ∀ {w : List Nat} {lv : Int} {cur rest : List Nat}, (∀ c ∈ w, c ≠ 32 ∧ c ≠ 40 ∧ c ≠ 41) → itms lv cur (w ++ rest) = itms lv (cur ++ w) rest
  | [], lv, cur, rest, _ => by simp
  | c :: w, lv, cur, rest, h => by
    obtain ⟨h1, h2, h3⟩ := h c (List.mem_cons_self ..)
    rw [List.cons_append, itms, if_neg (fun z => h1 z.1), nxl_o h2 h3, itms_plain fun c hc => h c (List.mem_cons_of_mem _ hc)]
    simp
theorem nm_plain {i : Int} : ∀ c ∈ nmL i, c ≠ 32 ∧ c ≠ 40 ∧ c ≠ 41 := fun c hc => by have := nm_mem hc; omega
mutual
theorem itms_tx : ∀ (s : HS), s.nok → ∀ (lv : Int) (cur rest : List Nat), 0 ≤ lv → itms lv cur (s.tx ++ rest) = itms lv (cur ++ s.tx) rest
  | .key k, _, lv, cur, rest, _ => by rw [HS.tx]; exact itms_plain nm_plain
  | .rep w c b ss, h, lv, cur, rest, hl => by
    rw [HS.nok] at h
    rw [HS.tx]
    have e : nmL c ++ ([42, 40] ++ (txs ss ++ [41])) ++ rest = (nmL c ++ [42]) ++ (40 :: (txs ss ++ (41 :: rest))) := by simp
    rw [e, itms_plain (w := nmL c ++ [42]) (fun d hd => by
      rcases List.mem_append.mp hd with hd | hd
      · exact nm_plain d hd
      · rcases List.mem_singleton.mp hd with rfl; decide)]
    rw [itms, if_neg (fun z => by cases z.1), nxl_40, itms_txs ss h.2 (lv + 1) _ (41 :: rest) (by omega), itms, if_neg (fun z => by cases z.1), nxl_41]
    have e2 : lv + 1 - 1 = lv := by omega
    rw [e2]
    congr 1
    simp
  | .odd _, h, _, _, _, _ => by rw [HS.nok] at h; exact h.elim
theorem itms_txs : ∀ (ss : List HS), noks ss → ∀ (lv : Int) (cur rest : List Nat), 1 ≤ lv → itms lv cur (txs ss ++ rest) = itms lv (cur ++ txs ss) rest
  | [], _, lv, cur, rest, _ => by rw [txs]; simp
  | s :: r, h, lv, cur, rest, hl => by
    rw [noks] at h
    rw [txs, List.append_assoc, itms_tx s h.1 lv cur _ (by omega), itms_txr r h.2 lv _ rest hl]
    congr 1
    simp
theorem itms_txr : ∀ (ss : List HS), noks ss → ∀ (lv : Int) (cur rest : List Nat), 1 ≤ lv → itms lv cur (txr ss ++ rest) = itms lv (cur ++ txr ss) rest
  | [], _, lv, cur, rest, _ => by rw [txr]; simp
  | s :: r, h, lv, cur, rest, hl => by
    rw [noks] at h
    rw [txr, List.cons_append, itms, nxl_o (by decide) (by decide), if_neg (fun z => by omega), List.append_assoc, itms_tx s h.1 lv _ _ (by omega), itms_txr r h.2 lv _ rest hl]
    congr 1
    simp
end
theorem itms_top : ∀ (ss : List HS), noks ss → ∀ cur, itms 0 cur (txr ss) = cur :: ss.map HS.tx
  | [], _, cur => by rw [txr, itms]; rfl
  | s :: r, h, cur => by
    rw [noks] at h
    rw [txr, itms, nxl_o (by decide) (by decide), if_pos ⟨rfl, rfl⟩, itms_tx s h.1 0 [] _ (by omega), itms_top r h.2]
    rfl
theorem itmR_full {m : Nat} {rd : Option (List Nat → Option (List HS))} (h : 1 ≤ m → ∃ f, rd = some f ∧ ∀ ss, Rdbs (m - 1) ss → f (txs ss) = some ss) {s : HS} (hs : Rdb m s) : itmR rd s.tx = some s := by
  obtain ⟨h1, h2, h3⟩ := hs
  cases s with
  | odd c => rw [HS.nok] at h2; exact h2.elim
  | key k =>
    rw [HS.ok] at h1
    rw [HS.nok] at h2
    have e : cutSt (nmL k) = nmL k := by
      have := cut_no (l := nmL k) (q := []) nm_no (.inl rfl)
      rw [List.append_nil] at this
      exact this
    unfold itmR
    rw [HS.tx, e, numOf_nm h2]
    simp only
    rw [if_pos trivial, if_neg (by omega)]
  | rep w c b ss =>
    rw [HS.ok] at h1
    rw [HS.nok] at h2
    rw [HS.dp] at h3
    obtain ⟨⟨rfl, rfl, hc⟩, hn⟩ := h2
    obtain ⟨f, rfl, hf⟩ := h (by omega)
    have e0 : HS.tx (.rep 0 c true ss) = nmL c ++ (42 :: 40 :: (txs ss ++ [41])) := by rw [HS.tx]; rfl
    have e : cutSt (HS.tx (.rep 0 c true ss)) = nmL c := by rw [e0]; exact cut_no nm_no (.inr ⟨_, rfl⟩)
    unfold itmR
    rw [e, numOf_nm hc]
    simp only
    have ne : ¬ (nmL c = HS.tx (.rep 0 c true ss)) := fun z => by
      have := congrArg List.length z
      rw [e0, List.length_append] at this
      simp at this
    have last : (HS.tx (.rep 0 c true ss)).getLast? = some 41 := by
      rw [e0, show nmL c ++ (42 :: 40 :: (txs ss ++ [41])) = (nmL c ++ (42 :: 40 :: txs ss)) ++ [41] by simp, List.getLast?_concat]
    have inn : ((HS.tx (.rep 0 c true ss)).drop ((nmL c).length + 2)).dropLast = txs ss := by
      rw [e0, ← List.drop_drop, List.drop_left' rfl]
      show (txs ss ++ [41]).dropLast = _
      rw [List.dropLast_concat]
    rw [if_neg ne, if_pos last, inn, hf ss ⟨h1.2, hn, by omega⟩]
    simp only
    rw [if_pos ⟨h1.1.2.1, h1.1.2.2⟩]
theorem allR_full {m : Nat} {f : List Nat → Option HS} (h : ∀ s, Rdb m s → f s.tx = some s) : ∀ {ss : List HS}, Rdbs m ss → allR f (ss.map HS.tx) = some ss
  | [], _ => rfl
  | s :: r, hs => by
    obtain ⟨h1, h2⟩ := rdbs_cons.mp hs
    rw [List.map_cons, allR, h s h1]
    simp only
    rw [allR_full h h2]
    rfl
theorem txs_nil {ss : List HS} (h : noks ss) (e : txs ss = []) : ss = [] := by
  cases ss with
  | nil => rfl
  | cons s r =>
    rw [noks] at h
    obtain ⟨c, q, e2, _⟩ := nok_head s h.1
    rw [txs, e2] at e
    cases e
theorem lrd_full : ∀ (m : Nat) {ss : List HS}, Rdbs m ss → lrd m (txs ss) = some ss := by
  intro m
  induction m with
  | zero =>
    intro ss h
    rw [lrd_eq]
    split
    · rename_i e; rw [txs_nil h.2.1 e]
    · cases ss with
      | nil => rename_i e; exact absurd rfl e
      | cons s r =>
        obtain ⟨h1, h2⟩ := rdbs_cons.mp h
        rw [txs, itms_tx s h1.2.1 0 [] _ (by omega), itms_top r h2.2.1]
        exact allR_full (ss := s :: r) (m := 0) (fun s hs => itmR_full (m := 0) (fun z => by omega) hs) h
  | succ m ih =>
    intro ss h
    rw [lrd_eq]
    split
    · rename_i e; rw [txs_nil h.2.1 e]
    · cases ss with
      | nil => rename_i e; exact absurd rfl e
      | cons s r =>
        obtain ⟨h1, h2⟩ := rdbs_cons.mp h
        rw [txs, itms_tx s h1.2.1 0 [] _ (by omega), itms_top r h2.2.1]
        exact allR_full (ss := s :: r) (m := m + 1) (fun s hs => itmR_full (m := m + 1) (fun z => ⟨lrd m, rfl, fun ss hs => ih hs⟩) hs) h
theorem lrd_iff {l : List Nat} {ss : List HS} : lrd 4 l = some ss ↔ psAll l = some ss ∧ oks ss := by
  rw [psAll_iff]
  constructor
  · intro h
    obtain ⟨a, b, c, d⟩ := lrd_sound 4 h
    exact ⟨⟨a, c, d⟩, b⟩
  · rintro ⟨⟨rfl, c, d⟩, b⟩
    exact lrd_full 4 ⟨b, c, d⟩
def badT (l : List Nat) : Bool := match psAll l with
  | none => true
  | some ss => match cks 0 0 ss with | .inl _ => true | .inr _ => false
end Tm
namespace VL
variable {S₀ : W0}
open PySem PySem.Spec PyProof.Rows L2
def kSpl2 (z : Str) (Φ : KD) : KD := fun y M => match y with
  | .str b => ((b.length == 0) = false ∧ z.length + 2 ≤ lim) ∧ Φ (.lst ((Txt.split z b).map D.str)) M
  | _ => False
def kSpl1 (wa : WE) (ρ : Sg) (Φ : KD) : KD := fun x M => match x with | .str z => wa ρ M (kSpl2 z Φ) | _ => False
def wSpl (wo wa : WE) : WE := fun ρ M Φ => wo ρ M (kSpl1 wa ρ Φ)
theorem isDs_strs {K : PySem.W.Frag} {Hf : Hp} : ∀ L : List Str, IsDs K Hf (L.map D.str) (L.map V.str)
  | [] => isDs_nil
  | z :: L => isDs_cons (isD_str.mpr rfl) (isDs_strs L)
section
variable {X : Cx} {a b e o : Expr} {wa wb we wo : WE} {pos apos : Pos}
theorem ve_split (ho : VE X S₀ o wo) (ha : VE X S₀ a wa) (hs : starEach [a] X.env = [(false, eval a X.env)] := by rfl) (hbase : attributeBase o "split" X.env (eval o X.env) = eval o X.env := by rfl) (hline : (apos.endLine == pos.line) = true := by rfl) :
    VE X S₀ (.Call (.Attribute o "split" apos) [a] [] pos) (wSpl wo wa) := PE.imp (pe_split ho ha hs hbase hline) fun σ H Q ⟨Hf, ρ, M, Φ, W, en, h, k⟩ => by
  refine ⟨Hf, ρ, M, _, W, en, h, fun x M1 v Hf1 H1 h1 W1 s1 i1 => ?_⟩
  unfold kSpl1 at h1
  split at h1
  · rename_i z
    refine ⟨⟨z, isD_str.mp i1⟩, Hf1, ρ, M1, _, W1, en.mono s1.ex, h1, fun y M2 u Hf2 H2 h2 W2 s2 i2 => ?_⟩
    unfold kSpl2 at h2
    split at h2
    · rename_i b
      refine ⟨z, b, isD_str.mp (IsD.mono s2.ex _ _ i1), by rw [isD_str.mp i2], h2.1.1, lim_ok h2.1.2, fun p hp => ?_⟩
      obtain ⟨w, s, i⟩ := W2.newLst hp (isDs_strs (Txt.split z b))
      exact k _ _ _ _ _ h2.2 w ((s1.trans s2).trans s) i
    · exact h2.elim
  · exact h1.elim
def wrMulS : WR := fun x y M Φ => match x, y with
  | .str z, .int n => (2 ≤ n ∧ n < 2 ^ 31 ∧ 1 ≤ z.length ∧ z.length * n.toNat ≤ lim) ∧ Φ (.str (sL (List.replicate n.toNat z.cps.toList).flatten)) M
  | _, _ => False
theorem fold_rep (z : Array Nat) : ∀ (n : Nat) (acc : Array Nat), (List.replicate n z).foldl (· ++ ·) acc = acc ++ (List.replicate n z.toList).flatten.toArray
  | 0, acc => by simp
  | n + 1, acc => by
    rw [List.replicate_succ, List.foldl_cons, fold_rep z n, List.replicate_succ, List.flatten_cons]
    apply Array.toList_inj.mp
    simp
theorem lk_mulS {K : PySem.W.Frag} : LkR K (fun x y H Q => ∃ z n, x = .str z ∧ y = .int n ∧ (2 ≤ n ∧ n < 2 ^ 31 ∧ 1 ≤ z.length ∧ z.length * n.toNat ≤ lim) ∧ Q (.str (sL (List.replicate n.toNat z.cps.toList).flatten)) H) wrMulS := by
  intro S₀ Hf M H x y v u Φ Q W ix iy h k
  unfold wrMulS at h
  split at h
  · rename_i z n
    exact ⟨z, n, isD_str.mp ix, isD_int.mp iy, h.1, k.go W h.2 (isD_str.mpr rfl)⟩
  · exact h.elim
theorem op_mulS : OpR X (binaryOp .Mult) (fun x y H Q => ∃ z n, x = .str z ∧ y = .int n ∧ (2 ≤ n ∧ n < 2 ^ 31 ∧ 1 ≤ z.length ∧ z.length * n.toNat ≤ lim) ∧ Q (.str (sL (List.replicate n.toNat z.cps.toList).flatten)) H) := by
  rintro pins s σ H x y v u Q I rx ry ⟨z, n, rfl, rfl, ⟨n2, n3, z1, zn⟩, q⟩
  obtain ⟨t, rfl⟩ := rx
  obtain ⟨t2, rfl⟩ := ry
  have nz : n.toNat ≤ 2147483648 := by omega
  have big : ¬ n < 1 := by omega
  have one : (n == 1 || z.length == 0) = false := by
    rw [Bool.or_eq_false_iff]
    refine ⟨?_, ?_⟩
    · rw [beq_eq_false_iff_ne]; omega
    · rw [beq_eq_false_iff_ne]; omega
  have zl : z.length ≤ lim := by
    have : z.length * 1 ≤ z.length * n.toNat := Nat.mul_le_mul_left _ (by omega)
    omega
  refine PySem.P.mul_str ?_ (fun _ _ => ?_) (fun _ _ => ?_) ?_
  · rw [decide_eq_false (show ¬ n < -(2 ^ 63 : Int) by omega), decide_eq_false (show ¬ n ≥ 2 ^ 63 by omega)]; rfl
  · intro bad
    have e : ((z.length * n.toNat : Nat) : Int) = (z.length : Int) * n := by rw [Int.natCast_mul, Int.toNat_of_nonneg (by omega)]
    have : (z.length : Int) ≤ (2 ^ 63 - 1) / n := (Int.le_ediv_iff_mul_le (by omega)).mpr (by rw [← e]; unfold lim at zn; omega)
    omega
  · exact decide_eq_false (by
      have : (lim : Nat) ≤ sizeLine := by decide
      omega)
  · rw [if_neg big, if_neg (by rw [one]; decide)]
    have e : (⟨(List.replicate n.toNat z.cps).foldl (· ++ ·) #[]⟩ : Str) = sL (List.replicate n.toNat z.cps.toList).flatten := by
      rw [fold_rep]
      unfold sL
      congr 1
      simp
    rw [e]
    refine ⟨?_, .str _, H, I.tok _, ⟨_, rfl⟩, q⟩
    rw [sL_len, List.length_flatten, List.map_replicate, List.sum_replicate_nat]
    have zl2 : z.cps.toList.length = z.length := rfl
    rw [zl2, Nat.mul_comm]
    exact lim_ok zn
theorem ve_mulS (ha : VE X S₀ a wa) (hb : VE X S₀ b wb) : VE X S₀ (.BinOp a .Mult b pos) (wOp wrMulS wa wb) := ve_op op_mulS lk_mulS ha hb
end
section
variable {ρ : Sg} {M : Mem} {Φ : KD} {we wo wa : WE} {z b : Str} {n : Int}
theorem e_spl : wSpl wo wa ρ M Φ = wo ρ M (kSpl1 wa ρ Φ) := rfl
theorem e_spl1 : kSpl1 wa ρ Φ (.str z) M = wa ρ M (kSpl2 z Φ) := rfl
theorem e_spl2 : kSpl2 z Φ (.str b) M = (((b.length == 0) = false ∧ z.length + 2 ≤ lim) ∧ Φ (.lst ((Txt.split z b).map D.str)) M) := rfl
theorem e_mulS : wrMulS (.str z) (.int n) M Φ = ((2 ≤ n ∧ n < 2 ^ 31 ∧ 1 ≤ z.length ∧ z.length * n.toNat ≤ lim) ∧ Φ (.str (sL (List.replicate n.toNat z.cps.toList).flatten)) M) := rfl
theorem split_sL {a b : List Nat} (hb : b ≠ []) (hk : b.all (· < 256) = true) : Txt.split (sL a) (sL b) = (TL.spl b 0 [] a).map sL := SX.split_S hb hk
end
end VL
--@LAW k57
namespace VL
open PySem PySem.Spec PyProof.Rows L2 Tm XL
theorem gd_of {ss : List HS} {p : Int} (h : cks 0 0 ss = .inr p) (hn : noks ss) : Gd ss := by
  obtain ⟨a, b, c, d⟩ := cks_back ss 0 0 p (by decide) h (by decide) hn
  exact ⟨a, by omega, by omega⟩
def W_parse_history : W4 := fun ds M Φ Ψ => ∃ l : List Nat, ds = [.str (sL l)] ∧ l.length ≤ 4000 ∧ (∀ ss, psAll l = some ss → Gd ss → ∀ M' p, M p = none → M' p = some (.lst (hDs ss)) → Kept M M' → Φ (.ref p) M') ∧ (badT l = true → ∀ M', Kept M M' → Ψ "ParseError" (.int 0) M')
def w_parse_history (Ψ : XC) : WS := (sSeq (sAsg (wMake "Reader" W_Reader_init (wCons (wVar 0) wNil)) (wgName 1))
  (sSeq (sAsg (wMet "Reader" "read_steps" (atX (W_Reader_read_steps 6) Ψ) (wVar 1) wNil) (wgName 2))
  (sSeq (sIf (wTest (wOp (wrI fun i j => .bl (decide (i < j))) (wFld "Reader" "at" (wVar 1)) (wCB wrLen (wCons (wVar 0) wNil)))) (sRaise "ParseError" Ψ (wCons (wC (.int 0)) wNil)) sNext)
  (sSeq (sTryFrom ["BadStep", "TooLong"] "ParseError" 0 Ψ fun Ψ1 => (sDrop (wCallFX W_check_history Ψ1 (wCons (wVar 2) wNil))))
  (sRet (wVar 2))))))
theorem start_x4 {a : D} : startD 4 [a] = [some a, none, none, none] := rfl
theorem e_tryFrom {ts : List Str} {tag : Str} {k : Int} {Ψ : XC} {wb : XC → WS} {De : WN} {ρ : Sg} {M : Mem} : sTryFrom ts tag k Ψ wb De ρ M = wb (kFrom ts tag k Ψ) De ρ M := rfl
theorem r_parse_history (Ψ : XC) : ∀ ds M Φ, W_parse_history ds M Φ Ψ → w_parse_history Ψ (endsD Φ) (startD 4 ds) M := by
  intro ds M Φ ⟨l, eds, ll, hS, hN⟩
  subst eds
  unfold w_parse_history
  rw [start_x4]
  wp_walk using e_make, e_makeK1
  intro r hr
  refine ⟨r, l, rfl, put_same, fun M1 R1 o1 => ?_⟩
  have kept : ∀ M2, Ot r M1 M2 → Kept M M2 := fun M2 o2 b o hb => by
    have : b ≠ r := fun e => by rw [e, hr] at hb; cases hb
    exact o2 _ _ this (o1 _ _ this (by rw [put_ne this]; exact hb))
  wp_walk using e_made, e_met, e_met1 R1 (show look (rdF l 0 0) "read_steps" = none from rfl), e_met2
  refine ⟨r, l, 0, 0, 4, rfl, R1, ⟨Nat.zero_le _, ll⟩, ⟨rfl, by decide⟩, fun ss rest hs M2 p R2 hp hM2 o2 => ?_, fun hs M2 o2 => hN ?_ M2 (kept M2 o2)⟩
  rotate_left
  · unfold badT psAll
    rw [List.drop_zero] at hs
    rw [hs]
  rw [List.drop_zero] at hs
  have k2 := kept M2 o2
  have hpM : M p = none := by
    cases z : M p with
    | none => rfl
    | some o =>
      have ne : p ≠ r := fun e => by rw [e, hr] at z; cases z
      have := o1 _ _ ne (by rw [put_ne ne]; exact z)
      rw [hp] at this; cases this
  obtain ⟨so, sn, sd⟩ := psS_sound 4 hs
  have sl := congrArg List.length so
  rw [List.length_append] at sl
  have eL : ∀ (Φ : KD) M (a : List Nat), wrLen [.str (sL a)] M Φ = (a.length ≤ lim ∧ Φ (.int a.length) M) := fun Φ M a => by
    show ((sL a).length ≤ lim ∧ Φ (.int (sL a).length) M) = _
    rw [sL_len]
  wp_walk using e_wFld, e_fld R2 (show look (rdF l (l.length - rest.length) 0) "at" = some (.int ((l.length - rest.length : Nat) : Int)) from rfl), eL
  refine ⟨by unfold lim; omega, ?_⟩
  by_cases c : rest = []
  · subst c
    have hl : psAll l = some ss := by unfold psAll; rw [hs]
    rw [decide_eq_false (show ¬ ((l.length - ([] : List Nat).length : Nat) : Int) < l.length by simp)]
    wp_walk using e_tryFrom, e_callFX
    rw [e_callFXk, List.map_cons, List.map_nil, fz1_ref hM2]
    refine ⟨ss, false, rfl, ?_⟩
    unfold ckK
    rcases hc : cks 0 0 ss with (_ | q) | q
    · refine ⟨rfl, by simp, rfl, hN ?_ M2 k2⟩
      unfold badT; simp only [hl, hc]
    · refine ⟨rfl, by simp, rfl, hN ?_ M2 k2⟩
      unfold badT; simp only [hl, hc]
    · refine .inl ⟨rfl, ?_⟩
      walk_at "vl"
      exact hS ss hl (gd_of hc sn) M2 p hpM hM2 k2
  · have rl : 0 < rest.length := List.length_pos_iff.mpr c
    rw [decide_eq_true (show ((l.length - rest.length : Nat) : Int) < l.length by omega)]
    walk_at "vl"
    refine raise1 rfl (hN ?_ M2 k2)
    have : psAll l = none := by
      unfold psAll; rw [hs]
      cases rest with
      | nil => exact absurd rfl c
      | cons a b => rfl
    unfold badT; rw [this]
def W_l_number : W3 := fun ds M Φ => ∃ l : List Nat, ds = [.str (sL l)] ∧ l.length ≤ 4000 ∧ Φ (optD (Tm.numOf l)) M
def w_l_number : WS := (sSeq (sAsg (wIfE (wTest (wOp wrEqS (wSlS (wVar 0) wNoPart (wPart (wC (.int 1)))) (wC (.str "-")))) (wSlS (wVar 0) (wPart (wC (.int 1))) wNoPart) (wVar 0)) (wgName 1))
  (sSeq (sIf (wOr (wNot (wTest (wChain wch_le wch_le (wC (.int 1)) (wCB wrLen (wCons (wVar 1) wNil)) (wC (.int 31))))) (wNot (wTest (wCB wrAll (wCons (wLc (wiStr (wVar 1)) (wgName 2) wYes (wOp (wrInS false) (wVar 2) (wC (.str "0123456789"))) [2]) wNil))))) (sRet (wC .non)) sNext)
  (sRet (wIfE (wTest (wOp wrEqS (wCB wrStrI (wCons (wCB wrIntS (wCons (wVar 0) wNil)) wNil)) (wVar 0))) (wCB wrIntS (wCons (wVar 0) wNil)) (wC .non)))))
theorem dg_s2 : ("0123456789" : Str).cps.toList = [48, 49, 50, 51, 52, 53, 54, 55, 56, 57] := by decide +kernel
theorem mi_s2 : ("-" : Str) = sL [45] := rfl
theorem dv_len {d : List Nat} : NumText.AllDigits d → NumText.digitsVal d < 10 ^ d.length := by
  refine rev_ind (P := fun d => NumText.AllDigits d → NumText.digitsVal d < 10 ^ d.length) (fun _ => by decide) ?_ d
  intro d c ih hd
  have hc := hd c (by simp)
  have := ih fun x hx => hd x (List.mem_append_left _ hx)
  rw [dv_snoc, List.length_append, List.length_singleton, Nat.pow_succ]
  omega
theorem num_iff {l : List Nat} {v : Int} (hv : v = if l.take 1 = [45] then -((NumText.digitsVal (digL l) : Nat) : Int) else ((NumText.digitsVal (digL l) : Nat) : Int)) (h : (1 ≤ (digL l).length ∧ (digL l).length ≤ 31) ∧ (digL l).all isDig = true) : Tm.numOf l = if nmL v = l then some v else none := by
  by_cases c : (digL l).head? = some 48 ∧ l ≠ [48]
  · have e : Tm.numOf l = none := by unfold Tm.numOf; rw [if_pos h, if_pos c]
    rw [e, if_neg]
    intro z
    have hd := all_dig.mp h.2
    have lb : NumText.digitsVal (digL l) < 10 ^ 31 := Nat.lt_of_lt_of_le (dv_len hd) (Nat.pow_le_pow_right (by decide) h.1.2)
    have : Tm.numOf l = some v := by rw [← z]; exact numOf_nm (by rw [hv]; split <;> omega)
    rw [e] at this
    cases this
  · have e : Tm.numOf l = some v := by unfold Tm.numOf; rw [if_pos h, if_neg c, hv]
    obtain ⟨w, _⟩ := numOf_back e
    rw [e, if_pos w.symm]
theorem start_x3' {a : D} : startD 3 [a] = [some a, none, none] := rfl
theorem r_l_number : ∀ ds M Φ, W_l_number ds M Φ → w_l_number (endsD Φ) (startD 3 ds) M := by
  intro ds M Φ ⟨l, eds, hl, k⟩
  subst eds
  unfold w_l_number
  rw [start_x3']
  have c1 : cutS (sL l) none (some 1) = sL (l.take 1) := cutL_to (i := 1)
  have c2 : cutS (sL l) (some 1) none = sL (l.drop 1) := cutL_from (i := 1)
  have dl : (digL l).length ≤ l.length := by unfold digL; split; rw [List.length_drop]; omega; exact Nat.le_refl _
  have lu : l.length ≤ (digL l).length + 1 := by
    unfold digL
    split
    · rw [List.length_drop]; omega
    · omega
  wp_walk using e_slS, e_slS1, e_slS2, e_slS3, c1, c2, e_eqS', mi_s2, sL_dec
  refine ⟨by rw [sL_len]; unfold lim; omega, ?_⟩
  have go : ∀ Φ' : KD, Φ' (.str (sL (digL l))) M → kIfE (wSlS (wVar 0) (wPart (wC (.int 1))) wNoPart) (wVar 0) [some (.str (sL l)), none, none] Φ' (decide (l.take 1 = [45])) M := fun Φ' h => by
    unfold digL at h
    by_cases c : l.take 1 = [45]
    · rw [if_pos c] at h
      rw [decide_eq_true c]
      wp_walk using e_slS, e_slS1, e_slS2, e_slS3, c2
      exact ⟨by rw [sL_len]; unfold lim; omega, h⟩
    · rw [if_neg c] at h
      rw [decide_eq_false c]
      walk_at "vl"
      exact h
  refine go _ ?_
  walk_at "vl"
  have eL : ∀ (Φ : KD) M (a : List Nat), wrLen [.str (sL a)] M Φ = (a.length ≤ lim ∧ Φ (.int a.length) M) := fun Φ M a => by
    show ((sL a).length ≤ lim ∧ Φ (.int (sL a).length) M) = _
    rw [sL_len]
  wp_walk using e_chain, e_ch1, e_ch2, eL
  refine ⟨by unfold lim; omega, ?_⟩
  have no : ¬ ((1 ≤ (digL l).length ∧ (digL l).length ≤ 31) ∧ (digL l).all isDig = true) → Φ .non M := fun h => by
    have e : Tm.numOf l = none := by unfold Tm.numOf; rw [if_neg h]
    rw [e] at k
    exact k
  have yes : ((1 ≤ (digL l).length ∧ (digL l).length ≤ 31) ∧ (digL l).all isDig = true) → ∃ v : Int, intText? (sL l) = some v ∧ v.natAbs < 10 ^ 31 ∧ Tm.numOf l = if nmL v = l then some v else none := fun h => by
    have hd := all_dig.mp h.2
    have hne : digL l ≠ [] := fun e => by have := h.1.1; rw [e] at this; simp at this
    have lb := dv_len hd
    have lb : NumText.digitsVal (digL l) < 10 ^ 31 := Nat.lt_of_lt_of_le lb (Nat.pow_le_pow_right (by decide) h.1.2)
    refine ⟨_, ?_, by split <;> omega, num_iff rfl h⟩
    clear lb
    by_cases c : l.take 1 = [45]
    · rw [if_pos c]
      have dg : digL l = l.drop 1 := by unfold digL; rw [if_pos c]
      rw [dg] at hd hne h ⊢
      have e : l = 45 :: l.drop 1 := by
        have := List.take_append_drop 1 l
        rw [c] at this
        exact this.symm
      exact intText_neg (x := sL l) (cs := l.drop 1) (by rw [tl_sL]; exact e) hd hne (by rw [sL_len]; omega)
    · rw [if_neg c]
      have dg : digL l = l := by unfold digL; rw [if_neg c]
      rw [dg] at hd hne h ⊢
      have := intText_digits (x := sL l) (by rw [tl_sL]; exact hd) (by rw [tl_sL]; exact hne) (by rw [sL_len]; omega)
      rw [tl_sL] at this
      exact this
  generalize hdg : digL l = dg at dl lu no yes
  by_cases c3 : 1 ≤ dg.length
  case neg =>
    rw [decide_eq_false (show ¬ (1 : Int) ≤ dg.length by omega)]
    wp_walk using e_ch3F
    exact no fun z => c3 z.1.1
  rw [decide_eq_true (show (1 : Int) ≤ dg.length by omega)]
  wp_walk using e_ch3T, e_ch4
  by_cases c4 : dg.length ≤ 31
  case neg =>
    rw [decide_eq_false (show ¬ (dg.length : Int) ≤ 31 by omega)]
    walk_at "vl"
    exact no fun z => c4 z.1.2
  rw [decide_eq_true (show (dg.length : Int) ≤ 31 by omega)]
  wp_walk using e_wiStr, e_kStrI, signs_sL
  refine ⟨by rw [List.length_map]; unfold lim; omega, ?_⟩
  refine lc_of (f := sgD) (fun c => .bl (isDig c)) (fun c _ Ψ acc h => ?_) ?_
  · wp_walk using e_inS, dg_s2
    exact h
  rw [show (dg.map fun c => D.bl (isDig c)) = (dg.map isDig).map D.bl by rw [List.map_map]; rfl]
  wp_walk using e_allL, List.all_map
  rw [show dg.all (id ∘ isDig) = dg.all isDig from rfl]
  by_cases c5 : dg.all isDig = true
  case neg =>
    rw [Bool.not_eq_true] at c5
    rw [c5]
    walk_at "vl"
    exact no fun z => by rw [c5] at z; cases z.2
  rw [c5]
  obtain ⟨v, hv, vb, hn⟩ := yes ⟨⟨c3, c4⟩, c5⟩
  have es : Str.ofString (toString v) = sL (nmL v) := by rw [← nm_str, sL_tl]
  wp_walk using e_intS hv, e_strI, es, e_eqS', sL_dec
  refine ⟨by rw [sL_len]; omega, log_ok vb, ?_⟩
  rw [hn] at k
  wp_walk using es, e_eqS', sL_dec
  by_cases c6 : nmL v = l
  · rw [if_pos c6] at k
    wp_walk using decide_eq_true c6, e_intS hv
    exact ⟨by rw [sL_len]; omega, k⟩
  · rw [if_neg c6] at k
    wp_walk using decide_eq_false c6
    exact k
def sD (z : List Nat) : D := .str (sL z)
def W_l_items : W3 := fun ds M Φ => ∃ l : List Nat, ds = [.str (sL l)] ∧ l.length ≤ 4000 ∧ Φ (.lst ((itms 0 [] l).map sD)) M
def w_l_items : WS := (sSeq (sPar 1 2 (wCons (wLstM (wCons (wC (.str "")) wNil)) (wCons (wC (.int 0)) wNil)))
  (sSeq (sFor (wiStr (wVar 0)) (wgName 3) (sSeq (sAsg (wOp (wrI fun i j => .int (i - j)) (wOp wrAdd (wVar 2) (wCB wrInt (wCons (wOp wrEqS (wVar 3) (wC (.str "("))) wNil))) (wCB wrInt (wCons (wOp wrEqS (wVar 3) (wC (.str ")"))) wNil))) (wgName 2))
  (sIf (wAnd (wTest (wOp wrEqS (wVar 3) (wC (.str " ")))) (wTest (wOp wrEq (wVar 2) (wC (.int 0))))) (sDrop (wBM wrAppend (wVar 1) (wCons (wC (.str "")) wNil))) (sAsg (wOp wrAdd (wOp wrIx (wVar 1) (wNeg (wC (.int 1)))) (wVar 3)) (wgSub (wVar 1) (wNeg (wC (.int 1))))))))
  (sRetF (wVar 1))))
theorem ix_last (n : Nat) : ixN (n + 1) (-1) = some n := by
  unfold ixN
  simp
  omega
theorem e_ixLast {M : Mem} {Φ : KD} {p : Addr} {A : List D} {x : D} (h : M p = some (.lst (A ++ [x]))) : wrIx (.ref p) (.int (-1)) M Φ = Φ x M := by
  have e : atD (A ++ [x]) (-1) = some x := by
    unfold atD
    rw [List.length_append, List.length_singleton, ix_last]
    simp
  unfold wrIx
  simp only [seqM, h, e]
theorem e_setLast {M : Mem} {PM : Mem → Prop} {p : Addr} {A : List D} {x y : D} (h : M p = some (.lst (A ++ [x]))) : kSub2 (.ref p) y PM (.int (-1)) M = PM (put M p (.lst (A ++ [y]))) := by
  rw [e_gsub2L h, List.length_append, List.length_singleton, ix_last]
  simp
theorem e_addS {M : Mem} {Φ : KD} {a b : List Nat} : wrAdd (.str (sL a)) (.str (sL b)) M Φ = (a.length + b.length ≤ lim ∧ Φ (.str (sL (a ++ b))) M) := by
  show ((sL a).length + (sL b).length ≤ lim ∧ Φ (.str (sL a ++ sL b)) M) = _
  rw [sL_len, sL_len, sL_app]
theorem e_absK {M : Mem} {Φ : KD} {z : Int} : wrAbs [.int z] M Φ = Φ (.int (if z < 0 then -z else z)) M := rfl
theorem e_intB {M : Mem} {Φ : KD} {b : Bool} : wrInt [.bl b] M Φ = Φ (.int (if b then 1 else 0)) M := rfl
theorem start_i4 {a : D} : startD 4 [a] = [some a, none, none, none] := rfl
theorem r_l_items : ∀ ds M Φ, W_l_items ds M Φ → w_l_items (endsD Φ) (startD 4 ds) M := by
  intro ds M Φ ⟨l, eds, hl, k⟩
  subst eds
  unfold w_l_items
  rw [start_i4]
  walk_at "vl"
  refine ⟨(show (1 : Nat) ≤ lim by decide), fun p hp => ?_⟩
  wp_walk using e_wiStr, e_kStrI, signs_sL
  refine loop_map (fun pre post ρ M2 => ∃ (done : List (List Nat)) (cur : List Nat) (lv : Int) (o : Option D), itms 0 [] l = done ++ itms lv cur post ∧ ρ = [some (.str (sL l)), some (.ref p), some (.int lv), o] ∧ M2 = put M p (.lst (done.map sD ++ [sD cur])) ∧ done.length ≤ pre.length ∧ cur.length ≤ pre.length) ⟨[], [], 0, none, rfl, rfl, rfl, Nat.le_refl _, Nat.le_refl _⟩ ?_ ?_
  · rintro pre c post ρ M2 bk nx e ⟨done, cur, lv, o, ei, rfl, rfl, dl, cl⟩ _ hnx
    have lp := congrArg List.length e
    rw [List.length_append, List.length_cons] at lp
    have e1 : ("(" : Str) = sL [40] := rfl
    have e2 : (")" : Str) = sL [41] := rfl
    have e3 : (" " : Str) = sL [32] := rfl
    have hM : put M p (.lst (done.map sD ++ [sD cur])) p = some (.lst (done.map sD ++ [sD cur])) := put_same
    wp_walk using sg_sL, e_eqS', e1, e2, e3, sL_dec, e_intB
    have en : lv + (if decide ([c] = [40]) = true then 1 else 0) - (if decide ([c] = [41]) = true then 1 else 0) = nxl lv c := by
      unfold nxl
      simp
    rw [en]
    rw [itms] at ei
    have fin : ∀ b : Bool, (b = true ↔ c = 32 ∧ nxl lv c = 0) → sIf (fun _ M Ψ => Ψ b M) (sDrop (wBM wrAppend (wVar 1) (wCons (wC (.str "")) wNil))) (sAsg (wOp wrAdd (wOp wrIx (wVar 1) (wNeg (wC (.int 1)))) (wVar 3)) (wgSub (wVar 1) (wNeg (wC (.int 1))))) { nx := nx, rt := Φ, bk := bk, ct := nx } [some (.str (sL l)), some (.ref p), some (.int (nxl lv c)), some (.str (sL [c]))] (put M p (.lst (done.map sD ++ [sD cur]))) := fun b hb => by
      cases b with
      | true =>
        rw [if_pos (hb.mp rfl)] at ei
        wp_walk using e_bm1 hM, e_append hM
        refine ⟨by rw [List.length_append, List.length_map, List.length_singleton]; unfold lim; omega, ?_⟩
        refine hnx _ _ ⟨done ++ [cur], [], nxl lv c, _, by rw [ei]; simp, rfl, ?_, by rw [List.length_append, List.length_append, List.length_singleton, List.length_singleton]; omega, Nat.zero_le _⟩
        rw [List.map_append]
        rfl
      | false =>
        rw [if_neg (fun z => by have := hb.mpr z; cases this)] at ei
        wp_walk using e_ixLast hM
        show wrAdd (.str (sL cur)) (.str (sL [c])) _ _
        rw [e_addS]
        refine ⟨by rw [List.length_singleton]; unfold lim; omega, ?_⟩
        wp_walk using e_setLast hM
        exact hnx _ _ ⟨done, cur ++ [c], nxl lv c, _, ei, rfl, rfl, by rw [List.length_append]; omega, by simp only [List.length_append, List.length_singleton]; omega⟩
    by_cases c1 : c = 32
    · rw [decide_eq_true (show [c] = [32] by rw [c1])]
      wp_walk using e_eqI
      by_cases c2 : nxl lv c = 0
      · rw [decide_eq_true c2]
        exact fin true ⟨fun _ => ⟨c1, c2⟩, fun _ => rfl⟩
      · rw [decide_eq_false c2]
        exact fin false ⟨(fun z => by cases z), (fun z => absurd z.2 c2)⟩
    · rw [decide_eq_false (show ¬ [c] = [32] by simpa using c1)]
      exact fin false ⟨(fun z => by cases z), (fun z => absurd z.1 c1)⟩
  · rintro ρ M2 ⟨done, cur, lv, o, ei, rfl, rfl, dl, cl⟩
    rw [itms] at ei
    walk_at "vl"
    rw [ei, List.map_append] at k
    rw [del_put hp]
    exact k
def optL : Option (List HS) → D
  | none => .non
  | some ss => .lst (hDs ss)
theorem itms_len : ∀ (l : List Nat) (lv : Int) (cur : List Nat), (∀ it ∈ itms lv cur l, it.length ≤ cur.length + l.length) ∧ (itms lv cur l).length ≤ l.length + 1
  | [], lv, cur => by rw [itms]; simp
  | c :: r, lv, cur => by
    rw [itms]
    split
    · obtain ⟨a, b⟩ := itms_len r (nxl lv c) []
      refine ⟨fun it hm => ?_, by rw [List.length_cons, List.length_cons]; omega⟩
      rcases List.mem_cons.mp hm with rfl | hm
      · omega
      · have := a it hm
        rw [List.length_cons]
        simp only [List.length_nil] at this
        omega
    · obtain ⟨a, b⟩ := itms_len r (nxl lv c) (cur ++ [c])
      refine ⟨fun it hm => ?_, by rw [List.length_cons]; omega⟩
      have := a it hm
      rw [List.length_append, List.length_singleton] at this
      rw [List.length_cons]
      omega
theorem cut_len : ∀ l : List Nat, (cutSt l).length ≤ l.length
  | [] => Nat.le_refl _
  | c :: r => by
    rw [cutSt]
    split
    · exact Nat.zero_le _
    · rw [List.length_cons, List.length_cons]
      have := cut_len r
      omega
theorem sIx_m1 {n d : Nat} : HT.sIx n d (some (-1)) = n - 1 := by
  have := HT.clip_eq (-1) n d
  rw [if_pos (by decide)] at this
  omega
theorem cut_last {l : List Nat} : cutS (sL l) (some (-1)) none = sL (l.drop (l.length - 1)) := by
  unfold cutS
  rw [tl_sL, sL_len, sIx_m1, HT.sIx_none]
  show sL _ = _
  congr 1
  rw [List.take_of_length_le]
  rw [List.length_drop]
  omega
theorem last_41 {l : List Nat} : l.drop (l.length - 1) = [41] ↔ l.getLast? = some 41 := by
  refine rev_ind (P := fun l => l.drop (l.length - 1) = [41] ↔ l.getLast? = some 41) ?_ ?_ l
  · simp
  · intro d c _
    rw [List.getLast?_concat, List.length_append, List.length_singleton, Nat.add_sub_cancel, List.drop_left']
    · simp
    · rfl
theorem cut_inner {l : List Nat} {h : Nat} : cutS (sL l) (some ((h : Int) + 2)) (some (-1)) = sL ((l.drop (h + 2)).dropLast) := by
  have e : (h : Int) + 2 = ((h + 2 : Nat) : Int) := by omega
  unfold cutS
  rw [tl_sL, sL_len, sIx_m1, e, HT.sIx_nat]
  show sL _ = _
  congr 1
  rw [List.dropLast_eq_take, List.length_drop]
  by_cases c : h + 2 ≤ l.length
  · rw [Nat.min_eq_left c, show l.length - 1 - (h + 2) = l.length - (h + 2) - 1 by omega]
  · rw [Nat.min_eq_right (by omega), List.drop_length, List.drop_of_length_le (by omega)]
    simp
def W_l_read : Nat → W3
  | 0 => fun _ _ _ => False
  | n + 1 => fun ds M Φ => ∃ (l : List Nat) (lv m : Nat), ds = [.str (sL l), .int lv] ∧ l.length ≤ 4000 ∧ (lv + m = 4 ∧ m ≤ n) ∧ ∀ M', Kept M M' → Φ (optL (lrd m l)) M'
def w_l_read (W_l_read : W3) : WS := (sSeq (sIf (wTest (wOp wrEqS (wVar 0) (wC (.str "")))) (sRet (wLst wNil)) sNext)
  (sSeq (sAsg (wLstM wNil) (wgName 2))
  (sSeq (sFor (wiSeq (wCall W_l_items (wCons (wVar 0) wNil))) (wgName 3) (sSeq (sAsg (wOp wrIx (wSpl (wVar 3) (wC (.str "*("))) (wC (.int 0))) (wgName 4))
  (sSeq (sAsg (wCall W_l_number (wCons (wVar 4) wNil)) (wgName 5))
  (sSeq (sIf (wTest (wOp wrIsN (wVar 5) (wC .non))) (sRet (wC .non)) sNext)
  (sIf (wTest (wOp wrEqS (wVar 4) (wVar 3))) (sSeq (sIf (wTest (wOp (wrI fun i j => .bl (decide (j < i))) (wCB wrAbs (wCons (wVar 5) wNil)) (wOp (wrIC CPow fun i j => .int (i ^ j.toNat)) (wC (.int 10)) (wC (.int 9))))) (sRet (wC .non)) sNext)
  (sDrop (wBM wrAppend (wVar 2) (wCons (wVar 5) wNil)))) (sSeq (sAsg (wIfE (wAnd (wTest (wOp (wrI fun i j => .bl (decide (i < j))) (wVar 1) (wC (.int 4)))) (wTest (wOp wrEqS (wSlS (wVar 3) (wPart (wNeg (wC (.int 1)))) wNoPart) (wC (.str ")"))))) (wCall W_l_read (wCons (wSlS (wVar 3) (wPart (wOp wrAdd (wCB wrLen (wCons (wVar 4) wNil)) (wC (.int 2)))) (wPart (wNeg (wC (.int 1))))) (wCons (wOp wrAdd (wVar 1) (wC (.int 1))) wNil))) (wC .non)) (wgName 6))
  (sSeq (sIf (wOr (wTest (wOp wrIsN (wVar 6) (wC .non))) (wNot (wTest (wChain wch_le wch_le (wC (.int 0)) (wVar 5) (wOp (wrIC CPow fun i j => .int (i ^ j.toNat)) (wC (.int 10)) (wC (.int 30))))))) (sRet (wC .non)) sNext)
  (sDrop (wBM wrAppend (wVar 2) (wCons (wTup (wCons (wC (.str "repeat")) (wCons (wVar 5) (wCons (wCB wrTupC (wCons (wVar 6) wNil)) wNil)))) wNil))))))))))
  (sRetF (wVar 2)))))
theorem start_r7 {a b : D} : startD 7 [a, b] = [some a, some b, none, none, none, none, none] := rfl
theorem allR_step {f : List Nat → Option HS} {a : List Nat} {r : List (List Nat)} {s : HS} (h : f a = some s) : allR f (a :: r) = (allR f r).map (s :: ·) := by rw [allR, h]
theorem allR_stop {f : List Nat → Option HS} {a : List Nat} {r : List (List Nat)} (h : f a = none) : allR f (a :: r) = none := by rw [allR, h]
theorem r_l_read (n : Nat) : ∀ ds M Φ, W_l_read (n + 1) ds M Φ → w_l_read (W_l_read n) (endsD Φ) (startD 7 ds) M := by
  intro ds M Φ ⟨l, lv, m, eds, hl, ⟨lm, mn⟩, k⟩
  subst eds
  unfold w_l_read
  rw [start_r7]
  have e0 : ("" : Str) = sL [] := rfl
  wp_walk using e_eqS', e0, sL_dec
  by_cases c0 : l = []
  · rw [decide_eq_true c0]
    walk_at "vl"
    refine ⟨Nat.zero_le _, ?_⟩
    have := k M (Kept.refl M)
    rw [lrd_eq, if_pos c0] at this
    exact this
  rw [decide_eq_false c0]
  rw [lrd_eq, if_neg c0] at k
  walk_at "vl"
  refine ⟨Nat.zero_le _, fun p hp => ?_⟩
  refine ⟨l, rfl, hl, ?_⟩
  have il := itms_len l 0 []
  generalize hI : itms 0 [] l = its at k il ⊢
  refine loop_map (fun pre post ρ M2 => ∃ (done : List HS) (o3 o4 o5 o6 : Option D), allR (itmR (subL m)) its = (allR (itmR (subL m)) post).map (done ++ ·) ∧ done.length = pre.length ∧ ρ = [some (.str (sL l)), some (.int lv), some (.ref p), o3, o4, o5, o6] ∧ M2 p = some (.lst (hDs done)) ∧ Kept M M2) ⟨[], none, none, none, none, by cases allR (itmR (subL m)) its <;> rfl, rfl, rfl, put_same, (Kept.refl M).new hp _⟩ ?_ ?_
  · rintro pre it post ρ M2 bk nx e ⟨done, o3, o4, o5, o6, ea, dl, rfl, hM2, k2⟩ _ hnx
    have lp := congrArg List.length e
    rw [List.length_append, List.length_cons] at lp
    have itl := il.1 it (by rw [e]; simp)
    simp only [List.length_nil, Nat.zero_add] at itl
    have cl := cut_len it
    have e1 : ("*(" : Str) = sL [42, 40] := rfl
    have es : atD (((TL.spl [42, 40] 0 [] it).map sL).map D.str) 0 = some (.str (sL (cutSt it))) := by
      have := spl_cut it []
      rw [List.nil_append] at this
      obtain ⟨h1, _⟩ := List.getElem?_eq_some_iff.mp this
      unfold atD
      rw [show ixN ((((TL.spl [42, 40] 0 [] it).map sL).map D.str).length) 0 = some 0 by unfold ixN; rw [List.length_map, List.length_map]; simp; intro z; rw [z] at h1; cases h1]
      show (((TL.spl [42, 40] 0 [] it).map sL).map D.str)[0]? = _
      rw [List.getElem?_map, List.getElem?_map, this]
      rfl
    have eL : ∀ (Φ : KD) M (a : List Nat), wrLen [.str (sL a)] M Φ = (a.length ≤ lim ∧ Φ (.int a.length) M) := fun Φ M a => by
      show ((sL a).length ≤ lim ∧ Φ (.int (sL a).length) M) = _
      rw [sL_len]
    wp_walk using e_spl, e_spl1, e_spl2, e1
    show kSpl1 _ _ _ (.str (sL it)) M2
    wp_walk using e_spl1, e_spl2
    refine ⟨⟨by decide, by rw [sL_len]; unfold lim; omega⟩, ?_⟩
    rw [split_sL (by decide) (by decide)]
    wp_walk using e_ixL, es
    refine ⟨cutSt it, rfl, by omega, ?_⟩
    have stop : itmR (subL m) it = none → Φ .non M2 := fun h => by
      rw [ea, allR_stop h] at k
      exact k M2 k2
    have next : ∀ s M3, itmR (subL m) it = some s → (o4' o5' o6' : Option D) → M3 p = some (.lst (hDs done ++ [hD s])) → Kept M M3 → nx [some (.str (sL l)), some (.int lv), some (.ref p), some (sD it), o4', o5', o6'] M3 := fun s M3 h o4' o5' o6' hM3 k3 => by
      refine hnx _ _ ⟨done ++ [s], _, _, _, _, ?_, by rw [List.length_append, List.length_append, dl]; rfl, rfl, ?_, k3⟩
      · rw [ea, allR_step h, Option.map_map]
        congr 1
        funext z
        simp
      · rw [hM3, hDs_map, hDs_map, List.map_append]; rfl
    cases hn : Tm.numOf (cutSt it) with
    | none =>
      rw [show optD (none : Option Int) = .non from rfl]
      walk_at "vl"
      exact stop (by unfold itmR; rw [hn])
    | some z =>
      rw [show optD (some z) = .int z from rfl]
      have zb := (numOf_back hn).2
      wp_walk using e_eqS', sL_dec
      show wrEqS (.str (sL (cutSt it))) (.str (sL it)) M2 _
      wp_walk using e_eqS', sL_dec
      by_cases c1 : cutSt it = it
      · rw [decide_eq_true c1]
        wp_walk using e_absK
        refine ⟨⟨by decide, by decide, by decide⟩, ?_⟩
        have e9 : (10 : Int) ^ Int.toNat 9 = 1000000000 := by decide +kernel
        rw [e9]
        by_cases c2 : z.natAbs > 10 ^ 9
        · rw [decide_eq_true (show (1000000000 : Int) < (if z < 0 then -z else z) by split <;> omega)]
          walk_at "vl"
          exact stop (by unfold itmR; rw [hn]; simp only; rw [if_pos c1, if_pos c2])
        · rw [decide_eq_false (show ¬ (1000000000 : Int) < (if z < 0 then -z else z) by split <;> omega)]
          wp_walk using e_bm1 hM2, e_append hM2
          refine ⟨by rw [hDs_len, dl]; unfold lim; have := il.2; omega, ?_⟩
          exact next (.key z) _ (by unfold itmR; rw [hn]; simp only; rw [if_pos c1, if_neg c2]) _ _ _ (by rw [put_same, hD]) (fun b o hb => by rw [put_ne (fun e => by rw [e, hp] at hb; cases hb)]; exact k2 b o hb)
      · rw [decide_eq_false c1]
        walk_at "vl"
        have deep : ∀ d M3, Kept M2 M3 → (d = .non ∧ itmR (subL m) it = none) ∨ (∃ ss, d = .lst (hDs ss) ∧ itmR (subL m) it = if 0 ≤ z ∧ z ≤ 10 ^ 30 then some (.rep 0 z true ss) else none) →
            (sSeq (sIf (wOr (wTest (wOp wrIsN (wVar 6) (wC .non))) (wNot (wTest (wChain wch_le wch_le (wC (.int 0)) (wVar 5) (wOp (wrIC CPow fun i j => .int (i ^ j.toNat)) (wC (.int 10)) (wC (.int 30))))))) (sRet (wC .non)) sNext)
              (sDrop (wBM wrAppend (wVar 2) (wCons (wTup (wCons (wC (.str "repeat")) (wCons (wVar 5) (wCons (wCB wrTupC (wCons (wVar 6) wNil)) wNil)))) wNil)))) { nx := nx, rt := Φ, bk := bk, ct := nx } [some (.str (sL l)), some (.int lv), some (.ref p), some (sD it), some (.str (sL (cutSt it))), some (.int z), some d] M3 := fun d M3 k3 h => by
          rcases h with ⟨rfl, h⟩ | ⟨ss, rfl, h⟩
          · walk_at "vl"
            rw [ea, allR_stop h] at k
            exact k M3 (k2.trans k3)
          · have hM3 := k3 _ _ hM2
            have e30 : (10 : Int) ^ Int.toNat 30 = 1000000000000000000000000000000 := by decide +kernel
            wp_walk using e_chain, e_ch1, e_ch2
            have no : ¬ (0 ≤ z ∧ z ≤ 10 ^ 30) → Φ .non M3 := fun q => by
              rw [if_neg q] at h
              rw [ea, allR_stop h] at k
              exact k M3 (k2.trans k3)
            by_cases c3 : 0 ≤ z
            case neg =>
              rw [decide_eq_false c3]
              wp_walk using e_ch3F
              exact no fun q => c3 q.1
            rw [decide_eq_true c3]
            wp_walk using e_ch3T, e_ch4
            refine ⟨⟨by decide, by decide, by decide⟩, ?_⟩
            rw [e30]
            by_cases c4 : z ≤ 1000000000000000000000000000000
            case neg =>
              rw [decide_eq_false c4]
              walk_at "vl"
              exact no fun q => c4 (by omega)
            rw [decide_eq_true c4]
            wp_walk using e_tupCL, e_bm1 hM3
            refine ⟨(show (3 : Nat) ≤ lim by decide), ?_⟩
            wp_walk using e_append hM3
            refine ⟨by rw [hDs_len, dl]; unfold lim; have := il.2; omega, ?_⟩
            rw [if_pos ⟨c3, by omega⟩] at h
            exact next _ _ h _ _ _ (by rw [put_same, hD]; rfl) (fun b o hb => by rw [put_ne (fun e => by rw [e, hp] at hb; cases hb)]; exact k3 b o (k2 b o hb))
        have e41 : (")" : Str) = sL [41] := rfl
        match m, lm, mn, ea, k, stop, next, deep with
        | 0, lm, mn, ea, k, stop, next, deep =>
          rw [decide_eq_false (show ¬ (lv : Int) < 4 by omega)]
          walk_at "vl"
          refine deep .non M2 (Kept.refl _) (.inl ⟨rfl, ?_⟩)
          unfold itmR; rw [hn]; simp only; rw [if_neg c1]; rfl
        | m + 1, lm, mn, ea, k, stop, next, deep =>
          rw [decide_eq_true (show (lv : Int) < 4 by omega)]
          wp_walk using e_slS, e_slS1, e_slS2
          show kSlS3 (.str (sL it)) _ _ _ M2
          wp_walk using e_slS3, cut_last, e_eqS', e41, sL_dec
          refine ⟨by rw [sL_len]; unfold lim; omega, ?_⟩
          by_cases c5 : it.drop (it.length - 1) = [41]
          · rw [decide_eq_true c5]
            wp_walk using e_slS, e_slS1, e_slS2, eL
            refine ⟨by unfold lim; omega, ?_⟩
            show kSlS3 (.str (sL it)) _ _ _ M2
            rw [e_slS3, cut_inner]
            refine ⟨by rw [sL_len]; unfold lim; omega, ?_⟩
            walk_at "vl"
            match n, mn with
            | 0, mn => omega
            | n + 1, mn =>
              refine ⟨(it.drop ((cutSt it).length + 2)).dropLast, lv + 1, m, rfl, by rw [List.length_dropLast, List.length_drop]; omega, ⟨by omega, by omega⟩, fun M3 k3 => ?_⟩
              have e2 : itmR (subL (m + 1)) it = match lrd m ((it.drop ((cutSt it).length + 2)).dropLast) with
                  | none => none
                  | some ss => if 0 ≤ z ∧ z ≤ 10 ^ 30 then some (.rep 0 z true ss) else none := by
                unfold itmR; rw [hn]; simp only; rw [if_neg c1]
                show (if it.getLast? = some 41 then _ else none) = _
                rw [if_pos (last_41.mp c5)]
                try (cases lrd m ((it.drop ((cutSt it).length + 2)).dropLast) <;> rfl)
              cases hi : lrd m ((it.drop ((cutSt it).length + 2)).dropLast) with
              | none =>
                rw [hi] at e2
                exact deep .non M3 k3 (.inl ⟨rfl, e2⟩)
              | some ss =>
                rw [hi] at e2
                exact deep _ M3 k3 (.inr ⟨ss, rfl, e2⟩)
          · rw [decide_eq_false c5]
            walk_at "vl"
            refine deep .non M2 (Kept.refl _) (.inl ⟨rfl, ?_⟩)
            unfold itmR; rw [hn]; simp only; rw [if_neg c1]
            show (if it.getLast? = some 41 then _ else none) = _
            rw [if_neg (fun q => c5 (last_41.mpr q))]
  · rintro ρ M2 ⟨done, o3, o4, o5, o6, ea, dl, rfl, hM2, k2⟩
    walk_at "vl"
    rw [e_fz hM2]
    have := k (del M2 p) (k2.gone hp)
    rw [ea] at this
    simp only [allR, Option.map_some, List.append_nil] at this
    exact this
def W_l_bent_text : W3 := fun ds M Φ => ∃ (d : Addr) (l : List Nat), ds = [.ref d, .str (sL l)] ∧ Dw M d ∧ l.length ≤ 3900 ∧ ∀ l' M', l'.length ≤ l.length + 2 → Kp d M M' → Φ (.str (sL l')) M'
def w_l_bent_text : WS := (sSeq (sPar 2 3 (wCons (wCall W_l_take (wCons (wVar 0) (wCons (wOp wrAdd (wCB wrLen (wCons (wVar 1) wNil)) (wC (.int 1))) wNil))) (wCons (wCall W_l_take (wCons (wVar 0) (wCons (wC (.int 4)) wNil))) wNil)))
  (sSeq (sAsg (wCall W_l_of (wCons (wVar 0) (wCons (wLst (wCons (wC (.str " ")) (wCons (wC (.str "(")) (wCons (wC (.str ")")) (wCons (wC (.str "*")) (wCons (wC (.str "-")) (wCons (wC (.str "0")) (wCons (wC (.str "1")) (wCons (wC (.str "a")) (wCons (wC (.str "*(")) (wCons (wC (.str ")(")) (wCons (wC (.str "")) wNil)))))))))))) wNil))) (wgName 4))
  (sSeq (sAsg (wLst (wCons (wOp wrAdd (wOp wrAdd (wSlS (wVar 1) wNoPart (wPart (wVar 2))) (wVar 4)) (wSlS (wVar 1) (wPart (wVar 2)) wNoPart)) (wCons (wOp wrAdd (wOp wrAdd (wSlS (wVar 1) wNoPart (wPart (wVar 2))) (wVar 4)) (wSlS (wVar 1) (wPart (wOp wrAdd (wVar 2) (wC (.int 1)))) wNoPart)) (wCons (wOp wrAdd (wSlS (wVar 1) wNoPart (wPart (wVar 2))) (wSlS (wVar 1) (wPart (wOp wrAdd (wVar 2) (wC (.int 1)))) wNoPart)) (wCons (wOp wrAdd (wVar 1) (wVar 4)) wNil))))) (wgName 5))
  (sRet (wOp wrIx (wVar 5) (wVar 3))))))
theorem start_b6 {a b : D} : startD 6 [a, b] = [some a, some b, none, none, none, none] := rfl
theorem bent_signs : [D.str " ", .str "(", .str ")", .str "*", .str "-", .str "0", .str "1", .str "a", .str "*(", .str ")(", .str ""] = [[32], [40], [41], [42], [45], [48], [49], [97], [42, 40], [41, 40], []].map sD := rfl
theorem r_l_bent_text : ∀ ds M Φ, W_l_bent_text ds M Φ → w_l_bent_text (endsD Φ) (startD 6 ds) M := by
  intro ds M Φ ⟨d, l, eds, hd, hl, k⟩
  subst eds
  unfold w_l_bent_text
  rw [start_b6]
  have eL : ∀ (Φ : KD) M (a : List Nat), wrLen [.str (sL a)] M Φ = (a.length ≤ lim ∧ Φ (.int a.length) M) := fun Φ M a => by
    show ((sL a).length ≤ lim ∧ Φ (.int (sL a).length) M) = _
    rw [sL_len]
  wp_walk using eL
  refine ⟨by unfold lim; omega, ?_⟩
  refine ⟨d, _, rfl, hd, ⟨by omega, by omega⟩, fun a M1 a0 a1 k1 => ?_⟩
  walk_at "vl"
  refine ⟨d, _, rfl, k1.dw, ⟨by decide, by decide⟩, fun b M2 b0 b1 k2 => ?_⟩
  walk_at "vl"
  refine ⟨(show (11 : Nat) ≤ lim by decide), ?_⟩
  rw [bent_signs]
  refine ⟨d, _, .inl rfl, k2.dw, ⟨by decide, by decide⟩, fun x M3 hx k3 => ?_⟩
  obtain ⟨sg, hs, rfl⟩ := List.mem_map.mp hx
  have sl : sg.length ≤ 2 := by
    simp only [List.mem_cons, List.not_mem_nil, or_false] at hs
    rcases hs with rfl | rfl | rfl | rfl | rfl | rfl | rfl | rfl | rfl | rfl | rfl <;> decide
  have k4 := (k1.trans k2).trans k3
  obtain ⟨n, rfl⟩ : ∃ n : Nat, a = (n : Int) := ⟨a.toNat, by omega⟩
  have e1 : ((n : Nat) : Int) + 1 = ((n + 1 : Nat) : Int) := rfl
  have len : ∀ j, (l.take j).length ≤ l.length := fun j => by rw [List.length_take]; omega
  have len2 : ∀ j, (l.drop j).length ≤ l.length := fun j => by rw [List.length_drop]; omega
  have n1 := len n
  have n2 := len2 n
  have n3 := len2 (n + 1)
  show kAsg _ _ _ (.str (sL sg)) M3
  have sl1 : (sL l).length ≤ lim := by rw [sL_len]; unfold lim; omega
  walk_at "vl"
  wp_walk using e_slS, e_slS1, e_slS2, e_slS3, cutL_to
  refine ⟨sl1, ?_⟩
  rw [e_addS]
  refine ⟨by try simp only [List.length_append]
             unfold lim; omega, ?_⟩
  wp_walk using e_slS, e_slS1, e_slS2, e_slS3, cutL_from
  refine ⟨sl1, ?_⟩
  rw [e_addS]
  refine ⟨by try simp only [List.length_append]
             unfold lim; omega, ?_⟩
  wp_walk using e_slS, e_slS1, e_slS2, e_slS3, cutL_to
  refine ⟨sl1, ?_⟩
  rw [e_addS]
  refine ⟨by try simp only [List.length_append]
             unfold lim; omega, ?_⟩
  wp_walk using e_slS, e_slS1, e_slS2, e_slS3, e1, cutL_from
  refine ⟨sl1, ?_⟩
  rw [e_addS]
  refine ⟨by try simp only [List.length_append]
             unfold lim; omega, ?_⟩
  wp_walk using e_slS, e_slS1, e_slS2, e_slS3, cutL_to
  refine ⟨sl1, ?_⟩
  wp_walk using e_slS, e_slS1, e_slS2, e_slS3, e1, cutL_from
  refine ⟨sl1, ?_⟩
  rw [e_addS]
  refine ⟨by try simp only [List.length_append]
             unfold lim; omega, ?_⟩
  walk_at "vl"
  rw [e_addS]
  refine ⟨by try simp only [List.length_append]
             unfold lim; omega, ?_⟩
  walk_at "vl"
  refine ⟨(show (4 : Nat) ≤ lim by decide), ?_⟩
  have kk : ∀ l', l'.length ≤ l.length + 2 → Φ (.str (sL l')) M3 := fun l' h => k l' M3 h k4
  have lt : (l.take n).length + (l.drop n).length = l.length := by rw [List.length_take, List.length_drop]; omega
  have lt1 : (l.drop (n + 1)).length ≤ (l.drop n).length := by rw [List.length_drop, List.length_drop]; omega
  have hb : b = 0 ∨ b = 1 ∨ b = 2 ∨ b = 3 := by omega
  rcases hb with rfl | rfl | rfl | rfl
  · exact kk (l.take n ++ sg ++ l.drop n) (by simp only [List.length_append]; omega)
  · exact kk (l.take n ++ sg ++ l.drop (n + 1)) (by simp only [List.length_append]; omega)
  · exact kk (l.take n ++ l.drop (n + 1)) (by simp only [List.length_append]; omega)
  · exact kk (l ++ sg) (by simp only [List.length_append]; omega)
end VL
namespace VL
open PySem PySem.Spec PyProof.Rows L2 Tm XL
abbrev W_law (PT : Addr) : W3 := W_lawT PT
def w_law (P : Addr) (q : Str) (tl : List Str) : WS := (sSeq (sAsg (wCall W_l_start (wCons (wVar 0) wNil)) (wgName 1))
  (sSeq (sFor (wiRng1 (wCons (wC (.int 6)) wNil)) (wgName 2) (sSeq (sAsg (wCall W_l_keys (wCons (wVar 1) (wCons (wOp wrAdd (wC (.int 1)) (wCall W_l_take (wCons (wVar 1) (wCons (wC (.int 5)) wNil)))) wNil))) (wgName 3))
  (sSeq (sAsg (wLc (wiSeq (wCall W_l_history (wCons (wVar 1) (wCons (wVar 3) (wCons (wC (.int 4)) (wCons (wC (.int 2)) wNil)))))) (wgName 5) wYes (wVar 5) [5]) (wgName 4))
  (sSeq (sAsg (wCall (qt W_format_history) (wCons (wVar 4) wNil)) (wgName 6))
  (sSeq (sFor (wiRng1 (wCons (wCall W_l_take (wCons (wVar 1) (wCons (wC (.int 3)) wNil))) wNil)) (wgName 5) (sAsg (wCall W_l_bent_text (wCons (wVar 1) (wCons (wVar 6) wNil))) (wgName 6)))
  (sSeq (sFor (wiRng1 (wCons (wCall W_l_of (wCons (wVar 1) (wCons (wLst (wCons (wC (.int 0)) (wCons (wC (.int 0)) (wCons (wC (.int 0)) (wCons (wC (.int 3)) (wCons (wC (.int 4)) (wCons (wC (.int 5)) wNil))))))) wNil))) wNil)) (wgName 5) (sAsg (wOp wrAdd (wOp wrAdd (wC (.str "2*(")) (wVar 6)) (wC (.str ")"))) (wgName 6)))
  (sSeq (sAsg (wCall (W_l_read 6) (wCons (wVar 6) (wCons (wC (.int 0)) wNil))) (wgName 7))
  (sSeq (sAsg (wIfE (wOr (wTest (wOp wrIsN (wVar 7) (wC .non))) (wTest (wOp (wrI fun i j => .bl (decide (j < i))) (wCall (W_l_written 5) (wCons (wVar 7) wNil)) (wC (.int 100))))) (wC .non) (wVar 7)) (wgName 7))
  (sSeq (sAsg (wIfE (wTest (wOp wrIsN (wVar 7) (wC .non))) (wTup (wCons (wC .non) (wCons (wC (.str "ParseError")) (wCons (wC (.int 0)) wNil)))) (wTup (wCons (wVar 7) (wCons (wC (.str "")) (wCons (wC .non) wNil))))) (wgName 8))
  (sIf (wNot (wTest (wCallQ (W_l_same 12) (wCons (wOut P q tl fun Ψ => (wCallX W_parse_history Ψ (wCons (wVar 6) wNil))) (wCons (wVar 8) wNil))))) (sRet (wC (.bl false))) sNext))))))))))
  (sSeq (sAsg (wLst (wCons (wC (.str " ")) (wCons (wC (.str "1 ")) (wCons (wC (.str "01")) (wCons (wC (.str "-0")) (wCons (wC (.str "1*")) (wCons (wC (.str "1*(")) (wCons (wC (.str "1*()2")) (wCons (wC (.str "1*2")) (wCons (wC (.str "()")) (wCons (wC (.str "a")) (wCons (wC (.str "+1")) (wCons (wC (.str "1*(1))")) (wCons (wC (.str "-1*(2)")) (wCons (wC (.str "1000000001")) (wCons (wC (.str "2 *(1)")) (wCons (wOp wrAdd (wC (.str "1")) (wOp wrMulS (wC (.str " 1")) (wC (.int 100)))) wNil))))))))))))))))) (wgName 9))
  (sSeq (sAsg (wOp wrAdd (wVar 9) (wLst (wCons (wOp wrAdd (wOp wrAdd (wC (.str "1")) (wOp wrMulS (wC (.str "0")) (wC (.int 31)))) (wC (.str "*()"))) (wCons (wOp wrMulS (wC (.str "1")) (wC (.int 32))) (wCons (wC (.str "2*(3 )")) (wCons (wOp wrAdd (wOp wrMulS (wC (.str "2*(")) (wC (.int 5))) (wOp wrMulS (wC (.str ")")) (wC (.int 5)))) (wCons (wOp wrAdd (wOp wrMulS (wC (.str "2*(")) (wC (.int 900))) (wOp wrMulS (wC (.str ")")) (wC (.int 900)))) wNil))))))) (wgName 9))
  (sRet (wOp wrEq (wLc (wiSeq (wVar 9)) (wgName 10) wYes (wErr P q tl fun Ψ => (wCallX W_parse_history Ψ (wCons (wVar 10) wNil))) [10]) (wOp wrMul (wLst (wCons (wTup (wCons (wC (.str "ParseError")) (wCons (wC (.int 0)) wNil))) wNil)) (wC (.int 21)))))))))
theorem cl_up : ∀ {n m : Nat} {d : D}, cl n d → n ≤ m → cl m d
  | 0, _, _, h, _ => by cases h
  | n + 1, 0, _, _, h => by omega
  | n + 1, m + 1, d, h, hm => by
    cases d <;> try exact h
    · exact ⟨h.1, fun x hx => cl_up (h.2 x hx) (by omega)⟩
    · exact ⟨h.1, fun x hx => cl_up (h.2 x hx) (by omega)⟩
mutual
theorem cl_h : ∀ (s : HS), s.ok → s.nok → s.wr ≤ 100 → cl (2 * s.dp + 1) (hD s)
  | .key k, _, _, _ => by rw [hD, HS.dp]; trivial
  | .rep w c b ss, ok, nk, wr => by
    rw [HS.ok] at ok
    rw [HS.nok] at nk
    rw [HS.wr] at wr
    rw [hD, HS.dp]
    have e0 := ok.1.1
    have eb := nk.1.2.1
    subst e0 eb
    have lw := wrs_len (ss := ss)
    rw [show 2 * (1 + dps ss) + 1 = (2 * dps ss + 1 + 1) + 1 by omega]
    refine cl_mkT (show (3 : Nat) ≤ lim by decide) (cls_cons (show SeqAt.shaped (.str (wdS 0)) = true by decide +kernel) (cls_cons trivial (cls_cons ?_ cls_nil)))
    exact cl_mkT (by rw [hDs_len]; unfold lim; omega) (cl_hs ss ok.2 nk.2 (by omega) _ (Nat.le_refl _))
  | .odd c, ok, _, _ => by rw [HS.ok] at ok; exact ok.elim
theorem cl_hs : ∀ (ss : List HS), oks ss → noks ss → wrs ss ≤ 100 → ∀ n, dps ss ≤ n → ∀ d ∈ hDs ss, cl (2 * n + 1) d
  | [], _, _, _, _, _, d, hd => by rw [hDs] at hd; cases hd
  | s :: r, ok, nk, wr, n, hn, d, hd => by
    rw [oks] at ok
    rw [noks] at nk
    rw [wrs] at wr
    rw [dps] at hn
    rw [hDs] at hd
    rcases List.mem_cons.mp hd with rfl | hd
    · exact cl_up (cl_h s ok.1 nk.1 (by omega)) (by have := Nat.le_trans (Nat.le_max_left ..) hn; omega)
    · exact cl_hs r ok.2 nk.2 (by omega) n (Nat.le_trans (Nat.le_max_right ..) hn) d hd
end
theorem cl_list {ss : List HS} (g : Gd ss) (nk : noks ss) : cl 10 (.lst (hDs ss)) := by
  have := g.wr
  have lw := wrs_len (ss := ss)
  exact cl_mkL (k := 9) (by rw [hDs_len]; unfold lim; omega) fun d hd => cl_hs ss g.ok nk g.wr 4 g.dp d hd
mutual
theorem wr_tx : ∀ s : HS, s.nok → s.wr ≤ s.tx.length
  | .key k, h => by rw [HS.wr]; exact tx_pos (s := .key k) h
  | .rep w c b ss, h => by
    rw [HS.nok] at h
    rw [HS.wr, HS.tx]
    have := wrs_tx ss h.2
    simp only [List.length_append, List.length_cons, List.length_nil]
    omega
  | .odd _, h => by rw [HS.nok] at h; exact h.elim
theorem wrs_tx : ∀ ss : List HS, noks ss → wrs ss ≤ (txs ss).length
  | [], _ => Nat.zero_le _
  | s :: r, h => by
    rw [noks] at h
    rw [wrs, txs, List.length_append]
    have := wr_tx s h.1
    have := wrs_txr r h.2
    omega
theorem wrs_txr : ∀ ss : List HS, noks ss → wrs ss ≤ (txr ss).length
  | [], _ => Nat.zero_le _
  | s :: r, h => by
    rw [noks] at h
    rw [wrs, txr, List.length_cons, List.length_append]
    have := wr_tx s h.1
    have := wrs_txr r h.2
    omega
end
def rp (n : Nat) (l : List Nat) : List Nat := (List.replicate n l).flatten
def odd1 : List (List Nat) := [[32], [49, 32], [48, 49], [45, 48], [49, 42], [49, 42, 40], [49, 42, 40, 41, 50], [49, 42, 50], [40, 41], [97], [43, 49], [49, 42, 40, 49, 41, 41], [45, 49, 42, 40, 50, 41], [49, 48, 48, 48, 48, 48, 48, 48, 48, 49], [50, 32, 42, 40, 49, 41], [49] ++ rp 100 [32, 49]]
def odd2 : List (List Nat) := [[49] ++ rp 31 [48] ++ [42, 40, 41], rp 32 [49], [50, 42, 40, 51, 32, 41], rp 5 [50, 42, 40] ++ rp 5 [41], rp 900 [50, 42, 40] ++ rp 900 [41]]
theorem odd_bad : ∀ l ∈ odd1 ++ odd2, badT l = true ∧ l.length ≤ 4000 := by
  have h : ((odd1 ++ odd2).all fun l => badT l && decide (l.length ≤ 4000)) = true := by decide +kernel
  intro l hl
  have := List.all_eq_true.mp h l hl
  rw [Bool.and_eq_true, decide_eq_true_eq] at this
  exact this
theorem rp_len (n : Nat) (l : List Nat) : (rp n l).length = n * l.length := by
  unfold rp
  rw [List.length_flatten, List.map_replicate, List.sum_replicate_nat]
theorem e_mulN {M : Mem} {Φ : KD} (z : Str) (l : List Nat) (n : Nat) (i : Int) (hz : z = sL l) (hi : i = n) (hb : (2 ≤ n ∧ n ≤ 1000) ∧ 1 ≤ l.length ∧ l.length ≤ 10) : wrMulS (.str z) (.int i) M Φ = Φ (.str (sL (rp n l))) M := by
  subst hz hi
  rw [e_mulS, tl_sL, sL_len, Int.toNat_natCast]
  have : l.length * n ≤ lim := Nat.le_trans (Nat.mul_le_mul hb.2.2 hb.1.2) (by decide)
  simp only [show ((2 : Int) ≤ n ∧ (n : Int) < 2 ^ 31 ∧ 1 ≤ l.length ∧ l.length * n ≤ lim) ↔ True from ⟨fun _ => trivial, fun _ => ⟨by omega, by omega, hb.2.1, this⟩⟩, true_and]
  rfl
section
variable {M : Mem} {Φ : KD}
theorem e_m1 : wrMulS (.str " 1") (.int 100) M Φ = Φ (.str (sL (rp 100 [32, 49]))) M := e_mulN _ _ 100 _ rfl rfl (by decide)
theorem e_m2 : wrMulS (.str "0") (.int 31) M Φ = Φ (.str (sL (rp 31 [48]))) M := e_mulN _ _ 31 _ rfl rfl (by decide)
theorem e_m3 : wrMulS (.str "1") (.int 32) M Φ = Φ (.str (sL (rp 32 [49]))) M := e_mulN _ _ 32 _ rfl rfl (by decide)
theorem e_m4 : wrMulS (.str "2*(") (.int 5) M Φ = Φ (.str (sL (rp 5 [50, 42, 40]))) M := e_mulN _ _ 5 _ rfl rfl (by decide)
theorem e_m5 : wrMulS (.str ")") (.int 5) M Φ = Φ (.str (sL (rp 5 [41]))) M := e_mulN _ _ 5 _ rfl rfl (by decide)
theorem e_m6 : wrMulS (.str "2*(") (.int 900) M Φ = Φ (.str (sL (rp 900 [50, 42, 40]))) M := e_mulN _ _ 900 _ rfl rfl (by decide)
theorem e_m7 : wrMulS (.str ")") (.int 900) M Φ = Φ (.str (sL (rp 900 [41]))) M := e_mulN _ _ 900 _ rfl rfl (by decide)
theorem e_one {l : List Nat} : wrAdd (.str "1") (.str (sL l)) M Φ = (1 + l.length ≤ lim ∧ Φ (.str (sL ([49] ++ l))) M) := e_addS (a := [49])
theorem e_end {l : List Nat} : wrAdd (.str (sL l)) (.str "*()") M Φ = (l.length + 3 ≤ lim ∧ Φ (.str (sL (l ++ [42, 40, 41]))) M) := e_addS (b := [42, 40, 41])
theorem e_eq21 : wrEq (.lst (List.replicate 21 (.tup [.str "ParseError", .int 0]))) (.lst (List.replicate 21 (.tup [.str "ParseError", .int 0]))) M Φ = Φ (.bl true) M :=
  e_eqSame (p := .list (List.replicate 21 (.tuple [.str "ParseError", .int 0]))) (by unfold pyM; simp only [py, pys, List.replicate]; rfl) (by decide +kernel) (by simp [PyData.eqv, PyData.eqvAll, List.replicate])
end
theorem start_k11 {a : D} : startD 11 [a] = [some a, none, none, none, none, none, none, none, none, none, none] := rfl
theorem dict_o : ("2*(" : Str) = sL [50, 42, 40] := rfl
theorem dict_c : (")" : Str) = sL [41] := rfl
theorem r_law (PT : Addr) : ∀ ds M Φ, W_law PT ds M Φ → w_law PT qL ["BadStep", "ParseError", "TooLong"] (endsD Φ) (startD 11 ds) M := by
  intro ds M Φ ⟨ns, eds, hl, hPT, k⟩
  subst eds
  unfold w_law
  rw [start_k11]
  walk_at "vl"
  refine ⟨ns, rfl, hl, fun d M1 hd0 hd hst => ?_⟩
  have L1 := Lw.start hPT hd0 hd hst
  walk_at "vl"
  refine ⟨⟨by decide, by decide⟩, ?_⟩
  refine loop_inv (fun pre post ρ M2 => ∃ (o2 o3 o4 o5 o6 o7 o8 o9 o10 : Option D), ρ = [some (.fz (ns.map D.int)), some (.ref d), o2, o3, o4, o5, o6, o7, o8, o9, o10] ∧ Lw d PT M2) ⟨none, none, none, none, none, none, none, none, none, rfl, L1⟩ ?_ ?_
  · rintro pre y post ρ M2 bk nx e ⟨o2, o3, o4, o5, o6, o7, o8, o9, o10, rfl, L2⟩ _ hnx
    walk_at "vl"
    refine W_take_go L2.dw (by decide) (by decide) fun n M3 n0 n1 kp3 => ?_
    walk_at "vl"
    refine ⟨d, _, rfl, kp3.dw, ⟨by omega, by omega⟩, fun ks M4 lk ha hks kp4 => ?_⟩
    have hk0 : ks ≠ [] := fun e => by rw [e] at lk; simp at lk; omega
    walk_at "vl"
    refine ⟨d, ks, 4, 2, rfl, kp4.dw, ⟨⟨hk0, by omega, fun k hk => ⟨(hks k hk).1, by have := (hks k hk).2; omega⟩⟩, by decide, by decide, by decide⟩, fun ss M5 hss hsl kp5 => ?_⟩
    have ok := hss.oks
    have dp := hss.dps
    have wb := hss.wrs
    have wb2 : wrs ss ≤ 4 * 16 := Nat.le_trans wb (Nat.mul_le_mul (by omega) (by decide))
    have g : Gd ss := ⟨ok, by omega, by omega⟩
    have tl := txs_len ss ok
    have L5 := ((L2.kp kp3).kp kp4).kp kp5
    walk_at "vl"
    have hsl2 : (hDs ss).length ≤ lim := by rw [hDs_len]; unfold lim; omega
    refine ⟨hsl2, ?_⟩
    rw [hDs_map]
    refine lc_of (f := hD) hD (fun x _ Ψ acc h => ?_) ?_
    · walk_at "vl"
      exact h
    rw [← hDs_map]
    walk_at "vl"
    refine ⟨ss, false, rfl, g, ?_⟩
    walk_at "vl"
    refine W_take_go L5.dw (by decide) (by decide) fun nb M6 nb0 nb1 kp6 => ?_
    have L6 := L5.kp kp6
    walk_at "vl"
    refine ⟨⟨by omega, by omega⟩, ?_⟩
    refine loop_rng (fun i ρ M => ∃ (l : List Nat) (o5 : Option D), l.length ≤ 2304 + 2 * i ∧ ρ = [some (.fz (ns.map D.int)), some (.ref d), some y, some (.lst (ks.map D.int)), some (.lst (hDs ss)), o5, some (.str (sL l)), o7, o8, o9, o10] ∧ Lw d PT M) ⟨txs ss, o5, by omega, rfl, L6⟩ ?_ ?_
    · rintro i ρ M7 bk2 nx2 hi ⟨l, o5, ll, rfl, L7⟩ _ hnx2
      walk_at "vl"
      refine ⟨d, l, rfl, L7.dw, by omega, fun l' M8 hl' kp8 => ?_⟩
      walk_at "vl"
      exact hnx2 _ _ ⟨l', _, by omega, rfl, L7.kp kp8⟩
    rintro ρ M7 ⟨l, o5, ll, rfl, L7⟩
    have ll2 : l.length ≤ 2308 := by omega
    walk_at "vl"
    refine ⟨(show (6 : Nat) ≤ lim by decide), ?_⟩
    refine W_of_go L7.dw (show (0 : Nat) < 6 by decide) (show (6 : Nat) ≤ 100000 by decide) fun xw M8 hxw kp8 => ?_
    obtain ⟨w, rfl, w0, w5⟩ : ∃ w : Int, xw = .int w ∧ 0 ≤ w ∧ w ≤ 5 := by
      simp only [List.mem_cons, List.not_mem_nil, or_false] at hxw
      rcases hxw with rfl | rfl | rfl | rfl | rfl | rfl <;> exact ⟨_, rfl, by decide, by decide⟩
    have L8 := L7.kp kp8
    walk_at "vl"
    refine ⟨⟨by omega, by omega⟩, ?_⟩
    refine loop_rng (fun i ρ M => ∃ (l : List Nat) (o5 : Option D), l.length ≤ 2308 + 4 * i ∧ ρ = [some (.fz (ns.map D.int)), some (.ref d), some y, some (.lst (ks.map D.int)), some (.lst (hDs ss)), o5, some (.str (sL l)), o7, o8, o9, o10] ∧ Lw d PT M) ⟨l, o5, by omega, rfl, L8⟩ ?_ ?_
    · rintro i ρ M9 bk2 nx2 hi ⟨l, o5, ll, rfl, L9⟩ _ hnx2
      wp_walk using dict_o, dict_c, e_addS
      refine ⟨by simp only [List.length_cons, List.length_nil]; unfold lim; omega, ?_⟩
      wp_walk using dict_c, e_addS
      refine ⟨by simp only [List.length_append, List.length_cons, List.length_nil]; unfold lim; omega, ?_⟩
      exact hnx2 _ _ ⟨_, _, by simp only [List.length_append, List.length_cons, List.length_nil]; omega, rfl, L9⟩
    rintro ρ M9 ⟨l, o5, ll, rfl, L9⟩
    have ll2 : l.length ≤ 2328 := by omega
    walk_at "vl"
    refine ⟨l, 0, 4, rfl, by omega, ⟨rfl, by decide⟩, fun M10 k10 => ?_⟩
    have L10 := L9.kept k10
    have s0 : SeqAt.shaped (.str "") = true := by decide +kernel
    have sP : SeqAt.shaped (.str "ParseError") = true := by decide +kernel
    -- no history is due
    have none_due : ∀ o5' o7' : Option D, (∀ ss', psAll l = some ss' → Gd ss' → False) → ∀ o8' : Option D,
        sIf (wNot (wTest (wCallQ (W_l_same 12) (wCons (wOut PT qL ["BadStep", "ParseError", "TooLong"] fun Ψ => (wCallX W_parse_history Ψ (wCons (wVar 6) wNil))) (wCons (wVar 8) wNil))))) (sRet (wC (.bl false))) sNext { nx := nx, rt := Φ, bk := bk, ct := nx }
          [some (.fz (ns.map D.int)), some (.ref d), some y, some (.lst (ks.map D.int)), some (.lst (hDs ss)), o5', some (.str (sL l)), o7', some (.tup [.non, .str "ParseError", .int 0]), o9, o10] M10 := fun o5' o7' hno o8' => by
      wp_walk using e_callQ, e_out L10.tb
      refine ⟨l, rfl, by omega, fun ss' h1 h2 => (hno ss' h1 h2).elim, fun _ M11 k11 => ?_⟩
      refine ⟨by decide, ?_⟩
      walk_at "vl"
      rw [e_callQk]
      refine W_same_go (n := 12) (x := .tup [.non, .str "ParseError", .int 0]) (cl_mkT (k := 11) (show (3 : Nat) ≤ lim by decide) (cls_cons trivial (cls_cons sP (cls_cons trivial cls_nil)))) ⟨rfl, ?_⟩
      walk_at "vl"
      exact hnx _ _ ⟨_, _, _, _, _, _, _, _, _, rfl, L10.kept k11⟩
    cases hr : lrd 4 l with
    | none =>
      rw [show optL none = .non from rfl]
      walk_at "vl"
      refine ⟨(show (3 : Nat) ≤ lim by decide), ?_⟩
      refine none_due _ _ (fun ss' h1 h2 => ?_) none
      have := lrd_iff.mpr ⟨h1, h2.ok⟩
      rw [hr] at this
      cases this
    | some sr =>
      obtain ⟨hp, ho⟩ := lrd_iff.mp hr
      obtain ⟨el, nk, dk⟩ := psAll_iff.mp hp
      have wk : wrs sr ≤ l.length := by rw [el]; exact wrs_tx sr nk
      rw [show optL (some sr) = .lst (hDs sr) from rfl]
      walk_at "vl"
      refine ⟨sr, false, rfl, ⟨ho, dk, by omega⟩, ?_⟩
      by_cases c : 100 < wrs sr
      · wp_walk using decide_eq_true (show (100 : Int) < wrs sr by omega)
        refine ⟨(show (3 : Nat) ≤ lim by decide), ?_⟩
        refine none_due _ _ (fun ss' h1 h2 => ?_) none
        rw [hp] at h1
        cases h1
        have := h2.wr
        omega
      · wp_walk using decide_eq_false (show ¬ (100 : Int) < wrs sr by omega)
        have gr : Gd sr := ⟨ho, dk, by omega⟩
        refine ⟨(show (3 : Nat) ≤ lim by decide), ?_⟩
        wp_walk using e_callQ, e_out L10.tb
        refine ⟨l, rfl, by omega, fun ss' h1 _ M11 p hpn hM k11 => ?_, fun hb => ?_⟩
        · rw [hp] at h1
          cases h1
          walk_at "vl"
          have e1 : [D.tup [D.ref p, D.str "", D.non], D.tup [D.lst (hDs sr), D.str "", D.non]].map (fz2 M11) = [D.tup [D.lst (hDs sr), D.str "", D.non], D.tup [D.lst (hDs sr), D.str "", D.non]] := by
            show [D.tup [fzr M11 (.ref p), _, _], D.tup [_, _, _]] = _
            rw [fzr_ref hM]
            rfl
          rw [e_callQk, e1]
          refine W_same_go (n := 12) (cl_mkT (k := 11) (show (3 : Nat) ≤ lim by decide) (cls_cons (cl_up (cl_list gr nk) (by decide)) (cls_cons s0 (cls_cons trivial cls_nil)))) ⟨rfl, ?_⟩
          walk_at "vl"
          exact hnx _ _ ⟨_, _, _, _, _, _, _, _, _, rfl, L10.kept k11⟩
        · exfalso
          unfold badT at hb
          rw [hp] at hb
          simp only [gr.ck] at hb
          cases hb
  · rintro ρ M2 ⟨o2, o3, o4, o5, o6, o7, o8, o9, o10, rfl, L2⟩
    wp_walk using e_m1, e_one
    refine ⟨by rw [rp_len]; decide, ?_⟩
    refine ⟨(show (16 : Nat) ≤ lim by decide), ?_⟩
    rw [show [D.str " ", .str "1 ", .str "01", .str "-0", .str "1*", .str "1*(", .str "1*()2", .str "1*2", .str "()", .str "a", .str "+1", .str "1*(1))", .str "-1*(2)", .str "1000000001", .str "2 *(1)", .str (sL ([49] ++ rp 100 [32, 49]))] = odd1.map sD from rfl]
    have len1 : (odd1.map sD).length = 16 := rfl
    generalize hO : odd1.map sD = O1 at len1 ⊢
    wp_walk using e_m2, e_one
    refine ⟨by rw [rp_len]; decide, ?_⟩
    wp_walk using e_end
    refine ⟨by rw [List.length_append, rp_len]; decide, ?_⟩
    wp_walk using e_m3, e_m4, e_m5, e_addS
    refine ⟨by rw [rp_len, rp_len]; decide, ?_⟩
    wp_walk using e_m6, e_m7, e_addS
    refine ⟨by rw [rp_len, rp_len]; decide, ?_⟩
    refine ⟨(show (5 : Nat) ≤ lim by decide), ?_⟩
    rw [show [D.str (sL ([49] ++ rp 31 [48] ++ [42, 40, 41])), .str (sL (rp 32 [49])), .str "2*(3 )", .str (sL (rp 5 [50, 42, 40] ++ rp 5 [41])), .str (sL (rp 900 [50, 42, 40] ++ rp 900 [41]))] = odd2.map sD from rfl]
    have len2 : (odd2.map sD).length = 5 := rfl
    generalize hO2 : odd2.map sD = O2 at len2 ⊢
    refine ⟨by rw [len1, len2]; decide, ?_⟩
    have all21 : (O1 ++ O2) = (odd1 ++ odd2).map sD := by rw [List.map_append, hO, hO2]
    rw [all21]
    refine ⟨by rw [← all21, List.length_append, len1, len2]; decide, ?_⟩
    refine lc_mapM (f := sD) (fun _ => .tup [.str "ParseError", .int 0]) (Lw d PT) L2 (fun l hl M3 Ψ acc L3 h => ?_) fun M3 L3 => ?_
    · obtain ⟨hb, hlen⟩ := odd_bad l hl
      wp_walk using e_err L3.tb
      refine ⟨l, rfl, hlen, fun ss hs g => ?_, fun _ M4 k4 => ?_⟩
      · exfalso
        unfold badT at hb
        rw [hs] at hb
        simp only [g.ck] at hb
        cases hb
      · refine ⟨by decide, ?_⟩
        walk_at "vl"
        exact h M4 (L3.kept k4)
    · walk_at "vl"
      refine ⟨(show (2 : Nat) ≤ lim by decide), (show (1 : Nat) ≤ lim by decide), ⟨by decide, by decide, (show (1 * 21 : Nat) ≤ lim by decide)⟩, ?_⟩
      rw [List.map_const', show (odd1 ++ odd2).length = 21 from rfl]
      show wrEq _ (.lst (List.replicate 21 (.tup [.str "ParseError", .int 0]))) M3 Φ
      rw [e_eq21]
      exact k M3
end VL
namespace VL
open PySem PySem.Spec PyProof.Rows L2 XL LamX
def topS (i : Nat) : Stmt := PySem.Challenge.pw_touchtrees_k57_texts_that_are_no_histori.main.body.getD i (.Pass ⟨0, 0, 0, 0⟩)
def clsS (i : Nat) : Stmt := (match topS i with | .ClassDef (body := b) .. => b | _ => []).getD 0 (.Pass ⟨0, 0, 0, 0⟩)
def metS (i j : Nat) : Stmt := (match topS i with | .ClassDef (body := b) .. => b | _ => []).getD j (.Pass ⟨0, 0, 0, 0⟩)
abbrev s_l_start : Stmt := topS 27
abbrev s_l_take : Stmt := topS 28
abbrev s_l_of : Stmt := topS 29
abbrev s_l_keys : Stmt := topS 34
abbrev s_l_step : Stmt := topS 35
abbrev s_l_history : Stmt := topS 36
abbrev s_is_key : Stmt := topS 9
abbrev s_check_round : Stmt := topS 14
abbrev s_check_steps : Stmt := topS 15
abbrev s_check_history : Stmt := topS 16
abbrev s_format_step : Stmt := topS 21
abbrev s_format_steps : Stmt := topS 22
abbrev s_format_history : Stmt := topS 23
abbrev s_l_bent_text : Stmt := topS 41
abbrev s_l_items : Stmt := topS 39
abbrev s_l_number : Stmt := topS 38
abbrev s_l_read : Stmt := topS 40
abbrev s_l_written : Stmt := topS 37
abbrev s_l_same : Stmt := topS 30
abbrev s_Reader_init : Stmt := metS 24 0
abbrev s_parse_number : Stmt := topS 20
abbrev s_Reader_read_word : Stmt := metS 24 1
abbrev s_Reader_expect : Stmt := metS 24 2
abbrev s_Reader_read_step : Stmt := metS 24 3
abbrev s_Reader_read_steps : Stmt := metS 24 4
abbrev s_parse_history : Stmt := topS 25
abbrev s_law : Stmt := topS 42
abbrev s_l_field : Stmt := topS 31
abbrev s_l_outcome : Stmt := topS 32
abbrev s_l_error : Stmt := topS 33
abbrev sI_BadStep : Stmt := clsS 3
abbrev sI_ParseError : Stmt := clsS 5
abbrev sI_TooLong : Stmt := clsS 4
abbrev N_l_start : List Str := ["_law_script"]
theorem sc_l_start : FnScope N_l_start ["_law_script"] (defScope s_l_start) := ⟨rfl, rfl, rfl, by decide +kernel, rfl, by decide +kernel, by decide +kernel⟩
abbrev N_l_take : List Str := ["_law_draw", "_law_many", "_law_cell", "_law_digit", "_law_square"]
theorem sc_l_take : FnScope N_l_take ["_law_draw", "_law_many"] (defScope s_l_take) := ⟨rfl, rfl, rfl, by decide +kernel, rfl, by decide +kernel, by decide +kernel⟩
abbrev N_l_of : List Str := ["_law_draw", "_law_some"]
theorem sc_l_of : FnScope N_l_of ["_law_draw", "_law_some"] (defScope s_l_of) := ⟨rfl, rfl, rfl, by decide +kernel, rfl, by decide +kernel, by decide +kernel⟩
abbrev N_l_keys : List Str := ["_law_draw", "_law_many", "_law_key", "_law_wide", "_law_found", "_law_k"]
theorem sc_l_keys : FnScope N_l_keys ["_law_draw", "_law_many"] (defScope s_l_keys) := ⟨rfl, rfl, rfl, by decide +kernel, rfl, by decide +kernel, by decide +kernel⟩
abbrev N_l_step : List Str := ["_law_draw", "_law_keys_here", "_law_deep", "_law_count", "_law_steps", "_law_k"]
theorem sc_l_step : FnScope N_l_step ["_law_draw", "_law_keys_here", "_law_deep"] (defScope s_l_step) := ⟨rfl, rfl, rfl, by decide +kernel, rfl, by decide +kernel, by decide +kernel⟩
abbrev N_l_history : List Str := ["_law_draw", "_law_keys_here", "_law_most", "_law_deep", "_law_k"]
theorem sc_l_history : FnScope N_l_history ["_law_draw", "_law_keys_here", "_law_most", "_law_deep"] (defScope s_l_history) := ⟨rfl, rfl, rfl, by decide +kernel, rfl, by decide +kernel, by decide +kernel⟩
abbrev N_is_key : List Str := ["number"]
theorem sc_is_key : FnScope N_is_key ["number"] (defScope s_is_key) := ⟨rfl, rfl, rfl, by decide +kernel, rfl, by decide +kernel, by decide +kernel⟩
abbrev N_check_round : List Str := ["step", "nesting", "pos"]
theorem sc_check_round : FnScope N_check_round ["step", "nesting", "pos"] (defScope s_check_round) := ⟨rfl, rfl, rfl, by decide +kernel, rfl, by decide +kernel, by decide +kernel⟩
abbrev N_check_steps : List Str := ["steps", "nesting", "pos", "step"]
theorem sc_check_steps : FnScope N_check_steps ["steps", "nesting", "pos"] (defScope s_check_steps) := ⟨rfl, rfl, rfl, by decide +kernel, rfl, by decide +kernel, by decide +kernel⟩
abbrev N_check_history : List Str := ["history"]
theorem sc_check_history : FnScope N_check_history ["history"] (defScope s_check_history) := ⟨rfl, rfl, rfl, by decide +kernel, rfl, by decide +kernel, by decide +kernel⟩
abbrev N_format_step : List Str := ["step"]
theorem sc_format_step : FnScope N_format_step ["step"] (defScope s_format_step) := ⟨rfl, rfl, rfl, by decide +kernel, rfl, by decide +kernel, by decide +kernel⟩
abbrev N_format_steps : List Str := ["steps", "step"]
theorem sc_format_steps : FnScope N_format_steps ["steps"] (defScope s_format_steps) := ⟨rfl, rfl, rfl, by decide +kernel, rfl, by decide +kernel, by decide +kernel⟩
abbrev N_format_history : List Str := ["history"]
theorem sc_format_history : FnScope N_format_history ["history"] (defScope s_format_history) := ⟨rfl, rfl, rfl, by decide +kernel, rfl, by decide +kernel, by decide +kernel⟩
abbrev N_l_bent_text : List Str := ["_law_draw", "_law_text", "_law_at", "_law_pick", "_law_sign", "_law_some"]
theorem sc_l_bent_text : FnScope N_l_bent_text ["_law_draw", "_law_text"] (defScope s_l_bent_text) := ⟨rfl, rfl, rfl, by decide +kernel, rfl, by decide +kernel, by decide +kernel⟩
abbrev N_l_items : List Str := ["_law_text", "_law_found", "_law_level", "_law_sign"]
theorem sc_l_items : FnScope N_l_items ["_law_text"] (defScope s_l_items) := ⟨rfl, rfl, rfl, by decide +kernel, rfl, by decide +kernel, by decide +kernel⟩
abbrev N_l_number : List Str := ["_law_text", "_law_digits", "_law_sign"]
theorem sc_l_number : FnScope N_l_number ["_law_text"] (defScope s_l_number) := ⟨rfl, rfl, rfl, by decide +kernel, rfl, by decide +kernel, by decide +kernel⟩
abbrev N_l_read : List Str := ["_law_text", "_law_level", "_law_found", "_law_item", "_law_head", "_law_number_here", "_law_inner"]
theorem sc_l_read : FnScope N_l_read ["_law_text", "_law_level"] (defScope s_l_read) := ⟨rfl, rfl, rfl, by decide +kernel, rfl, by decide +kernel, by decide +kernel⟩
abbrev N_l_written : List Str := ["_law_steps", "_law_step_here"]
theorem sc_l_written : FnScope N_l_written ["_law_steps"] (defScope s_l_written) := ⟨rfl, rfl, rfl, by decide +kernel, rfl, by decide +kernel, by decide +kernel⟩
abbrev N_l_same : List Str := ["_law_found", "_law_due", "_law_one", "_law_other"]
theorem sc_l_same : FnScope N_l_same ["_law_found", "_law_due"] (defScope s_l_same) := ⟨rfl, rfl, rfl, by decide +kernel, rfl, by decide +kernel, by decide +kernel⟩
abbrev N_Reader_init : List Str := ["self", "text"]
theorem sc_Reader_init : FnScope N_Reader_init ["self", "text"] (defScope s_Reader_init) := ⟨rfl, rfl, rfl, by decide +kernel, rfl, by decide +kernel, by decide +kernel⟩
abbrev N_parse_number : List Str := ["text", "digits", "sign"]
theorem sc_parse_number : FnScope N_parse_number ["text"] (defScope s_parse_number) := ⟨rfl, rfl, rfl, by decide +kernel, rfl, by decide +kernel, by decide +kernel⟩
abbrev N_Reader_read_word : List Str := ["self", "begin"]
theorem sc_Reader_read_word : FnScope N_Reader_read_word ["self"] (defScope s_Reader_read_word) := ⟨rfl, rfl, rfl, by decide +kernel, rfl, by decide +kernel, by decide +kernel⟩
abbrev N_Reader_expect : List Str := ["self", "sign"]
theorem sc_Reader_expect : FnScope N_Reader_expect ["self", "sign"] (defScope s_Reader_expect) := ⟨rfl, rfl, rfl, by decide +kernel, rfl, by decide +kernel, by decide +kernel⟩
abbrev N_Reader_read_step : List Str := ["self", "number", "steps"]
theorem sc_Reader_read_step : FnScope N_Reader_read_step ["self"] (defScope s_Reader_read_step) := ⟨rfl, rfl, rfl, by decide +kernel, rfl, by decide +kernel, by decide +kernel⟩
abbrev N_Reader_read_steps : List Str := ["self", "result"]
theorem sc_Reader_read_steps : FnScope N_Reader_read_steps ["self"] (defScope s_Reader_read_steps) := ⟨rfl, rfl, rfl, by decide +kernel, rfl, by decide +kernel, by decide +kernel⟩
abbrev N_parse_history : List Str := ["text", "reader", "result", "e"]
theorem sc_parse_history : FnScope N_parse_history ["text"] (defScope s_parse_history) := ⟨rfl, rfl, rfl, by decide +kernel, rfl, by decide +kernel, by decide +kernel⟩
abbrev N_law : List Str := ["_law_script", "_law_draw", "_law_turn", "_law_keys_here", "_law_history_here", "_law_step_here", "_law_text", "_law_due", "_law_expected", "_law_odd", "_law_one"]
theorem sc_law : FnScope N_law ["_law_script"] (defScope s_law) := ⟨rfl, rfl, rfl, by decide +kernel, rfl, by decide +kernel, by decide +kernel⟩
abbrev N_l_field : List Str := ["_law_e"]
theorem sc_l_field : FnScope N_l_field ["_law_e"] (defScope s_l_field) := ⟨rfl, rfl, rfl, by decide +kernel, rfl, by decide +kernel, by decide +kernel⟩
abbrev N_l_outcome : List Str := ["_law_ask", "_law_answer", "_law_tag", "_law_field_here", "_law_e"]
theorem sc_l_outcome : FnScope N_l_outcome ["_law_ask"] (defScope s_l_outcome) := ⟨rfl, rfl, rfl, by decide +kernel, rfl, by decide +kernel, by decide +kernel⟩
abbrev N_l_error : List Str := ["_law_ask"]
theorem sc_l_error : FnScope N_l_error ["_law_ask"] (defScope s_l_error) := ⟨rfl, rfl, rfl, by decide +kernel, rfl, by decide +kernel, by decide +kernel⟩
theorem scI_BadStep : FnScope ["self", "pos"] ["self", "pos"] (defScope sI_BadStep) := ⟨rfl, rfl, rfl, by decide +kernel, rfl, by decide +kernel, by decide +kernel⟩
theorem scI_ParseError : FnScope ["self", "pos"] ["self", "pos"] (defScope sI_ParseError) := ⟨rfl, rfl, rfl, by decide +kernel, rfl, by decide +kernel, by decide +kernel⟩
theorem scI_TooLong : FnScope ["self", "limit"] ["self", "limit"] (defScope sI_TooLong) := ⟨rfl, rfl, rfl, by decide +kernel, rfl, by decide +kernel, by decide +kernel⟩
structure Txt (K : PySem.W.Frag) (mg : Str → Option Value) where
  c_Reader : Addr
  n_Reader : ClsN K "Reader" c_Reader
  g_Reader : mg "Reader" = some (.ref c_Reader)
  na_Reader_at : NoAttr K c_Reader "at"
  na_Reader_nesting : NoAttr K c_Reader "nesting"
  na_Reader_text : NoAttr K c_Reader "text"
  f_l_start : Addr
  fd_l_start : FuncData
  F_l_start : Fun K "_law_start" "_law_start" s_l_start f_l_start fd_l_start
  g_l_start : mg "_law_start" = some (.ref f_l_start)
  b_l_start : Binds K fd_l_start ["_law_script"] []
  f_l_take : Addr
  fd_l_take : FuncData
  F_l_take : Fun K "_law_take" "_law_take" s_l_take f_l_take fd_l_take
  g_l_take : mg "_law_take" = some (.ref f_l_take)
  b_l_take : Binds K fd_l_take ["_law_draw", "_law_many"] []
  f_l_of : Addr
  fd_l_of : FuncData
  F_l_of : Fun K "_law_of" "_law_of" s_l_of f_l_of fd_l_of
  g_l_of : mg "_law_of" = some (.ref f_l_of)
  b_l_of : Binds K fd_l_of ["_law_draw", "_law_some"] []
  f_l_keys : Addr
  fd_l_keys : FuncData
  F_l_keys : Fun K "_law_keys" "_law_keys" s_l_keys f_l_keys fd_l_keys
  g_l_keys : mg "_law_keys" = some (.ref f_l_keys)
  b_l_keys : Binds K fd_l_keys ["_law_draw", "_law_many"] []
  f_l_step : Addr
  fd_l_step : FuncData
  F_l_step : Fun K "_law_step" "_law_step" s_l_step f_l_step fd_l_step
  g_l_step : mg "_law_step" = some (.ref f_l_step)
  b_l_step : Binds K fd_l_step ["_law_draw", "_law_keys_here", "_law_deep"] []
  f_l_history : Addr
  fd_l_history : FuncData
  F_l_history : Fun K "_law_history" "_law_history" s_l_history f_l_history fd_l_history
  g_l_history : mg "_law_history" = some (.ref f_l_history)
  b_l_history : Binds K fd_l_history ["_law_draw", "_law_keys_here", "_law_most", "_law_deep"] []
  f_is_key : Addr
  fd_is_key : FuncData
  F_is_key : Fun K "is_key" "is_key" s_is_key f_is_key fd_is_key
  g_is_key : mg "is_key" = some (.ref f_is_key)
  b_is_key : Binds K fd_is_key ["number"] []
  f_check_round : Addr
  fd_check_round : FuncData
  F_check_round : Fun K "check_round" "check_round" s_check_round f_check_round fd_check_round
  g_check_round : mg "check_round" = some (.ref f_check_round)
  b_check_round : Binds K fd_check_round ["step", "nesting", "pos"] []
  f_check_steps : Addr
  fd_check_steps : FuncData
  F_check_steps : Fun K "check_steps" "check_steps" s_check_steps f_check_steps fd_check_steps
  g_check_steps : mg "check_steps" = some (.ref f_check_steps)
  b_check_steps : Binds K fd_check_steps ["steps", "nesting", "pos"] []
  f_check_history : Addr
  fd_check_history : FuncData
  F_check_history : Fun K "check_history" "check_history" s_check_history f_check_history fd_check_history
  g_check_history : mg "check_history" = some (.ref f_check_history)
  b_check_history : Binds K fd_check_history ["history"] []
  f_format_step : Addr
  fd_format_step : FuncData
  F_format_step : Fun K "format_step" "format_step" s_format_step f_format_step fd_format_step
  g_format_step : mg "format_step" = some (.ref f_format_step)
  b_format_step : Binds K fd_format_step ["step"] []
  f_format_steps : Addr
  fd_format_steps : FuncData
  F_format_steps : Fun K "format_steps" "format_steps" s_format_steps f_format_steps fd_format_steps
  g_format_steps : mg "format_steps" = some (.ref f_format_steps)
  b_format_steps : Binds K fd_format_steps ["steps"] []
  f_format_history : Addr
  fd_format_history : FuncData
  F_format_history : Fun K "format_history" "format_history" s_format_history f_format_history fd_format_history
  g_format_history : mg "format_history" = some (.ref f_format_history)
  b_format_history : Binds K fd_format_history ["history"] []
  f_l_bent_text : Addr
  fd_l_bent_text : FuncData
  F_l_bent_text : Fun K "_law_bent_text" "_law_bent_text" s_l_bent_text f_l_bent_text fd_l_bent_text
  g_l_bent_text : mg "_law_bent_text" = some (.ref f_l_bent_text)
  b_l_bent_text : Binds K fd_l_bent_text ["_law_draw", "_law_text"] []
  f_l_items : Addr
  fd_l_items : FuncData
  F_l_items : Fun K "_law_items" "_law_items" s_l_items f_l_items fd_l_items
  g_l_items : mg "_law_items" = some (.ref f_l_items)
  b_l_items : Binds K fd_l_items ["_law_text"] []
  f_l_number : Addr
  fd_l_number : FuncData
  F_l_number : Fun K "_law_number" "_law_number" s_l_number f_l_number fd_l_number
  g_l_number : mg "_law_number" = some (.ref f_l_number)
  b_l_number : Binds K fd_l_number ["_law_text"] []
  f_l_read : Addr
  fd_l_read : FuncData
  F_l_read : Fun K "_law_read" "_law_read" s_l_read f_l_read fd_l_read
  g_l_read : mg "_law_read" = some (.ref f_l_read)
  b_l_read : Binds K fd_l_read ["_law_text", "_law_level"] []
  f_l_written : Addr
  fd_l_written : FuncData
  F_l_written : Fun K "_law_written" "_law_written" s_l_written f_l_written fd_l_written
  g_l_written : mg "_law_written" = some (.ref f_l_written)
  b_l_written : Binds K fd_l_written ["_law_steps"] []
  f_l_same : Addr
  fd_l_same : FuncData
  F_l_same : Fun K "_law_same" "_law_same" s_l_same f_l_same fd_l_same
  g_l_same : mg "_law_same" = some (.ref f_l_same)
  b_l_same : Binds K fd_l_same ["_law_found", "_law_due"] []
  f_Reader_init : Addr
  fd_Reader_init : FuncData
  F_Reader_init : Fun K "__init__" "Reader.__init__" s_Reader_init f_Reader_init fd_Reader_init
  mk_Reader : Mk K c_Reader f_Reader_init
  b_Reader_init : Binds K fd_Reader_init ["self", "text"] []
  f_parse_number : Addr
  fd_parse_number : FuncData
  F_parse_number : Fun K "parse_number" "parse_number" s_parse_number f_parse_number fd_parse_number
  g_parse_number : mg "parse_number" = some (.ref f_parse_number)
  b_parse_number : Binds K fd_parse_number ["text"] []
  f_Reader_read_word : Addr
  fd_Reader_read_word : FuncData
  F_Reader_read_word : Fun K "read_word" "Reader.read_word" s_Reader_read_word f_Reader_read_word fd_Reader_read_word
  me_Reader_read_word : Meth K c_Reader "read_word" f_Reader_read_word
  b_Reader_read_word : Binds K fd_Reader_read_word ["self"] []
  f_Reader_expect : Addr
  fd_Reader_expect : FuncData
  F_Reader_expect : Fun K "expect" "Reader.expect" s_Reader_expect f_Reader_expect fd_Reader_expect
  me_Reader_expect : Meth K c_Reader "expect" f_Reader_expect
  b_Reader_expect : Binds K fd_Reader_expect ["self", "sign"] []
  f_Reader_read_step : Addr
  fd_Reader_read_step : FuncData
  F_Reader_read_step : Fun K "read_step" "Reader.read_step" s_Reader_read_step f_Reader_read_step fd_Reader_read_step
  me_Reader_read_step : Meth K c_Reader "read_step" f_Reader_read_step
  b_Reader_read_step : Binds K fd_Reader_read_step ["self"] []
  f_Reader_read_steps : Addr
  fd_Reader_read_steps : FuncData
  F_Reader_read_steps : Fun K "read_steps" "Reader.read_steps" s_Reader_read_steps f_Reader_read_steps fd_Reader_read_steps
  me_Reader_read_steps : Meth K c_Reader "read_steps" f_Reader_read_steps
  b_Reader_read_steps : Binds K fd_Reader_read_steps ["self"] []
  f_parse_history : Addr
  fd_parse_history : FuncData
  F_parse_history : Fun K "parse_history" "parse_history" s_parse_history f_parse_history fd_parse_history
  g_parse_history : mg "parse_history" = some (.ref f_parse_history)
  b_parse_history : Binds K fd_parse_history ["text"] []
  f_law : Addr
  fd_law : FuncData
  c_law : Addr
  F_law : FunC K "law" "law" s_law f_law fd_law c_law
  g_law : mg "law" = some (.ref f_law)
  f_l_field : Addr
  fd_l_field : FuncData
  F_l_field : Fun K "_law_field" "_law_field" s_l_field f_l_field fd_l_field
  g_l_field : mg "_law_field" = some (.ref f_l_field)
  b_l_field : Binds K fd_l_field ["_law_e"] []
  f_l_outcome : Addr
  fd_l_outcome : FuncData
  F_l_outcome : Fun K "_law_outcome" "_law_outcome" s_l_outcome f_l_outcome fd_l_outcome
  g_l_outcome : mg "_law_outcome" = some (.ref f_l_outcome)
  b_l_outcome : Binds K fd_l_outcome ["_law_ask"] []
  f_l_error : Addr
  fd_l_error : FuncData
  F_l_error : Fun K "_law_error" "_law_error" s_l_error f_l_error fd_l_error
  g_l_error : mg "_law_error" = some (.ref f_l_error)
  b_l_error : Binds K fd_l_error ["_law_ask"] []
  c_BadStep : Addr
  g_BadStep : mg "BadStep" = some (.ref c_BadStep)
  c_ParseError : Addr
  g_ParseError : mg "ParseError" = some (.ref c_ParseError)
  c_TooLong : Addr
  g_TooLong : mg "TooLong" = some (.ref c_TooLong)
  c_TreeError : Addr
  g_TreeError : mg "TreeError" = some (.ref c_TreeError)
  c_Missing : Addr
  g_Missing : mg "Missing" = some (.ref c_Missing)
  c_EmptyHistory : Addr
  g_EmptyHistory : mg "EmptyHistory" = some (.ref c_EmptyHistory)
  i_BadStep : Addr
  fdI_BadStep : FuncData
  FI_BadStep : Fun K "__init__" "BadStep.__init__" sI_BadStep i_BadStep fdI_BadStep
  bI_BadStep : Binds K fdI_BadStep ["self", "pos"] []
  XK_BadStep : XKnown K "BadStep" c_BadStep i_BadStep
  XM_BadStep : XMatch K "BadStep" c_BadStep c_TreeError c_Missing c_EmptyHistory
  XO_BadStep : PySem.W.exmOne K (.ref c_BadStep) (.ref c_TreeError) = some true
  i_ParseError : Addr
  fdI_ParseError : FuncData
  FI_ParseError : Fun K "__init__" "ParseError.__init__" sI_ParseError i_ParseError fdI_ParseError
  bI_ParseError : Binds K fdI_ParseError ["self", "pos"] []
  XK_ParseError : XKnown K "ParseError" c_ParseError i_ParseError
  XM_ParseError : XMatch K "ParseError" c_ParseError c_TreeError c_Missing c_EmptyHistory
  i_TooLong : Addr
  fdI_TooLong : FuncData
  FI_TooLong : Fun K "__init__" "TooLong.__init__" sI_TooLong i_TooLong fdI_TooLong
  bI_TooLong : Binds K fdI_TooLong ["self", "limit"] []
  XK_TooLong : XKnown K "TooLong" c_TooLong i_TooLong
  XM_TooLong : XMatch K "TooLong" c_TooLong c_TreeError c_Missing c_EmptyHistory
  XO_TooLong : PySem.W.exmOne K (.ref c_TooLong) (.ref c_TreeError) = some true
  m_abs : mg "abs" = none
  m_all : mg "all" = none
  m_bool : mg "bool" = none
  m_int : mg "int" = none
  m_isinstance : mg "isinstance" = none
  m_len : mg "len" = none
  m_list : mg "list" = none
  m_range : mg "range" = none
  m_str : mg "str" = none
  m_sum : mg "sum" = none
  m_tuple : mg "tuple" = none
  m_zip : mg "zip" = none
  t_COUNT_LIMIT : Tok
  m_COUNT_LIMIT : mg "COUNT_LIMIT" = some (.int 1000000000000000000000000000000 t_COUNT_LIMIT)
  t_DIGITS : Tok
  m_DIGITS : mg "DIGITS" = some (.str "0123456789" t_DIGITS)
  t_KEY_LIMIT : Tok
  m_KEY_LIMIT : mg "KEY_LIMIT" = some (.int 1000000000 t_KEY_LIMIT)
  t_MAX_DIGITS : Tok
  m_MAX_DIGITS : mg "MAX_DIGITS" = some (.int 31 t_MAX_DIGITS)
  t_MAX_NESTING : Tok
  m_MAX_NESTING : mg "MAX_NESTING" = some (.int 4 t_MAX_NESTING)
  t_MAX_STEPS : Tok
  m_MAX_STEPS : mg "MAX_STEPS" = some (.int 100 t_MAX_STEPS)
section
variable {P : Program} {w : World} {K : PySem.W.Frag} {mg : Str → Option Value} {base : Heap}
theorem okI_BadStep (T : Txt K mg) : FnOk P w K mg base CX0 1 T.i_BadStep T.fdI_BadStep ["self", "pos"] (spInit K "BadStep" T.c_BadStep T.i_BadStep) :=
  init2 T.FI_BadStep scI_BadStep rfl fun cdv A outer s H E => pss_one (ps_asg (pe_tup (pa_cons pe_str (pa_cons (pv 1) pa_nil))) (pg_tup rfl (pgs_cons (pg_ost (pv 0)) (pgs_cons (pg_ost (pv 0)) pgs_nil))))
theorem okI_ParseError (T : Txt K mg) : FnOk P w K mg base CX0 1 T.i_ParseError T.fdI_ParseError ["self", "pos"] (spInit K "ParseError" T.c_ParseError T.i_ParseError) :=
  init2 T.FI_ParseError scI_ParseError rfl fun cdv A outer s H E => pss_one (ps_asg (pe_tup (pa_cons pe_str (pa_cons (pv 1) pa_nil))) (pg_tup rfl (pgs_cons (pg_ost (pv 0)) (pgs_cons (pg_ost (pv 0)) pgs_nil))))
theorem hotI_ParseError (T : Txt K mg) : ∀ (cdv : Value) (A : Around) (outer : List Env) (s : Shared) (H : Hp) (q : Addr × Obj), L2H.Hot1 A q → PSs (L2H.cxH CX0 P w K mg base ["self", "pos"] "ParseError.__init__" (defScope sI_ParseError) T.i_ParseError cdv A outer s H (fun _ _ _ => False) q) (defBody sI_ParseError)
      (tAsg (tTup (tCons (tC (.str "ParseError")) (tCons (tVar 1) tNil))) (gTup K 2 (gCons (gOst K "tag" (tVar 0)) (gCons (gOst K "pos" (tVar 0)) gNil)))) :=
  fun cdv A outer s H q hq => pss_one (ps_asg (pe_tup (pa_cons pe_str (pa_cons (pv 1) pa_nil))) (pg_tupHot ⟨q, hq.1, List.mem_cons_self .., hq.2.choose, hq.2.choose_spec.1, .inl hq.2.choose_spec.2⟩ (pgs_cons (pg_ost (pv 0)) (pgs_cons (pg_ost (pv 0)) pgs_nil))))
theorem okI_TooLong (T : Txt K mg) : FnOk P w K mg base CX0 1 T.i_TooLong T.fdI_TooLong ["self", "limit"] (spInit K "TooLong" T.c_TooLong T.i_TooLong) :=
  init2 T.FI_TooLong scI_TooLong rfl fun cdv A outer s H E => pss_one (ps_asg (pe_tup (pa_cons pe_str (pa_cons (pv 1) pa_nil))) (pg_tup rfl (pgs_cons (pg_ost (pv 0)) (pgs_cons (pg_ost (pv 0)) pgs_nil))))
abbrev tl0 : List Str := ["BadStep", "ParseError", "TooLong"]
def outF (T : Txt K mg) : OutFacts P w K mg base tl0 where
  C1 := T.c_TreeError; C2 := T.c_Missing; C3 := T.c_EmptyHistory; gO := T.f_l_outcome; gF := T.f_l_field; fdO := T.fd_l_outcome; fdF := T.fd_l_field; stO := s_l_outcome; stF := s_l_field
  FO := T.F_l_outcome; SO := sc_l_outcome; bO := T.b_l_outcome; mO := T.g_l_outcome; FF := T.F_l_field; SF := sc_l_field; bF := T.b_l_field; mF := T.g_l_field
  glF := (by rfl); viE := .inl (by rfl)
  shape := fun cdv A outer s H te tF ha hf => pss_cons (ps_asg (pe_tup (pa_cons pe_non (pa_cons pe_str (pa_cons pe_non pa_nil)))) (pg_tup rfl (pgs_cons (pg_name sc_l_outcome.nd rfl (.inl rfl)) (pgs_cons (pg_name sc_l_outcome.nd rfl (.inl rfl)) (pgs_cons (pg_name sc_l_outcome.nd rfl (.inl rfl)) pgs_nil)))))
    (pss_cons (ps_try2 (tb := fun W D σ H => (tAsg (te W) (gName 1)) D σ H) rfl rfl sc_l_outcome.nd rfl rfl (by rfl) T.g_TreeError (by rfl) T.g_Missing (by rfl) T.g_EmptyHistory (fun W pn xe tk => pss_one (ps_set sc_l_outcome.nd rfl (.inl rfl) (ha W pn xe _ _ tk)))
      fun a oe cls d pn hz hf2 hot2 => ⟨pss_one (ps_parHot hot2 sc_l_outcome.nd rfl rfl (by decide) rfl rfl (pa_cons (pe_xq hz hf2 (List.mem_cons_self ..) (pv 4)) (pa_cons (hf a oe cls d pn _ _ _ hz hf2) pa_nil)) rfl),
        pss_one (ps_set sc_l_outcome.nd rfl (.inl rfl) (pe_xq hz hf2 (List.mem_cons_self ..) (pv 4)))⟩)
    (pss_one (ps_ret (pe_tup (pa_cons (pv 1) (pa_cons (pv 2) (pa_cons (pv 3) pa_nil)))))))
  fld := fun cdv A outer s H p C dd tag x S₁ hr k0 => ⟨w_l_field p.1 tag x, (vss_cons (vs_if (vt_in (hu_ofH hr) (ve_xaT k0 (List.mem_cons_self ..) (ve_var 0)) (ve_tup (va_cons ve_str (va_cons ve_str (va_cons ve_str (va_cons ve_str (va_cons ve_str (va_cons ve_str (va_cons ve_str va_nil))))))))) (vss_one (vs_ret (ve_xaF (n := "key") k0 (List.mem_cons_self ..) (ve_var 0)))) vss_nil)
    (vss_cons (vs_if (vt_in (hu_ofH hr) (ve_xaT k0 (List.mem_cons_self ..) (ve_var 0)) (ve_tup (va_cons ve_str (va_cons ve_str (va_cons ve_str (va_cons ve_str (va_cons ve_str va_nil))))))) (vss_one (vs_ret (ve_xaF (n := "pos") k0 (List.mem_cons_self ..) (ve_var 0)))) vss_nil)
    (vss_cons (vs_if (vt_in (hu_ofH hr) (ve_xaT k0 (List.mem_cons_self ..) (ve_var 0)) (ve_tup (va_cons ve_str (va_cons ve_str (va_cons ve_str (va_cons ve_str va_nil)))))) (vss_one (vs_ret (ve_xaF (n := "limit") k0 (List.mem_cons_self ..) (ve_var 0)))) vss_nil)
    (vss_cons (vs_if (vt_in (hu_ofH hr) (ve_xaT k0 (List.mem_cons_self ..) (ve_var 0)) (ve_tup (va_cons ve_str (va_cons ve_str (va_cons ve_str (va_cons ve_str va_nil)))))) (vss_one (vs_ret (ve_xaF (n := "name") k0 (List.mem_cons_self ..) (ve_var 0)))) vss_nil)
    (vss_cons (vs_if (vt_eq (hu64H hr) (ve_xaT k0 (List.mem_cons_self ..) (ve_var 0)) ve_str) (vss_one (vs_ret (ve_xaF (n := "size") k0 (List.mem_cons_self ..) (ve_var 0)))) vss_nil)
    (vss_one (vs_ret (ve_ifE (vt_eq (hu64H hr) (ve_xaT k0 (List.mem_cons_self ..) (ve_var 0)) ve_str) (ve_xaF (n := "word") k0 (List.mem_cons_self ..) (ve_var 0)) (ve_xaF (n := "number") k0 (List.mem_cons_self ..) (ve_var 0)))))))))), fun Φ M h1 h2 => r_l_field h1 h2⟩
  kn := fun tag ht C hC => by
    simp only [List.mem_cons, List.not_mem_nil, or_false] at ht
    rcases ht with rfl | rfl | rfl
    · cases hC.symm.trans T.g_BadStep; exact ⟨⟨_, T.XK_BadStep⟩, T.XM_BadStep⟩
    · cases hC.symm.trans T.g_ParseError; exact ⟨⟨_, T.XK_ParseError⟩, T.XM_ParseError⟩
    · cases hC.symm.trans T.g_TooLong; exact ⟨⟨_, T.XK_TooLong⟩, T.XM_TooLong⟩
def errF (T : Txt K mg) : ErrFacts P w K mg base (outF (P := P) (w := w) (base := base) T).gO where
  gE := T.f_l_error; fdE := T.fd_l_error; stE := s_l_error; FE := T.F_l_error; SE := sc_l_error; bE := T.b_l_error; mE := T.g_l_error; glO := (by rfl)
  shape := fun cdv A outer s H S₁ wO h => vss_one (vs_ret (ve_slice (h _ _ _) (vo_some ve_int) vo_none))
theorem ok_l_start (T : Txt K mg) : FnOk P w K mg base CX0 1 T.f_l_start T.fd_l_start ["_law_script"] (spW K W_l_start) :=
  fnW (k := 0) T.F_l_start sc_l_start (by first | (rintro _ _ _ ⟨rfl, _⟩ <;> rfl) | (rintro _ _ _ ⟨_, rfl, _⟩ <;> rfl) | (rintro _ _ _ ⟨_, _, rfl, _⟩ <;> rfl) | (rintro _ _ _ ⟨_, _, _, rfl, _⟩ <;> rfl) | (rintro _ _ _ ⟨_, _, _, _, rfl, _⟩ <;> rfl) | (rintro _ _ _ ⟨_, _, _, _, _, rfl, _⟩ <;> rfl) | (rintro _ _ _ ⟨_, _, _, _, _, _, rfl, _⟩ <;> rfl) | (rintro _ _ _ ⟨_, _, _, _, _, _, _, rfl, _⟩ <;> rfl) | (rintro _ _ _ ⟨_, _, _, _, _, _, _, _, rfl, _⟩ <;> rfl) | (rintro _ _ _ ⟨_, _, _, _, _, _, _, _, _, rfl, _⟩ <;> rfl) | (rintro _ _ _ ⟨_, rfl | rfl, _⟩; rfl; rfl) | (rintro _ _ _ ⟨_, _, rfl | rfl, _⟩; rfl; rfl) | (rintro _ _ _ ⟨_, rfl | rfl, _⟩ <;> rfl) | (rintro _ _ _ ⟨_, _, rfl | rfl, _⟩ <;> rfl) | (rintro _ _ _ ⟨_, _, _, rfl | rfl, _⟩ <;> rfl) | (rintro _ _ _ ⟨_, _, _, _, rfl | rfl, _⟩ <;> rfl) | (rintro _ _ _ ⟨_, _, ⟨rfl, _⟩ | ⟨rfl, _⟩, _⟩ <;> rfl) | (rintro _ _ _ ⟨_, ⟨rfl, _⟩ | ⟨rfl, _⟩, _⟩ <;> rfl) | (rintro _ _ _ (⟨_, _, rfl, _⟩ | ⟨_, _, _, rfl, _⟩) <;> rfl) | (rintro _ _ _ (⟨_, _, _, rfl | rfl, _⟩ | ⟨_, _, _, _, rfl, _⟩) <;> rfl)) fun cdv A outer s H E hr S₀ => ⟨w_l_start, (vss_one (vs_ret (ve_lstM (va_cons (ve_lstC (by rfl) T.m_list (va_cons (ve_slice (ve_var 0) vo_none (vo_some ve_int)) va_nil)) (va_cons ve_int (va_cons ve_int (va_cons (ve_add ve_int (ve_mul ve_int (ve_len (by rfl) T.m_len (va_cons (ve_slice (ve_var 0) vo_none (vo_some ve_int)) va_nil)))) va_nil))))))), r_l_start⟩
theorem ok_l_take (T : Txt K mg) : FnOk P w K mg base CX0 1 T.f_l_take T.fd_l_take ["_law_draw", "_law_many"] (spW K W_l_take) :=
  fnW (k := 0) T.F_l_take sc_l_take (by first | (rintro _ _ _ ⟨rfl, _⟩ <;> rfl) | (rintro _ _ _ ⟨_, rfl, _⟩ <;> rfl) | (rintro _ _ _ ⟨_, _, rfl, _⟩ <;> rfl) | (rintro _ _ _ ⟨_, _, _, rfl, _⟩ <;> rfl) | (rintro _ _ _ ⟨_, _, _, _, rfl, _⟩ <;> rfl) | (rintro _ _ _ ⟨_, _, _, _, _, rfl, _⟩ <;> rfl) | (rintro _ _ _ ⟨_, _, _, _, _, _, rfl, _⟩ <;> rfl) | (rintro _ _ _ ⟨_, _, _, _, _, _, _, rfl, _⟩ <;> rfl) | (rintro _ _ _ ⟨_, _, _, _, _, _, _, _, rfl, _⟩ <;> rfl) | (rintro _ _ _ ⟨_, _, _, _, _, _, _, _, _, rfl, _⟩ <;> rfl) | (rintro _ _ _ ⟨_, rfl | rfl, _⟩; rfl; rfl) | (rintro _ _ _ ⟨_, _, rfl | rfl, _⟩; rfl; rfl) | (rintro _ _ _ ⟨_, rfl | rfl, _⟩ <;> rfl) | (rintro _ _ _ ⟨_, _, rfl | rfl, _⟩ <;> rfl) | (rintro _ _ _ ⟨_, _, _, rfl | rfl, _⟩ <;> rfl) | (rintro _ _ _ ⟨_, _, _, _, rfl | rfl, _⟩ <;> rfl) | (rintro _ _ _ ⟨_, _, ⟨rfl, _⟩ | ⟨rfl, _⟩, _⟩ <;> rfl) | (rintro _ _ _ ⟨_, ⟨rfl, _⟩ | ⟨rfl, _⟩, _⟩ <;> rfl) | (rintro _ _ _ (⟨_, _, rfl, _⟩ | ⟨_, _, _, rfl, _⟩) <;> rfl) | (rintro _ _ _ (⟨_, _, _, rfl | rfl, _⟩ | ⟨_, _, _, _, rfl, _⟩) <;> rfl)) fun cdv A outer s H E hr S₀ => ⟨w_l_take, (vss_cons (vs_if (vw_pt (vw_and (vt_lt (ve_ix (hu_of hr) (ve_var 0) ve_int) (ve_var 1)) (vw_and1 (vt_lt (ve_ix (hu_of hr) (ve_var 0) ve_int) (ve_len (by rfl) T.m_len (va_cons (ve_ix (hu_of hr) (ve_var 0) ve_int) va_nil)))))) (vss_cons (vs_set 2 sc_l_take.nd (ve_ix (hu_of hr) (ve_ix (hu_of hr) (ve_var 0) ve_int) (ve_ix (hu_of hr) (ve_var 0) ve_int)))
    (vss_cons (vs_asg (ve_add (ve_ix (hu_of hr) (ve_var 0) ve_int) ve_int) (show VG _ _ _ _ [] from (vg_sub (hu_of hr) (ve_var 0) ve_int)))
    (vss_cons (vs_asg ve_int (show VG _ _ _ _ [] from (vg_sub (hu_of hr) (ve_var 0) ve_int)))
    (vss_cons (vs_if (vt_ge (ve_var 2) (ve_pow ve_int ve_int)) (vss_one (vs_asg (ve_var 2) (show VG _ _ _ _ [] from (vg_sub (hu_of hr) (ve_var 0) ve_int)))) vss_nil)
    (vss_one (vs_asg (ve_mod (ve_add (ve_add (ve_mul (ve_ix (hu_of hr) (ve_var 0) ve_int) ve_int) (ve_mul (ve_mod (ve_var 2) ve_int) ve_int)) (ve_ix (hu_of hr) (ve_var 0) ve_int)) ve_int) (show VG _ _ _ _ [] from (vg_sub (hu_of hr) (ve_var 0) ve_int)))))))) vss_nil)
    (vss_cons (vs_if (vt_ge (ve_ix (hu_of hr) (ve_var 0) ve_int) (ve_var 1)) (vss_cons (vs_set 3 sc_l_take.nd (ve_mod (ve_ix (hu_of hr) (ve_var 0) ve_int) (ve_var 1)))
    (vss_cons (vs_asg (ve_fdiv (ve_ix (hu_of hr) (ve_var 0) ve_int) (ve_var 1)) (show VG _ _ _ _ [] from (vg_sub (hu_of hr) (ve_var 0) ve_int)))
    (vss_one (vs_ret (ve_var 3))))) vss_nil)
    (vss_cons (vs_set 4 sc_l_take.nd (ve_mod (ve_mul (ve_ix (hu_of hr) (ve_var 0) ve_int) (ve_ix (hu_of hr) (ve_var 0) ve_int)) ve_int))
    (vss_cons (vs_asg (ve_mod (ve_add (ve_add (ve_mul (ve_var 4) ve_int) (ve_mul (ve_ix (hu_of hr) (ve_var 0) ve_int) ve_int)) ve_int) ve_int) (show VG _ _ _ _ [] from (vg_sub (hu_of hr) (ve_var 0) ve_int)))
    (vss_one (vs_ret (ve_mod (ve_fdiv (ve_ix (hu_of hr) (ve_var 0) ve_int) ve_int) (ve_var 1)))))))), r_l_take⟩
theorem ok_l_of (T : Txt K mg) (G_l_take : FnOk P w K mg base CX0 1 T.f_l_take T.fd_l_take ["_law_draw", "_law_many"] (spW K W_l_take)) : FnOk P w K mg base CX0 2 T.f_l_of T.fd_l_of ["_law_draw", "_law_some"] (spW K W_l_of) :=
  fnW (k := 1) T.F_l_of sc_l_of (by first | (rintro _ _ _ ⟨rfl, _⟩ <;> rfl) | (rintro _ _ _ ⟨_, rfl, _⟩ <;> rfl) | (rintro _ _ _ ⟨_, _, rfl, _⟩ <;> rfl) | (rintro _ _ _ ⟨_, _, _, rfl, _⟩ <;> rfl) | (rintro _ _ _ ⟨_, _, _, _, rfl, _⟩ <;> rfl) | (rintro _ _ _ ⟨_, _, _, _, _, rfl, _⟩ <;> rfl) | (rintro _ _ _ ⟨_, _, _, _, _, _, rfl, _⟩ <;> rfl) | (rintro _ _ _ ⟨_, _, _, _, _, _, _, rfl, _⟩ <;> rfl) | (rintro _ _ _ ⟨_, _, _, _, _, _, _, _, rfl, _⟩ <;> rfl) | (rintro _ _ _ ⟨_, _, _, _, _, _, _, _, _, rfl, _⟩ <;> rfl) | (rintro _ _ _ ⟨_, rfl | rfl, _⟩; rfl; rfl) | (rintro _ _ _ ⟨_, _, rfl | rfl, _⟩; rfl; rfl) | (rintro _ _ _ ⟨_, rfl | rfl, _⟩ <;> rfl) | (rintro _ _ _ ⟨_, _, rfl | rfl, _⟩ <;> rfl) | (rintro _ _ _ ⟨_, _, _, rfl | rfl, _⟩ <;> rfl) | (rintro _ _ _ ⟨_, _, _, _, rfl | rfl, _⟩ <;> rfl) | (rintro _ _ _ ⟨_, _, ⟨rfl, _⟩ | ⟨rfl, _⟩, _⟩ <;> rfl) | (rintro _ _ _ ⟨_, ⟨rfl, _⟩ | ⟨rfl, _⟩, _⟩ <;> rfl) | (rintro _ _ _ (⟨_, _, rfl, _⟩ | ⟨_, _, _, rfl, _⟩) <;> rfl) | (rintro _ _ _ (⟨_, _, _, rfl | rfl, _⟩ | ⟨_, _, _, _, rfl, _⟩) <;> rfl)) fun cdv A outer s H E hr S₀ => ⟨w_l_of, (vss_one (vs_ret (ve_ix (hu_of hr) (ve_var 1) (ve_call G_l_take (hr.mono (by omega)) (by rfl) T.g_l_take T.F_l_take.kp T.b_l_take (va_cons (ve_var 0) (va_cons (ve_len (by rfl) T.m_len (va_cons (ve_var 1) va_nil)) va_nil)))))), r_l_of⟩
theorem ok_l_keys (T : Txt K mg) (G_l_of : FnOk P w K mg base CX0 2 T.f_l_of T.fd_l_of ["_law_draw", "_law_some"] (spW K W_l_of)) (G_l_take : FnOk P w K mg base CX0 1 T.f_l_take T.fd_l_take ["_law_draw", "_law_many"] (spW K W_l_take)) : FnOk P w K mg base CX0 3 T.f_l_keys T.fd_l_keys ["_law_draw", "_law_many"] (spW K W_l_keys) :=
  fnW (k := 2) T.F_l_keys sc_l_keys (by first | (rintro _ _ _ ⟨rfl, _⟩ <;> rfl) | (rintro _ _ _ ⟨_, rfl, _⟩ <;> rfl) | (rintro _ _ _ ⟨_, _, rfl, _⟩ <;> rfl) | (rintro _ _ _ ⟨_, _, _, rfl, _⟩ <;> rfl) | (rintro _ _ _ ⟨_, _, _, _, rfl, _⟩ <;> rfl) | (rintro _ _ _ ⟨_, _, _, _, _, rfl, _⟩ <;> rfl) | (rintro _ _ _ ⟨_, _, _, _, _, _, rfl, _⟩ <;> rfl) | (rintro _ _ _ ⟨_, _, _, _, _, _, _, rfl, _⟩ <;> rfl) | (rintro _ _ _ ⟨_, _, _, _, _, _, _, _, rfl, _⟩ <;> rfl) | (rintro _ _ _ ⟨_, _, _, _, _, _, _, _, _, rfl, _⟩ <;> rfl) | (rintro _ _ _ ⟨_, rfl | rfl, _⟩; rfl; rfl) | (rintro _ _ _ ⟨_, _, rfl | rfl, _⟩; rfl; rfl) | (rintro _ _ _ ⟨_, rfl | rfl, _⟩ <;> rfl) | (rintro _ _ _ ⟨_, _, rfl | rfl, _⟩ <;> rfl) | (rintro _ _ _ ⟨_, _, _, rfl | rfl, _⟩ <;> rfl) | (rintro _ _ _ ⟨_, _, _, _, rfl | rfl, _⟩ <;> rfl) | (rintro _ _ _ ⟨_, _, ⟨rfl, _⟩ | ⟨rfl, _⟩, _⟩ <;> rfl) | (rintro _ _ _ ⟨_, ⟨rfl, _⟩ | ⟨rfl, _⟩, _⟩ <;> rfl) | (rintro _ _ _ (⟨_, _, rfl, _⟩ | ⟨_, _, _, rfl, _⟩) <;> rfl) | (rintro _ _ _ (⟨_, _, _, rfl | rfl, _⟩ | ⟨_, _, _, _, rfl, _⟩) <;> rfl)) fun cdv A outer s H E hr S₀ => ⟨w_l_keys, (vss_cons (vs_set 2 sc_l_keys.nd (ve_call G_l_of (hr.mono (by omega)) (by rfl) T.g_l_of T.F_l_of.kp T.b_l_of (va_cons (ve_var 0) (va_cons (ve_lst (va_cons (ve_sub ve_int ve_int) (va_cons ve_int (va_cons (ve_sub ve_int (ve_pow ve_int ve_int)) (va_cons (ve_sub (ve_pow ve_int ve_int) ve_int) (va_cons (ve_call G_l_take (hr.mono (by omega)) (by rfl) T.g_l_take T.F_l_take.kp T.b_l_take (va_cons (ve_var 0) (va_cons (ve_pow ve_int ve_int) va_nil))) va_nil)))))) va_nil))))
    (vss_cons (vs_par 3 4 rfl sc_l_keys.nd (va_cons (ve_call G_l_of (hr.mono (by omega)) (by rfl) T.g_l_of T.F_l_of.kp T.b_l_of (va_cons (ve_var 0) (va_cons (ve_lst (va_cons ve_int (va_cons ve_int (va_cons ve_int (va_cons ve_int va_nil))))) va_nil))) (va_cons (ve_lstM va_nil) va_nil)))
    (vss_cons (vs_for PassesOwn.never rfl (vi_rng1 (by rfl) T.m_range (va_cons (ve_var 1) va_nil)) (show VG _ _ _ _ [5] from (vg_name 5 sc_l_keys.nd)) (vss_cons (vs_expr (ve_append (ve_var 4) (va_cons (ve_var 2) va_nil)))
    (vss_one (vs_set 2 sc_l_keys.nd (ve_add (ve_add (ve_var 2) ve_int) (ve_call G_l_take (hr.mono (by omega)) (by rfl) T.g_l_take T.F_l_take.kp T.b_l_take (va_cons (ve_var 0) (va_cons (ve_var 3) va_nil))))))))
    (vss_one (vs_retF (ve_var 4)))))), r_l_keys⟩
theorem ok_l_step (T : Txt K mg) (G_l_take : FnOk P w K mg base CX0 1 T.f_l_take T.fd_l_take ["_law_draw", "_law_many"] (spW K W_l_take)) (G_l_of : FnOk P w K mg base CX0 2 T.f_l_of T.fd_l_of ["_law_draw", "_law_some"] (spW K W_l_of)) : ∀ n, FnOk P w K mg base CX0 (2 + 1 + n) T.f_l_step T.fd_l_step ["_law_draw", "_law_keys_here", "_law_deep"] (spW K (W_l_step n)) := by
  intro n
  induction n with
  | zero => exact fnW (k := 2) T.F_l_step sc_l_step (by intro _ _ _ h; first | exact h.elim | (obtain ⟨_, _, h, _⟩ := h; exact h.elim) | (obtain ⟨_, h⟩ := h; exact h.elim) | (obtain ⟨_, h, _⟩ := h; exact h.elim)) fun cdv A outer s H E hr S₀ => ⟨sNever, vss_never, (by intro _ _ _ h; first | exact h.elim | (obtain ⟨_, _, h, _⟩ := h; exact h.elim) | (obtain ⟨_, h⟩ := h; exact h.elim) | (obtain ⟨_, h, _⟩ := h; exact h.elim))⟩
  | succ n G_l_step => exact fnW (k := 2 + 1 + n) T.F_l_step sc_l_step (by first | (rintro _ _ _ ⟨rfl, _⟩ <;> rfl) | (rintro _ _ _ ⟨_, rfl, _⟩ <;> rfl) | (rintro _ _ _ ⟨_, _, rfl, _⟩ <;> rfl) | (rintro _ _ _ ⟨_, _, _, rfl, _⟩ <;> rfl) | (rintro _ _ _ ⟨_, _, _, _, rfl, _⟩ <;> rfl) | (rintro _ _ _ ⟨_, _, _, _, _, rfl, _⟩ <;> rfl) | (rintro _ _ _ ⟨_, _, _, _, _, _, rfl, _⟩ <;> rfl) | (rintro _ _ _ ⟨_, _, _, _, _, _, _, rfl, _⟩ <;> rfl) | (rintro _ _ _ ⟨_, _, _, _, _, _, _, _, rfl, _⟩ <;> rfl) | (rintro _ _ _ ⟨_, _, _, _, _, _, _, _, _, rfl, _⟩ <;> rfl) | (rintro _ _ _ ⟨_, rfl | rfl, _⟩; rfl; rfl) | (rintro _ _ _ ⟨_, _, rfl | rfl, _⟩; rfl; rfl) | (rintro _ _ _ ⟨_, rfl | rfl, _⟩ <;> rfl) | (rintro _ _ _ ⟨_, _, rfl | rfl, _⟩ <;> rfl) | (rintro _ _ _ ⟨_, _, _, rfl | rfl, _⟩ <;> rfl) | (rintro _ _ _ ⟨_, _, _, _, rfl | rfl, _⟩ <;> rfl) | (rintro _ _ _ ⟨_, _, ⟨rfl, _⟩ | ⟨rfl, _⟩, _⟩ <;> rfl) | (rintro _ _ _ ⟨_, ⟨rfl, _⟩ | ⟨rfl, _⟩, _⟩ <;> rfl) | (rintro _ _ _ (⟨_, _, rfl, _⟩ | ⟨_, _, _, rfl, _⟩) <;> rfl) | (rintro _ _ _ (⟨_, _, _, rfl | rfl, _⟩ | ⟨_, _, _, _, rfl, _⟩) <;> rfl)) fun cdv A outer s H E hr S₀ => ⟨w_l_step (W_l_step n), (vss_cons (vs_if (vw_pt (vw_or (vt_eq hr.units (ve_var 2) ve_int) (vw_or1 (vt_gt (ve_call G_l_take (hr.mono (by omega)) (by rfl) T.g_l_take T.F_l_take.kp T.b_l_take (va_cons (ve_var 0) (va_cons ve_int va_nil))) ve_int)))) (vss_one (vs_ret (ve_call G_l_of (hr.mono (by omega)) (by rfl) T.g_l_of T.F_l_of.kp T.b_l_of (va_cons (ve_var 0) (va_cons (ve_var 1) va_nil))))) vss_nil)
    (vss_cons (vs_set 3 sc_l_step.nd (ve_call G_l_of (hr.mono (by omega)) (by rfl) T.g_l_of T.F_l_of.kp T.b_l_of (va_cons (ve_var 0) (va_cons (ve_lst (va_cons ve_int (va_cons ve_int (va_cons ve_int (va_cons ve_int (va_cons (ve_call G_l_take (hr.mono (by omega)) (by rfl) T.g_l_take T.F_l_take.kp T.b_l_take (va_cons (ve_var 0) (va_cons ve_int va_nil))) (va_cons (ve_pow ve_int ve_int) (va_cons (ve_call G_l_take (hr.mono (by omega)) (by rfl) T.g_l_take T.F_l_take.kp T.b_l_take (va_cons (ve_var 0) (va_cons (ve_pow ve_int ve_int) va_nil))) va_nil)))))))) va_nil))))
    (vss_cons (vs_setLc 4 (own := [("_law_k", 5)]) rfl sc_l_step.nd (vi_rng1 (by rfl) T.m_range (va_cons (ve_call G_l_take (hr.mono (by omega)) (by rfl) T.g_l_take T.F_l_take.kp T.b_l_take (va_cons (ve_var 0) (va_cons ve_int va_nil))) va_nil)) (blkOk_by (N := N_l_step) (sc := defScope s_l_step) (by decide +kernel)) (fun _ _ _ _ _ => (vg_name 5 sc_l_step.nd)) (fun _ _ _ _ _ => vts_nil) (fun _ _ _ _ _ => (ve_call G_l_step (hr.mono (by omega)) (by rfl) T.g_l_step T.F_l_step.kp T.b_l_step (va_cons (ve_var 0) (va_cons (ve_var 1) (va_cons (ve_sub (ve_var 2) ve_int) va_nil))))) (sw_true rfl rfl rfl (by decide +kernel)))
    (vss_one (vs_ret (ve_tup (va_cons ve_str (va_cons (ve_var 3) (va_cons (ve_call G_l_of (hr.mono (by omega)) (by rfl) T.g_l_of T.F_l_of.kp T.b_l_of (va_cons (ve_var 0) (va_cons (ve_lst (va_cons (ve_tupC (by rfl) T.m_tuple (va_cons (ve_var 4) va_nil)) (va_cons (ve_var 4) va_nil))) va_nil))) va_nil))))))))), r_l_step n⟩
theorem ok_l_history (T : Txt K mg) (G_l_take : FnOk P w K mg base CX0 1 T.f_l_take T.fd_l_take ["_law_draw", "_law_many"] (spW K W_l_take)) (G_l_step : FnOk P w K mg base CX0 8 T.f_l_step T.fd_l_step ["_law_draw", "_law_keys_here", "_law_deep"] (spW K (W_l_step 5))) : FnOk P w K mg base CX0 9 T.f_l_history T.fd_l_history ["_law_draw", "_law_keys_here", "_law_most", "_law_deep"] (spW K W_l_history) :=
  fnW (k := 8) T.F_l_history sc_l_history (by first | (rintro _ _ _ ⟨rfl, _⟩ <;> rfl) | (rintro _ _ _ ⟨_, rfl, _⟩ <;> rfl) | (rintro _ _ _ ⟨_, _, rfl, _⟩ <;> rfl) | (rintro _ _ _ ⟨_, _, _, rfl, _⟩ <;> rfl) | (rintro _ _ _ ⟨_, _, _, _, rfl, _⟩ <;> rfl) | (rintro _ _ _ ⟨_, _, _, _, _, rfl, _⟩ <;> rfl) | (rintro _ _ _ ⟨_, _, _, _, _, _, rfl, _⟩ <;> rfl) | (rintro _ _ _ ⟨_, _, _, _, _, _, _, rfl, _⟩ <;> rfl) | (rintro _ _ _ ⟨_, _, _, _, _, _, _, _, rfl, _⟩ <;> rfl) | (rintro _ _ _ ⟨_, _, _, _, _, _, _, _, _, rfl, _⟩ <;> rfl) | (rintro _ _ _ ⟨_, rfl | rfl, _⟩; rfl; rfl) | (rintro _ _ _ ⟨_, _, rfl | rfl, _⟩; rfl; rfl) | (rintro _ _ _ ⟨_, rfl | rfl, _⟩ <;> rfl) | (rintro _ _ _ ⟨_, _, rfl | rfl, _⟩ <;> rfl) | (rintro _ _ _ ⟨_, _, _, rfl | rfl, _⟩ <;> rfl) | (rintro _ _ _ ⟨_, _, _, _, rfl | rfl, _⟩ <;> rfl) | (rintro _ _ _ ⟨_, _, ⟨rfl, _⟩ | ⟨rfl, _⟩, _⟩ <;> rfl) | (rintro _ _ _ ⟨_, ⟨rfl, _⟩ | ⟨rfl, _⟩, _⟩ <;> rfl) | (rintro _ _ _ (⟨_, _, rfl, _⟩ | ⟨_, _, _, rfl, _⟩) <;> rfl) | (rintro _ _ _ (⟨_, _, _, rfl | rfl, _⟩ | ⟨_, _, _, _, rfl, _⟩) <;> rfl)) fun cdv A outer s H E hr S₀ => ⟨w_l_history, (vss_one (vs_ret (ve_lc (own := [("_law_k", 4)]) rfl sc_l_history.nd (vi_rng1 (by rfl) T.m_range (va_cons (ve_call G_l_take (hr.mono (by omega)) (by rfl) T.g_l_take T.F_l_take.kp T.b_l_take (va_cons (ve_var 0) (va_cons (ve_add (ve_var 2) ve_int) va_nil))) va_nil)) (blkOk_by (N := N_l_history) (sc := defScope s_l_history) (by decide +kernel)) (fun _ _ _ _ _ => (vg_name 4 sc_l_history.nd)) (fun _ _ _ _ _ => vts_nil) (fun _ _ _ _ _ => (ve_call G_l_step (hr.mono (by omega)) (by rfl) T.g_l_step T.F_l_step.kp T.b_l_step (va_cons (ve_var 0) (va_cons (ve_var 1) (va_cons (ve_var 3) va_nil)))))))), r_l_history⟩
theorem ok_is_key (T : Txt K mg) : FnOk P w K mg base CX0 1 T.f_is_key T.fd_is_key ["number"] (spW K W_is_key) :=
  fnW (k := 0) T.F_is_key sc_is_key (by first | (rintro _ _ _ ⟨rfl, _⟩ <;> rfl) | (rintro _ _ _ ⟨_, rfl, _⟩ <;> rfl) | (rintro _ _ _ ⟨_, _, rfl, _⟩ <;> rfl) | (rintro _ _ _ ⟨_, _, _, rfl, _⟩ <;> rfl) | (rintro _ _ _ ⟨_, _, _, _, rfl, _⟩ <;> rfl) | (rintro _ _ _ ⟨_, _, _, _, _, rfl, _⟩ <;> rfl) | (rintro _ _ _ ⟨_, _, _, _, _, _, rfl, _⟩ <;> rfl) | (rintro _ _ _ ⟨_, _, _, _, _, _, _, rfl, _⟩ <;> rfl) | (rintro _ _ _ ⟨_, _, _, _, _, _, _, _, rfl, _⟩ <;> rfl) | (rintro _ _ _ ⟨_, _, _, _, _, _, _, _, _, rfl, _⟩ <;> rfl) | (rintro _ _ _ ⟨_, rfl | rfl, _⟩; rfl; rfl) | (rintro _ _ _ ⟨_, _, rfl | rfl, _⟩; rfl; rfl) | (rintro _ _ _ ⟨_, rfl | rfl, _⟩ <;> rfl) | (rintro _ _ _ ⟨_, _, rfl | rfl, _⟩ <;> rfl) | (rintro _ _ _ ⟨_, _, _, rfl | rfl, _⟩ <;> rfl) | (rintro _ _ _ ⟨_, _, _, _, rfl | rfl, _⟩ <;> rfl) | (rintro _ _ _ ⟨_, _, ⟨rfl, _⟩ | ⟨rfl, _⟩, _⟩ <;> rfl) | (rintro _ _ _ ⟨_, ⟨rfl, _⟩ | ⟨rfl, _⟩, _⟩ <;> rfl) | (rintro _ _ _ (⟨_, _, rfl, _⟩ | ⟨_, _, _, rfl, _⟩) <;> rfl) | (rintro _ _ _ (⟨_, _, _, rfl | rfl, _⟩ | ⟨_, _, _, _, rfl, _⟩) <;> rfl)) fun cdv A outer s H E hr S₀ => ⟨w_is_key, (vss_one (vs_ret (ve_chain ch_le ch_le (ve_neg (ve_gint (by rfl) T.m_KEY_LIMIT)) (ve_var 0) (ve_gint (by rfl) T.m_KEY_LIMIT)))), r_is_key⟩
theorem ok_check_round (T : Txt K mg) : FnOk P w K mg base (L2N.CX P w) 3 T.f_check_round T.fd_check_round ["step", "nesting", "pos"] (spX K mg W_check_round) :=
  fnX (k := 2) T.F_check_round sc_check_round (by first | (rintro _ _ _ _ ⟨rfl, _⟩ <;> rfl) | (rintro _ _ _ _ ⟨_, rfl, _⟩ <;> rfl) | (rintro _ _ _ _ ⟨_, _, rfl, _⟩ <;> rfl) | (rintro _ _ _ _ ⟨_, _, _, rfl, _⟩ <;> rfl) | (rintro _ _ _ _ ⟨_, _, _, _, rfl, _⟩ <;> rfl) | (rintro _ _ _ _ ⟨_, _, _, _, _, rfl, _⟩ <;> rfl) | (rintro _ _ _ _ ⟨_, _, _, _, _, _, rfl, _⟩ <;> rfl) | (rintro _ _ _ _ ⟨_, _, _, _, _, _, _, rfl, _⟩ <;> rfl) | (rintro _ _ _ _ ⟨_, _, _, _, _, _, _, _, rfl, _⟩ <;> rfl) | (rintro _ _ _ _ ⟨_, _, _, _, _, _, _, _, _, rfl, _⟩ <;> rfl) | (rintro _ _ _ _ ⟨_, rfl | rfl, _⟩; rfl; rfl) | (rintro _ _ _ _ ⟨_, _, rfl | rfl, _⟩; rfl; rfl) | (rintro _ _ _ _ ⟨_, rfl | rfl, _⟩ <;> rfl) | (rintro _ _ _ _ ⟨_, _, rfl | rfl, _⟩ <;> rfl) | (rintro _ _ _ _ ⟨_, _, _, rfl | rfl, _⟩ <;> rfl) | (rintro _ _ _ _ ⟨_, _, _, _, rfl | rfl, _⟩ <;> rfl) | (rintro _ _ _ _ ⟨_, _, ⟨rfl, _⟩ | ⟨rfl, _⟩, _⟩ <;> rfl) | (rintro _ _ _ _ ⟨_, ⟨rfl, _⟩ | ⟨rfl, _⟩, _⟩ <;> rfl) | (rintro _ _ _ _ (⟨_, _, rfl, _⟩ | ⟨_, _, _, rfl, _⟩) <;> rfl) | (rintro _ _ _ _ (⟨_, _, _, rfl | rfl, _⟩ | ⟨_, _, _, _, rfl, _⟩) <;> rfl)) fun cdv A outer s H E hr S₀ Ψ hX => ⟨w_check_round Ψ, (vss_one (vs_if (vw_pt (vw_or (vt_ne hr.units (ve_len (by rfl) T.m_len (va_cons (ve_var 0) va_nil)) ve_int) (vw_or (vt_ne hr.units (ve_ix (hu_of hr) (ve_var 0) ve_int) ve_str) (vw_or (vt_not (vt_chain ch_le ch_le ve_int (ve_ix (hu_of hr) (ve_var 0) ve_int) (ve_gint (by rfl) T.m_COUNT_LIMIT))) (vw_or1 (vt_eq hr.units (ve_var 1) (ve_gint (by rfl) T.m_MAX_NESTING))))))) (vss_one (vs_raise rfl hX (L2N.takes_of rfl rfl rfl rfl) T.XK_BadStep (okI_BadStep T) (hr.mono (by omega)) T.bI_BadStep (by rfl) T.g_BadStep (va_cons (ve_var 2) va_nil))) vss_nil)), r_check_round Ψ⟩
theorem ok_check_steps (T : Txt K mg) (G_is_key : FnOk P w K mg base CX0 1 T.f_is_key T.fd_is_key ["number"] (spW K W_is_key)) (G_check_round : FnOk P w K mg base (L2N.CX P w) 3 T.f_check_round T.fd_check_round ["step", "nesting", "pos"] (spX K mg W_check_round)) : ∀ n, FnOk P w K mg base (L2N.CX P w) (3 + 1 + n) T.f_check_steps T.fd_check_steps ["steps", "nesting", "pos"] (spX K mg (W_check_steps n)) := by
  intro n
  induction n with
  | zero => exact fnX (k := 3) T.F_check_steps sc_check_steps (by intro _ _ _ _ h; first | exact h.elim | (obtain ⟨_, _, h, _⟩ := h; exact h.elim) | (obtain ⟨_, h⟩ := h; exact h.elim) | (obtain ⟨_, h, _⟩ := h; exact h.elim)) fun cdv A outer s H E hr S₀ Ψ hX => ⟨sNever, vss_never, (by intro _ _ _ h; first | exact h.elim | (obtain ⟨_, _, h, _⟩ := h; exact h.elim) | (obtain ⟨_, h⟩ := h; exact h.elim) | (obtain ⟨_, h, _⟩ := h; exact h.elim))⟩
  | succ n G_check_steps => exact fnX (k := 3 + 1 + n) T.F_check_steps sc_check_steps (by first | (rintro _ _ _ _ ⟨rfl, _⟩ <;> rfl) | (rintro _ _ _ _ ⟨_, rfl, _⟩ <;> rfl) | (rintro _ _ _ _ ⟨_, _, rfl, _⟩ <;> rfl) | (rintro _ _ _ _ ⟨_, _, _, rfl, _⟩ <;> rfl) | (rintro _ _ _ _ ⟨_, _, _, _, rfl, _⟩ <;> rfl) | (rintro _ _ _ _ ⟨_, _, _, _, _, rfl, _⟩ <;> rfl) | (rintro _ _ _ _ ⟨_, _, _, _, _, _, rfl, _⟩ <;> rfl) | (rintro _ _ _ _ ⟨_, _, _, _, _, _, _, rfl, _⟩ <;> rfl) | (rintro _ _ _ _ ⟨_, _, _, _, _, _, _, _, rfl, _⟩ <;> rfl) | (rintro _ _ _ _ ⟨_, _, _, _, _, _, _, _, _, rfl, _⟩ <;> rfl) | (rintro _ _ _ _ ⟨_, rfl | rfl, _⟩; rfl; rfl) | (rintro _ _ _ _ ⟨_, _, rfl | rfl, _⟩; rfl; rfl) | (rintro _ _ _ _ ⟨_, rfl | rfl, _⟩ <;> rfl) | (rintro _ _ _ _ ⟨_, _, rfl | rfl, _⟩ <;> rfl) | (rintro _ _ _ _ ⟨_, _, _, rfl | rfl, _⟩ <;> rfl) | (rintro _ _ _ _ ⟨_, _, _, _, rfl | rfl, _⟩ <;> rfl) | (rintro _ _ _ _ ⟨_, _, ⟨rfl, _⟩ | ⟨rfl, _⟩, _⟩ <;> rfl) | (rintro _ _ _ _ ⟨_, ⟨rfl, _⟩ | ⟨rfl, _⟩, _⟩ <;> rfl) | (rintro _ _ _ _ (⟨_, _, rfl, _⟩ | ⟨_, _, _, rfl, _⟩) <;> rfl) | (rintro _ _ _ _ (⟨_, _, _, rfl | rfl, _⟩ | ⟨_, _, _, _, rfl, _⟩) <;> rfl)) fun cdv A outer s H E hr S₀ Ψ hX => ⟨w_check_steps Ψ (W_check_steps n), (vss_cons (vs_for (L2.passes_of rfl) rfl (vi_seq (ve_var 0)) (show VG _ _ _ _ [3] from (vg_name 3 sc_check_steps.nd)) (vss_cons (vs_if (vt_eq hr.units (ve_var 2) (ve_gint (by rfl) T.m_MAX_STEPS)) (vss_one (vs_raise rfl hX (L2N.takes_of rfl rfl rfl rfl) T.XK_TooLong (okI_TooLong T) (hr.mono (by omega)) T.bI_TooLong (by rfl) T.g_TooLong (va_cons (ve_gint (by rfl) T.m_MAX_STEPS) va_nil))) vss_nil)
    (vss_one (vs_if (vt_val (ve_isi (by rfl) T.m_isinstance (va_cons (ve_var 3) (va_cons (ve_bty (by rfl) T.m_int (by decide +kernel)) va_nil)))) (vss_cons (vs_if (vt_not (vt_val (ve_call G_is_key (hr.mono (by omega)) (by rfl) T.g_is_key T.F_is_key.kp T.b_is_key (va_cons (ve_var 3) va_nil)))) (vss_one (vs_raise rfl hX (L2N.takes_of rfl rfl rfl rfl) T.XK_BadStep (okI_BadStep T) (hr.mono (by omega)) T.bI_BadStep (by rfl) T.g_BadStep (va_cons (ve_var 2) va_nil))) vss_nil)
    (vss_one (vs_augAdd 2 sc_check_steps.nd ve_int))) (vss_cons (vs_expr (ve_callX hX (L2N.takes_of rfl rfl rfl rfl) G_check_round (hr.mono (by omega)) (by rfl) T.g_check_round T.F_check_round.kp T.b_check_round (va_cons (ve_var 3) (va_cons (ve_var 1) (va_cons (ve_var 2) va_nil)))))
    (vss_one (vs_set 2 sc_check_steps.nd (ve_callX hX (L2N.takes_of rfl rfl rfl rfl) G_check_steps (hr.mono (by omega)) (by rfl) T.g_check_steps T.F_check_steps.kp T.b_check_steps (va_cons (ve_ix (hu_of hr) (ve_var 3) ve_int) (va_cons (ve_add (ve_var 1) ve_int) (va_cons (ve_add (ve_var 2) ve_int) va_nil)))))))))))
    (vss_one (vs_ret (ve_var 2)))), r_check_steps n Ψ⟩
theorem ok_check_history (T : Txt K mg) (G_check_steps : FnOk P w K mg base (L2N.CX P w) 9 T.f_check_steps T.fd_check_steps ["steps", "nesting", "pos"] (spX K mg (W_check_steps 5))) : FnOk P w K mg base (L2N.CX P w) 10 T.f_check_history T.fd_check_history ["history"] (spX K mg W_check_history) :=
  fnX (k := 9) T.F_check_history sc_check_history (by first | (rintro _ _ _ _ ⟨rfl, _⟩ <;> rfl) | (rintro _ _ _ _ ⟨_, rfl, _⟩ <;> rfl) | (rintro _ _ _ _ ⟨_, _, rfl, _⟩ <;> rfl) | (rintro _ _ _ _ ⟨_, _, _, rfl, _⟩ <;> rfl) | (rintro _ _ _ _ ⟨_, _, _, _, rfl, _⟩ <;> rfl) | (rintro _ _ _ _ ⟨_, _, _, _, _, rfl, _⟩ <;> rfl) | (rintro _ _ _ _ ⟨_, _, _, _, _, _, rfl, _⟩ <;> rfl) | (rintro _ _ _ _ ⟨_, _, _, _, _, _, _, rfl, _⟩ <;> rfl) | (rintro _ _ _ _ ⟨_, _, _, _, _, _, _, _, rfl, _⟩ <;> rfl) | (rintro _ _ _ _ ⟨_, _, _, _, _, _, _, _, _, rfl, _⟩ <;> rfl) | (rintro _ _ _ _ ⟨_, rfl | rfl, _⟩; rfl; rfl) | (rintro _ _ _ _ ⟨_, _, rfl | rfl, _⟩; rfl; rfl) | (rintro _ _ _ _ ⟨_, rfl | rfl, _⟩ <;> rfl) | (rintro _ _ _ _ ⟨_, _, rfl | rfl, _⟩ <;> rfl) | (rintro _ _ _ _ ⟨_, _, _, rfl | rfl, _⟩ <;> rfl) | (rintro _ _ _ _ ⟨_, _, _, _, rfl | rfl, _⟩ <;> rfl) | (rintro _ _ _ _ ⟨_, _, ⟨rfl, _⟩ | ⟨rfl, _⟩, _⟩ <;> rfl) | (rintro _ _ _ _ ⟨_, ⟨rfl, _⟩ | ⟨rfl, _⟩, _⟩ <;> rfl) | (rintro _ _ _ _ (⟨_, _, rfl, _⟩ | ⟨_, _, _, rfl, _⟩) <;> rfl) | (rintro _ _ _ _ (⟨_, _, _, rfl | rfl, _⟩ | ⟨_, _, _, _, rfl, _⟩) <;> rfl)) fun cdv A outer s H E hr S₀ Ψ hX => ⟨w_check_history Ψ, (vss_one (vs_expr (ve_callX hX (L2N.takes_of rfl rfl rfl rfl) G_check_steps (hr.mono (by omega)) (by rfl) T.g_check_steps T.F_check_steps.kp T.b_check_steps (va_cons (ve_var 0) (va_cons ve_int (va_cons ve_int va_nil)))))), r_check_history Ψ⟩
theorem ok_format_step (T : Txt K mg) (n : Nat) (G_format_steps : FnOk P w K mg base CX0 (0 + 1 + 2 * n) T.f_format_steps T.fd_format_steps ["steps"] (spW K (W_format_steps n))) : FnOk P w K mg base CX0 (0 + 1 + 2 * n + 1) T.f_format_step T.fd_format_step ["step"] (spW K (W_format_step n)) :=
  fnW (k := 0 + 1 + 2 * n) T.F_format_step sc_format_step (by first | (rintro _ _ _ ⟨rfl, _⟩ <;> rfl) | (rintro _ _ _ ⟨_, rfl, _⟩ <;> rfl) | (rintro _ _ _ ⟨_, _, rfl, _⟩ <;> rfl) | (rintro _ _ _ ⟨_, _, _, rfl, _⟩ <;> rfl) | (rintro _ _ _ ⟨_, _, _, _, rfl, _⟩ <;> rfl) | (rintro _ _ _ ⟨_, _, _, _, _, rfl, _⟩ <;> rfl) | (rintro _ _ _ ⟨_, _, _, _, _, _, rfl, _⟩ <;> rfl) | (rintro _ _ _ ⟨_, _, _, _, _, _, _, rfl, _⟩ <;> rfl) | (rintro _ _ _ ⟨_, _, _, _, _, _, _, _, rfl, _⟩ <;> rfl) | (rintro _ _ _ ⟨_, _, _, _, _, _, _, _, _, rfl, _⟩ <;> rfl) | (rintro _ _ _ ⟨_, rfl | rfl, _⟩; rfl; rfl) | (rintro _ _ _ ⟨_, _, rfl | rfl, _⟩; rfl; rfl) | (rintro _ _ _ ⟨_, rfl | rfl, _⟩ <;> rfl) | (rintro _ _ _ ⟨_, _, rfl | rfl, _⟩ <;> rfl) | (rintro _ _ _ ⟨_, _, _, rfl | rfl, _⟩ <;> rfl) | (rintro _ _ _ ⟨_, _, _, _, rfl | rfl, _⟩ <;> rfl) | (rintro _ _ _ ⟨_, _, ⟨rfl, _⟩ | ⟨rfl, _⟩, _⟩ <;> rfl) | (rintro _ _ _ ⟨_, ⟨rfl, _⟩ | ⟨rfl, _⟩, _⟩ <;> rfl) | (rintro _ _ _ (⟨_, _, rfl, _⟩ | ⟨_, _, _, rfl, _⟩) <;> rfl) | (rintro _ _ _ (⟨_, _, _, rfl | rfl, _⟩ | ⟨_, _, _, _, rfl, _⟩) <;> rfl)) fun cdv A outer s H E hr S₀ => ⟨w_format_step (W_format_steps n), (vss_cons (vs_if (vt_val (ve_isi (by rfl) T.m_isinstance (va_cons (ve_var 0) (va_cons (ve_bty (by rfl) T.m_int (by decide +kernel)) va_nil)))) (vss_one (vs_ret (ve_strI (by rfl) T.m_str (va_cons (ve_var 0) va_nil)))) vss_nil)
    (vss_one (vs_ret (ve_fstr (VJ.cons (ve_fmt (ve_ix (hu_of hr) (ve_var 0) ve_int)) (VJ.cons ve_str (VJ.cons (ve_fmt (ve_call G_format_steps (hr.mono (by omega)) (by rfl) T.g_format_steps T.F_format_steps.kp T.b_format_steps (va_cons (ve_ix (hu_of hr) (ve_var 0) ve_int) va_nil))) (VJ.cons ve_str VJ.nil)))))))), r_format_step n⟩
theorem ok_format_steps (T : Txt K mg) : ∀ n, FnOk P w K mg base CX0 (0 + 1 + 2 * n) T.f_format_steps T.fd_format_steps ["steps"] (spW K (W_format_steps n)) := by
  intro n
  induction n with
  | zero => exact fnW (k := 0) T.F_format_steps sc_format_steps (by intro _ _ _ h; first | exact h.elim | (obtain ⟨_, _, h, _⟩ := h; exact h.elim) | (obtain ⟨_, h⟩ := h; exact h.elim) | (obtain ⟨_, h, _⟩ := h; exact h.elim)) fun cdv A outer s H E hr S₀ => ⟨sNever, vss_never, (by intro _ _ _ h; first | exact h.elim | (obtain ⟨_, _, h, _⟩ := h; exact h.elim) | (obtain ⟨_, h⟩ := h; exact h.elim) | (obtain ⟨_, h, _⟩ := h; exact h.elim))⟩
  | succ n G_format_steps =>
    have G_format_step := ok_format_step (P := P) (w := w) (base := base) T  n G_format_steps
    exact fnW (k := 0 + 1 + 2 * n + 1) T.F_format_steps sc_format_steps (by first | (rintro _ _ _ ⟨rfl, _⟩ <;> rfl) | (rintro _ _ _ ⟨_, rfl, _⟩ <;> rfl) | (rintro _ _ _ ⟨_, _, rfl, _⟩ <;> rfl) | (rintro _ _ _ ⟨_, _, _, rfl, _⟩ <;> rfl) | (rintro _ _ _ ⟨_, _, _, _, rfl, _⟩ <;> rfl) | (rintro _ _ _ ⟨_, _, _, _, _, rfl, _⟩ <;> rfl) | (rintro _ _ _ ⟨_, _, _, _, _, _, rfl, _⟩ <;> rfl) | (rintro _ _ _ ⟨_, _, _, _, _, _, _, rfl, _⟩ <;> rfl) | (rintro _ _ _ ⟨_, _, _, _, _, _, _, _, rfl, _⟩ <;> rfl) | (rintro _ _ _ ⟨_, _, _, _, _, _, _, _, _, rfl, _⟩ <;> rfl) | (rintro _ _ _ ⟨_, rfl | rfl, _⟩; rfl; rfl) | (rintro _ _ _ ⟨_, _, rfl | rfl, _⟩; rfl; rfl) | (rintro _ _ _ ⟨_, rfl | rfl, _⟩ <;> rfl) | (rintro _ _ _ ⟨_, _, rfl | rfl, _⟩ <;> rfl) | (rintro _ _ _ ⟨_, _, _, rfl | rfl, _⟩ <;> rfl) | (rintro _ _ _ ⟨_, _, _, _, rfl | rfl, _⟩ <;> rfl) | (rintro _ _ _ ⟨_, _, ⟨rfl, _⟩ | ⟨rfl, _⟩, _⟩ <;> rfl) | (rintro _ _ _ ⟨_, ⟨rfl, _⟩ | ⟨rfl, _⟩, _⟩ <;> rfl) | (rintro _ _ _ (⟨_, _, rfl, _⟩ | ⟨_, _, _, rfl, _⟩) <;> rfl) | (rintro _ _ _ (⟨_, _, _, rfl | rfl, _⟩ | ⟨_, _, _, _, rfl, _⟩) <;> rfl)) fun cdv A outer s H E hr S₀ => ⟨w_format_steps (W_format_step n), (vss_one (vs_ret (ve_join ve_str (ve_lc (own := [("step", 1)]) rfl sc_format_steps.nd (vi_seq (ve_var 0)) (blkOk_by (N := N_format_steps) (sc := defScope s_format_steps) (by decide +kernel)) (fun _ _ _ _ _ => (vg_name 1 sc_format_steps.nd)) (fun _ _ _ _ _ => vts_nil) (fun _ _ _ _ _ => (ve_call G_format_step (hr.mono (by omega)) (by rfl) T.g_format_step T.F_format_step.kp T.b_format_step (va_cons (ve_var 1) va_nil))))))), r_format_steps n⟩
theorem ok_format_history (T : Txt K mg) (G_check_history : FnOk P w K mg base (L2N.CX P w) 10 T.f_check_history T.fd_check_history ["history"] (spX K mg W_check_history)) (G_format_steps : FnOk P w K mg base CX0 13 T.f_format_steps T.fd_format_steps ["steps"] (spW K (W_format_steps 6))) : FnOk P w K mg base (L2N.CX P w) 14 T.f_format_history T.fd_format_history ["history"] (spX K mg W_format_history) :=
  fnX (k := 13) T.F_format_history sc_format_history (by first | (rintro _ _ _ _ ⟨rfl, _⟩ <;> rfl) | (rintro _ _ _ _ ⟨_, rfl, _⟩ <;> rfl) | (rintro _ _ _ _ ⟨_, _, rfl, _⟩ <;> rfl) | (rintro _ _ _ _ ⟨_, _, _, rfl, _⟩ <;> rfl) | (rintro _ _ _ _ ⟨_, _, _, _, rfl, _⟩ <;> rfl) | (rintro _ _ _ _ ⟨_, _, _, _, _, rfl, _⟩ <;> rfl) | (rintro _ _ _ _ ⟨_, _, _, _, _, _, rfl, _⟩ <;> rfl) | (rintro _ _ _ _ ⟨_, _, _, _, _, _, _, rfl, _⟩ <;> rfl) | (rintro _ _ _ _ ⟨_, _, _, _, _, _, _, _, rfl, _⟩ <;> rfl) | (rintro _ _ _ _ ⟨_, _, _, _, _, _, _, _, _, rfl, _⟩ <;> rfl) | (rintro _ _ _ _ ⟨_, rfl | rfl, _⟩; rfl; rfl) | (rintro _ _ _ _ ⟨_, _, rfl | rfl, _⟩; rfl; rfl) | (rintro _ _ _ _ ⟨_, rfl | rfl, _⟩ <;> rfl) | (rintro _ _ _ _ ⟨_, _, rfl | rfl, _⟩ <;> rfl) | (rintro _ _ _ _ ⟨_, _, _, rfl | rfl, _⟩ <;> rfl) | (rintro _ _ _ _ ⟨_, _, _, _, rfl | rfl, _⟩ <;> rfl) | (rintro _ _ _ _ ⟨_, _, ⟨rfl, _⟩ | ⟨rfl, _⟩, _⟩ <;> rfl) | (rintro _ _ _ _ ⟨_, ⟨rfl, _⟩ | ⟨rfl, _⟩, _⟩ <;> rfl) | (rintro _ _ _ _ (⟨_, _, rfl, _⟩ | ⟨_, _, _, rfl, _⟩) <;> rfl) | (rintro _ _ _ _ (⟨_, _, _, rfl | rfl, _⟩ | ⟨_, _, _, _, rfl, _⟩) <;> rfl)) fun cdv A outer s H E hr S₀ Ψ hX => ⟨w_format_history Ψ, (vss_cons (vs_expr (ve_callX hX (L2N.takes_of rfl rfl rfl rfl) G_check_history (hr.mono (by omega)) (by rfl) T.g_check_history T.F_check_history.kp T.b_check_history (va_cons (ve_var 0) va_nil)))
    (vss_one (vs_ret (ve_call G_format_steps (hr.mono (by omega)) (by rfl) T.g_format_steps T.F_format_steps.kp T.b_format_steps (va_cons (ve_var 0) va_nil))))), r_format_history Ψ⟩
theorem ok_l_bent_text (T : Txt K mg) (G_l_take : FnOk P w K mg base CX0 1 T.f_l_take T.fd_l_take ["_law_draw", "_law_many"] (spW K W_l_take)) (G_l_of : FnOk P w K mg base CX0 2 T.f_l_of T.fd_l_of ["_law_draw", "_law_some"] (spW K W_l_of)) : FnOk P w K mg base CX0 3 T.f_l_bent_text T.fd_l_bent_text ["_law_draw", "_law_text"] (spW K W_l_bent_text) :=
  fnW (k := 2) T.F_l_bent_text sc_l_bent_text (by first | (rintro _ _ _ ⟨rfl, _⟩ <;> rfl) | (rintro _ _ _ ⟨_, rfl, _⟩ <;> rfl) | (rintro _ _ _ ⟨_, _, rfl, _⟩ <;> rfl) | (rintro _ _ _ ⟨_, _, _, rfl, _⟩ <;> rfl) | (rintro _ _ _ ⟨_, _, _, _, rfl, _⟩ <;> rfl) | (rintro _ _ _ ⟨_, _, _, _, _, rfl, _⟩ <;> rfl) | (rintro _ _ _ ⟨_, _, _, _, _, _, rfl, _⟩ <;> rfl) | (rintro _ _ _ ⟨_, _, _, _, _, _, _, rfl, _⟩ <;> rfl) | (rintro _ _ _ ⟨_, _, _, _, _, _, _, _, rfl, _⟩ <;> rfl) | (rintro _ _ _ ⟨_, _, _, _, _, _, _, _, _, rfl, _⟩ <;> rfl) | (rintro _ _ _ ⟨_, rfl | rfl, _⟩; rfl; rfl) | (rintro _ _ _ ⟨_, _, rfl | rfl, _⟩; rfl; rfl) | (rintro _ _ _ ⟨_, rfl | rfl, _⟩ <;> rfl) | (rintro _ _ _ ⟨_, _, rfl | rfl, _⟩ <;> rfl) | (rintro _ _ _ ⟨_, _, _, rfl | rfl, _⟩ <;> rfl) | (rintro _ _ _ ⟨_, _, _, _, rfl | rfl, _⟩ <;> rfl) | (rintro _ _ _ ⟨_, _, ⟨rfl, _⟩ | ⟨rfl, _⟩, _⟩ <;> rfl) | (rintro _ _ _ ⟨_, ⟨rfl, _⟩ | ⟨rfl, _⟩, _⟩ <;> rfl) | (rintro _ _ _ (⟨_, _, rfl, _⟩ | ⟨_, _, _, rfl, _⟩) <;> rfl) | (rintro _ _ _ (⟨_, _, _, rfl | rfl, _⟩ | ⟨_, _, _, _, rfl, _⟩) <;> rfl)) fun cdv A outer s H E hr S₀ => ⟨w_l_bent_text, (vss_cons (vs_par 2 3 rfl sc_l_bent_text.nd (va_cons (ve_call G_l_take (hr.mono (by omega)) (by rfl) T.g_l_take T.F_l_take.kp T.b_l_take (va_cons (ve_var 0) (va_cons (ve_add (ve_len (by rfl) T.m_len (va_cons (ve_var 1) va_nil)) ve_int) va_nil))) (va_cons (ve_call G_l_take (hr.mono (by omega)) (by rfl) T.g_l_take T.F_l_take.kp T.b_l_take (va_cons (ve_var 0) (va_cons ve_int va_nil))) va_nil)))
    (vss_cons (vs_set 4 sc_l_bent_text.nd (ve_call G_l_of (hr.mono (by omega)) (by rfl) T.g_l_of T.F_l_of.kp T.b_l_of (va_cons (ve_var 0) (va_cons (ve_lst (va_cons ve_str (va_cons ve_str (va_cons ve_str (va_cons ve_str (va_cons ve_str (va_cons ve_str (va_cons ve_str (va_cons ve_str (va_cons ve_str (va_cons ve_str (va_cons ve_str va_nil)))))))))))) va_nil))))
    (vss_cons (vs_set 5 sc_l_bent_text.nd (ve_lst (va_cons (ve_add (ve_add (ve_slS (ve_var 1) vo_none (vo_some (ve_var 2))) (ve_var 4)) (ve_slS (ve_var 1) (vo_some (ve_var 2)) vo_none)) (va_cons (ve_add (ve_add (ve_slS (ve_var 1) vo_none (vo_some (ve_var 2))) (ve_var 4)) (ve_slS (ve_var 1) (vo_some (ve_add (ve_var 2) ve_int)) vo_none)) (va_cons (ve_add (ve_slS (ve_var 1) vo_none (vo_some (ve_var 2))) (ve_slS (ve_var 1) (vo_some (ve_add (ve_var 2) ve_int)) vo_none)) (va_cons (ve_add (ve_var 1) (ve_var 4)) va_nil))))))
    (vss_one (vs_ret (ve_ix (hu_of hr) (ve_var 5) (ve_var 3))))))), r_l_bent_text⟩
theorem ok_l_items (T : Txt K mg) : FnOk P w K mg base CX0 1 T.f_l_items T.fd_l_items ["_law_text"] (spW K W_l_items) :=
  fnW (k := 0) T.F_l_items sc_l_items (by first | (rintro _ _ _ ⟨rfl, _⟩ <;> rfl) | (rintro _ _ _ ⟨_, rfl, _⟩ <;> rfl) | (rintro _ _ _ ⟨_, _, rfl, _⟩ <;> rfl) | (rintro _ _ _ ⟨_, _, _, rfl, _⟩ <;> rfl) | (rintro _ _ _ ⟨_, _, _, _, rfl, _⟩ <;> rfl) | (rintro _ _ _ ⟨_, _, _, _, _, rfl, _⟩ <;> rfl) | (rintro _ _ _ ⟨_, _, _, _, _, _, rfl, _⟩ <;> rfl) | (rintro _ _ _ ⟨_, _, _, _, _, _, _, rfl, _⟩ <;> rfl) | (rintro _ _ _ ⟨_, _, _, _, _, _, _, _, rfl, _⟩ <;> rfl) | (rintro _ _ _ ⟨_, _, _, _, _, _, _, _, _, rfl, _⟩ <;> rfl) | (rintro _ _ _ ⟨_, rfl | rfl, _⟩; rfl; rfl) | (rintro _ _ _ ⟨_, _, rfl | rfl, _⟩; rfl; rfl) | (rintro _ _ _ ⟨_, rfl | rfl, _⟩ <;> rfl) | (rintro _ _ _ ⟨_, _, rfl | rfl, _⟩ <;> rfl) | (rintro _ _ _ ⟨_, _, _, rfl | rfl, _⟩ <;> rfl) | (rintro _ _ _ ⟨_, _, _, _, rfl | rfl, _⟩ <;> rfl) | (rintro _ _ _ ⟨_, _, ⟨rfl, _⟩ | ⟨rfl, _⟩, _⟩ <;> rfl) | (rintro _ _ _ ⟨_, ⟨rfl, _⟩ | ⟨rfl, _⟩, _⟩ <;> rfl) | (rintro _ _ _ (⟨_, _, rfl, _⟩ | ⟨_, _, _, rfl, _⟩) <;> rfl) | (rintro _ _ _ (⟨_, _, _, rfl | rfl, _⟩ | ⟨_, _, _, _, rfl, _⟩) <;> rfl)) fun cdv A outer s H E hr S₀ => ⟨w_l_items, (vss_cons (vs_par 1 2 rfl sc_l_items.nd (va_cons (ve_lstM (va_cons ve_str va_nil)) (va_cons ve_int va_nil)))
    (vss_cons (vs_for PassesOwn.never rfl (vi_str (ve_var 0)) (show VG _ _ _ _ [3] from (vg_name 3 sc_l_items.nd)) (vss_cons (vs_set 2 sc_l_items.nd (ve_sub (ve_add (ve_var 2) (ve_intC (by rfl) T.m_int (va_cons (ve_eqS (ve_var 3) ve_str) va_nil))) (ve_intC (by rfl) T.m_int (va_cons (ve_eqS (ve_var 3) ve_str) va_nil))))
    (vss_one (vs_if (vw_pt (vw_and (vt_eqS (ve_var 3) ve_str) (vw_and1 (vt_eq hr.units (ve_var 2) ve_int)))) (vss_one (vs_expr (ve_append (ve_var 1) (va_cons ve_str va_nil)))) (vss_one (vs_asg (ve_add (ve_ix (hu_of hr) (ve_var 1) (ve_neg ve_int)) (ve_var 3)) (show VG _ _ _ _ [] from (vg_sub (hu_of hr) (ve_var 1) (ve_neg ve_int)))))))))
    (vss_one (vs_retF (ve_var 1))))), r_l_items⟩
theorem ok_l_number (T : Txt K mg) : FnOk P w K mg base CX0 1 T.f_l_number T.fd_l_number ["_law_text"] (spW K W_l_number) :=
  fnW (k := 0) T.F_l_number sc_l_number (by first | (rintro _ _ _ ⟨rfl, _⟩ <;> rfl) | (rintro _ _ _ ⟨_, rfl, _⟩ <;> rfl) | (rintro _ _ _ ⟨_, _, rfl, _⟩ <;> rfl) | (rintro _ _ _ ⟨_, _, _, rfl, _⟩ <;> rfl) | (rintro _ _ _ ⟨_, _, _, _, rfl, _⟩ <;> rfl) | (rintro _ _ _ ⟨_, _, _, _, _, rfl, _⟩ <;> rfl) | (rintro _ _ _ ⟨_, _, _, _, _, _, rfl, _⟩ <;> rfl) | (rintro _ _ _ ⟨_, _, _, _, _, _, _, rfl, _⟩ <;> rfl) | (rintro _ _ _ ⟨_, _, _, _, _, _, _, _, rfl, _⟩ <;> rfl) | (rintro _ _ _ ⟨_, _, _, _, _, _, _, _, _, rfl, _⟩ <;> rfl) | (rintro _ _ _ ⟨_, rfl | rfl, _⟩; rfl; rfl) | (rintro _ _ _ ⟨_, _, rfl | rfl, _⟩; rfl; rfl) | (rintro _ _ _ ⟨_, rfl | rfl, _⟩ <;> rfl) | (rintro _ _ _ ⟨_, _, rfl | rfl, _⟩ <;> rfl) | (rintro _ _ _ ⟨_, _, _, rfl | rfl, _⟩ <;> rfl) | (rintro _ _ _ ⟨_, _, _, _, rfl | rfl, _⟩ <;> rfl) | (rintro _ _ _ ⟨_, _, ⟨rfl, _⟩ | ⟨rfl, _⟩, _⟩ <;> rfl) | (rintro _ _ _ ⟨_, ⟨rfl, _⟩ | ⟨rfl, _⟩, _⟩ <;> rfl) | (rintro _ _ _ (⟨_, _, rfl, _⟩ | ⟨_, _, _, rfl, _⟩) <;> rfl) | (rintro _ _ _ (⟨_, _, _, rfl | rfl, _⟩ | ⟨_, _, _, _, rfl, _⟩) <;> rfl)) fun cdv A outer s H E hr S₀ => ⟨w_l_number, (vss_cons (vs_set 1 sc_l_number.nd (ve_ifE (vt_eqS (ve_slS (ve_var 0) vo_none (vo_some ve_int)) ve_str) (ve_slS (ve_var 0) (vo_some ve_int) vo_none) (ve_var 0)))
    (vss_cons (vs_if (vw_pt (vw_or (vt_not (vt_chain ch_le ch_le ve_int (ve_len (by rfl) T.m_len (va_cons (ve_var 1) va_nil)) ve_int)) (vw_or1 (vt_not (vt_val (ve_all rfl (by rfl) T.m_all (va_cons (ve_lc (own := [("_law_sign", 2)]) rfl sc_l_number.nd (vi_str (ve_var 1)) (blkOk_by (N := N_l_number) (sc := defScope s_l_number) (by decide +kernel)) (fun _ _ _ _ _ => (vg_name 2 sc_l_number.nd)) (fun _ _ _ _ _ => vts_nil) (fun _ _ _ _ _ => (ve_inS (ve_var 2) ve_str))) va_nil))))))) (vss_one (vs_ret ve_non)) vss_nil)
    (vss_one (vs_ret (ve_ifE (vt_eqS (ve_strI (by rfl) T.m_str (va_cons (ve_intS (by rfl) T.m_int (va_cons (ve_var 0) va_nil)) va_nil)) (ve_var 0)) (ve_intS (by rfl) T.m_int (va_cons (ve_var 0) va_nil)) ve_non))))), r_l_number⟩
theorem ok_l_read (T : Txt K mg) (G_l_items : FnOk P w K mg base CX0 1 T.f_l_items T.fd_l_items ["_law_text"] (spW K W_l_items)) (G_l_number : FnOk P w K mg base CX0 1 T.f_l_number T.fd_l_number ["_law_text"] (spW K W_l_number)) : ∀ n, FnOk P w K mg base CX0 (1 + 1 + n) T.f_l_read T.fd_l_read ["_law_text", "_law_level"] (spW K (W_l_read n)) := by
  intro n
  induction n with
  | zero => exact fnW (k := 1) T.F_l_read sc_l_read (by intro _ _ _ h; first | exact h.elim | (obtain ⟨_, _, h, _⟩ := h; exact h.elim) | (obtain ⟨_, h⟩ := h; exact h.elim) | (obtain ⟨_, h, _⟩ := h; exact h.elim)) fun cdv A outer s H E hr S₀ => ⟨sNever, vss_never, (by intro _ _ _ h; first | exact h.elim | (obtain ⟨_, _, h, _⟩ := h; exact h.elim) | (obtain ⟨_, h⟩ := h; exact h.elim) | (obtain ⟨_, h, _⟩ := h; exact h.elim))⟩
  | succ n G_l_read => exact fnW (k := 1 + 1 + n) T.F_l_read sc_l_read (by first | (rintro _ _ _ ⟨rfl, _⟩ <;> rfl) | (rintro _ _ _ ⟨_, rfl, _⟩ <;> rfl) | (rintro _ _ _ ⟨_, _, rfl, _⟩ <;> rfl) | (rintro _ _ _ ⟨_, _, _, rfl, _⟩ <;> rfl) | (rintro _ _ _ ⟨_, _, _, _, rfl, _⟩ <;> rfl) | (rintro _ _ _ ⟨_, _, _, _, _, rfl, _⟩ <;> rfl) | (rintro _ _ _ ⟨_, _, _, _, _, _, rfl, _⟩ <;> rfl) | (rintro _ _ _ ⟨_, _, _, _, _, _, _, rfl, _⟩ <;> rfl) | (rintro _ _ _ ⟨_, _, _, _, _, _, _, _, rfl, _⟩ <;> rfl) | (rintro _ _ _ ⟨_, _, _, _, _, _, _, _, _, rfl, _⟩ <;> rfl) | (rintro _ _ _ ⟨_, rfl | rfl, _⟩; rfl; rfl) | (rintro _ _ _ ⟨_, _, rfl | rfl, _⟩; rfl; rfl) | (rintro _ _ _ ⟨_, rfl | rfl, _⟩ <;> rfl) | (rintro _ _ _ ⟨_, _, rfl | rfl, _⟩ <;> rfl) | (rintro _ _ _ ⟨_, _, _, rfl | rfl, _⟩ <;> rfl) | (rintro _ _ _ ⟨_, _, _, _, rfl | rfl, _⟩ <;> rfl) | (rintro _ _ _ ⟨_, _, ⟨rfl, _⟩ | ⟨rfl, _⟩, _⟩ <;> rfl) | (rintro _ _ _ ⟨_, ⟨rfl, _⟩ | ⟨rfl, _⟩, _⟩ <;> rfl) | (rintro _ _ _ (⟨_, _, rfl, _⟩ | ⟨_, _, _, rfl, _⟩) <;> rfl) | (rintro _ _ _ (⟨_, _, _, rfl | rfl, _⟩ | ⟨_, _, _, _, rfl, _⟩) <;> rfl)) fun cdv A outer s H E hr S₀ => ⟨w_l_read (W_l_read n), (vss_cons (vs_if (vt_eqS (ve_var 0) ve_str) (vss_one (vs_ret (ve_lst va_nil))) vss_nil)
    (vss_cons (vs_set 2 sc_l_read.nd (ve_lstM va_nil))
    (vss_cons (vs_for PassesOwn.never rfl (vi_seq (ve_call G_l_items (hr.mono (by omega)) (by rfl) T.g_l_items T.F_l_items.kp T.b_l_items (va_cons (ve_var 0) va_nil))) (show VG _ _ _ _ [3] from (vg_name 3 sc_l_read.nd)) (vss_cons (vs_set 4 sc_l_read.nd (ve_ix (hu_of hr) (ve_split (ve_var 3) ve_str) ve_int))
    (vss_cons (vs_set 5 sc_l_read.nd (ve_call G_l_number (hr.mono (by omega)) (by rfl) T.g_l_number T.F_l_number.kp T.b_l_number (va_cons (ve_var 4) va_nil)))
    (vss_cons (vs_if (vt_isN (ve_var 5) ve_non) (vss_one (vs_ret ve_non)) vss_nil)
    (vss_one (vs_if (vt_eqS (ve_var 4) (ve_var 3)) (vss_cons (vs_if (vt_gt (ve_abs (by rfl) T.m_abs (va_cons (ve_var 5) va_nil)) (ve_pow ve_int ve_int)) (vss_one (vs_ret ve_non)) vss_nil)
    (vss_one (vs_expr (ve_append (ve_var 2) (va_cons (ve_var 5) va_nil))))) (vss_cons (vs_set 6 sc_l_read.nd (ve_ifE (vw_pt (vw_and (vt_lt (ve_var 1) ve_int) (vw_and1 (vt_eqS (ve_slS (ve_var 3) (vo_some (ve_neg ve_int)) vo_none) ve_str)))) (ve_call G_l_read (hr.mono (by omega)) (by rfl) T.g_l_read T.F_l_read.kp T.b_l_read (va_cons (ve_slS (ve_var 3) (vo_some (ve_add (ve_len (by rfl) T.m_len (va_cons (ve_var 4) va_nil)) ve_int)) (vo_some (ve_neg ve_int))) (va_cons (ve_add (ve_var 1) ve_int) va_nil))) ve_non))
    (vss_cons (vs_if (vw_pt (vw_or (vt_isN (ve_var 6) ve_non) (vw_or1 (vt_not (vt_chain ch_le ch_le ve_int (ve_var 5) (ve_pow ve_int ve_int)))))) (vss_one (vs_ret ve_non)) vss_nil)
    (vss_one (vs_expr (ve_append (ve_var 2) (va_cons (ve_tup (va_cons ve_str (va_cons (ve_var 5) (va_cons (ve_tupC (by rfl) T.m_tuple (va_cons (ve_var 6) va_nil)) va_nil)))) va_nil))))))))))))
    (vss_one (vs_retF (ve_var 2)))))), r_l_read n⟩
theorem ok_l_written (T : Txt K mg) : ∀ n, FnOk P w K mg base CX0 (0 + 1 + n) T.f_l_written T.fd_l_written ["_law_steps"] (spW K (W_l_written n)) := by
  intro n
  induction n with
  | zero => exact fnW (k := 0) T.F_l_written sc_l_written (by intro _ _ _ h; first | exact h.elim | (obtain ⟨_, _, h, _⟩ := h; exact h.elim) | (obtain ⟨_, h⟩ := h; exact h.elim) | (obtain ⟨_, h, _⟩ := h; exact h.elim)) fun cdv A outer s H E hr S₀ => ⟨sNever, vss_never, (by intro _ _ _ h; first | exact h.elim | (obtain ⟨_, _, h, _⟩ := h; exact h.elim) | (obtain ⟨_, h⟩ := h; exact h.elim) | (obtain ⟨_, h, _⟩ := h; exact h.elim))⟩
  | succ n G_l_written => exact fnW (k := 0 + 1 + n) T.F_l_written sc_l_written (by first | (rintro _ _ _ ⟨rfl, _⟩ <;> rfl) | (rintro _ _ _ ⟨_, rfl, _⟩ <;> rfl) | (rintro _ _ _ ⟨_, _, rfl, _⟩ <;> rfl) | (rintro _ _ _ ⟨_, _, _, rfl, _⟩ <;> rfl) | (rintro _ _ _ ⟨_, _, _, _, rfl, _⟩ <;> rfl) | (rintro _ _ _ ⟨_, _, _, _, _, rfl, _⟩ <;> rfl) | (rintro _ _ _ ⟨_, _, _, _, _, _, rfl, _⟩ <;> rfl) | (rintro _ _ _ ⟨_, _, _, _, _, _, _, rfl, _⟩ <;> rfl) | (rintro _ _ _ ⟨_, _, _, _, _, _, _, _, rfl, _⟩ <;> rfl) | (rintro _ _ _ ⟨_, _, _, _, _, _, _, _, _, rfl, _⟩ <;> rfl) | (rintro _ _ _ ⟨_, rfl | rfl, _⟩; rfl; rfl) | (rintro _ _ _ ⟨_, _, rfl | rfl, _⟩; rfl; rfl) | (rintro _ _ _ ⟨_, rfl | rfl, _⟩ <;> rfl) | (rintro _ _ _ ⟨_, _, rfl | rfl, _⟩ <;> rfl) | (rintro _ _ _ ⟨_, _, _, rfl | rfl, _⟩ <;> rfl) | (rintro _ _ _ ⟨_, _, _, _, rfl | rfl, _⟩ <;> rfl) | (rintro _ _ _ ⟨_, _, ⟨rfl, _⟩ | ⟨rfl, _⟩, _⟩ <;> rfl) | (rintro _ _ _ ⟨_, ⟨rfl, _⟩ | ⟨rfl, _⟩, _⟩ <;> rfl) | (rintro _ _ _ (⟨_, _, rfl, _⟩ | ⟨_, _, _, rfl, _⟩) <;> rfl) | (rintro _ _ _ (⟨_, _, _, rfl | rfl, _⟩ | ⟨_, _, _, _, rfl, _⟩) <;> rfl)) fun cdv A outer s H E hr S₀ => ⟨w_l_written (W_l_written n), (vss_one (vs_ret (ve_sum rfl (by rfl) T.m_sum (va_cons (ve_lc (own := [("_law_step_here", 1)]) rfl sc_l_written.nd (vi_seq (ve_var 0)) (blkOk_by (N := N_l_written) (sc := defScope s_l_written) (by decide +kernel)) (fun _ _ _ _ _ => (vg_name 1 sc_l_written.nd)) (fun _ _ _ _ _ => vts_nil) (fun _ _ _ _ _ => (ve_ifE (vt_val (ve_isi (by rfl) T.m_isinstance (va_cons (ve_var 1) (va_cons (ve_bty (by rfl) T.m_int (by decide +kernel)) va_nil)))) ve_int (ve_add ve_int (ve_call G_l_written (hr.mono (by omega)) (by rfl) T.g_l_written T.F_l_written.kp T.b_l_written (va_cons (ve_ix (hu_of hr) (ve_var 1) ve_int) va_nil)))))) va_nil)))), r_l_written n⟩
theorem ok_l_same (T : Txt K mg) : ∀ n, FnOk P w K mg base CX0 (0 + 1 + n) T.f_l_same T.fd_l_same ["_law_found", "_law_due"] (spW K (W_l_same n)) := by
  intro n
  induction n with
  | zero => exact fnW (k := 0) T.F_l_same sc_l_same (by intro _ _ _ h; first | exact h.elim | (obtain ⟨_, _, h, _⟩ := h; exact h.elim) | (obtain ⟨_, h⟩ := h; exact h.elim) | (obtain ⟨_, h, _⟩ := h; exact h.elim)) fun cdv A outer s H E hr S₀ => ⟨sNever, vss_never, (by intro _ _ _ h; first | exact h.elim | (obtain ⟨_, _, h, _⟩ := h; exact h.elim) | (obtain ⟨_, h⟩ := h; exact h.elim) | (obtain ⟨_, h, _⟩ := h; exact h.elim))⟩
  | succ n G_l_same => exact fnW (k := 0 + 1 + n) T.F_l_same sc_l_same (by first | (rintro _ _ _ ⟨rfl, _⟩ <;> rfl) | (rintro _ _ _ ⟨_, rfl, _⟩ <;> rfl) | (rintro _ _ _ ⟨_, _, rfl, _⟩ <;> rfl) | (rintro _ _ _ ⟨_, _, _, rfl, _⟩ <;> rfl) | (rintro _ _ _ ⟨_, _, _, _, rfl, _⟩ <;> rfl) | (rintro _ _ _ ⟨_, _, _, _, _, rfl, _⟩ <;> rfl) | (rintro _ _ _ ⟨_, _, _, _, _, _, rfl, _⟩ <;> rfl) | (rintro _ _ _ ⟨_, _, _, _, _, _, _, rfl, _⟩ <;> rfl) | (rintro _ _ _ ⟨_, _, _, _, _, _, _, _, rfl, _⟩ <;> rfl) | (rintro _ _ _ ⟨_, _, _, _, _, _, _, _, _, rfl, _⟩ <;> rfl) | (rintro _ _ _ ⟨_, rfl | rfl, _⟩; rfl; rfl) | (rintro _ _ _ ⟨_, _, rfl | rfl, _⟩; rfl; rfl) | (rintro _ _ _ ⟨_, rfl | rfl, _⟩ <;> rfl) | (rintro _ _ _ ⟨_, _, rfl | rfl, _⟩ <;> rfl) | (rintro _ _ _ ⟨_, _, _, rfl | rfl, _⟩ <;> rfl) | (rintro _ _ _ ⟨_, _, _, _, rfl | rfl, _⟩ <;> rfl) | (rintro _ _ _ ⟨_, _, ⟨rfl, _⟩ | ⟨rfl, _⟩, _⟩ <;> rfl) | (rintro _ _ _ ⟨_, ⟨rfl, _⟩ | ⟨rfl, _⟩, _⟩ <;> rfl) | (rintro _ _ _ (⟨_, _, rfl, _⟩ | ⟨_, _, _, rfl, _⟩) <;> rfl) | (rintro _ _ _ (⟨_, _, _, rfl | rfl, _⟩ | ⟨_, _, _, _, rfl, _⟩) <;> rfl)) fun cdv A outer s H E hr S₀ => ⟨w_l_same (W_l_same n), (vss_cons (vs_if (vt_isN (ve_var 1) ve_non) (vss_one (vs_ret (ve_isN (ve_var 0) ve_non))) vss_nil)
    (vss_cons (vs_if (vt_val (ve_isi (by rfl) T.m_isinstance (va_cons (ve_var 1) (va_cons (ve_tup (va_cons (ve_bty (by rfl) T.m_list (by decide +kernel)) (va_cons (ve_bty (by rfl) T.m_tuple (by decide +kernel)) va_nil))) va_nil)))) (vss_cons (vs_if (vw_pt (vw_or (vt_ne hr.units (ve_isi (by rfl) T.m_isinstance (va_cons (ve_var 0) (va_cons (ve_bty (by rfl) T.m_list (by decide +kernel)) va_nil))) (ve_isi (by rfl) T.m_isinstance (va_cons (ve_var 1) (va_cons (ve_bty (by rfl) T.m_list (by decide +kernel)) va_nil)))) (vw_or1 (vt_ne hr.units (ve_isi (by rfl) T.m_isinstance (va_cons (ve_var 0) (va_cons (ve_bty (by rfl) T.m_tuple (by decide +kernel)) va_nil))) (ve_isi (by rfl) T.m_isinstance (va_cons (ve_var 1) (va_cons (ve_bty (by rfl) T.m_tuple (by decide +kernel)) va_nil))))))) (vss_one (vs_ret ve_bl)) vss_nil)
    (vss_one (vs_ret (ve_and (ve_eq hr.units (ve_len (by rfl) T.m_len (va_cons (ve_var 0) va_nil)) (ve_len (by rfl) T.m_len (va_cons (ve_var 1) va_nil))) (ve_one (ve_all rfl (by rfl) T.m_all (va_cons (ve_lc (own := [("_law_one", 2), ("_law_other", 3)]) rfl sc_l_same.nd (vi_zip (by rfl) T.m_zip (va_cons (ve_var 0) (va_cons (ve_var 1) va_nil))) (blkOk_by (N := N_l_same) (sc := defScope s_l_same) (by decide +kernel)) (fun _ _ _ _ _ => (vg_tup rfl (vgs_cons (vg_name 2 sc_l_same.nd) (vgs_cons (vg_name 3 sc_l_same.nd) vgs_nil)))) (fun _ _ _ _ _ => vts_nil) (fun _ _ _ _ _ => (ve_call G_l_same (hr.mono (by omega)) (by rfl) T.g_l_same T.F_l_same.kp T.b_l_same (va_cons (ve_var 2) (va_cons (ve_var 3) va_nil))))) va_nil))))))) vss_nil)
    (vss_cons (vs_if (vw_pt (vw_or (vt_ne hr.units (ve_isi (by rfl) T.m_isinstance (va_cons (ve_var 1) (va_cons (ve_bty (by rfl) T.m_bool (by decide +kernel)) va_nil))) (ve_isi (by rfl) T.m_isinstance (va_cons (ve_var 0) (va_cons (ve_bty (by rfl) T.m_bool (by decide +kernel)) va_nil)))) (vw_or1 (vt_ne hr.units (ve_isi (by rfl) T.m_isinstance (va_cons (ve_var 1) (va_cons (ve_bty (by rfl) T.m_int (by decide +kernel)) va_nil))) (ve_isi (by rfl) T.m_isinstance (va_cons (ve_var 0) (va_cons (ve_bty (by rfl) T.m_int (by decide +kernel)) va_nil))))))) (vss_one (vs_ret ve_bl)) vss_nil)
    (vss_one (vs_ret (ve_and (ve_eq hr.units (ve_isi (by rfl) T.m_isinstance (va_cons (ve_var 1) (va_cons (ve_bty (by rfl) T.m_str (by decide +kernel)) va_nil))) (ve_isi (by rfl) T.m_isinstance (va_cons (ve_var 0) (va_cons (ve_bty (by rfl) T.m_str (by decide +kernel)) va_nil)))) (ve_one (ve_eq hr.units (ve_var 0) (ve_var 1))))))))), r_l_same n⟩
theorem ok_Reader_init (T : Txt K mg) : FnOk P w K mg base CX0 1 T.f_Reader_init T.fd_Reader_init ["self", "text"] (spW K W_Reader_init) :=
  fnW (k := 0) T.F_Reader_init sc_Reader_init (by first | (rintro _ _ _ ⟨rfl, _⟩ <;> rfl) | (rintro _ _ _ ⟨_, rfl, _⟩ <;> rfl) | (rintro _ _ _ ⟨_, _, rfl, _⟩ <;> rfl) | (rintro _ _ _ ⟨_, _, _, rfl, _⟩ <;> rfl) | (rintro _ _ _ ⟨_, _, _, _, rfl, _⟩ <;> rfl) | (rintro _ _ _ ⟨_, _, _, _, _, rfl, _⟩ <;> rfl) | (rintro _ _ _ ⟨_, _, _, _, _, _, rfl, _⟩ <;> rfl) | (rintro _ _ _ ⟨_, _, _, _, _, _, _, rfl, _⟩ <;> rfl) | (rintro _ _ _ ⟨_, _, _, _, _, _, _, _, rfl, _⟩ <;> rfl) | (rintro _ _ _ ⟨_, _, _, _, _, _, _, _, _, rfl, _⟩ <;> rfl) | (rintro _ _ _ ⟨_, rfl | rfl, _⟩; rfl; rfl) | (rintro _ _ _ ⟨_, _, rfl | rfl, _⟩; rfl; rfl) | (rintro _ _ _ ⟨_, rfl | rfl, _⟩ <;> rfl) | (rintro _ _ _ ⟨_, _, rfl | rfl, _⟩ <;> rfl) | (rintro _ _ _ ⟨_, _, _, rfl | rfl, _⟩ <;> rfl) | (rintro _ _ _ ⟨_, _, _, _, rfl | rfl, _⟩ <;> rfl) | (rintro _ _ _ ⟨_, _, ⟨rfl, _⟩ | ⟨rfl, _⟩, _⟩ <;> rfl) | (rintro _ _ _ ⟨_, ⟨rfl, _⟩ | ⟨rfl, _⟩, _⟩ <;> rfl) | (rintro _ _ _ (⟨_, _, rfl, _⟩ | ⟨_, _, _, rfl, _⟩) <;> rfl) | (rintro _ _ _ (⟨_, _, _, rfl | rfl, _⟩ | ⟨_, _, _, _, rfl, _⟩) <;> rfl)) fun cdv A outer s H E hr S₀ => ⟨w_Reader_init, (vss_one (vs_asg (ve_tup (va_cons (ve_var 1) (va_cons ve_int (va_cons ve_int va_nil)))) (show VG _ _ _ _ [] from (vg_tup rfl (vgs_cons (vg_fld T.n_Reader T.na_Reader_text (ve_var 0)) (vgs_cons (vg_fld T.n_Reader T.na_Reader_at (ve_var 0)) (vgs_cons (vg_fld T.n_Reader T.na_Reader_nesting (ve_var 0)) vgs_nil))))))), r_Reader_init⟩
theorem ok_parse_number (T : Txt K mg) : FnOk P w K mg base CX0 1 T.f_parse_number T.fd_parse_number ["text"] (spW K W_parse_number) :=
  fnW (k := 0) T.F_parse_number sc_parse_number (by first | (rintro _ _ _ ⟨rfl, _⟩ <;> rfl) | (rintro _ _ _ ⟨_, rfl, _⟩ <;> rfl) | (rintro _ _ _ ⟨_, _, rfl, _⟩ <;> rfl) | (rintro _ _ _ ⟨_, _, _, rfl, _⟩ <;> rfl) | (rintro _ _ _ ⟨_, _, _, _, rfl, _⟩ <;> rfl) | (rintro _ _ _ ⟨_, _, _, _, _, rfl, _⟩ <;> rfl) | (rintro _ _ _ ⟨_, _, _, _, _, _, rfl, _⟩ <;> rfl) | (rintro _ _ _ ⟨_, _, _, _, _, _, _, rfl, _⟩ <;> rfl) | (rintro _ _ _ ⟨_, _, _, _, _, _, _, _, rfl, _⟩ <;> rfl) | (rintro _ _ _ ⟨_, _, _, _, _, _, _, _, _, rfl, _⟩ <;> rfl) | (rintro _ _ _ ⟨_, rfl | rfl, _⟩; rfl; rfl) | (rintro _ _ _ ⟨_, _, rfl | rfl, _⟩; rfl; rfl) | (rintro _ _ _ ⟨_, rfl | rfl, _⟩ <;> rfl) | (rintro _ _ _ ⟨_, _, rfl | rfl, _⟩ <;> rfl) | (rintro _ _ _ ⟨_, _, _, rfl | rfl, _⟩ <;> rfl) | (rintro _ _ _ ⟨_, _, _, _, rfl | rfl, _⟩ <;> rfl) | (rintro _ _ _ ⟨_, _, ⟨rfl, _⟩ | ⟨rfl, _⟩, _⟩ <;> rfl) | (rintro _ _ _ ⟨_, ⟨rfl, _⟩ | ⟨rfl, _⟩, _⟩ <;> rfl) | (rintro _ _ _ (⟨_, _, rfl, _⟩ | ⟨_, _, _, rfl, _⟩) <;> rfl) | (rintro _ _ _ (⟨_, _, _, rfl | rfl, _⟩ | ⟨_, _, _, _, rfl, _⟩) <;> rfl)) fun cdv A outer s H E hr S₀ => ⟨w_parse_number, (vss_cons (vs_set 1 sc_parse_number.nd (ve_ifE (vt_eqS (ve_slS (ve_var 0) vo_none (vo_some ve_int)) ve_str) (ve_slS (ve_var 0) (vo_some ve_int) vo_none) (ve_var 0)))
    (vss_cons (vs_if (vw_pt (vw_or (vt_not (vt_chain ch_le ch_le ve_int (ve_len (by rfl) T.m_len (va_cons (ve_var 1) va_nil)) (ve_gint (by rfl) T.m_MAX_DIGITS))) (vw_or1 (vt_not (vt_val (ve_all rfl (by rfl) T.m_all (va_cons (ve_lc (own := [("sign", 2)]) rfl sc_parse_number.nd (vi_str (ve_var 1)) (blkOk_by (N := N_parse_number) (sc := defScope s_parse_number) (by decide +kernel)) (fun _ _ _ _ _ => (vg_name 2 sc_parse_number.nd)) (fun _ _ _ _ _ => vts_nil) (fun _ _ _ _ _ => (ve_inS (ve_var 2) (ve_gstr (by rfl) T.m_DIGITS)))) va_nil))))))) (vss_one (vs_ret ve_non)) vss_nil)
    (vss_cons (vs_if (vw_pt (vw_and (vt_eqS (ve_ixS (ve_var 1) ve_int) ve_str) (vw_and1 (vt_neS (ve_var 0) ve_str)))) (vss_one (vs_ret ve_non)) vss_nil)
    (vss_one (vs_ret (ve_intS (by rfl) T.m_int (va_cons (ve_var 0) va_nil))))))), r_parse_number⟩
theorem ok_Reader_read_word (T : Txt K mg) : FnOk P w K mg base CX0 1 T.f_Reader_read_word T.fd_Reader_read_word ["self"] (spW K W_Reader_read_word) :=
  fnW (k := 0) T.F_Reader_read_word sc_Reader_read_word (by first | (rintro _ _ _ ⟨rfl, _⟩ <;> rfl) | (rintro _ _ _ ⟨_, rfl, _⟩ <;> rfl) | (rintro _ _ _ ⟨_, _, rfl, _⟩ <;> rfl) | (rintro _ _ _ ⟨_, _, _, rfl, _⟩ <;> rfl) | (rintro _ _ _ ⟨_, _, _, _, rfl, _⟩ <;> rfl) | (rintro _ _ _ ⟨_, _, _, _, _, rfl, _⟩ <;> rfl) | (rintro _ _ _ ⟨_, _, _, _, _, _, rfl, _⟩ <;> rfl) | (rintro _ _ _ ⟨_, _, _, _, _, _, _, rfl, _⟩ <;> rfl) | (rintro _ _ _ ⟨_, _, _, _, _, _, _, _, rfl, _⟩ <;> rfl) | (rintro _ _ _ ⟨_, _, _, _, _, _, _, _, _, rfl, _⟩ <;> rfl) | (rintro _ _ _ ⟨_, rfl | rfl, _⟩; rfl; rfl) | (rintro _ _ _ ⟨_, _, rfl | rfl, _⟩; rfl; rfl) | (rintro _ _ _ ⟨_, rfl | rfl, _⟩ <;> rfl) | (rintro _ _ _ ⟨_, _, rfl | rfl, _⟩ <;> rfl) | (rintro _ _ _ ⟨_, _, _, rfl | rfl, _⟩ <;> rfl) | (rintro _ _ _ ⟨_, _, _, _, rfl | rfl, _⟩ <;> rfl) | (rintro _ _ _ ⟨_, _, ⟨rfl, _⟩ | ⟨rfl, _⟩, _⟩ <;> rfl) | (rintro _ _ _ ⟨_, ⟨rfl, _⟩ | ⟨rfl, _⟩, _⟩ <;> rfl) | (rintro _ _ _ (⟨_, _, rfl, _⟩ | ⟨_, _, _, rfl, _⟩) <;> rfl) | (rintro _ _ _ (⟨_, _, _, rfl | rfl, _⟩ | ⟨_, _, _, _, rfl, _⟩) <;> rfl)) fun cdv A outer s H E hr S₀ => ⟨w_Reader_read_word, (vss_cons (vs_set 1 sc_Reader_read_word.nd (ve_fld T.n_Reader T.na_Reader_at (ve_var 0)))
    (vss_cons (vs_while PassesOwn.never (vw_pt (vw_and (vt_lt (ve_fld T.n_Reader T.na_Reader_at (ve_var 0)) (ve_len (by rfl) T.m_len (va_cons (ve_fld T.n_Reader T.na_Reader_text (ve_var 0)) va_nil))) (vw_and1 (vt_ninS (ve_ixS (ve_fld T.n_Reader T.na_Reader_text (ve_var 0)) (ve_fld T.n_Reader T.na_Reader_at (ve_var 0))) ve_str)))) (vss_one (vs_augFadd T.n_Reader T.na_Reader_at (ve_var 0) ve_int)))
    (vss_one (vs_ret (ve_slS (ve_fld T.n_Reader T.na_Reader_text (ve_var 0)) (vo_some (ve_var 1)) (vo_some (ve_fld T.n_Reader T.na_Reader_at (ve_var 0)))))))), r_Reader_read_word⟩
theorem ok_Reader_expect (T : Txt K mg) : FnOk P w K mg base (L2N.CX P w) 3 T.f_Reader_expect T.fd_Reader_expect ["self", "sign"] (spX K mg W_Reader_expect) :=
  fnX (k := 2) T.F_Reader_expect sc_Reader_expect (by first | (rintro _ _ _ _ ⟨rfl, _⟩ <;> rfl) | (rintro _ _ _ _ ⟨_, rfl, _⟩ <;> rfl) | (rintro _ _ _ _ ⟨_, _, rfl, _⟩ <;> rfl) | (rintro _ _ _ _ ⟨_, _, _, rfl, _⟩ <;> rfl) | (rintro _ _ _ _ ⟨_, _, _, _, rfl, _⟩ <;> rfl) | (rintro _ _ _ _ ⟨_, _, _, _, _, rfl, _⟩ <;> rfl) | (rintro _ _ _ _ ⟨_, _, _, _, _, _, rfl, _⟩ <;> rfl) | (rintro _ _ _ _ ⟨_, _, _, _, _, _, _, rfl, _⟩ <;> rfl) | (rintro _ _ _ _ ⟨_, _, _, _, _, _, _, _, rfl, _⟩ <;> rfl) | (rintro _ _ _ _ ⟨_, _, _, _, _, _, _, _, _, rfl, _⟩ <;> rfl) | (rintro _ _ _ _ ⟨_, rfl | rfl, _⟩; rfl; rfl) | (rintro _ _ _ _ ⟨_, _, rfl | rfl, _⟩; rfl; rfl) | (rintro _ _ _ _ ⟨_, rfl | rfl, _⟩ <;> rfl) | (rintro _ _ _ _ ⟨_, _, rfl | rfl, _⟩ <;> rfl) | (rintro _ _ _ _ ⟨_, _, _, rfl | rfl, _⟩ <;> rfl) | (rintro _ _ _ _ ⟨_, _, _, _, rfl | rfl, _⟩ <;> rfl) | (rintro _ _ _ _ ⟨_, _, ⟨rfl, _⟩ | ⟨rfl, _⟩, _⟩ <;> rfl) | (rintro _ _ _ _ ⟨_, ⟨rfl, _⟩ | ⟨rfl, _⟩, _⟩ <;> rfl) | (rintro _ _ _ _ (⟨_, _, rfl, _⟩ | ⟨_, _, _, rfl, _⟩) <;> rfl) | (rintro _ _ _ _ (⟨_, _, _, rfl | rfl, _⟩ | ⟨_, _, _, _, rfl, _⟩) <;> rfl)) fun cdv A outer s H E hr S₀ Ψ hX => ⟨w_Reader_expect Ψ, (vss_cons (vs_if (vt_neS (ve_slS (ve_fld T.n_Reader T.na_Reader_text (ve_var 0)) (vo_some (ve_fld T.n_Reader T.na_Reader_at (ve_var 0))) (vo_some (ve_add (ve_fld T.n_Reader T.na_Reader_at (ve_var 0)) ve_int))) (ve_var 1)) (vss_one (vs_raise rfl hX (L2N.takes_of rfl rfl rfl rfl) T.XK_ParseError (okI_ParseError T) (hr.mono (by omega)) T.bI_ParseError (by rfl) T.g_ParseError (va_cons ve_int va_nil))) vss_nil)
    (vss_one (vs_augFadd T.n_Reader T.na_Reader_at (ve_var 0) ve_int))), r_Reader_expect Ψ⟩
theorem ok_Reader_read_step (T : Txt K mg) (G_parse_number : FnOk P w K mg base CX0 1 T.f_parse_number T.fd_parse_number ["text"] (spW K W_parse_number)) (G_Reader_read_word : FnOk P w K mg base CX0 1 T.f_Reader_read_word T.fd_Reader_read_word ["self"] (spW K W_Reader_read_word)) (G_Reader_expect : FnOk P w K mg base (L2N.CX P w) 3 T.f_Reader_expect T.fd_Reader_expect ["self", "sign"] (spX K mg W_Reader_expect)) (n : Nat) (G_Reader_read_steps : FnOk P w K mg base (L2N.CX P w) (3 + 1 + 2 * n) T.f_Reader_read_steps T.fd_Reader_read_steps ["self"] (spX K mg (W_Reader_read_steps n))) : FnOk P w K mg base (L2N.CX P w) (3 + 1 + 2 * n + 1) T.f_Reader_read_step T.fd_Reader_read_step ["self"] (spX K mg (W_Reader_read_step n)) :=
  fnX (k := 3 + 1 + 2 * n) T.F_Reader_read_step sc_Reader_read_step (by first | (rintro _ _ _ _ ⟨rfl, _⟩ <;> rfl) | (rintro _ _ _ _ ⟨_, rfl, _⟩ <;> rfl) | (rintro _ _ _ _ ⟨_, _, rfl, _⟩ <;> rfl) | (rintro _ _ _ _ ⟨_, _, _, rfl, _⟩ <;> rfl) | (rintro _ _ _ _ ⟨_, _, _, _, rfl, _⟩ <;> rfl) | (rintro _ _ _ _ ⟨_, _, _, _, _, rfl, _⟩ <;> rfl) | (rintro _ _ _ _ ⟨_, _, _, _, _, _, rfl, _⟩ <;> rfl) | (rintro _ _ _ _ ⟨_, _, _, _, _, _, _, rfl, _⟩ <;> rfl) | (rintro _ _ _ _ ⟨_, _, _, _, _, _, _, _, rfl, _⟩ <;> rfl) | (rintro _ _ _ _ ⟨_, _, _, _, _, _, _, _, _, rfl, _⟩ <;> rfl) | (rintro _ _ _ _ ⟨_, rfl | rfl, _⟩; rfl; rfl) | (rintro _ _ _ _ ⟨_, _, rfl | rfl, _⟩; rfl; rfl) | (rintro _ _ _ _ ⟨_, rfl | rfl, _⟩ <;> rfl) | (rintro _ _ _ _ ⟨_, _, rfl | rfl, _⟩ <;> rfl) | (rintro _ _ _ _ ⟨_, _, _, rfl | rfl, _⟩ <;> rfl) | (rintro _ _ _ _ ⟨_, _, _, _, rfl | rfl, _⟩ <;> rfl) | (rintro _ _ _ _ ⟨_, _, ⟨rfl, _⟩ | ⟨rfl, _⟩, _⟩ <;> rfl) | (rintro _ _ _ _ ⟨_, ⟨rfl, _⟩ | ⟨rfl, _⟩, _⟩ <;> rfl) | (rintro _ _ _ _ (⟨_, _, rfl, _⟩ | ⟨_, _, _, rfl, _⟩) <;> rfl) | (rintro _ _ _ _ (⟨_, _, _, rfl | rfl, _⟩ | ⟨_, _, _, _, rfl, _⟩) <;> rfl)) fun cdv A outer s H E hr S₀ Ψ hX => ⟨w_Reader_read_step Ψ (W_Reader_read_steps n), (vss_cons (vs_set 1 sc_Reader_read_step.nd (ve_call G_parse_number (hr.mono (by omega)) (by rfl) T.g_parse_number T.F_parse_number.kp T.b_parse_number (va_cons (ve_met0 T.n_Reader T.me_Reader_read_word (runsW G_Reader_read_word) (hr.mono (by omega)) T.b_Reader_read_word (ve_var 0)) va_nil)))
    (vss_cons (vs_if (vt_isN (ve_var 1) ve_non) (vss_one (vs_raise rfl hX (L2N.takes_of rfl rfl rfl rfl) T.XK_ParseError (okI_ParseError T) (hr.mono (by omega)) T.bI_ParseError (by rfl) T.g_ParseError (va_cons ve_int va_nil))) vss_nil)
    (vss_cons (vs_if (vt_neS (ve_slS (ve_fld T.n_Reader T.na_Reader_text (ve_var 0)) (vo_some (ve_fld T.n_Reader T.na_Reader_at (ve_var 0))) (vo_some (ve_add (ve_fld T.n_Reader T.na_Reader_at (ve_var 0)) ve_int))) ve_str) (vss_one (vs_ret (ve_var 1))) vss_nil)
    (vss_cons (vs_if (vt_eq hr.units (ve_fld T.n_Reader T.na_Reader_nesting (ve_var 0)) (ve_gint (by rfl) T.m_MAX_NESTING)) (vss_one (vs_raise rfl hX (L2N.takes_of rfl rfl rfl rfl) T.XK_ParseError (okI_ParseError T) (hr.mono (by omega)) T.bI_ParseError (by rfl) T.g_ParseError (va_cons ve_int va_nil))) vss_nil)
    (vss_cons (vs_augFadd T.n_Reader T.na_Reader_nesting (ve_var 0) ve_int)
    (vss_cons (vs_expr (ve_met T.n_Reader T.me_Reader_expect (runsX hX (L2N.takes_of rfl rfl rfl rfl) G_Reader_expect) (hr.mono (by omega)) T.b_Reader_expect (ve_var 0) (va_cons ve_str va_nil)))
    (vss_cons (vs_expr (ve_met T.n_Reader T.me_Reader_expect (runsX hX (L2N.takes_of rfl rfl rfl rfl) G_Reader_expect) (hr.mono (by omega)) T.b_Reader_expect (ve_var 0) (va_cons ve_str va_nil)))
    (vss_cons (vs_set 2 sc_Reader_read_step.nd (ve_met0 T.n_Reader T.me_Reader_read_steps (runsX hX (L2N.takes_of rfl rfl rfl rfl) G_Reader_read_steps) (hr.mono (by omega)) T.b_Reader_read_steps (ve_var 0)))
    (vss_cons (vs_expr (ve_met T.n_Reader T.me_Reader_expect (runsX hX (L2N.takes_of rfl rfl rfl rfl) G_Reader_expect) (hr.mono (by omega)) T.b_Reader_expect (ve_var 0) (va_cons ve_str va_nil)))
    (vss_cons (vs_augFsub T.n_Reader T.na_Reader_nesting (ve_var 0) ve_int)
    (vss_one (vs_ret (ve_tup (va_cons ve_str (va_cons (ve_var 1) (va_cons (ve_tupC (by rfl) T.m_tuple (va_cons (ve_var 2) va_nil)) va_nil)))))))))))))))), r_Reader_read_step n Ψ⟩
theorem ok_Reader_read_steps (T : Txt K mg) (G_Reader_expect : FnOk P w K mg base (L2N.CX P w) 3 T.f_Reader_expect T.fd_Reader_expect ["self", "sign"] (spX K mg W_Reader_expect)) (G_parse_number : FnOk P w K mg base CX0 1 T.f_parse_number T.fd_parse_number ["text"] (spW K W_parse_number)) (G_Reader_read_word : FnOk P w K mg base CX0 1 T.f_Reader_read_word T.fd_Reader_read_word ["self"] (spW K W_Reader_read_word)) : ∀ n, FnOk P w K mg base (L2N.CX P w) (3 + 1 + 2 * n) T.f_Reader_read_steps T.fd_Reader_read_steps ["self"] (spX K mg (W_Reader_read_steps n)) := by
  intro n
  induction n with
  | zero => exact fnX (k := 3) T.F_Reader_read_steps sc_Reader_read_steps (by intro _ _ _ _ h; first | exact h.elim | (obtain ⟨_, _, h, _⟩ := h; exact h.elim) | (obtain ⟨_, h⟩ := h; exact h.elim) | (obtain ⟨_, h, _⟩ := h; exact h.elim)) fun cdv A outer s H E hr S₀ Ψ hX => ⟨sNever, vss_never, (by intro _ _ _ h; first | exact h.elim | (obtain ⟨_, _, h, _⟩ := h; exact h.elim) | (obtain ⟨_, h⟩ := h; exact h.elim) | (obtain ⟨_, h, _⟩ := h; exact h.elim))⟩
  | succ n G_Reader_read_steps =>
    have G_Reader_read_step := ok_Reader_read_step (P := P) (w := w) (base := base) T G_parse_number G_Reader_read_word G_Reader_expect n G_Reader_read_steps
    exact fnX (k := 3 + 1 + 2 * n + 1) T.F_Reader_read_steps sc_Reader_read_steps (by first | (rintro _ _ _ _ ⟨rfl, _⟩ <;> rfl) | (rintro _ _ _ _ ⟨_, rfl, _⟩ <;> rfl) | (rintro _ _ _ _ ⟨_, _, rfl, _⟩ <;> rfl) | (rintro _ _ _ _ ⟨_, _, _, rfl, _⟩ <;> rfl) | (rintro _ _ _ _ ⟨_, _, _, _, rfl, _⟩ <;> rfl) | (rintro _ _ _ _ ⟨_, _, _, _, _, rfl, _⟩ <;> rfl) | (rintro _ _ _ _ ⟨_, _, _, _, _, _, rfl, _⟩ <;> rfl) | (rintro _ _ _ _ ⟨_, _, _, _, _, _, _, rfl, _⟩ <;> rfl) | (rintro _ _ _ _ ⟨_, _, _, _, _, _, _, _, rfl, _⟩ <;> rfl) | (rintro _ _ _ _ ⟨_, _, _, _, _, _, _, _, _, rfl, _⟩ <;> rfl) | (rintro _ _ _ _ ⟨_, rfl | rfl, _⟩; rfl; rfl) | (rintro _ _ _ _ ⟨_, _, rfl | rfl, _⟩; rfl; rfl) | (rintro _ _ _ _ ⟨_, rfl | rfl, _⟩ <;> rfl) | (rintro _ _ _ _ ⟨_, _, rfl | rfl, _⟩ <;> rfl) | (rintro _ _ _ _ ⟨_, _, _, rfl | rfl, _⟩ <;> rfl) | (rintro _ _ _ _ ⟨_, _, _, _, rfl | rfl, _⟩ <;> rfl) | (rintro _ _ _ _ ⟨_, _, ⟨rfl, _⟩ | ⟨rfl, _⟩, _⟩ <;> rfl) | (rintro _ _ _ _ ⟨_, ⟨rfl, _⟩ | ⟨rfl, _⟩, _⟩ <;> rfl) | (rintro _ _ _ _ (⟨_, _, rfl, _⟩ | ⟨_, _, _, rfl, _⟩) <;> rfl) | (rintro _ _ _ _ (⟨_, _, _, rfl | rfl, _⟩ | ⟨_, _, _, _, rfl, _⟩) <;> rfl)) fun cdv A outer s H E hr S₀ Ψ hX => ⟨w_Reader_read_steps Ψ (W_Reader_read_step n), (vss_cons (vs_set 1 sc_Reader_read_steps.nd (ve_lstM va_nil))
    (vss_cons (vs_if (vt_in (hu_of hr) (ve_slS (ve_fld T.n_Reader T.na_Reader_text (ve_var 0)) (vo_some (ve_fld T.n_Reader T.na_Reader_at (ve_var 0))) (vo_some (ve_add (ve_fld T.n_Reader T.na_Reader_at (ve_var 0)) ve_int))) (ve_tup (va_cons ve_str (va_cons ve_str va_nil)))) (vss_one (vs_ret (ve_var 1))) vss_nil)
    (vss_cons (vs_expr (ve_append (ve_var 1) (va_cons (ve_met0 T.n_Reader T.me_Reader_read_step (runsX hX (L2N.takes_of rfl rfl rfl rfl) G_Reader_read_step) (hr.mono (by omega)) T.b_Reader_read_step (ve_var 0)) va_nil)))
    (vss_cons (vs_while (L2.passes_of rfl) (vt_eqS (ve_slS (ve_fld T.n_Reader T.na_Reader_text (ve_var 0)) (vo_some (ve_fld T.n_Reader T.na_Reader_at (ve_var 0))) (vo_some (ve_add (ve_fld T.n_Reader T.na_Reader_at (ve_var 0)) ve_int))) ve_str) (vss_cons (vs_expr (ve_met T.n_Reader T.me_Reader_expect (runsX hX (L2N.takes_of rfl rfl rfl rfl) G_Reader_expect) (hr.mono (by omega)) T.b_Reader_expect (ve_var 0) (va_cons ve_str va_nil)))
    (vss_one (vs_expr (ve_append (ve_var 1) (va_cons (ve_met0 T.n_Reader T.me_Reader_read_step (runsX hX (L2N.takes_of rfl rfl rfl rfl) G_Reader_read_step) (hr.mono (by omega)) T.b_Reader_read_step (ve_var 0)) va_nil))))))
    (vss_one (vs_ret (ve_var 1))))))), r_Reader_read_steps n Ψ⟩
theorem ok_parse_history (T : Txt K mg) (G_Reader_init : FnOk P w K mg base CX0 1 T.f_Reader_init T.fd_Reader_init ["self", "text"] (spW K W_Reader_init)) (G_Reader_read_steps : FnOk P w K mg base (L2N.CX P w) 16 T.f_Reader_read_steps T.fd_Reader_read_steps ["self"] (spX K mg (W_Reader_read_steps 6))) (G_check_history : FnOk P w K mg base (L2N.CX P w) 10 T.f_check_history T.fd_check_history ["history"] (spX K mg W_check_history)) : FnOk P w K mg base (CXk P w) 17 T.f_parse_history T.fd_parse_history ["text"] (spX K mg W_parse_history) :=
  fnXk (k := 16) T.F_parse_history sc_parse_history (by first | (rintro _ _ _ _ ⟨rfl, _⟩ <;> rfl) | (rintro _ _ _ _ ⟨_, rfl, _⟩ <;> rfl) | (rintro _ _ _ _ ⟨_, _, rfl, _⟩ <;> rfl) | (rintro _ _ _ _ ⟨_, _, _, rfl, _⟩ <;> rfl) | (rintro _ _ _ _ ⟨_, _, _, _, rfl, _⟩ <;> rfl) | (rintro _ _ _ _ ⟨_, _, _, _, _, rfl, _⟩ <;> rfl) | (rintro _ _ _ _ ⟨_, _, _, _, _, _, rfl, _⟩ <;> rfl) | (rintro _ _ _ _ ⟨_, _, _, _, _, _, _, rfl, _⟩ <;> rfl) | (rintro _ _ _ _ ⟨_, _, _, _, _, _, _, _, rfl, _⟩ <;> rfl) | (rintro _ _ _ _ ⟨_, _, _, _, _, _, _, _, _, rfl, _⟩ <;> rfl) | (rintro _ _ _ _ ⟨_, rfl | rfl, _⟩; rfl; rfl) | (rintro _ _ _ _ ⟨_, _, rfl | rfl, _⟩; rfl; rfl) | (rintro _ _ _ _ ⟨_, rfl | rfl, _⟩ <;> rfl) | (rintro _ _ _ _ ⟨_, _, rfl | rfl, _⟩ <;> rfl) | (rintro _ _ _ _ ⟨_, _, _, rfl | rfl, _⟩ <;> rfl) | (rintro _ _ _ _ ⟨_, _, _, _, rfl | rfl, _⟩ <;> rfl) | (rintro _ _ _ _ ⟨_, _, ⟨rfl, _⟩ | ⟨rfl, _⟩, _⟩ <;> rfl) | (rintro _ _ _ _ ⟨_, ⟨rfl, _⟩ | ⟨rfl, _⟩, _⟩ <;> rfl) | (rintro _ _ _ _ (⟨_, _, rfl, _⟩ | ⟨_, _, _, rfl, _⟩) <;> rfl) | (rintro _ _ _ _ (⟨_, _, _, rfl | rfl, _⟩ | ⟨_, _, _, _, rfl, _⟩) <;> rfl)) fun cdv A outer s H E hr S₀ Ψ hX => ⟨w_parse_history Ψ, (vss_cons (vs_set 1 sc_parse_history.nd (ve_make T.n_Reader T.mk_Reader (runsW G_Reader_init) (hr.mono (by omega)) (by rfl) T.g_Reader T.b_Reader_init (va_cons (ve_var 0) va_nil)))
    (vss_cons (vs_set 2 sc_parse_history.nd (ve_met0 T.n_Reader T.me_Reader_read_steps (runsX hX (takesN (takesk_of rfl rfl rfl rfl)) G_Reader_read_steps) (hr.mono (by omega)) T.b_Reader_read_steps (ve_var 1)))
    (vss_cons (vs_if (vt_lt (ve_fld T.n_Reader T.na_Reader_at (ve_var 1)) (ve_len (by rfl) T.m_len (va_cons (ve_var 0) va_nil))) (vss_one (vs_raise rfl hX (takesN (takesk_of rfl rfl rfl rfl)) T.XK_ParseError (okI_ParseError T) (hr.mono (by omega)) T.bI_ParseError (by rfl) T.g_ParseError (va_cons ve_int va_nil))) vss_nil)
    (vss_cons (vs_tryFrom (ts := ["BadStep", "TooLong"]) (i := 3) hX (takesk_of rfl rfl rfl rfl) (fun hd => L2H.passesAt_of rfl hd) rfl rfl rfl sc_parse_history.nd rfl rfl (by rfl) T.g_TreeError (fun t ht C2 hC => by simp only [List.mem_cons, List.not_mem_nil, or_false] at ht; rcases ht with rfl | rfl <;> first | (cases hC.symm.trans T.g_BadStep; exact ⟨T.XO_BadStep, _, T.XK_BadStep⟩) | (cases hC.symm.trans T.g_TooLong; exact ⟨T.XO_TooLong, _, T.XK_TooLong⟩)) T.XK_ParseError rfl T.FI_ParseError scI_ParseError T.bI_ParseError (by rfl) T.g_ParseError (hr.mono (by omega)) (hotI_ParseError T) (fun pn xe Ψ1 E1 kx tk1 => (vss_one (vs_expr (ve_callFX kx tk1 G_check_history (hr.mono (by omega)) (by rfl) T.g_check_history T.F_check_history.kp T.b_check_history (va_cons (ve_var 2) va_nil))))))
    (vss_one (vs_ret (ve_var 2))))))), r_parse_history Ψ⟩
theorem ok_law (T : Txt K mg) {PT : Addr} (TB : TabB base mg T.c_law PT) (G_l_start : FnOk P w K mg base CX0 1 T.f_l_start T.fd_l_start ["_law_script"] (spW K W_l_start)) (G_l_keys : FnOk P w K mg base CX0 3 T.f_l_keys T.fd_l_keys ["_law_draw", "_law_many"] (spW K W_l_keys)) (G_l_take : FnOk P w K mg base CX0 1 T.f_l_take T.fd_l_take ["_law_draw", "_law_many"] (spW K W_l_take)) (G_l_history : FnOk P w K mg base CX0 9 T.f_l_history T.fd_l_history ["_law_draw", "_law_keys_here", "_law_most", "_law_deep"] (spW K W_l_history)) (G_format_history : FnOk P w K mg base (L2N.CX P w) 14 T.f_format_history T.fd_format_history ["history"] (spX K mg W_format_history)) (G_l_bent_text : FnOk P w K mg base CX0 3 T.f_l_bent_text T.fd_l_bent_text ["_law_draw", "_law_text"] (spW K W_l_bent_text)) (G_l_of : FnOk P w K mg base CX0 2 T.f_l_of T.fd_l_of ["_law_draw", "_law_some"] (spW K W_l_of)) (G_l_read : FnOk P w K mg base CX0 8 T.f_l_read T.fd_l_read ["_law_text", "_law_level"] (spW K (W_l_read 6))) (G_l_written : FnOk P w K mg base CX0 6 T.f_l_written T.fd_l_written ["_law_steps"] (spW K (W_l_written 5))) (G_l_same : FnOk P w K mg base CX0 13 T.f_l_same T.fd_l_same ["_law_found", "_law_due"] (spW K (W_l_same 12))) (G_parse_history : FnOk P w K mg base (CXk P w) 17 T.f_parse_history T.fd_parse_history ["text"] (spX K mg W_parse_history)) : FnOk P w K mg base CX0 21 T.f_law T.fd_law ["_law_script"] (spW K (W_law PT)) :=
  fnWC (k := 20) T.F_law sc_law (by first | (rintro _ _ _ ⟨rfl, _⟩ <;> rfl) | (rintro _ _ _ ⟨_, rfl, _⟩ <;> rfl) | (rintro _ _ _ ⟨_, _, rfl, _⟩ <;> rfl) | (rintro _ _ _ ⟨_, _, _, rfl, _⟩ <;> rfl) | (rintro _ _ _ ⟨_, _, _, _, rfl, _⟩ <;> rfl) | (rintro _ _ _ ⟨_, _, _, _, _, rfl, _⟩ <;> rfl) | (rintro _ _ _ ⟨_, _, _, _, _, _, rfl, _⟩ <;> rfl) | (rintro _ _ _ ⟨_, _, _, _, _, _, _, rfl, _⟩ <;> rfl) | (rintro _ _ _ ⟨_, _, _, _, _, _, _, _, rfl, _⟩ <;> rfl) | (rintro _ _ _ ⟨_, _, _, _, _, _, _, _, _, rfl, _⟩ <;> rfl) | (rintro _ _ _ ⟨_, rfl | rfl, _⟩; rfl; rfl) | (rintro _ _ _ ⟨_, _, rfl | rfl, _⟩; rfl; rfl) | (rintro _ _ _ ⟨_, rfl | rfl, _⟩ <;> rfl) | (rintro _ _ _ ⟨_, _, rfl | rfl, _⟩ <;> rfl) | (rintro _ _ _ ⟨_, _, _, rfl | rfl, _⟩ <;> rfl) | (rintro _ _ _ ⟨_, _, _, _, rfl | rfl, _⟩ <;> rfl) | (rintro _ _ _ ⟨_, _, ⟨rfl, _⟩ | ⟨rfl, _⟩, _⟩ <;> rfl) | (rintro _ _ _ ⟨_, ⟨rfl, _⟩ | ⟨rfl, _⟩, _⟩ <;> rfl) | (rintro _ _ _ (⟨_, _, rfl, _⟩ | ⟨_, _, _, rfl, _⟩) <;> rfl) | (rintro _ _ _ (⟨_, _, _, rfl | rfl, _⟩ | ⟨_, _, _, _, rfl, _⟩) <;> rfl)) fun A outer s H E hr S₀ => ⟨w_law PT _ _, (vss_cons (vs_set 1 sc_law.nd (ve_call G_l_start (hr.mono (by omega)) (by rfl) T.g_l_start T.F_l_start.kp T.b_l_start (va_cons (ve_var 0) va_nil)))
    (vss_cons (vs_for PassesOwn.never rfl (vi_rng1 (by rfl) T.m_range (va_cons ve_int va_nil)) (show VG _ _ _ _ [2] from (vg_name 2 sc_law.nd)) (vss_cons (vs_set 3 sc_law.nd (ve_call G_l_keys (hr.mono (by omega)) (by rfl) T.g_l_keys T.F_l_keys.kp T.b_l_keys (va_cons (ve_var 1) (va_cons (ve_add ve_int (ve_call G_l_take (hr.mono (by omega)) (by rfl) T.g_l_take T.F_l_take.kp T.b_l_take (va_cons (ve_var 1) (va_cons ve_int va_nil)))) va_nil))))
    (vss_cons (vs_setLc 4 (own := [("_law_step_here", 5)]) rfl sc_law.nd (vi_seq (ve_call G_l_history (hr.mono (by omega)) (by rfl) T.g_l_history T.F_l_history.kp T.b_l_history (va_cons (ve_var 1) (va_cons (ve_var 3) (va_cons ve_int (va_cons ve_int va_nil)))))) (blkOk_by (N := N_law) (sc := defScope s_law) (by decide +kernel)) (fun _ _ _ _ _ => (vg_name 5 sc_law.nd)) (fun _ _ _ _ _ => vts_nil) (fun _ _ _ _ _ => (ve_var 5)) (sw_true rfl rfl rfl (by decide +kernel)))
    (vss_cons (vs_set 6 sc_law.nd (ve_call (ok_quiet G_format_history) (hr.mono (by omega)) (by rfl) T.g_format_history T.F_format_history.kp T.b_format_history (va_cons (ve_var 4) va_nil)))
    (vss_cons (vs_for PassesOwn.never rfl (vi_rng1 (by rfl) T.m_range (va_cons (ve_call G_l_take (hr.mono (by omega)) (by rfl) T.g_l_take T.F_l_take.kp T.b_l_take (va_cons (ve_var 1) (va_cons ve_int va_nil))) va_nil)) (show VG _ _ _ _ [5] from (vg_name 5 sc_law.nd)) (vss_one (vs_set 6 sc_law.nd (ve_call G_l_bent_text (hr.mono (by omega)) (by rfl) T.g_l_bent_text T.F_l_bent_text.kp T.b_l_bent_text (va_cons (ve_var 1) (va_cons (ve_var 6) va_nil))))))
    (vss_cons (vs_for PassesOwn.never rfl (vi_rng1 (by rfl) T.m_range (va_cons (ve_call G_l_of (hr.mono (by omega)) (by rfl) T.g_l_of T.F_l_of.kp T.b_l_of (va_cons (ve_var 1) (va_cons (ve_lst (va_cons ve_int (va_cons ve_int (va_cons ve_int (va_cons ve_int (va_cons ve_int (va_cons ve_int va_nil))))))) va_nil))) va_nil)) (show VG _ _ _ _ [5] from (vg_name 5 sc_law.nd)) (vss_one (vs_set 6 sc_law.nd (ve_add (ve_add ve_str (ve_var 6)) ve_str))))
    (vss_cons (vs_set 7 sc_law.nd (ve_call G_l_read (hr.mono (by omega)) (by rfl) T.g_l_read T.F_l_read.kp T.b_l_read (va_cons (ve_var 6) (va_cons ve_int va_nil))))
    (vss_cons (vs_set 7 sc_law.nd (ve_ifE (vw_pt (vw_or (vt_isN (ve_var 7) ve_non) (vw_or1 (vt_gt (ve_call G_l_written (hr.mono (by omega)) (by rfl) T.g_l_written T.F_l_written.kp T.b_l_written (va_cons (ve_var 7) va_nil)) ve_int)))) ve_non (ve_var 7)))
    (vss_cons (vs_set 8 sc_law.nd (ve_ifE (vt_isN (ve_var 7) ve_non) (ve_tup (va_cons ve_non (va_cons ve_str (va_cons ve_int va_nil)))) (ve_tup (va_cons (ve_var 7) (va_cons ve_str (va_cons ve_non va_nil))))))
    (vss_one (vs_if (vt_not (vt_val (ve_callQ G_l_same (hr.mono (by omega)) (by rfl) T.g_l_same T.F_l_same.kp T.b_l_same (va_cons (ve_out (k := 17) (outF T) (by rfl) TB rfl (hr.mono (by omega)) (lamS_by (sc := defScope s_law) (by decide +kernel)) rfl (fun _ _ _ _ _ => rfl) fun A outer s H E f c' hr S₂ Ψ hX => (ve_callXk hX lamN_takesk G_parse_history (hr.mono (by omega)) (by rfl) T.g_parse_history T.F_parse_history.kp T.b_parse_history (va_cons (ve_var 6) va_nil))) (va_cons (ve_var 8) va_nil))))) (vss_one (vs_ret ve_bl)) vss_nil)))))))))))
    (vss_cons (vs_set 9 sc_law.nd (ve_lst (va_cons ve_str (va_cons ve_str (va_cons ve_str (va_cons ve_str (va_cons ve_str (va_cons ve_str (va_cons ve_str (va_cons ve_str (va_cons ve_str (va_cons ve_str (va_cons ve_str (va_cons ve_str (va_cons ve_str (va_cons ve_str (va_cons ve_str (va_cons (ve_add ve_str (ve_mulS ve_str ve_int)) va_nil))))))))))))))))))
    (vss_cons (vs_set 9 sc_law.nd (ve_add (ve_var 9) (ve_lst (va_cons (ve_add (ve_add ve_str (ve_mulS ve_str ve_int)) ve_str) (va_cons (ve_mulS ve_str ve_int) (va_cons ve_str (va_cons (ve_add (ve_mulS ve_str ve_int) (ve_mulS ve_str ve_int)) (va_cons (ve_add (ve_mulS ve_str ve_int) (ve_mulS ve_str ve_int)) va_nil))))))))
    (vss_one (vs_ret (ve_eq hr.units (ve_lc (own := [("_law_one", 10)]) rfl sc_law.nd (vi_seq (ve_var 9)) (blkOk_by (N := N_law) (sc := defScope s_law) (by decide +kernel)) (fun _ _ _ _ _ => (vg_name 10 sc_law.nd)) (fun _ _ _ _ _ => vts_nil) (fun _ _ _ _ _ => (ve_err (k := 17) (outF T) (errF T) (by rfl) TB rfl (hr.mono (by omega)) (show LamS (relS _ (defScope s_law)) _ from lamS_by (by decide +kernel)) rfl (fun _ _ _ _ _ => rfl) fun A outer s H E f c' hr S₂ Ψ hX => (ve_callXk hX lamN_takesk G_parse_history (hr.mono (by omega)) (by rfl) T.g_parse_history T.F_parse_history.kp T.b_parse_history (va_cons (ve_var 10) va_nil))))) (ve_mul (ve_lst (va_cons (ve_tup (va_cons ve_str (va_cons ve_int va_nil))) va_nil)) ve_int)))))))), r_law PT⟩
theorem ok_all (T : Txt K mg) {PT : Addr} (TB : TabB base mg T.c_law PT) : FnOk P w K mg base CX0 21 T.f_law T.fd_law ["_law_script"] (spW K (W_law PT)) := by
  have G_l_start := ok_l_start (P := P) (w := w) (base := base) T 
  have G_l_take := ok_l_take (P := P) (w := w) (base := base) T 
  have G_l_of := ok_l_of (P := P) (w := w) (base := base) T G_l_take
  have G_l_keys := ok_l_keys (P := P) (w := w) (base := base) T G_l_of G_l_take
  have G_l_step := ok_l_step (P := P) (w := w) (base := base) T G_l_take G_l_of 5
  have G_l_history := ok_l_history (P := P) (w := w) (base := base) T G_l_take G_l_step
  have G_is_key := ok_is_key (P := P) (w := w) (base := base) T 
  have G_check_round := ok_check_round (P := P) (w := w) (base := base) T 
  have G_check_steps := ok_check_steps (P := P) (w := w) (base := base) T G_is_key G_check_round 5
  have G_check_history := ok_check_history (P := P) (w := w) (base := base) T G_check_steps
  have G_format_steps := ok_format_steps (P := P) (w := w) (base := base) T  6
  have G_format_history := ok_format_history (P := P) (w := w) (base := base) T G_check_history G_format_steps
  have G_l_bent_text := ok_l_bent_text (P := P) (w := w) (base := base) T G_l_take G_l_of
  have G_l_items := ok_l_items (P := P) (w := w) (base := base) T 
  have G_l_number := ok_l_number (P := P) (w := w) (base := base) T 
  have G_l_read := ok_l_read (P := P) (w := w) (base := base) T G_l_items G_l_number 6
  have G_l_written := ok_l_written (P := P) (w := w) (base := base) T  5
  have G_l_same := ok_l_same (P := P) (w := w) (base := base) T  12
  have G_Reader_init := ok_Reader_init (P := P) (w := w) (base := base) T 
  have G_parse_number := ok_parse_number (P := P) (w := w) (base := base) T 
  have G_Reader_read_word := ok_Reader_read_word (P := P) (w := w) (base := base) T 
  have G_Reader_expect := ok_Reader_expect (P := P) (w := w) (base := base) T 
  have G_Reader_read_steps := ok_Reader_read_steps (P := P) (w := w) (base := base) T G_Reader_expect G_parse_number G_Reader_read_word 6
  have G_parse_history := ok_parse_history (P := P) (w := w) (base := base) T G_Reader_init G_Reader_read_steps G_check_history
  have G_law := ok_law (P := P) (w := w) (base := base) T TB G_l_start G_l_keys G_l_take G_l_history G_format_history G_l_bent_text G_l_of G_l_read G_l_written G_l_same G_parse_history
  exact G_law
end
theorem law_inT {K : PySem.W.Frag} {H : Hp} {a PT : Addr} {q : Str} {ns : List Int} {W : W3} {E : XK} (hP : H PT = some (.tbl #[])) (hS : SqL K H a (ns.map V.int)) (h : W [.fz (ns.map D.int)] (fun b => if b = PT then some (.tab q) else none) (fun d _ => d = .bl true)) : spW K W [.ref a] H (fun v _ => v = .bl true) E :=
  law_inT0 hP hS h
theorem all_mk {l : PySem.W.OpenLaw} {w : World} {K : PySem.W.Frag} {h : Heap} {mg : Str → Option Value} {fa : Addr} (X : K.In h) (G : h.Ns mainGlobals mg) (hfa : mg "law" = some (.ref fa)) (own : LamX.OwnTab K fa h)
    {S0 : Addr} (e0 : PySem.W.nsIn K mainGlobals "Reader" = some (some (.ref S0)))
    (ea0 : PySem.W.plainGet K S0 Str.empty = true)
    (eb0 : PySem.W.hasDictIn K S0 = true)
    (ec0 : PySem.W.plainOver K S0 = true)
    (ed0 : PySem.W.findIn K (.ref S0) "__setattr__" = some (some (.builtin "object.__setattr__")))
    (ee0 : PySem.W.makesIn K S0 = true)
    (ef0 : PySem.W.keepIn K (.ref S0) = true)
    (eg_at_0 : PySem.W.findIn K (.ref S0) "at" = some none)
    (eg_nesting_0 : PySem.W.findIn K (.ref S0) "nesting" = some none)
    (eg_text_0 : PySem.W.findIn K (.ref S0) "text" = some none)
    {f0 : Addr} {od0 an0 : Option Addr} {sl0 : Array (Option Value)} {oc0 kV0 dc0 pm0 cd0 ct0 : Value}
    (a0 : PySem.W.nsIn K mainGlobals "_law_start" = some (some (.ref f0))) (l0 : K.lookup f0 = some ⟨oc0, od0, .func (PySem.W.fnOf "_law_start" "_law_start" (defArgs s_l_start) (defBody s_l_start) (defScope s_l_start) .none kV0 dc0 pm0 an0 cd0 ct0), sl0⟩) (c0 : PySem.W.codeIn K cd0 "_law_start" = true) (k0 : PySem.W.keepIn K (.ref f0) = true)
    {f1 : Addr} {od1 an1 : Option Addr} {sl1 : Array (Option Value)} {oc1 kV1 dc1 pm1 cd1 ct1 : Value}
    (a1 : PySem.W.nsIn K mainGlobals "_law_take" = some (some (.ref f1))) (l1 : K.lookup f1 = some ⟨oc1, od1, .func (PySem.W.fnOf "_law_take" "_law_take" (defArgs s_l_take) (defBody s_l_take) (defScope s_l_take) .none kV1 dc1 pm1 an1 cd1 ct1), sl1⟩) (c1 : PySem.W.codeIn K cd1 "_law_take" = true) (k1 : PySem.W.keepIn K (.ref f1) = true)
    {f2 : Addr} {od2 an2 : Option Addr} {sl2 : Array (Option Value)} {oc2 kV2 dc2 pm2 cd2 ct2 : Value}
    (a2 : PySem.W.nsIn K mainGlobals "_law_of" = some (some (.ref f2))) (l2 : K.lookup f2 = some ⟨oc2, od2, .func (PySem.W.fnOf "_law_of" "_law_of" (defArgs s_l_of) (defBody s_l_of) (defScope s_l_of) .none kV2 dc2 pm2 an2 cd2 ct2), sl2⟩) (c2 : PySem.W.codeIn K cd2 "_law_of" = true) (k2 : PySem.W.keepIn K (.ref f2) = true)
    {f3 : Addr} {od3 an3 : Option Addr} {sl3 : Array (Option Value)} {oc3 kV3 dc3 pm3 cd3 ct3 : Value}
    (a3 : PySem.W.nsIn K mainGlobals "_law_keys" = some (some (.ref f3))) (l3 : K.lookup f3 = some ⟨oc3, od3, .func (PySem.W.fnOf "_law_keys" "_law_keys" (defArgs s_l_keys) (defBody s_l_keys) (defScope s_l_keys) .none kV3 dc3 pm3 an3 cd3 ct3), sl3⟩) (c3 : PySem.W.codeIn K cd3 "_law_keys" = true) (k3 : PySem.W.keepIn K (.ref f3) = true)
    {f4 : Addr} {od4 an4 : Option Addr} {sl4 : Array (Option Value)} {oc4 kV4 dc4 pm4 cd4 ct4 : Value}
    (a4 : PySem.W.nsIn K mainGlobals "_law_step" = some (some (.ref f4))) (l4 : K.lookup f4 = some ⟨oc4, od4, .func (PySem.W.fnOf "_law_step" "_law_step" (defArgs s_l_step) (defBody s_l_step) (defScope s_l_step) .none kV4 dc4 pm4 an4 cd4 ct4), sl4⟩) (c4 : PySem.W.codeIn K cd4 "_law_step" = true) (k4 : PySem.W.keepIn K (.ref f4) = true)
    {f5 : Addr} {od5 an5 : Option Addr} {sl5 : Array (Option Value)} {oc5 kV5 dc5 pm5 cd5 ct5 : Value}
    (a5 : PySem.W.nsIn K mainGlobals "_law_history" = some (some (.ref f5))) (l5 : K.lookup f5 = some ⟨oc5, od5, .func (PySem.W.fnOf "_law_history" "_law_history" (defArgs s_l_history) (defBody s_l_history) (defScope s_l_history) .none kV5 dc5 pm5 an5 cd5 ct5), sl5⟩) (c5 : PySem.W.codeIn K cd5 "_law_history" = true) (k5 : PySem.W.keepIn K (.ref f5) = true)
    {f6 : Addr} {od6 an6 : Option Addr} {sl6 : Array (Option Value)} {oc6 kV6 dc6 pm6 cd6 ct6 : Value}
    (a6 : PySem.W.nsIn K mainGlobals "is_key" = some (some (.ref f6))) (l6 : K.lookup f6 = some ⟨oc6, od6, .func (PySem.W.fnOf "is_key" "is_key" (defArgs s_is_key) (defBody s_is_key) (defScope s_is_key) .none kV6 dc6 pm6 an6 cd6 ct6), sl6⟩) (c6 : PySem.W.codeIn K cd6 "is_key" = true) (k6 : PySem.W.keepIn K (.ref f6) = true)
    {f7 : Addr} {od7 an7 : Option Addr} {sl7 : Array (Option Value)} {oc7 kV7 dc7 pm7 cd7 ct7 : Value}
    (a7 : PySem.W.nsIn K mainGlobals "check_round" = some (some (.ref f7))) (l7 : K.lookup f7 = some ⟨oc7, od7, .func (PySem.W.fnOf "check_round" "check_round" (defArgs s_check_round) (defBody s_check_round) (defScope s_check_round) .none kV7 dc7 pm7 an7 cd7 ct7), sl7⟩) (c7 : PySem.W.codeIn K cd7 "check_round" = true) (k7 : PySem.W.keepIn K (.ref f7) = true)
    {f8 : Addr} {od8 an8 : Option Addr} {sl8 : Array (Option Value)} {oc8 kV8 dc8 pm8 cd8 ct8 : Value}
    (a8 : PySem.W.nsIn K mainGlobals "check_steps" = some (some (.ref f8))) (l8 : K.lookup f8 = some ⟨oc8, od8, .func (PySem.W.fnOf "check_steps" "check_steps" (defArgs s_check_steps) (defBody s_check_steps) (defScope s_check_steps) .none kV8 dc8 pm8 an8 cd8 ct8), sl8⟩) (c8 : PySem.W.codeIn K cd8 "check_steps" = true) (k8 : PySem.W.keepIn K (.ref f8) = true)
    {f9 : Addr} {od9 an9 : Option Addr} {sl9 : Array (Option Value)} {oc9 kV9 dc9 pm9 cd9 ct9 : Value}
    (a9 : PySem.W.nsIn K mainGlobals "check_history" = some (some (.ref f9))) (l9 : K.lookup f9 = some ⟨oc9, od9, .func (PySem.W.fnOf "check_history" "check_history" (defArgs s_check_history) (defBody s_check_history) (defScope s_check_history) .none kV9 dc9 pm9 an9 cd9 ct9), sl9⟩) (c9 : PySem.W.codeIn K cd9 "check_history" = true) (k9 : PySem.W.keepIn K (.ref f9) = true)
    {f10 : Addr} {od10 an10 : Option Addr} {sl10 : Array (Option Value)} {oc10 kV10 dc10 pm10 cd10 ct10 : Value}
    (a10 : PySem.W.nsIn K mainGlobals "format_step" = some (some (.ref f10))) (l10 : K.lookup f10 = some ⟨oc10, od10, .func (PySem.W.fnOf "format_step" "format_step" (defArgs s_format_step) (defBody s_format_step) (defScope s_format_step) .none kV10 dc10 pm10 an10 cd10 ct10), sl10⟩) (c10 : PySem.W.codeIn K cd10 "format_step" = true) (k10 : PySem.W.keepIn K (.ref f10) = true)
    {f11 : Addr} {od11 an11 : Option Addr} {sl11 : Array (Option Value)} {oc11 kV11 dc11 pm11 cd11 ct11 : Value}
    (a11 : PySem.W.nsIn K mainGlobals "format_steps" = some (some (.ref f11))) (l11 : K.lookup f11 = some ⟨oc11, od11, .func (PySem.W.fnOf "format_steps" "format_steps" (defArgs s_format_steps) (defBody s_format_steps) (defScope s_format_steps) .none kV11 dc11 pm11 an11 cd11 ct11), sl11⟩) (c11 : PySem.W.codeIn K cd11 "format_steps" = true) (k11 : PySem.W.keepIn K (.ref f11) = true)
    {f12 : Addr} {od12 an12 : Option Addr} {sl12 : Array (Option Value)} {oc12 kV12 dc12 pm12 cd12 ct12 : Value}
    (a12 : PySem.W.nsIn K mainGlobals "format_history" = some (some (.ref f12))) (l12 : K.lookup f12 = some ⟨oc12, od12, .func (PySem.W.fnOf "format_history" "format_history" (defArgs s_format_history) (defBody s_format_history) (defScope s_format_history) .none kV12 dc12 pm12 an12 cd12 ct12), sl12⟩) (c12 : PySem.W.codeIn K cd12 "format_history" = true) (k12 : PySem.W.keepIn K (.ref f12) = true)
    {f13 : Addr} {od13 an13 : Option Addr} {sl13 : Array (Option Value)} {oc13 kV13 dc13 pm13 cd13 ct13 : Value}
    (a13 : PySem.W.nsIn K mainGlobals "_law_bent_text" = some (some (.ref f13))) (l13 : K.lookup f13 = some ⟨oc13, od13, .func (PySem.W.fnOf "_law_bent_text" "_law_bent_text" (defArgs s_l_bent_text) (defBody s_l_bent_text) (defScope s_l_bent_text) .none kV13 dc13 pm13 an13 cd13 ct13), sl13⟩) (c13 : PySem.W.codeIn K cd13 "_law_bent_text" = true) (k13 : PySem.W.keepIn K (.ref f13) = true)
    {f14 : Addr} {od14 an14 : Option Addr} {sl14 : Array (Option Value)} {oc14 kV14 dc14 pm14 cd14 ct14 : Value}
    (a14 : PySem.W.nsIn K mainGlobals "_law_items" = some (some (.ref f14))) (l14 : K.lookup f14 = some ⟨oc14, od14, .func (PySem.W.fnOf "_law_items" "_law_items" (defArgs s_l_items) (defBody s_l_items) (defScope s_l_items) .none kV14 dc14 pm14 an14 cd14 ct14), sl14⟩) (c14 : PySem.W.codeIn K cd14 "_law_items" = true) (k14 : PySem.W.keepIn K (.ref f14) = true)
    {f15 : Addr} {od15 an15 : Option Addr} {sl15 : Array (Option Value)} {oc15 kV15 dc15 pm15 cd15 ct15 : Value}
    (a15 : PySem.W.nsIn K mainGlobals "_law_number" = some (some (.ref f15))) (l15 : K.lookup f15 = some ⟨oc15, od15, .func (PySem.W.fnOf "_law_number" "_law_number" (defArgs s_l_number) (defBody s_l_number) (defScope s_l_number) .none kV15 dc15 pm15 an15 cd15 ct15), sl15⟩) (c15 : PySem.W.codeIn K cd15 "_law_number" = true) (k15 : PySem.W.keepIn K (.ref f15) = true)
    {f16 : Addr} {od16 an16 : Option Addr} {sl16 : Array (Option Value)} {oc16 kV16 dc16 pm16 cd16 ct16 : Value}
    (a16 : PySem.W.nsIn K mainGlobals "_law_read" = some (some (.ref f16))) (l16 : K.lookup f16 = some ⟨oc16, od16, .func (PySem.W.fnOf "_law_read" "_law_read" (defArgs s_l_read) (defBody s_l_read) (defScope s_l_read) .none kV16 dc16 pm16 an16 cd16 ct16), sl16⟩) (c16 : PySem.W.codeIn K cd16 "_law_read" = true) (k16 : PySem.W.keepIn K (.ref f16) = true)
    {f17 : Addr} {od17 an17 : Option Addr} {sl17 : Array (Option Value)} {oc17 kV17 dc17 pm17 cd17 ct17 : Value}
    (a17 : PySem.W.nsIn K mainGlobals "_law_written" = some (some (.ref f17))) (l17 : K.lookup f17 = some ⟨oc17, od17, .func (PySem.W.fnOf "_law_written" "_law_written" (defArgs s_l_written) (defBody s_l_written) (defScope s_l_written) .none kV17 dc17 pm17 an17 cd17 ct17), sl17⟩) (c17 : PySem.W.codeIn K cd17 "_law_written" = true) (k17 : PySem.W.keepIn K (.ref f17) = true)
    {f18 : Addr} {od18 an18 : Option Addr} {sl18 : Array (Option Value)} {oc18 kV18 dc18 pm18 cd18 ct18 : Value}
    (a18 : PySem.W.nsIn K mainGlobals "_law_same" = some (some (.ref f18))) (l18 : K.lookup f18 = some ⟨oc18, od18, .func (PySem.W.fnOf "_law_same" "_law_same" (defArgs s_l_same) (defBody s_l_same) (defScope s_l_same) .none kV18 dc18 pm18 an18 cd18 ct18), sl18⟩) (c18 : PySem.W.codeIn K cd18 "_law_same" = true) (k18 : PySem.W.keepIn K (.ref f18) = true)
    {f19 : Addr} {od19 an19 : Option Addr} {sl19 : Array (Option Value)} {oc19 kV19 dc19 pm19 cd19 ct19 : Value}
    (a19 : PySem.W.findIn K (.ref S0) "__init__" = some (some (.ref f19))) (l19 : K.lookup f19 = some ⟨oc19, od19, .func (PySem.W.fnOf "__init__" "Reader.__init__" (defArgs s_Reader_init) (defBody s_Reader_init) (defScope s_Reader_init) .none kV19 dc19 pm19 an19 cd19 ct19), sl19⟩) (c19 : PySem.W.codeIn K cd19 "Reader.__init__" = true) (k19 : PySem.W.keepIn K (.ref f19) = true)
    (m19 : PySem.W.isFn K (.ref f19) = true)
    {f20 : Addr} {od20 an20 : Option Addr} {sl20 : Array (Option Value)} {oc20 kV20 dc20 pm20 cd20 ct20 : Value}
    (a20 : PySem.W.nsIn K mainGlobals "parse_number" = some (some (.ref f20))) (l20 : K.lookup f20 = some ⟨oc20, od20, .func (PySem.W.fnOf "parse_number" "parse_number" (defArgs s_parse_number) (defBody s_parse_number) (defScope s_parse_number) .none kV20 dc20 pm20 an20 cd20 ct20), sl20⟩) (c20 : PySem.W.codeIn K cd20 "parse_number" = true) (k20 : PySem.W.keepIn K (.ref f20) = true)
    {f21 : Addr} {od21 an21 : Option Addr} {sl21 : Array (Option Value)} {oc21 kV21 dc21 pm21 cd21 ct21 : Value}
    (a21 : PySem.W.findIn K (.ref S0) "read_word" = some (some (.ref f21))) (l21 : K.lookup f21 = some ⟨oc21, od21, .func (PySem.W.fnOf "read_word" "Reader.read_word" (defArgs s_Reader_read_word) (defBody s_Reader_read_word) (defScope s_Reader_read_word) .none kV21 dc21 pm21 an21 cd21 ct21), sl21⟩) (c21 : PySem.W.codeIn K cd21 "Reader.read_word" = true) (k21 : PySem.W.keepIn K (.ref f21) = true)
    (m21 : PySem.W.isFn K (.ref f21) = true)
    {f22 : Addr} {od22 an22 : Option Addr} {sl22 : Array (Option Value)} {oc22 kV22 dc22 pm22 cd22 ct22 : Value}
    (a22 : PySem.W.findIn K (.ref S0) "expect" = some (some (.ref f22))) (l22 : K.lookup f22 = some ⟨oc22, od22, .func (PySem.W.fnOf "expect" "Reader.expect" (defArgs s_Reader_expect) (defBody s_Reader_expect) (defScope s_Reader_expect) .none kV22 dc22 pm22 an22 cd22 ct22), sl22⟩) (c22 : PySem.W.codeIn K cd22 "Reader.expect" = true) (k22 : PySem.W.keepIn K (.ref f22) = true)
    (m22 : PySem.W.isFn K (.ref f22) = true)
    {f23 : Addr} {od23 an23 : Option Addr} {sl23 : Array (Option Value)} {oc23 kV23 dc23 pm23 cd23 ct23 : Value}
    (a23 : PySem.W.findIn K (.ref S0) "read_step" = some (some (.ref f23))) (l23 : K.lookup f23 = some ⟨oc23, od23, .func (PySem.W.fnOf "read_step" "Reader.read_step" (defArgs s_Reader_read_step) (defBody s_Reader_read_step) (defScope s_Reader_read_step) .none kV23 dc23 pm23 an23 cd23 ct23), sl23⟩) (c23 : PySem.W.codeIn K cd23 "Reader.read_step" = true) (k23 : PySem.W.keepIn K (.ref f23) = true)
    (m23 : PySem.W.isFn K (.ref f23) = true)
    {f24 : Addr} {od24 an24 : Option Addr} {sl24 : Array (Option Value)} {oc24 kV24 dc24 pm24 cd24 ct24 : Value}
    (a24 : PySem.W.findIn K (.ref S0) "read_steps" = some (some (.ref f24))) (l24 : K.lookup f24 = some ⟨oc24, od24, .func (PySem.W.fnOf "read_steps" "Reader.read_steps" (defArgs s_Reader_read_steps) (defBody s_Reader_read_steps) (defScope s_Reader_read_steps) .none kV24 dc24 pm24 an24 cd24 ct24), sl24⟩) (c24 : PySem.W.codeIn K cd24 "Reader.read_steps" = true) (k24 : PySem.W.keepIn K (.ref f24) = true)
    (m24 : PySem.W.isFn K (.ref f24) = true)
    {f25 : Addr} {od25 an25 : Option Addr} {sl25 : Array (Option Value)} {oc25 kV25 dc25 pm25 cd25 ct25 : Value}
    (a25 : PySem.W.nsIn K mainGlobals "parse_history" = some (some (.ref f25))) (l25 : K.lookup f25 = some ⟨oc25, od25, .func (PySem.W.fnOf "parse_history" "parse_history" (defArgs s_parse_history) (defBody s_parse_history) (defScope s_parse_history) .none kV25 dc25 pm25 an25 cd25 ct25), sl25⟩) (c25 : PySem.W.codeIn K cd25 "parse_history" = true) (k25 : PySem.W.keepIn K (.ref f25) = true)
    {f26 cc PT : Addr} {od26 an26 : Option Addr} {sl26 : Array (Option Value)} {oc26 kV26 dc26 pm26 ct26 : Value}
    (a26 : PySem.W.nsIn K mainGlobals "law" = some (some (.ref f26))) (l26 : K.lookup f26 = some ⟨oc26, od26, .func (PySem.W.fnOf "law" "law" (defArgs s_law) (defBody s_law) (defScope s_law) .none kV26 dc26 pm26 an26 (.ref cc) ct26), sl26⟩) (c26 : PySem.W.codeIn K (.ref cc) "law" = true) (k26 : PySem.W.keepIn K (.ref f26) = true)
    {ud : Option Addr} {uv : Array Value} {us : Array (Option Value)} (t0 : K.lookup cc = some ⟨.type "code", ud, .fields uv, us⟩) (t1 : uv[11]? = some (.ref PT)) (t2 : K.lookup PT = none) (t3 : codeHdB uv cc PT = true)
    {f27 : Addr} {od27 an27 : Option Addr} {sl27 : Array (Option Value)} {oc27 kV27 dc27 pm27 cd27 ct27 : Value}
    (a27 : PySem.W.nsIn K mainGlobals "_law_field" = some (some (.ref f27))) (l27 : K.lookup f27 = some ⟨oc27, od27, .func (PySem.W.fnOf "_law_field" "_law_field" (defArgs s_l_field) (defBody s_l_field) (defScope s_l_field) .none kV27 dc27 pm27 an27 cd27 ct27), sl27⟩) (c27 : PySem.W.codeIn K cd27 "_law_field" = true) (k27 : PySem.W.keepIn K (.ref f27) = true)
    {f28 : Addr} {od28 an28 : Option Addr} {sl28 : Array (Option Value)} {oc28 kV28 dc28 pm28 cd28 ct28 : Value}
    (a28 : PySem.W.nsIn K mainGlobals "_law_outcome" = some (some (.ref f28))) (l28 : K.lookup f28 = some ⟨oc28, od28, .func (PySem.W.fnOf "_law_outcome" "_law_outcome" (defArgs s_l_outcome) (defBody s_l_outcome) (defScope s_l_outcome) .none kV28 dc28 pm28 an28 cd28 ct28), sl28⟩) (c28 : PySem.W.codeIn K cd28 "_law_outcome" = true) (k28 : PySem.W.keepIn K (.ref f28) = true)
    {f29 : Addr} {od29 an29 : Option Addr} {sl29 : Array (Option Value)} {oc29 kV29 dc29 pm29 cd29 ct29 : Value}
    (a29 : PySem.W.nsIn K mainGlobals "_law_error" = some (some (.ref f29))) (l29 : K.lookup f29 = some ⟨oc29, od29, .func (PySem.W.fnOf "_law_error" "_law_error" (defArgs s_l_error) (defBody s_l_error) (defScope s_l_error) .none kV29 dc29 pm29 an29 cd29 ct29), sl29⟩) (c29 : PySem.W.codeIn K cd29 "_law_error" = true) (k29 : PySem.W.keepIn K (.ref f29) = true)
    {C0 : Addr} (x0 : PySem.W.nsIn K mainGlobals "BadStep" = some (some (.ref C0)))
    {C1 : Addr} (x1 : PySem.W.nsIn K mainGlobals "ParseError" = some (some (.ref C1)))
    {C2 : Addr} (x2 : PySem.W.nsIn K mainGlobals "TooLong" = some (some (.ref C2)))
    {C3 : Addr} (x3 : PySem.W.nsIn K mainGlobals "TreeError" = some (some (.ref C3)))
    {C4 : Addr} (x4 : PySem.W.nsIn K mainGlobals "Missing" = some (some (.ref C4)))
    {C5 : Addr} (x5 : PySem.W.nsIn K mainGlobals "EmptyHistory" = some (some (.ref C5)))
    {wd3 : Option Addr} {wc3 : ClassData} {wx3 : Array (Option Value)} {we3 : Value}
    (wl3 : K.lookup C3 = some ⟨we3, wd3, .cls wc3, wx3⟩)
    (ws3 : PySem.W.subIn K (.ref C3) (.type "BaseException") = some true)
    (wt3 : PySem.W.typeIn K (.ref C3) = some (.type "type"))
    {wd4 : Option Addr} {wc4 : ClassData} {wx4 : Array (Option Value)} {we4 : Value}
    (wl4 : K.lookup C4 = some ⟨we4, wd4, .cls wc4, wx4⟩)
    (ws4 : PySem.W.subIn K (.ref C4) (.type "BaseException") = some true)
    (wt4 : PySem.W.typeIn K (.ref C4) = some (.type "type"))
    {wd5 : Option Addr} {wc5 : ClassData} {wx5 : Array (Option Value)} {we5 : Value}
    (wl5 : K.lookup C5 = some ⟨we5, wd5, .cls wc5, wx5⟩)
    (ws5 : PySem.W.subIn K (.ref C5) (.type "BaseException") = some true)
    (wt5 : PySem.W.typeIn K (.ref C5) = some (.type "type"))
    {I0 : Addr} {iod0 ian0 : Option Addr} {isl0 : Array (Option Value)} {ioc0 ikV0 idc0 ipm0 icd0 ict0 : Value} {xd0 : Option Addr} {xc0 : ClassData} {xl0 : Array (Option Value)} {xe0 : Bool}
    (y00 : PySem.W.findIn K (.ref C0) "__init__" = some (some (.ref I0)))
    (y10 : K.lookup I0 = some ⟨ioc0, iod0, .func (PySem.W.fnOf "__init__" "BadStep.__init__" (defArgs sI_BadStep) (defBody sI_BadStep) (defScope sI_BadStep) .none ikV0 idc0 ipm0 ian0 icd0 ict0), isl0⟩)
    (y20 : PySem.W.codeIn K icd0 "BadStep.__init__" = true)
    (y30 : PySem.W.keepIn K (.ref I0) = true)
    (yl0 : K.lookup C0 = some ⟨.type "type", xd0, .cls xc0, xl0⟩)
    (y40 : excInitB xc0 xl0 C0 [.type "ValueError", .type "Exception", .type "BaseException", .type "object"] "ValueError.__new__" = true)
    (y50 : excOverB xc0 C0 [.type "ValueError", .type "Exception", .type "BaseException", .type "object"] = true)
    (y60 : PySem.W.hasDictIn K C0 = true)
    (y70 : PySem.W.findIn K (.ref C0) "__setattr__" = some (some (.builtin "object.__setattr__")))
    (y80 : PySem.W.subIn K (.ref C0) (.type "BaseException") = some true)
    (y90 : PySem.W.typeIn K (.ref C0) = some (.type "type"))
    (ya0 : PySem.W.keepIn K (.ref C0) = true)
    (yb0 : PySem.W.typeIn K (.ref I0) = some (.type "function"))
    (yc0 : PySem.W.findIn K (.ref C0) "tag" = some none)
    (ye0 : PySem.W.findIn K (.ref C0) "__getattribute__" = some (some (.builtin "BaseException.__getattribute__")))
    (yf0 : PySem.W.findIn K (.ref C0) "__getattr__" = some none)
    (yd0 : PySem.W.findIn K (.ref C0) "pos" = some none)
    (yg0 : PySem.W.subIn K (.ref C0) (.ref C3) = some true)
    (yi0 : PySem.W.subIn K (.ref C0) (.ref C4) = some xe0)
    (yj0 : (true || xe0) = true)
    {I1 : Addr} {iod1 ian1 : Option Addr} {isl1 : Array (Option Value)} {ioc1 ikV1 idc1 ipm1 icd1 ict1 : Value} {xd1 : Option Addr} {xc1 : ClassData} {xl1 : Array (Option Value)} {xb1 xe1 : Bool}
    (y01 : PySem.W.findIn K (.ref C1) "__init__" = some (some (.ref I1)))
    (y11 : K.lookup I1 = some ⟨ioc1, iod1, .func (PySem.W.fnOf "__init__" "ParseError.__init__" (defArgs sI_ParseError) (defBody sI_ParseError) (defScope sI_ParseError) .none ikV1 idc1 ipm1 ian1 icd1 ict1), isl1⟩)
    (y21 : PySem.W.codeIn K icd1 "ParseError.__init__" = true)
    (y31 : PySem.W.keepIn K (.ref I1) = true)
    (yl1 : K.lookup C1 = some ⟨.type "type", xd1, .cls xc1, xl1⟩)
    (y41 : excInitB xc1 xl1 C1 [.type "ValueError", .type "Exception", .type "BaseException", .type "object"] "ValueError.__new__" = true)
    (y51 : excOverB xc1 C1 [.type "ValueError", .type "Exception", .type "BaseException", .type "object"] = true)
    (y61 : PySem.W.hasDictIn K C1 = true)
    (y71 : PySem.W.findIn K (.ref C1) "__setattr__" = some (some (.builtin "object.__setattr__")))
    (y81 : PySem.W.subIn K (.ref C1) (.type "BaseException") = some true)
    (y91 : PySem.W.typeIn K (.ref C1) = some (.type "type"))
    (ya1 : PySem.W.keepIn K (.ref C1) = true)
    (yb1 : PySem.W.typeIn K (.ref I1) = some (.type "function"))
    (yc1 : PySem.W.findIn K (.ref C1) "tag" = some none)
    (ye1 : PySem.W.findIn K (.ref C1) "__getattribute__" = some (some (.builtin "BaseException.__getattribute__")))
    (yf1 : PySem.W.findIn K (.ref C1) "__getattr__" = some none)
    (yd1 : PySem.W.findIn K (.ref C1) "pos" = some none)
    (yg1 : PySem.W.subIn K (.ref C1) (.ref C3) = some xb1)
    (yi1 : PySem.W.subIn K (.ref C1) (.ref C4) = some xe1)
    (yj1 : (xb1 || xe1) = true)
    {I2 : Addr} {iod2 ian2 : Option Addr} {isl2 : Array (Option Value)} {ioc2 ikV2 idc2 ipm2 icd2 ict2 : Value} {xd2 : Option Addr} {xc2 : ClassData} {xl2 : Array (Option Value)} {xe2 : Bool}
    (y02 : PySem.W.findIn K (.ref C2) "__init__" = some (some (.ref I2)))
    (y12 : K.lookup I2 = some ⟨ioc2, iod2, .func (PySem.W.fnOf "__init__" "TooLong.__init__" (defArgs sI_TooLong) (defBody sI_TooLong) (defScope sI_TooLong) .none ikV2 idc2 ipm2 ian2 icd2 ict2), isl2⟩)
    (y22 : PySem.W.codeIn K icd2 "TooLong.__init__" = true)
    (y32 : PySem.W.keepIn K (.ref I2) = true)
    (yl2 : K.lookup C2 = some ⟨.type "type", xd2, .cls xc2, xl2⟩)
    (y42 : excInitB xc2 xl2 C2 [.type "ValueError", .type "Exception", .type "BaseException", .type "object"] "ValueError.__new__" = true)
    (y52 : excOverB xc2 C2 [.type "ValueError", .type "Exception", .type "BaseException", .type "object"] = true)
    (y62 : PySem.W.hasDictIn K C2 = true)
    (y72 : PySem.W.findIn K (.ref C2) "__setattr__" = some (some (.builtin "object.__setattr__")))
    (y82 : PySem.W.subIn K (.ref C2) (.type "BaseException") = some true)
    (y92 : PySem.W.typeIn K (.ref C2) = some (.type "type"))
    (ya2 : PySem.W.keepIn K (.ref C2) = true)
    (yb2 : PySem.W.typeIn K (.ref I2) = some (.type "function"))
    (yc2 : PySem.W.findIn K (.ref C2) "tag" = some none)
    (ye2 : PySem.W.findIn K (.ref C2) "__getattribute__" = some (some (.builtin "BaseException.__getattribute__")))
    (yf2 : PySem.W.findIn K (.ref C2) "__getattr__" = some none)
    (yd2 : PySem.W.findIn K (.ref C2) "limit" = some none)
    (yg2 : PySem.W.subIn K (.ref C2) (.ref C3) = some true)
    (yi2 : PySem.W.subIn K (.ref C2) (.ref C4) = some xe2)
    (yj2 : (true || xe2) = true)
    (z0 : PySem.W.nsIn K mainGlobals "abs" = some none)
    (z1 : PySem.W.nsIn K mainGlobals "all" = some none)
    (z2 : PySem.W.nsIn K mainGlobals "bool" = some none)
    (z3 : PySem.W.nsIn K mainGlobals "int" = some none)
    (z4 : PySem.W.nsIn K mainGlobals "isinstance" = some none)
    (z5 : PySem.W.nsIn K mainGlobals "len" = some none)
    (z6 : PySem.W.nsIn K mainGlobals "list" = some none)
    (z7 : PySem.W.nsIn K mainGlobals "range" = some none)
    (z8 : PySem.W.nsIn K mainGlobals "str" = some none)
    (z9 : PySem.W.nsIn K mainGlobals "sum" = some none)
    (z10 : PySem.W.nsIn K mainGlobals "tuple" = some none)
    (z11 : PySem.W.nsIn K mainGlobals "zip" = some none)
    {zt12 : Tok} (z12 : PySem.W.nsIn K mainGlobals "COUNT_LIMIT" = some (some (.int 1000000000000000000000000000000 zt12)))
    {zt13 : Tok} (z13 : PySem.W.nsIn K mainGlobals "DIGITS" = some (some (.str "0123456789" zt13)))
    {zt14 : Tok} (z14 : PySem.W.nsIn K mainGlobals "KEY_LIMIT" = some (some (.int 1000000000 zt14)))
    {zt15 : Tok} (z15 : PySem.W.nsIn K mainGlobals "MAX_DIGITS" = some (some (.int 31 zt15)))
    {zt16 : Tok} (z16 : PySem.W.nsIn K mainGlobals "MAX_NESTING" = some (some (.int 4 zt16)))
    {zt17 : Tok} (z17 : PySem.W.nsIn K mainGlobals "MAX_STEPS" = some (some (.int 100 zt17)))
    : LamX.LawAtS l w K CX0 21 63 "_law_script" mg fa h := by
  have e := hfa.symm.trans (PySem.W.mg_of X G a26)
  cases e
  have F0 := fun_mk (st := s_l_start) l0 c0 k0
  have b0 := F0.binds (ps := ["_law_script"]) fun _ _ _ _ _ _ us hl => match us, hl with | [_], _ => rfl
  have F1 := fun_mk (st := s_l_take) l1 c1 k1
  have b1 := F1.binds (ps := ["_law_draw", "_law_many"]) fun _ _ _ _ _ _ us hl => match us, hl with | [_, _], _ => rfl
  have F2 := fun_mk (st := s_l_of) l2 c2 k2
  have b2 := F2.binds (ps := ["_law_draw", "_law_some"]) fun _ _ _ _ _ _ us hl => match us, hl with | [_, _], _ => rfl
  have F3 := fun_mk (st := s_l_keys) l3 c3 k3
  have b3 := F3.binds (ps := ["_law_draw", "_law_many"]) fun _ _ _ _ _ _ us hl => match us, hl with | [_, _], _ => rfl
  have F4 := fun_mk (st := s_l_step) l4 c4 k4
  have b4 := F4.binds (ps := ["_law_draw", "_law_keys_here", "_law_deep"]) fun _ _ _ _ _ _ us hl => match us, hl with | [_, _, _], _ => rfl
  have F5 := fun_mk (st := s_l_history) l5 c5 k5
  have b5 := F5.binds (ps := ["_law_draw", "_law_keys_here", "_law_most", "_law_deep"]) fun _ _ _ _ _ _ us hl => match us, hl with | [_, _, _, _], _ => rfl
  have F6 := fun_mk (st := s_is_key) l6 c6 k6
  have b6 := F6.binds (ps := ["number"]) fun _ _ _ _ _ _ us hl => match us, hl with | [_], _ => rfl
  have F7 := fun_mk (st := s_check_round) l7 c7 k7
  have b7 := F7.binds (ps := ["step", "nesting", "pos"]) fun _ _ _ _ _ _ us hl => match us, hl with | [_, _, _], _ => rfl
  have F8 := fun_mk (st := s_check_steps) l8 c8 k8
  have b8 := F8.binds (ps := ["steps", "nesting", "pos"]) fun _ _ _ _ _ _ us hl => match us, hl with | [_, _, _], _ => rfl
  have F9 := fun_mk (st := s_check_history) l9 c9 k9
  have b9 := F9.binds (ps := ["history"]) fun _ _ _ _ _ _ us hl => match us, hl with | [_], _ => rfl
  have F10 := fun_mk (st := s_format_step) l10 c10 k10
  have b10 := F10.binds (ps := ["step"]) fun _ _ _ _ _ _ us hl => match us, hl with | [_], _ => rfl
  have F11 := fun_mk (st := s_format_steps) l11 c11 k11
  have b11 := F11.binds (ps := ["steps"]) fun _ _ _ _ _ _ us hl => match us, hl with | [_], _ => rfl
  have F12 := fun_mk (st := s_format_history) l12 c12 k12
  have b12 := F12.binds (ps := ["history"]) fun _ _ _ _ _ _ us hl => match us, hl with | [_], _ => rfl
  have F13 := fun_mk (st := s_l_bent_text) l13 c13 k13
  have b13 := F13.binds (ps := ["_law_draw", "_law_text"]) fun _ _ _ _ _ _ us hl => match us, hl with | [_, _], _ => rfl
  have F14 := fun_mk (st := s_l_items) l14 c14 k14
  have b14 := F14.binds (ps := ["_law_text"]) fun _ _ _ _ _ _ us hl => match us, hl with | [_], _ => rfl
  have F15 := fun_mk (st := s_l_number) l15 c15 k15
  have b15 := F15.binds (ps := ["_law_text"]) fun _ _ _ _ _ _ us hl => match us, hl with | [_], _ => rfl
  have F16 := fun_mk (st := s_l_read) l16 c16 k16
  have b16 := F16.binds (ps := ["_law_text", "_law_level"]) fun _ _ _ _ _ _ us hl => match us, hl with | [_, _], _ => rfl
  have F17 := fun_mk (st := s_l_written) l17 c17 k17
  have b17 := F17.binds (ps := ["_law_steps"]) fun _ _ _ _ _ _ us hl => match us, hl with | [_], _ => rfl
  have F18 := fun_mk (st := s_l_same) l18 c18 k18
  have b18 := F18.binds (ps := ["_law_found", "_law_due"]) fun _ _ _ _ _ _ us hl => match us, hl with | [_, _], _ => rfl
  have F19 := fun_mk (st := s_Reader_init) l19 c19 k19
  have b19 := F19.binds (ps := ["self", "text"]) fun _ _ _ _ _ _ us hl => match us, hl with | [_, _], _ => rfl
  have F20 := fun_mk (st := s_parse_number) l20 c20 k20
  have b20 := F20.binds (ps := ["text"]) fun _ _ _ _ _ _ us hl => match us, hl with | [_], _ => rfl
  have F21 := fun_mk (st := s_Reader_read_word) l21 c21 k21
  have b21 := F21.binds (ps := ["self"]) fun _ _ _ _ _ _ us hl => match us, hl with | [_], _ => rfl
  have F22 := fun_mk (st := s_Reader_expect) l22 c22 k22
  have b22 := F22.binds (ps := ["self", "sign"]) fun _ _ _ _ _ _ us hl => match us, hl with | [_, _], _ => rfl
  have F23 := fun_mk (st := s_Reader_read_step) l23 c23 k23
  have b23 := F23.binds (ps := ["self"]) fun _ _ _ _ _ _ us hl => match us, hl with | [_], _ => rfl
  have F24 := fun_mk (st := s_Reader_read_steps) l24 c24 k24
  have b24 := F24.binds (ps := ["self"]) fun _ _ _ _ _ _ us hl => match us, hl with | [_], _ => rfl
  have F25 := fun_mk (st := s_parse_history) l25 c25 k25
  have b25 := F25.binds (ps := ["text"]) fun _ _ _ _ _ _ us hl => match us, hl with | [_], _ => rfl
  have F26 : FunC K "law" "law" s_law _ _ cc := ⟨⟨_, _, _, _, _, _, _, _, rfl, l26, c26⟩, k26⟩
  have F27 := fun_mk (st := s_l_field) l27 c27 k27
  have b27 := F27.binds (ps := ["_law_e"]) fun _ _ _ _ _ _ us hl => match us, hl with | [_], _ => rfl
  have F28 := fun_mk (st := s_l_outcome) l28 c28 k28
  have b28 := F28.binds (ps := ["_law_ask"]) fun _ _ _ _ _ _ us hl => match us, hl with | [_], _ => rfl
  have F29 := fun_mk (st := s_l_error) l29 c29 k29
  have b29 := F29.binds (ps := ["_law_ask"]) fun _ _ _ _ _ _ us hl => match us, hl with | [_], _ => rfl
  have FI0 := fun_mk (st := sI_BadStep) y10 y20 y30
  have bI0 := FI0.binds (ps := ["self", "pos"]) fun _ _ _ _ _ _ us hl => match us, hl with | [_, _], _ => rfl
  have rd0 : XfC K C0 := ⟨ye0, yf0, y80, y60⟩
  have XK0 : XKnown K "BadStep" C0 I0 := ⟨⟨⟨_, _, _, _, PySem.F.excBase_ValueError, PySem.F.store_ValueError, excInit_look yl0 y40, excOver_look yl0 y50⟩, y60, y70, y80, y90, ya0, y00, yb0⟩, yc0, fun f hf => by cases hf; exact yd0, rd0⟩
  have XM0 : XMatch K "BadStep" C0 C3 C4 C5 := ⟨exmAny_look (exmOne_look wl3 ws3 wt3 yg0) (exmOne_look wl4 ws4 wt4 yi0) yj0, (fun hf => nomatch hf), rd0, yc0⟩
  have FI1 := fun_mk (st := sI_ParseError) y11 y21 y31
  have bI1 := FI1.binds (ps := ["self", "pos"]) fun _ _ _ _ _ _ us hl => match us, hl with | [_, _], _ => rfl
  have rd1 : XfC K C1 := ⟨ye1, yf1, y81, y61⟩
  have XK1 : XKnown K "ParseError" C1 I1 := ⟨⟨⟨_, _, _, _, PySem.F.excBase_ValueError, PySem.F.store_ValueError, excInit_look yl1 y41, excOver_look yl1 y51⟩, y61, y71, y81, y91, ya1, y01, yb1⟩, yc1, fun f hf => by cases hf; exact yd1, rd1⟩
  have XM1 : XMatch K "ParseError" C1 C3 C4 C5 := ⟨exmAny_look (exmOne_look wl3 ws3 wt3 yg1) (exmOne_look wl4 ws4 wt4 yi1) yj1, (fun hf => nomatch hf), rd1, yc1⟩
  have FI2 := fun_mk (st := sI_TooLong) y12 y22 y32
  have bI2 := FI2.binds (ps := ["self", "limit"]) fun _ _ _ _ _ _ us hl => match us, hl with | [_, _], _ => rfl
  have rd2 : XfC K C2 := ⟨ye2, yf2, y82, y62⟩
  have XK2 : XKnown K "TooLong" C2 I2 := ⟨⟨⟨_, _, _, _, PySem.F.excBase_ValueError, PySem.F.store_ValueError, excInit_look yl2 y42, excOver_look yl2 y52⟩, y62, y72, y82, y92, ya2, y02, yb2⟩, yc2, fun f hf => by cases hf; exact yd2, rd2⟩
  have XM2 : XMatch K "TooLong" C2 C3 C4 C5 := ⟨exmAny_look (exmOne_look wl3 ws3 wt3 yg2) (exmOne_look wl4 ws4 wt4 yi2) yj2, (fun hf => nomatch hf), rd2, yc2⟩
  let T : Txt K mg := ⟨_, ⟨e0, ⟨ea0, eb0, ec0, ed0⟩⟩, PySem.W.mg_of X G e0, eg_at_0, eg_nesting_0, eg_text_0, _, _, F0, PySem.W.mg_of X G a0, b0, _, _, F1, PySem.W.mg_of X G a1, b1, _, _, F2, PySem.W.mg_of X G a2, b2, _, _, F3, PySem.W.mg_of X G a3, b3, _, _, F4, PySem.W.mg_of X G a4, b4, _, _, F5, PySem.W.mg_of X G a5, b5, _, _, F6, PySem.W.mg_of X G a6, b6, _, _, F7, PySem.W.mg_of X G a7, b7, _, _, F8, PySem.W.mg_of X G a8, b8, _, _, F9, PySem.W.mg_of X G a9, b9, _, _, F10, PySem.W.mg_of X G a10, b10, _, _, F11, PySem.W.mg_of X G a11, b11, _, _, F12, PySem.W.mg_of X G a12, b12, _, _, F13, PySem.W.mg_of X G a13, b13, _, _, F14, PySem.W.mg_of X G a14, b14, _, _, F15, PySem.W.mg_of X G a15, b15, _, _, F16, PySem.W.mg_of X G a16, b16, _, _, F17, PySem.W.mg_of X G a17, b17, _, _, F18, PySem.W.mg_of X G a18, b18, _, _, F19, ⟨ee0, a19, m19, ef0⟩, b19, _, _, F20, PySem.W.mg_of X G a20, b20, _, _, F21, ⟨a21, m21, k21⟩, b21, _, _, F22, ⟨a22, m22, k22⟩, b22, _, _, F23, ⟨a23, m23, k23⟩, b23, _, _, F24, ⟨a24, m24, k24⟩, b24, _, _, F25, PySem.W.mg_of X G a25, b25, _, _, _, F26, PySem.W.mg_of X G a26, _, _, F27, PySem.W.mg_of X G a27, b27, _, _, F28, PySem.W.mg_of X G a28, b28, _, _, F29, PySem.W.mg_of X G a29, b29, _, PySem.W.mg_of X G x0, _, PySem.W.mg_of X G x1, _, PySem.W.mg_of X G x2, _, PySem.W.mg_of X G x3, _, PySem.W.mg_of X G x4, _, PySem.W.mg_of X G x5, _, _, FI0, bI0, XK0, XM0, exmOne_look wl3 ws3 wt3 yg0, _, _, FI1, bI1, XK1, XM1, _, _, FI2, bI2, XK2, XM2, exmOne_look wl3 ws3 wt3 yg2, PySem.W.mg_none_of X G z0, PySem.W.mg_none_of X G z1, PySem.W.mg_none_of X G z2, PySem.W.mg_none_of X G z3, PySem.W.mg_none_of X G z4, PySem.W.mg_none_of X G z5, PySem.W.mg_none_of X G z6, PySem.W.mg_none_of X G z7, PySem.W.mg_none_of X G z8, PySem.W.mg_none_of X G z9, PySem.W.mg_none_of X G z10, PySem.W.mg_none_of X G z11, _, PySem.W.mg_of X G z12, _, PySem.W.mg_of X G z13, _, PySem.W.mg_of X G z14, _, PySem.W.mg_of X G z15, _, PySem.W.mg_of X G z16, _, PySem.W.mg_of X G z17⟩
  refine ⟨PySem.W.fnOf "law" "law" (defArgs s_law) (defBody s_law) (defScope s_law) .none kV26 dc26 pm26 an26 (.ref cc) ct26, [(cc, PT)], spW K (W_law PT), ?_, ?_, ?_, fun s v => .of_eq rfl, fun H a ns hl _ hP hS => law_inT (hP _ (List.mem_cons_self ..)) hS ⟨ns, rfl, hl, if_pos rfl, fun _ => rfl⟩, fun base _ _ hT => ok_all T (hT _ (List.mem_cons_self ..))⟩
  · intro p hp; rw [List.mem_singleton.mp hp]; exact own cc PT _ _ _ _ _ _ l26 rfl rfl t0 t1
  · intro p hp; rw [List.mem_singleton.mp hp]; exact t2
  · intro p hp; rw [List.mem_singleton.mp hp]; exact PySem.W.codeHd_of_K X (codeHd_look t0 t3)
end VL
open PySem PySem.W PyProof.Rows
set_option maxHeartbeats 0 in
theorem PySem.Challenge.cw_touchtrees_k57_texts_that_are_no_histori_holds : PySem.Challenge.rw_touchtrees_k57_texts_that_are_no_histori.Holds := by
  w_on; o_law; k_head; (case hw => w_witness2)
  k_fill
  refine LamX.walk_ofOwn (l := PySem.Challenge.rw_touchtrees_k57_texts_that_are_no_histori) (n := 63) (k := 21) (x := "_law_script") (CX := fun _ => L2.CX0) rfl (by decide) rfl ⟨by decide, by decide, by decide⟩ (by decide +kernel) (fun w h Y => PySem.W.km_in_of Y) ?F (fun _ _ _ _ _ h => h)
  case F =>
    intro w mg fa h KX KI G hmg own
    refine' VL.all_mk KI G hmg own ?e0 ?ea0 ?eb0 ?ec0 ?ed0 ?ee0 ?ef0 ?eg_at_0 ?eg_nesting_0 ?eg_text_0 ?a0 ?l0 ?c0 ?k0 ?a1 ?l1 ?c1 ?k1 ?a2 ?l2 ?c2 ?k2 ?a3 ?l3 ?c3 ?k3 ?a4 ?l4 ?c4 ?k4 ?a5 ?l5 ?c5 ?k5 ?a6 ?l6 ?c6 ?k6 ?a7 ?l7 ?c7 ?k7 ?a8 ?l8 ?c8 ?k8 ?a9 ?l9 ?c9 ?k9 ?a10 ?l10 ?c10 ?k10 ?a11 ?l11 ?c11 ?k11 ?a12 ?l12 ?c12 ?k12 ?a13 ?l13 ?c13 ?k13 ?a14 ?l14 ?c14 ?k14 ?a15 ?l15 ?c15 ?k15 ?a16 ?l16 ?c16 ?k16 ?a17 ?l17 ?c17 ?k17 ?a18 ?l18 ?c18 ?k18 ?a19 ?l19 ?c19 ?k19 ?m19 ?a20 ?l20 ?c20 ?k20 ?a21 ?l21 ?c21 ?k21 ?m21 ?a22 ?l22 ?c22 ?k22 ?m22 ?a23 ?l23 ?c23 ?k23 ?m23 ?a24 ?l24 ?c24 ?k24 ?m24 ?a25 ?l25 ?c25 ?k25 ?a26 ?l26 ?c26 ?k26 ?t0 ?t1 ?t2 ?t3 ?a27 ?l27 ?c27 ?k27 ?a28 ?l28 ?c28 ?k28 ?a29 ?l29 ?c29 ?k29 ?x0 ?x1 ?x2 ?x3 ?x4 ?x5 ?wl3 ?ws3 ?wt3 ?wl4 ?ws4 ?wt4 ?wl5 ?ws5 ?wt5 ?y00 ?y10 ?y20 ?y30 ?yl0 ?y40 ?y50 ?y60 ?y70 ?y80 ?y90 ?ya0 ?yb0 ?yc0 ?ye0 ?yf0 ?yd0 ?yg0 ?yi0 ?yj0 ?y01 ?y11 ?y21 ?y31 ?yl1 ?y41 ?y51 ?y61 ?y71 ?y81 ?y91 ?ya1 ?yb1 ?yc1 ?ye1 ?yf1 ?yd1 ?yg1 ?yi1 ?yj1 ?y02 ?y12 ?y22 ?y32 ?yl2 ?y42 ?y52 ?y62 ?y72 ?y82 ?y92 ?ya2 ?yb2 ?yc2 ?ye2 ?yf2 ?yd2 ?yg2 ?yi2 ?yj2 ?z0 ?z1 ?z2 ?z3 ?z4 ?z5 ?z6 ?z7 ?z8 ?z9 ?z10 ?z11 ?z12 ?z13 ?z14 ?z15 ?z16 ?z17
    (case e0 => k_is); (case ea0 => k_is); (case eb0 => k_is); (case ec0 => k_is); (case ed0 => k_is); (case ee0 => k_is); (case ef0 => k_is); (case eg_at_0 => k_is); (case eg_nesting_0 => k_is); (case eg_text_0 => k_is); (case a0 => k_is); (case l0 => k_is); (case c0 => k_is); (case k0 => k_is); (case a1 => k_is); (case l1 => k_is); (case c1 => k_is); (case k1 => k_is); (case a2 => k_is); (case l2 => k_is); (case c2 => k_is); (case k2 => k_is); (case a3 => k_is); (case l3 => k_is); (case c3 => k_is); (case k3 => k_is); (case a4 => k_is); (case l4 => k_is); (case c4 => k_is); (case k4 => k_is); (case a5 => k_is); (case l5 => k_is); (case c5 => k_is); (case k5 => k_is); (case a6 => k_is); (case l6 => k_is); (case c6 => k_is); (case k6 => k_is); (case a7 => k_is); (case l7 => k_is); (case c7 => k_is); (case k7 => k_is); (case a8 => k_is); (case l8 => k_is); (case c8 => k_is); (case k8 => k_is); (case a9 => k_is); (case l9 => k_is); (case c9 => k_is); (case k9 => k_is); (case a10 => k_is); (case l10 => k_is); (case c10 => k_is); (case k10 => k_is); (case a11 => k_is); (case l11 => k_is); (case c11 => k_is); (case k11 => k_is); (case a12 => k_is); (case l12 => k_is); (case c12 => k_is); (case k12 => k_is); (case a13 => k_is); (case l13 => k_is); (case c13 => k_is); (case k13 => k_is); (case a14 => k_is); (case l14 => k_is); (case c14 => k_is); (case k14 => k_is); (case a15 => k_is); (case l15 => k_is); (case c15 => k_is); (case k15 => k_is); (case a16 => k_is); (case l16 => k_is); (case c16 => k_is); (case k16 => k_is); (case a17 => k_is); (case l17 => k_is); (case c17 => k_is); (case k17 => k_is); (case a18 => k_is); (case l18 => k_is); (case c18 => k_is); (case k18 => k_is); (case a19 => k_is); (case l19 => k_is); (case c19 => k_is); (case k19 => k_is); (case m19 => k_is); (case a20 => k_is); (case l20 => k_is); (case c20 => k_is); (case k20 => k_is); (case a21 => k_is); (case l21 => k_is); (case c21 => k_is); (case k21 => k_is); (case m21 => k_is); (case a22 => k_is); (case l22 => k_is); (case c22 => k_is); (case k22 => k_is); (case m22 => k_is); (case a23 => k_is); (case l23 => k_is); (case c23 => k_is); (case k23 => k_is); (case m23 => k_is); (case a24 => k_is); (case l24 => k_is); (case c24 => k_is); (case k24 => k_is); (case m24 => k_is); (case a25 => k_is); (case l25 => k_is); (case c25 => k_is); (case k25 => k_is); (case a26 => k_is); (case l26 => k_is); (case c26 => k_is); (case k26 => k_is); (case t0 => k_is); (case t1 => rfl); (case t2 => rfl); (case t3 => rfl); (case a27 => k_is); (case l27 => k_is); (case c27 => k_is); (case k27 => k_is); (case a28 => k_is); (case l28 => k_is); (case c28 => k_is); (case k28 => k_is); (case a29 => k_is); (case l29 => k_is); (case c29 => k_is); (case k29 => k_is); (case x0 => k_is); (case x1 => k_is); (case x2 => k_is); (case x3 => k_is); (case x4 => k_is); (case x5 => k_is); (case wl3 => k_is); (case ws3 => k_is); (case wt3 => k_is); (case wl4 => k_is); (case ws4 => k_is); (case wt4 => k_is); (case wl5 => k_is); (case ws5 => k_is); (case wt5 => k_is); (case y00 => k_is); (case y10 => k_is); (case y20 => k_is); (case y30 => k_is); (case yl0 => k_is); (case y40 => rfl); (case y50 => rfl); (case y60 => k_is); (case y70 => k_is); (case y80 => k_is); (case y90 => k_is); (case ya0 => k_is); (case yb0 => k_is); (case yc0 => k_is); (case ye0 => k_is); (case yf0 => k_is); (case yd0 => k_is); (case yg0 => k_is); (case yi0 => k_is); (case yj0 => rfl); (case y01 => k_is); (case y11 => k_is); (case y21 => k_is); (case y31 => k_is); (case yl1 => k_is); (case y41 => rfl); (case y51 => rfl); (case y61 => k_is); (case y71 => k_is); (case y81 => k_is); (case y91 => k_is); (case ya1 => k_is); (case yb1 => k_is); (case yc1 => k_is); (case ye1 => k_is); (case yf1 => k_is); (case yd1 => k_is); (case yg1 => k_is); (case yi1 => k_is); (case yj1 => rfl); (case y02 => k_is); (case y12 => k_is); (case y22 => k_is); (case y32 => k_is); (case yl2 => k_is); (case y42 => rfl); (case y52 => rfl); (case y62 => k_is); (case y72 => k_is); (case y82 => k_is); (case y92 => k_is); (case ya2 => k_is); (case yb2 => k_is); (case yc2 => k_is); (case ye2 => k_is); (case yf2 => k_is); (case yd2 => k_is); (case yg2 => k_is); (case yi2 => k_is); (case yj2 => rfl); (case z0 => k_is); (case z1 => k_is); (case z2 => k_is); (case z3 => k_is); (case z4 => k_is); (case z5 => k_is); (case z6 => k_is); (case z7 => k_is); (case z8 => k_is); (case z9 => k_is); (case z10 => k_is); (case z11 => k_is); (case z12 => k_is); (case z13 => k_is); (case z14 => k_is); (case z15 => k_is); (case z16 => k_is); (case z17 => k_is)
