import PyProof.Rows.All
import HandS.ForMost
import HandS.ForExc
import HandS.Defaults
import HandS.HeadHook1
import HandS.HeadHook2
import HandS.Flow
import HandS.Wide
import HandS.Style
import HandS.IsInst
import HandS.Conv
import HandS.HeadEnd
import HandS.Head0
import HandS.Head1
import HandS.Head2
import HandS.ExcInit
import HandS.TryOnly
import HandS.TryMany
import HandS.ExcField
import HandS.HeadHook3
import HandS.Gcd
import HandS.Sort
import HandS.Deep
import HandS.ExcIs
import PySem.Challenge.RW_knotwork_k53_quandle_tables
import Wide.All
import OpenK.AllK
import Wide.FinOn
set_option Elab.async false
set_option linter.all false
set_option maxRecDepth 100000
set_option maxHeartbeats 4000000
/-! SLa: values with owned cells, their standing for the layer's heap, results. -/
namespace SL
open PySem PySem.Spec PyProof.Rows L2

/-- a value: data, or a cell of the store -/
inductive A where
  | non | bl (b : Bool) | int (i : Int) | str (s : Str) | ty (n : String) | glo (x : Str)
  | lst (xs : List A) | slst (xs : List A) | tup (xs : List A) | cell (n : Nat)
  | obj (c : Str) (ns : List Str) (vs : List A)
  | dct (ks : List Key) (vs : List A)
  | rng (lo hi : Int)
  | xcp (a : Nat) (d : Option Nat) (c : Str) (ns : List Str) (vs : List A)
  deriving Inhabited

mutual
inductive Rep (K : PySem.W.Frag) (F : Hp) (μ : List Addr) : A → V → Prop
  | non : Rep K F μ .non .non
  | bl (b : Bool) : Rep K F μ (.bl b) (.bl b)
  | int (i : Int) : Rep K F μ (.int i) (.int i)
  | str (s : Str) : Rep K F μ (.str s) (.str s)
  | ty (n : String) : Rep K F μ (.ty n) (.ty n)
  | glo (x : Str) : Rep K F μ (.glo x) (.ref (He.ga K x))
  | lst {xs : List A} {a : Addr} {vs : List V} : F a = some (.lst vs) → Reps K F μ xs vs → Rep K F μ (.lst xs) (.ref a)
  | slst {xs : List A} {a : Addr} {vs : List V} : SqL K F a vs → Reps K F μ xs vs → Rep K F μ (.slst xs) (.ref a)
  | tup {xs : List A} {a : Addr} {vs : List V} : F a = some (.tup vs) → Reps K F μ xs vs → Rep K F μ (.tup xs) (.ref a)
  | rng {lo hi : Int} {a : Addr} : F a = some (.rng lo hi) → Rep K F μ (.rng lo hi) (.ref a)
  | cell {n : Nat} {a : Addr} : μ[n]? = some a → Rep K F μ (.cell n) (.ref a)
  | obj {c : Str} {ns : List Str} {xs : List A} {a dx : Addr} {fs : List (Str × V)} : F a = some (.ins (He.ga K c) dx fs) → F dx = some (.own a) →
      fs.map (·.1) = ns → Reps K F μ xs (fs.map (·.2)) → Rep K F μ (.obj c ns xs) (.ref a)
  | dct {ks : List Key} {xs : List A} {a : Addr} {kvs : List (Key × V)} : F a = some (.dK kvs) → kvs.map (·.1) = ks → Reps K F μ xs (kvs.map (·.2)) → Rep K F μ (.dct ks xs) (.ref a)
  | xcp0 {a : Addr} {c : Str} : Rep K F μ (.xcp a none c [] []) (.ref a)
  | xcpD {a dd : Addr} {c : Str} {ns : List Str} {xs : List A} {fs : List (Str × V)} : F dd = some (.xd fs) → fs.map (·.1) = ns → Reps K F μ xs (fs.map (·.2)) → Rep K F μ (.xcp a (some dd) c ns xs) (.ref a)
inductive Reps (K : PySem.W.Frag) (F : Hp) (μ : List Addr) : List A → List V → Prop
  | nil : Reps K F μ [] []
  | cons {a : A} {v : V} {as : List A} {vs : List V} : Rep K F μ a v → Reps K F μ as vs → Reps K F μ (a :: as) (v :: vs)
end

/-- the known grows -/
structure Ext (F F' : Hp) (μ μ' : List Addr) : Prop where
  f : ∀ a o, F a = some o → F' a = some o
  m : ∀ (n : Nat) (a : Addr), μ[n]? = some a → μ'[n]? = some a
theorem Ext.refl {F : Hp} {μ : List Addr} : Ext F F μ μ := ⟨fun _ _ h => h, fun _ _ h => h⟩
theorem Ext.trans {F F1 F2 : Hp} {μ μ1 μ2 : List Addr} (a : Ext F F1 μ μ1) (b : Ext F1 F2 μ1 μ2) : Ext F F2 μ μ2 := ⟨fun x o h => b.f x o (a.f x o h), fun x o h => b.m x o (a.m x o h)⟩

theorem Rd.mono {H H' : Hp} {a : Addr} {u : HO} (e : ∀ a o, H a = some o → H' a = some o) (h : Rd H a u) : Rd H' a u := by
  rcases h with h | ⟨o, h⟩
  · exact .inl (e _ _ h)
  · exact .inr ⟨o, e _ _ h⟩
theorem SqL.mono {K : PySem.W.Frag} {H H' : Hp} {a : Addr} {xs : List V} (e : ∀ a o, H a = some o → H' a = some o) (h : SqL K H a xs) : SqL K H' a xs := by
  rcases h with h | h
  · exact .inl (Rd.mono e h)
  · exact .inr h
theorem SqT.mono {K : PySem.W.Frag} {H H' : Hp} {a : Addr} {xs : List V} (e : ∀ a o, H a = some o → H' a = some o) (h : SqT K H a xs) : SqT K H' a xs := by
  rcases h with h | h
  · exact .inl (Rd.mono e h)
  · exact .inr h

section
variable {K : PySem.W.Frag} {F F' : Hp} {μ μ' : List Addr}
mutual
theorem Rep.mono (e : Ext F F' μ μ') : ∀ {a : A} {v : V}, Rep K F μ a v → Rep K F' μ' a v
  | _, _, .non => .non
  | _, _, .bl b => .bl b
  | _, _, .int i => .int i
  | _, _, .str s => .str s
  | _, _, .ty n => .ty n
  | _, _, .glo x => .glo x
  | _, _, .lst s r => .lst (e.f _ _ s) (Reps.mono e r)
  | _, _, .slst s r => .slst (SqL.mono e.f s) (Reps.mono e r)
  | _, _, .tup s r => .tup (e.f _ _ s) (Reps.mono e r)
  | _, _, .rng s => .rng (e.f _ _ s)
  | _, _, .cell h => .cell (e.m _ _ h)
  | _, _, .obj h1 h2 h3 r => .obj (e.f _ _ h1) (e.f _ _ h2) h3 (Reps.mono e r)
  | _, _, .dct h1 h3 r => .dct (e.f _ _ h1) h3 (Reps.mono e r)
  | _, _, .xcp0 => .xcp0
  | _, _, .xcpD h1 h3 r => .xcpD (e.f _ _ h1) h3 (Reps.mono e r)
theorem Reps.mono (e : Ext F F' μ μ') : ∀ {as : List A} {vs : List V}, Reps K F μ as vs → Reps K F' μ' as vs
  | _, _, .nil => .nil
  | _, _, .cons h t => .cons (Rep.mono e h) (Reps.mono e t)
end
theorem Reps.length : ∀ {as : List A} {vs : List V}, Reps K F μ as vs → as.length = vs.length
  | _, _, .nil => rfl
  | _, _, .cons _ t => by rw [List.length_cons, List.length_cons, Reps.length t]
theorem Reps.get : ∀ {as : List A} {vs : List V} {i : Nat} {a : A}, Reps K F μ as vs → as[i]? = some a → ∃ v, vs[i]? = some v ∧ Rep K F μ a v
  | _, _, _, _, .nil, e => by simp at e
  | _, _, 0, _, .cons r _, e => by simp at e; subst e; exact ⟨_, rfl, r⟩
  | _, _, i + 1, a, .cons _ t, e => by
    obtain ⟨v, h1, h2⟩ := Reps.get (i := i) (a := a) t (by simpa using e)
    exact ⟨v, by simpa using h1, h2⟩
theorem Reps.getV : ∀ {as : List A} {vs : List V} {i : Nat} {v : V}, Reps K F μ as vs → vs[i]? = some v → ∃ a, as[i]? = some a ∧ Rep K F μ a v
  | _, _, _, _, .nil, e => by simp at e
  | _, _, 0, _, .cons r _, e => by simp at e; subst e; exact ⟨_, rfl, r⟩
  | _, _, i + 1, v, .cons _ t, e => by
    obtain ⟨a, h1, h2⟩ := Reps.getV (i := i) (v := v) t (by simpa using e)
    exact ⟨a, by simpa using h1, h2⟩
theorem Reps.append : ∀ {as bs : List A} {vs ws : List V}, Reps K F μ as vs → Reps K F μ bs ws → Reps K F μ (as ++ bs) (vs ++ ws)
  | _, _, _, _, .nil, s => s
  | _, _, _, _, .cons r t, s => .cons r (Reps.append t s)
theorem Reps.set {a : A} {v : V} (r : Rep K F μ a v) : ∀ {as : List A} {vs : List V} (i : Nat), Reps K F μ as vs → Reps K F μ (as.set i a) (vs.set i v)
  | _, _, _, .nil => .nil
  | _, _, 0, .cons _ t => .cons r t
  | _, _, i + 1, .cons q t => .cons q (Reps.set r i t)
theorem Reps.take : ∀ {as : List A} {vs : List V} (n : Nat), Reps K F μ as vs → Reps K F μ (as.take n) (vs.take n)
  | _, _, 0, _ => .nil
  | _, _, _ + 1, .nil => .nil
  | _, _, n + 1, .cons r t => .cons r (Reps.take n t)
theorem Reps.drop : ∀ {as : List A} {vs : List V} (n : Nat), Reps K F μ as vs → Reps K F μ (as.drop n) (vs.drop n)
  | _, _, 0, r => r
  | _, _, _ + 1, .nil => .nil
  | _, _, n + 1, .cons _ t => Reps.drop n t
theorem Reps.eraseIdx : ∀ {as : List A} {vs : List V} (n : Nat), Reps K F μ as vs → Reps K F μ (as.eraseIdx n) (vs.eraseIdx n)
  | _, _, _, .nil => .nil
  | _, _, 0, .cons _ t => t
  | _, _, n + 1, .cons r t => .cons r (Reps.eraseIdx n t)
theorem Reps.reverse : ∀ {as : List A} {vs : List V}, Reps K F μ as vs → Reps K F μ as.reverse vs.reverse
  | _, _, .nil => .nil
  | _, _, .cons r t => by rw [List.reverse_cons, List.reverse_cons]; exact Reps.append (Reps.reverse t) (.cons r .nil)
theorem Reps.dropLast {as : List A} {vs : List V} (r : Reps K F μ as vs) : Reps K F μ as.dropLast vs.dropLast := by
  rw [List.dropLast_eq_take, List.dropLast_eq_take, r.length]; exact r.take _
theorem Reps.rep {as : List A} {vs : List V} (r : Reps K F μ as vs) : ∀ k : Nat, Reps K F μ (List.replicate k as).flatten (List.replicate k vs).flatten
  | 0 => .nil
  | k + 1 => by
    rw [List.replicate_succ, List.replicate_succ, List.flatten_cons, List.flatten_cons]
    exact Reps.append r (Reps.rep r k)
theorem Reps.ints : ∀ (ns : List Int), Reps K F μ (ns.map A.int) (ns.map V.int)
  | [] => .nil
  | n :: ns => .cons (.int n) (Reps.ints ns)
theorem Reps.intsV : ∀ {ns : List Int} {vs : List V}, Reps K F μ (ns.map A.int) vs → vs = ns.map V.int
  | [], _, .nil => rfl
  | n :: ns, _, .cons r t => by cases r; rw [Reps.intsV t]; rfl
theorem Reps.one {a : A} {vs : List V} (r : Reps K F μ [a] vs) : ∃ v, vs = [v] ∧ Rep K F μ a v := by
  cases r with
  | cons r t => cases t; exact ⟨_, rfl, r⟩
theorem Reps.two {a b : A} {vs : List V} (r : Reps K F μ [a, b] vs) : ∃ v w, vs = [v, w] ∧ Rep K F μ a v ∧ Rep K F μ b w := by
  cases r with
  | cons r t =>
    obtain ⟨w, rfl, q⟩ := t.one
    exact ⟨_, _, rfl, r, q⟩
end

/-- what a cell holds -/
inductive C where
  | lst (xs : List A)
  | dct (ks : List Key) (vs : List A)
  | dcT (ks : List (List Key)) (vs : List A)
  | obj (c : Str) (ns : List Str) (vs : List A)
  | dead
  deriving Inhabited
abbrev Store := List C
def CRep (K : PySem.W.Frag) (F : Hp) (μ : List Addr) (H : Hp) : C → Addr → Prop
  | .lst xs, a => ∃ vs, H a = some (.lst vs) ∧ Reps K F μ xs vs
  | .dct ks xs, a => ∃ kvs : List (Key × V), H a = some (.dK kvs) ∧ kvs.map (·.1) = ks ∧ Reps K F μ xs (kvs.map (·.2))
  | .dcT ks xs, a => ∃ kvs : List (List Key × V), H a = some (.dT kvs) ∧ kvs.map (·.1) = ks ∧ Reps K F μ xs (kvs.map (·.2))
  | .obj c ns xs, a => ∃ (dx : Addr) (fs : List (Str × V)), H a = some (.ins (He.ga K c) dx fs) ∧ H dx = some (.own a) ∧ fs.map (·.1) = ns ∧ Reps K F μ xs (fs.map (·.2))
  | .dead, _ => True
/-- what a live cell's object may be -/
def isCellO : HO → Bool
  | .lst _ => true
  | .dK _ => true
  | .dT _ => true
  | .ins _ _ _ => true
  | _ => false
theorem CRep.o {K : PySem.W.Frag} {F : Hp} {μ : List Addr} {H : Hp} {c : C} {a : Addr} (h : CRep K F μ H c a) (l : c ≠ .dead) : ∃ o, H a = some o ∧ isCellO o = true := by
  cases c with
  | lst xs => obtain ⟨_, h, _⟩ := h; exact ⟨_, h, rfl⟩
  | dct ks xs => obtain ⟨_, h, _⟩ := h; exact ⟨_, h, rfl⟩
  | dcT ks xs => obtain ⟨_, h, _⟩ := h; exact ⟨_, h, rfl⟩
  | obj c ns xs => obtain ⟨_, _, h, _⟩ := h; exact ⟨_, h, rfl⟩
  | dead => exact absurd rfl l
/-- the cells' places, apart from the known -/
structure Good (K : PySem.W.Frag) (Z F : Hp) (μ : List Addr) (st : Store) (H : Hp) : Prop where
  zub : ∀ a o, Z a = some o → H a = some o
  zf : ∀ a o, Z a = some o → F a = none
  zc : ∀ a o, Z a = some o → isCellO o = true
  sub : ∀ a o, F a = some o → H a = some o
  len : μ.length = st.length
  cell : ∀ (i : Nat) (c : C), st[i]? = some c → c ≠ .dead → ∃ a, μ[i]? = some a ∧ (F a = none ∧ Z a = none) ∧ CRep K F μ H c a
  inj : ∀ (i j : Nat) (a : Addr) (c d : C), st[i]? = some c → c ≠ .dead → st[j]? = some d → d ≠ .dead → μ[i]? = some a → μ[j]? = some a → i = j

section
variable {K : PySem.W.Frag} {Z F F' : Hp} {μ μ' : List Addr} {st : Store} {H H' : Hp} {p : Addr} {o : HO} {c : C}
theorem CRep.mono (h : CRep K F μ H c p) (e : Ext F F' μ μ') (k : ∀ a o, H a = some o → H' a = some o) : CRep K F' μ' H' c p := by
  cases c with
  | lst xs => obtain ⟨vs, h, r⟩ := h; exact ⟨vs, k _ _ h, r.mono e⟩
  | dct ks xs => obtain ⟨kvs, h, q, r⟩ := h; exact ⟨kvs, k _ _ h, q, r.mono e⟩
  | dcT ks xs => obtain ⟨kvs, h, q, r⟩ := h; exact ⟨kvs, k _ _ h, q, r.mono e⟩
  | obj c ns xs => obtain ⟨dx, fs, h, h2, q, r⟩ := h; exact ⟨dx, fs, k _ _ h, k _ _ h2, q, r.mono e⟩
  | dead => trivial
theorem ext_push : Ext F F μ (μ ++ [p]) := ⟨fun _ _ h => h, fun n a h => by
  obtain ⟨hl, _⟩ := List.getElem?_eq_some_iff.mp h
  rw [List.getElem?_append_left hl]; exact h⟩
theorem sub_upd (h : H p = none) : ∀ a o', H a = some o' → upd H p o a = some o' := fun a o' e => by rw [upd_ne (ne_of_none e h)]; exact e
theorem Good.nof (g : Good K Z F μ st H) (h : H p = none) : F p = none := by
  cases e : F p with
  | none => rfl
  | some o => rw [g.sub _ _ e] at h; cases h
theorem Good.noz (g : Good K Z F μ st H) (h : H p = none) : Z p = none := by
  cases e : Z p with
  | none => rfl
  | some o => rw [g.zub _ _ e] at h; cases h
/-- a new known object -/
theorem Good.known (g : Good K Z F μ st H) (h : H p = none) : Good K Z (upd F p o) μ st (upd H p o) ∧ Ext F (upd F p o) μ μ := by
  have e : Ext F (upd F p o) μ μ := ⟨sub_upd (g.nof h), fun _ _ h => h⟩
  refine ⟨{ zub := fun a o' q => sub_upd h _ _ (g.zub _ _ q), zf := fun a o' q => ?_, zc := g.zc, sub := fun a o' q => ?_, len := g.len, cell := fun i c hi hc => ?_, inj := g.inj }, e⟩
  · rw [upd_ne (ne_of_none (g.zub _ _ q) h)]; exact g.zf _ _ q
  · by_cases ha : a = p
    · subst ha; rw [upd_same] at q ⊢; exact q
    · rw [upd_ne ha] at q ⊢; exact g.sub _ _ q
  · obtain ⟨a, h1, h2, h3⟩ := g.cell i c hi hc
    obtain ⟨o2, ho, _⟩ := h3.o hc
    refine ⟨a, h1, ⟨?_, h2.2⟩, h3.mono e (sub_upd h)⟩
    rw [upd_ne (ne_of_none ho h)]; exact h2.1
/-- a new cell -/
theorem Good.push (g : Good K Z F μ st H) (h : H p = none) (hc : CRep K F μ (upd H p o) c p) : Good K Z F (μ ++ [p]) (st ++ [c]) (upd H p o) ∧ Ext F F μ (μ ++ [p]) := by
  refine ⟨{ zub := fun a o' q => sub_upd h _ _ (g.zub _ _ q), zf := g.zf, zc := g.zc, sub := fun a o' q => sub_upd h _ _ (g.sub _ _ q), len := by rw [List.length_append, List.length_append, g.len]; rfl, cell := fun i d hi hd => ?_, inj := fun i j a d d' hi hd hj hd' ei ej => ?_ }, ext_push⟩
  · by_cases hl : i < st.length
    · rw [List.getElem?_append_left hl] at hi
      obtain ⟨a, h1, h2, h3⟩ := g.cell i d hi hd
      exact ⟨a, ext_push.m (F := F) (F' := F) i a h1, h2, h3.mono ext_push (sub_upd h)⟩
    · rw [List.getElem?_append_right (by omega)] at hi
      have e0 : i - st.length = 0 := by
        cases e : i - st.length with
        | zero => rfl
        | succ n => rw [e] at hi; simp at hi
      rw [e0] at hi
      simp at hi
      subst hi
      have ei : i = st.length := by omega
      subst ei
      refine ⟨p, ?_, ⟨g.nof h, g.noz h⟩, hc.mono ext_push fun _ _ q => q⟩
      rw [← g.len, List.getElem?_append_right (Nat.le_refl _), Nat.sub_self]; rfl
  · have key : ∀ (i : Nat) (d : C), (st ++ [c])[i]? = some d → d ≠ .dead → (μ ++ [p])[i]? = some a → (i < st.length ∧ st[i]? = some d ∧ μ[i]? = some a ∧ a ≠ p) ∨ (i = st.length ∧ a = p) := by
      intro i d hi hd ei
      by_cases hl : i < st.length
      · rw [List.getElem?_append_left hl] at hi
        rw [List.getElem?_append_left (by rw [g.len]; exact hl)] at ei
        obtain ⟨a', h1, _, h3⟩ := g.cell i d hi hd
        obtain ⟨o2, ho, _⟩ := h3.o hd
        rw [ei] at h1; cases h1
        exact .inl ⟨hl, hi, ei, ne_of_none ho h⟩
      · have hi' : i < (st ++ [c]).length := (List.getElem?_eq_some_iff.mp hi).1
        rw [List.length_append] at hi'
        have e : i = st.length := by simp at hi'; omega
        subst e
        rw [← g.len, List.getElem?_append_right (Nat.le_refl _), Nat.sub_self] at ei
        simp at ei
        exact .inr ⟨rfl, ei.symm⟩
    rcases key i d hi hd ei with ⟨l1, a1, b1, n1⟩ | ⟨l1, n1⟩ <;> rcases key j d' hj hd' ej with ⟨l2, a2, b2, n2⟩ | ⟨l2, n2⟩
    · exact g.inj i j a d d' a1 hd a2 hd' b1 b2
    · exact absurd n2 n1
    · exact absurd n1 n2
    · omega
theorem get_set {α : Type} {l : List α} {i j : Nat} {x y : α} (h : (l.set i x)[j]? = some y) : (j = i ∧ y = x) ∨ (j ≠ i ∧ l[j]? = some y) := by
  by_cases e : j = i
  · subst e
    have hl : j < (l.set j x).length := (List.getElem?_eq_some_iff.mp h).1
    rw [List.length_set] at hl
    rw [List.getElem?_set_self hl] at h
    exact .inl ⟨rfl, (Option.some.inj h).symm⟩
  · rw [List.getElem?_set_ne (fun q => e q.symm)] at h
    exact .inr ⟨e, h⟩
/-- a cell is written -/
theorem Good.write {i : Nat} {d : C} (g : Good K Z F μ st H) (hi : st[i]? = some d) (hd : d ≠ .dead) (ha : μ[i]? = some p) (hc : CRep K F μ (upd H p o) c p) : Good K Z F μ (st.set i c) (upd H p o) := by
  obtain ⟨p', e1, ⟨hF, hZ⟩, hr⟩ := g.cell i d hi hd
  rw [ha] at e1; cases e1
  obtain ⟨o2, ho, hco⟩ := hr.o hd
  refine { zub := fun a o' q => ?_, zf := g.zf, zc := g.zc, sub := fun a o' q => ?_, len := by rw [List.length_set]; exact g.len, cell := fun j c' hj hc' => ?_, inj := fun j k a c1 c2 h1 n1 h2 n2 m1 m2 => ?_ }
  · rw [upd_ne]
    · exact g.zub _ _ q
    · intro e; subst e; rw [hZ] at q; cases q
  · rw [upd_ne]
    · exact g.sub _ _ q
    · intro e; subst e; rw [hF] at q; cases q
  · rcases get_set hj with ⟨rfl, rfl⟩ | ⟨hji, hj'⟩
    · exact ⟨p, ha, ⟨hF, hZ⟩, hc⟩
    · obtain ⟨a, h1, h2, h3⟩ := g.cell j c' hj' hc'
      have hap : a ≠ p := fun e => hji (g.inj j i a c' d hj' hc' hi hd h1 (e ▸ ha))
      refine ⟨a, h1, h2, ?_⟩
      cases c' with
      | lst xs => obtain ⟨vs, h, r⟩ := h3; exact ⟨vs, by rw [upd_ne hap]; exact h, r⟩
      | dct ks xs => obtain ⟨kvs, h, q, r⟩ := h3; exact ⟨kvs, by rw [upd_ne hap]; exact h, q, r⟩
      | dcT ks xs => obtain ⟨kvs, h, q, r⟩ := h3; exact ⟨kvs, by rw [upd_ne hap]; exact h, q, r⟩
      | obj c ns xs =>
        obtain ⟨dx, fs, h, h2, q, r⟩ := h3
        refine ⟨dx, fs, by rw [upd_ne hap]; exact h, ?_, q, r⟩
        rw [upd_ne]
        · exact h2
        · intro e; subst e; rw [ho] at h2; cases h2; cases hco
      | dead => trivial
  · have live : ∀ (j : Nat) (c1 : C), (st.set i c)[j]? = some c1 → c1 ≠ .dead → ∃ c', st[j]? = some c' ∧ c' ≠ .dead := by
      intro j c1 h1 n1
      rcases get_set h1 with ⟨rfl, _⟩ | ⟨_, h⟩
      · exact ⟨d, hi, hd⟩
      · exact ⟨c1, h, n1⟩
    obtain ⟨x1, y1, z1⟩ := live j c1 h1 n1
    obtain ⟨x2, y2, z2⟩ := live k c2 h2 n2
    exact g.inj j k a x1 x2 y1 z1 y2 z2 m1 m2
theorem Good.kill {i : Nat} (g : Good K Z F μ st H) : Good K Z F μ (st.set i .dead) H := by
  refine { zub := g.zub, zf := g.zf, zc := g.zc, sub := g.sub, len := by rw [List.length_set]; exact g.len, cell := fun j c' hj hc' => ?_, inj := fun j k a c1 c2 h1 n1 h2 n2 m1 m2 => ?_ }
  · rcases get_set hj with ⟨rfl, rfl⟩ | ⟨_, h⟩
    · exact absurd rfl hc'
    · exact g.cell j c' h hc'
  · rcases get_set h1 with ⟨rfl, rfl⟩ | ⟨_, h1⟩
    · exact absurd rfl n1
    · rcases get_set h2 with ⟨rfl, rfl⟩ | ⟨_, h2⟩
      · exact absurd rfl n2
      · exact g.inj j k a c1 c2 h1 n1 h2 n2 m1 m2
/-- a cell's object becomes known -/
theorem Good.know {i : Nat} {d : C} (g : Good K Z F μ st H) (hi : st[i]? = some d) (hd : d ≠ .dead) (ha : μ[i]? = some p) (ho : H p = some o) :
    Good K Z (upd F p o) μ (st.set i .dead) H ∧ Ext F (upd F p o) μ μ := by
  obtain ⟨p', e1, ⟨hF, hZ⟩, _⟩ := g.cell i d hi hd
  rw [ha] at e1; cases e1
  have e : Ext F (upd F p o) μ μ := ⟨sub_upd hF, fun _ _ h => h⟩
  have gk := g.kill (i := i)
  refine ⟨{ zub := g.zub, zf := fun a o' q => ?_, zc := g.zc, sub := fun a o' q => ?_, len := gk.len, cell := fun j c' hj hc' => ?_, inj := gk.inj }, e⟩
  · rw [upd_ne (ne_of_none q hZ)]; exact g.zf _ _ q
  · by_cases hap : a = p
    · subst hap; rw [upd_same] at q; cases q; exact ho
    · rw [upd_ne hap] at q; exact g.sub _ _ q
  · rcases get_set hj with ⟨rfl, rfl⟩ | ⟨hji, hj'⟩
    · exact absurd rfl hc'
    · obtain ⟨a, h1, h2, h3⟩ := g.cell j c' hj' hc'
      have hap : a ≠ p := fun e => hji (g.inj j i a c' d hj' hc' hi hd h1 (e ▸ ha))
      exact ⟨a, h1, ⟨by rw [upd_ne hap]; exact h2.1, h2.2⟩, h3.mono e fun _ _ q => q⟩
/-- more known of objects that are no cells' -/
theorem Good.knowO {q : Addr} {u : HO} (g : Good K Z F μ st H) (hq : H q = some u) (hu : isCellO u = false) (hz : Z q = none) (hn : F q = none ∨ F q = some u) : Good K Z (upd F q u) μ st H ∧ Ext F (upd F q u) μ μ := by
  have e : Ext F (upd F q u) μ μ := ⟨fun a o h => by
    by_cases ha : a = q
    · subst ha
      rcases hn with hn | hn
      · rw [hn] at h; cases h
      · rw [hn] at h; cases h; exact upd_same
    · rw [upd_ne ha]; exact h, fun _ _ h => h⟩
  refine ⟨{ zub := g.zub, zf := fun a o' x => ?_, zc := g.zc, sub := fun a o' h => ?_, len := g.len, cell := fun j c' hj hc' => ?_, inj := g.inj }, e⟩
  · rw [upd_ne (ne_of_none x hz)]; exact g.zf _ _ x
  · by_cases hap : a = q
    · subst hap; rw [upd_same] at h; cases h; exact hq
    · rw [upd_ne hap] at h; exact g.sub _ _ h
  · obtain ⟨a, h1, h2, h3⟩ := g.cell j c' hj hc'
    obtain ⟨o2, ho2, hco⟩ := h3.o hc'
    have : a ≠ q := by intro e; subst e; rw [ho2] at hq; cases hq; rw [hu] at hco; cases hco
    exact ⟨a, h1, ⟨by rw [upd_ne this]; exact h2.1, h2.2⟩, h3.mono e fun _ _ q => q⟩
/-! what stands apart: Z -/
/-- a new object that nobody's value names -/
theorem Good.apart (g : Good K Z F μ st H) (h : H p = none) (ho : isCellO o = true) : Good K (upd Z p o) F μ st (upd H p o) := by
  refine { zub := fun a o' q => ?_, zf := fun a o' q => ?_, zc := fun a o' q => by { by_cases ha : a = p; · { subst ha; rw [upd_same] at q; cases q; exact ho }; · { rw [upd_ne ha] at q; exact g.zc _ _ q } }, sub := fun a o' q => sub_upd h _ _ (g.sub _ _ q), len := g.len, cell := fun i c hi hc => ?_, inj := g.inj }
  · by_cases ha : a = p
    · subst ha; rw [upd_same] at q ⊢; exact q
    · rw [upd_ne ha] at q ⊢; exact g.zub _ _ q
  · by_cases ha : a = p
    · subst ha; exact g.nof h
    · rw [upd_ne ha] at q; exact g.zf _ _ q
  · obtain ⟨a, h1, h2, h3⟩ := g.cell i c hi hc
    obtain ⟨o2, ho, _⟩ := h3.o hc
    exact ⟨a, h1, ⟨h2.1, by rw [upd_ne (ne_of_none ho h)]; exact h2.2⟩, h3.mono Ext.refl (sub_upd h)⟩
/-- it is written -/
theorem Good.zset {u : HO} (g : Good K (upd Z p o) F μ st H) (hz : isCellO o = true) (hu : isCellO u = true) : Good K (upd Z p u) F μ st (upd H p u) := by
  have hp : H p = some o := g.zub _ _ upd_same
  refine { zub := fun a o' q => ?_, zf := fun a o' q => ?_, zc := fun a o' q => by { by_cases ha : a = p; · { subst ha; rw [upd_same] at q; cases q; exact hu }; · { rw [upd_ne ha] at q; exact g.zc _ _ (by rw [upd_ne ha]; exact q) } }, sub := fun a o' q => ?_, len := g.len, cell := fun i c hi hc => ?_, inj := g.inj }
  · by_cases ha : a = p
    · subst ha; rw [upd_same] at q ⊢; exact q
    · rw [upd_ne ha] at q ⊢; exact g.zub _ _ (by rw [upd_ne ha]; exact q)
  · by_cases ha : a = p
    · subst ha; exact g.zf _ _ upd_same
    · rw [upd_ne ha] at q; exact g.zf _ _ (by rw [upd_ne ha]; exact q)
  · have ha : a ≠ p := by intro e; subst e; rw [g.zf _ _ upd_same] at q; cases q
    rw [upd_ne ha]; exact g.sub _ _ q
  · obtain ⟨a, h1, h2, h3⟩ := g.cell i c hi hc
    have ha : a ≠ p := by intro e; subst e; rw [upd_same] at h2; cases h2.2
    refine ⟨a, h1, ⟨h2.1, by have := h2.2; rw [upd_ne ha] at this ⊢; exact this⟩, ?_⟩
    cases c with
    | lst xs => obtain ⟨vs, h, r⟩ := h3; exact ⟨vs, by rw [upd_ne ha]; exact h, r⟩
    | dct ks xs => obtain ⟨kvs, h, q, r⟩ := h3; exact ⟨kvs, by rw [upd_ne ha]; exact h, q, r⟩
    | dcT ks xs => obtain ⟨kvs, h, q, r⟩ := h3; exact ⟨kvs, by rw [upd_ne ha]; exact h, q, r⟩
    | obj c ns xs =>
      obtain ⟨dx, fs, h, h4, q, r⟩ := h3
      refine ⟨dx, fs, by rw [upd_ne ha]; exact h, ?_, q, r⟩
      rw [upd_ne]
      · exact h4
      · intro e; subst e; rw [hp] at h4; cases h4; cases hz
    | dead => trivial
/-- it becomes known -/
theorem Good.zknown (g : Good K (upd Z p o) F μ st H) (hz : Z p = none) : Good K Z (upd F p o) μ st H ∧ Ext F (upd F p o) μ μ := by
  have hp : H p = some o := g.zub _ _ upd_same
  have hF : F p = none := g.zf _ _ upd_same
  have e : Ext F (upd F p o) μ μ := ⟨sub_upd hF, fun _ _ h => h⟩
  refine ⟨{ zub := fun a o' q => g.zub _ _ (sub_upd hz _ _ q), zf := fun a o' q => ?_, zc := fun a o' q => g.zc _ _ (sub_upd hz _ _ q), sub := fun a o' q => ?_, len := g.len, cell := fun i c hi hc => ?_, inj := g.inj }, e⟩
  · rw [upd_ne (ne_of_none q hz)]; exact g.zf _ _ (sub_upd hz _ _ q)
  · by_cases ha : a = p
    · subst ha; rw [upd_same] at q; cases q; exact hp
    · rw [upd_ne ha] at q; exact g.sub _ _ q
  · obtain ⟨a, h1, h2, h3⟩ := g.cell i c hi hc
    have ha : a ≠ p := by intro e; subst e; rw [upd_same] at h2; cases h2.2
    exact ⟨a, h1, ⟨by rw [upd_ne ha]; exact h2.1, by have := h2.2; rw [upd_ne ha] at this; exact this⟩, h3.mono e fun _ _ q => q⟩
/-- it becomes a cell -/
theorem Good.zpush (g : Good K (upd Z p o) F μ st H) (hz : Z p = none) (hc : CRep K F μ H c p) : Good K Z F (μ ++ [p]) (st ++ [c]) H ∧ Ext F F μ (μ ++ [p]) := by
  have hF : F p = none := g.zf _ _ upd_same
  refine ⟨{ zub := fun a o' q => g.zub _ _ (sub_upd hz _ _ q), zf := fun a o' q => g.zf _ _ (sub_upd hz _ _ q), zc := fun a o' q => g.zc _ _ (sub_upd hz _ _ q), sub := g.sub, len := by rw [List.length_append, List.length_append, g.len]; rfl, cell := fun i d hi hd => ?_, inj := fun i j a d d' hi hd hj hd' ei ej => ?_ }, ext_push⟩
  · by_cases hl : i < st.length
    · rw [List.getElem?_append_left hl] at hi
      obtain ⟨a, h1, h2, h3⟩ := g.cell i d hi hd
      have ha : a ≠ p := by intro e; subst e; rw [upd_same] at h2; cases h2.2
      exact ⟨a, ext_push.m (F := F) (F' := F) i a h1, ⟨h2.1, by have := h2.2; rw [upd_ne ha] at this; exact this⟩, h3.mono ext_push fun _ _ q => q⟩
    · have hi' : i < (st ++ [c]).length := (List.getElem?_eq_some_iff.mp hi).1
      rw [List.length_append] at hi'
      have e : i = st.length := by simp at hi'; omega
      subst e
      rw [List.getElem?_append_right (Nat.le_refl _), Nat.sub_self] at hi
      simp at hi
      subst hi
      refine ⟨p, ?_, ⟨hF, hz⟩, hc.mono ext_push fun _ _ q => q⟩
      rw [← g.len, List.getElem?_append_right (Nat.le_refl _), Nat.sub_self]; rfl
  · have key : ∀ (i : Nat) (d : C), (st ++ [c])[i]? = some d → d ≠ .dead → (μ ++ [p])[i]? = some a → (i < st.length ∧ st[i]? = some d ∧ μ[i]? = some a ∧ a ≠ p) ∨ (i = st.length ∧ a = p) := by
      intro i d hi hd ei
      by_cases hl : i < st.length
      · rw [List.getElem?_append_left hl] at hi
        rw [List.getElem?_append_left (by rw [g.len]; exact hl)] at ei
        obtain ⟨a', h1, h2, h3⟩ := g.cell i d hi hd
        rw [ei] at h1; cases h1
        exact .inl ⟨hl, hi, ei, by intro e; subst e; rw [upd_same] at h2; cases h2.2⟩
      · have hi' : i < (st ++ [c]).length := (List.getElem?_eq_some_iff.mp hi).1
        rw [List.length_append] at hi'
        have e : i = st.length := by simp at hi'; omega
        subst e
        rw [← g.len, List.getElem?_append_right (Nat.le_refl _), Nat.sub_self] at ei
        simp at ei
        exact .inr ⟨rfl, ei.symm⟩
    rcases key i d hi hd ei with ⟨l1, a1, b1, n1⟩ | ⟨l1, n1⟩ <;> rcases key j d' hj hd' ej with ⟨l2, a2, b2, n2⟩ | ⟨l2, n2⟩
    · exact g.inj i j a d d' a1 hd a2 hd' b1 b2
    · exact absurd n2 n1
    · exact absurd n1 n2
    · omega
end

/-! ### results -/
/-- an exception: its class, what its own dict holds -/
structure Exc where
  c : Str
  ns : List Str
  vs : List A
inductive Res (α : Type) where
  | ok (a : α) (st : Store)
  | exc (e : Exc) (st : Store)
  | stuck
def Res.bind {α β : Type} (r : Res α) (f : α → Store → Res β) : Res β := match r with
  | .ok a st => f a st
  | .exc e st => .exc e st
  | .stuck => .stuck
def Res.post {α : Type} (r : Res α) (P : α → Store → Prop) (E : Exc → Store → Prop) : Prop := match r with
  | .ok a st => P a st
  | .exc e st => E e st
  | .stuck => False
@[simp] theorem Res.bind_ok {α β : Type} {a : α} {st : Store} {f : α → Store → Res β} : (Res.ok a st).bind f = f a st := (rfl)
@[simp] theorem Res.bind_exc {α β : Type} {e : Exc} {st : Store} {f : α → Store → Res β} : (Res.exc e st : Res α).bind f = .exc e st := (rfl)
@[simp] theorem Res.bind_stuck {α β : Type} {f : α → Store → Res β} : (Res.stuck : Res α).bind f = .stuck := (rfl)
theorem Res.post_bind {α β : Type} {r : Res α} {f : α → Store → Res β} {P : β → Store → Prop} {E : Exc → Store → Prop} : (r.bind f).post P E ↔ r.post (fun a st => (f a st).post P E) E := by
  cases r <;> exact Iff.rfl
theorem Res.post_mono {α : Type} {r : Res α} {P P' : α → Store → Prop} {E E' : Exc → Store → Prop} (h : r.post P E) (hP : ∀ a st, P a st → P' a st) (hE : ∀ e st, E e st → E' e st) : r.post P' E' := by
  cases r with
  | ok a st => exact hP _ _ h
  | exc e st => exact hE _ _ h
  | stuck => exact h
/-- a step that may be stuck, and raises nothing -/
def Res.of {α : Type} : Option (α × Store) → Res α
  | some (a, st) => .ok a st
  | none => .stuck
@[simp] theorem Res.of_some {α : Type} {p : α × Store} : Res.of (some p) = .ok p.1 p.2 := (rfl)
@[simp] theorem Res.of_none {α : Type} : (Res.of none : Res α) = .stuck := (rfl)
theorem Res.post_of {α : Type} {x : Option (α × Store)} {P : α → Store → Prop} {E : Exc → Store → Prop} (h : (Res.of x).post P E) : ∃ a st, x = some (a, st) ∧ P a st := by
  cases x with
  | none => exact h.elim
  | some p => exact ⟨p.1, p.2, rfl, h⟩
inductive SRes where
  | nx (env : List (Option A)) (st : Store)
  | rt (a : A) (st : Store)
  | bk (env : List (Option A)) (st : Store)
  | ct (env : List (Option A)) (st : Store)
  | exc (e : Exc) (env : List (Option A)) (st : Store)
  | stuck
abbrev AEnv := List (Option A)
structure SPost where
  nx : AEnv → Store → Prop
  rt : A → Store → Prop
  bk : AEnv → Store → Prop
  ct : AEnv → Store → Prop
  ex : Exc → AEnv → Store → Prop
def SRes.post (r : SRes) (P : SPost) : Prop := match r with
  | .nx env st => P.nx env st
  | .rt a st => P.rt a st
  | .bk env st => P.bk env st
  | .ct env st => P.ct env st
  | .exc e env st => P.ex e env st
  | .stuck => False
theorem SRes.post_mono {r : SRes} {P P' : SPost} (h : r.post P) (h1 : ∀ e s, P.nx e s → P'.nx e s) (h2 : ∀ a s, P.rt a s → P'.rt a s) (h3 : ∀ e s, P.bk e s → P'.bk e s) (h4 : ∀ e s, P.ct e s → P'.ct e s)
    (h5 : ∀ x e s, P.ex x e s → P'.ex x e s) : r.post P' := by
  cases r with
  | nx e s => exact h1 _ _ h
  | rt a s => exact h2 _ _ h
  | bk e s => exact h3 _ _ h
  | ct e s => exact h4 _ _ h
  | exc x e s => exact h5 _ _ _ h
  | stuck => exact h
/-- an expression's value goes on into a statement's end -/
def Res.toS {α : Type} (r : Res α) (env : AEnv) (f : α → Store → SRes) : SRes := match r with
  | .ok a st => f a st
  | .exc e st => .exc e env st
  | .stuck => .stuck
@[simp] theorem Res.toS_ok {α : Type} {a : α} {st : Store} {env : AEnv} {f : α → Store → SRes} : (Res.ok a st).toS env f = f a st := (rfl)
@[simp] theorem Res.toS_exc {α : Type} {e : Exc} {st : Store} {env : AEnv} {f : α → Store → SRes} : (Res.exc e st : Res α).toS env f = .exc e env st := (rfl)
@[simp] theorem Res.toS_stuck {α : Type} {env : AEnv} {f : α → Store → SRes} : (Res.stuck : Res α).toS env f = .stuck := (rfl)
theorem Res.post_toS {α : Type} {r : Res α} {env : AEnv} {f : α → Store → SRes} {P : SPost} : (r.toS env f).post P ↔ r.post (fun a st => (f a st).post P) (fun e st => P.ex e env st) := by
  cases r <;> exact Iff.rfl
/-- one statement, then more -/
def SRes.bind (r : SRes) (f : AEnv → Store → SRes) : SRes := match r with
  | .nx env st => f env st
  | r => r
@[simp] theorem SRes.bind_nx {e : AEnv} {s : Store} {f : AEnv → Store → SRes} : (SRes.nx e s).bind f = f e s := (rfl)
@[simp] theorem SRes.bind_rt {a : A} {s : Store} {f : AEnv → Store → SRes} : (SRes.rt a s).bind f = .rt a s := (rfl)
@[simp] theorem SRes.bind_bk {e : AEnv} {s : Store} {f : AEnv → Store → SRes} : (SRes.bk e s).bind f = .bk e s := (rfl)
@[simp] theorem SRes.bind_ct {e : AEnv} {s : Store} {f : AEnv → Store → SRes} : (SRes.ct e s).bind f = .ct e s := (rfl)
@[simp] theorem SRes.bind_exc {x : Exc} {e : AEnv} {s : Store} {f : AEnv → Store → SRes} : (SRes.exc x e s).bind f = .exc x e s := (rfl)
@[simp] theorem SRes.bind_stuck {f : AEnv → Store → SRes} : (SRes.stuck).bind f = .stuck := (rfl)
theorem SRes.post_bind {r : SRes} {f : AEnv → Store → SRes} {P : SPost} : (r.bind f).post P ↔ r.post { P with nx := fun e s => (f e s).post P } := by
  cases r <;> exact Iff.rfl
end SL

set_option Elab.async false
set_option linter.all false
set_option maxRecDepth 100000
set_option maxHeartbeats 4000000
/-! SLb: what a reading does, by a plain function of the values; expressions. -/
namespace SL
open PySem PySem.Spec L2
open PyProof.Rows hiding St
abbrev Rel (α β : Type) := PySem.W.Frag → Hp → List Addr → α → β → Prop
def Kont {α β : Type} (K : PySem.W.Frag) (Z : Hp) (R : Rel α β) (F : Hp) (μ : List Addr) (Q : β → Hp → Prop) : α → Store → Prop :=
  fun a st' => ∀ F' μ' H' b, Ext F F' μ μ' → Good K Z F' μ' st' H' → R K F' μ' a b → Q b H'
def RepB : Rel Bool Bool := fun _ _ _ a b => a = b
/-- how an exception lies -/
def XRep (K : PySem.W.Frag) (F : Hp) (μ : List Addr) (e : Exc) (d : Option Addr) : Prop :=
  (d = none ∧ e.ns = [] ∧ e.vs = []) ∨ ∃ (dd : Addr) (fs : List (Str × V)), d = some dd ∧ F dd = some (.xd fs) ∧ fs.map (·.1) = e.ns ∧ Reps K F μ e.vs (fs.map (·.2))
def KX (K : PySem.W.Frag) (Z F : Hp) (μ : List Addr) (σ : St) (W : WX) : Exc → Store → Prop :=
  fun e st' => ∀ F' μ' H' d, Ext F F' μ μ' → Good K Z F' μ' st' H' → XRep K F' μ' e d → W (.ref (He.ga K e.c)) d σ H'
structure REnv (K : PySem.W.Frag) (F : Hp) (μ : List Addr) (env : AEnv) (σ : St) : Prop where
  len : env.length = σ.length
  at_ : ∀ (i : Nat) (a : A), env[i]? = some (some a) → ∃ v, σ[i]? = some (some v) ∧ Rep K F μ a v
def Sim {α β : Type} (K : PySem.W.Frag) (R : Rel α β) (W : WX) (t : St → Hp → (β → Hp → Prop) → Prop) (m : AEnv → Store → Res α) : Prop :=
  ∀ (Z F : Hp) (μ : List Addr) (st : Store) (env : AEnv) (σ : St) (H : Hp) (Q : β → Hp → Prop), Good K Z F μ st H → REnv K F μ env σ → (m env st).post (Kont K Z R F μ Q) (KX K Z F μ σ W) → t σ H Q
/-- what stands still in a def (or a comprehension's block): its text, its names, the room for calls -/
structure G where
  P : Program
  w : World
  K : PySem.W.Frag
  mg : Str → Option Value
  base : Heap
  N : List Str
  sc : Scope
  k : Nat
  calm : Bool
  st : Bool
  hx : Option (Addr × Str × Option Addr)
theorem u100 {k : Nat} {A : Around} (r : Room k A) : A.units + 100 < cLine := by have := r.un; omega
structure CtxOk (Γ : G) (X : Cx) : Prop where
  prog : X.prog = Γ.P
  w : X.w = Γ.w
  K : X.K = Γ.K
  mg : X.mg = Γ.mg
  base : X.base = Γ.base
  N : X.N = Γ.N
  sc : X.env.scope = Γ.sc
  calm : Γ.calm = true → X.calm = true
  room : Γ.calm = true → Room Γ.k X.A
  units : X.A.units + 100 < cLine
  stk : Γ.st = true → X.stack = X.env :: X.outer ∧ X.env.frame = some X.env.locals
  hx : ∀ a c d, Γ.hx = some (a, c, d) → ∃ (X' : Cx) (oe : Obj) (pn : List (Addr × Obj)), X = X'.suite a ((a, oe) :: pn) ∧ Zc (.ref (He.ga Γ.K c)) d oe ∧ ∃ vs, oe.data = .fields vs
  nd : X.N.Nodup
  own : PassesOwn (model X.prog X.w) X.A X.env X.xe
structure SE (Γ : G) (e : Expr) (m : AEnv → Store → Res A) : Prop where
  run : ∀ W : WX, ∃ t : TE, Sim Γ.K Rep W t m ∧ ∀ X, CtxOk Γ X → Takes X W → PE X e t
structure ST (Γ : G) (e : Expr) (m : AEnv → Store → Res Bool) : Prop where
  run : ∀ W : WX, ∃ t : TT, Sim Γ.K RepB W t m ∧ ∀ X, CtxOk Γ X → Takes X W → PT X e t
structure SWt (Γ : G) (e : Expr) (m : AEnv → Store → Res Bool) : Prop where
  run : ∀ W : WX, ∃ t : TT, Sim Γ.K RepB W t m ∧ ∀ X, CtxOk Γ X → Takes X W → PW X e t
structure SA (Γ : G) (es : List Expr) (m : AEnv → Store → Res (List A)) : Prop where
  run : ∀ W : WX, ∃ t : TA, Sim Γ.K Reps W t m ∧ ∀ X, CtxOk Γ X → Takes X W → PA X es t

section
variable {K : PySem.W.Frag} {Z F F' : Hp} {μ μ' : List Addr} {σ : St} {W : WX}
theorem REnv.mono {env : AEnv} (r : REnv K F μ env σ) (e : Ext F F' μ μ') : REnv K F' μ' env σ := ⟨r.len, fun i a h => by
  obtain ⟨v, h1, h2⟩ := r.at_ i a h
  exact ⟨v, h1, h2.mono e⟩⟩
theorem REnv.set {env : AEnv} {a : A} {v : V} (r : REnv K F μ env σ) (i : Nat) (h : Rep K F μ a v) : REnv K F μ (env.set i (some a)) (σ.set i (some v)) := by
  refine ⟨by rw [List.length_set, List.length_set]; exact r.len, fun j b hj => ?_⟩
  rcases get_set hj with ⟨rfl, e⟩ | ⟨hji, hj⟩
  · cases e
    have hl : j < env.length := by have := (List.getElem?_eq_some_iff.mp hj).1; rw [List.length_set] at this; exact this
    exact ⟨v, by rw [List.getElem?_set_self (by rw [← r.len]; exact hl)], h⟩
  · obtain ⟨w, h1, h2⟩ := r.at_ j b hj
    exact ⟨w, by rw [List.getElem?_set_ne (fun q => hji q.symm)]; exact h1, h2⟩
theorem REnv.unset {env : AEnv} (r : REnv K F μ env σ) (i : Nat) : REnv K F μ (env.set i none) (σ.set i none) := by
  refine ⟨by rw [List.length_set, List.length_set]; exact r.len, fun j b hj => ?_⟩
  rcases get_set hj with ⟨rfl, e⟩ | ⟨hji, hj⟩
  · cases e
  · obtain ⟨w, h1, h2⟩ := r.at_ j b hj
    exact ⟨w, by rw [List.getElem?_set_ne (fun q => hji q.symm)]; exact h1, h2⟩
theorem Kont.ext {α β : Type} {R : Rel α β} {Q : β → Hp → Prop} {a : α} {st : Store} (e : Ext F F' μ μ') (h : Kont K Z R F μ Q a st) : Kont K Z R F' μ' Q a st :=
  fun F2 μ2 H2 b e2 g r => h F2 μ2 H2 b (e.trans e2) g r
theorem KX.ext {e : Exc} {st : Store} (x : Ext F F' μ μ') (h : KX K Z F μ σ W e st) : KX K Z F' μ' σ W e st :=
  fun F2 μ2 H2 d e2 g r => h F2 μ2 H2 d (x.trans e2) g r
theorem post_ext {α β : Type} {R : Rel α β} {Q : β → Hp → Prop} {r : Res α} (e : Ext F F' μ μ') (h : r.post (Kont K Z R F μ Q) (KX K Z F μ σ W)) : r.post (Kont K Z R F' μ' Q) (KX K Z F' μ' σ W) :=
  Res.post_mono h (fun _ _ q => q.ext e) (fun _ _ q => q.ext e)
/-- the value that is there goes on -/
theorem Kont.now {α β : Type} {R : Rel α β} {Q : β → Hp → Prop} {a : α} {b : β} {st : Store} {H : Hp} (h : Kont K Z R F μ Q a st) (g : Good K Z F μ st H) (r : R K F μ a b) : Q b H := h F μ H b Ext.refl g r
/-- one reading, then another -/
theorem Sim.bind {α β α' β' : Type} {R : Rel α β} {R' : Rel α' β'} {t : St → Hp → (β → Hp → Prop) → Prop} {m : AEnv → Store → Res α} {m' : α → AEnv → Store → Res α'} {k : β → St → Hp → (β' → Hp → Prop) → Prop} (h : Sim K R W t m)
    (h' : ∀ (Z F : Hp) (μ : List Addr) (st : Store) (env : AEnv) (σ : St) (H : Hp) (Q : β' → Hp → Prop) (a : α) (b : β), Good K Z F μ st H → REnv K F μ env σ → R K F μ a b → (m' a env st).post (Kont K Z R' F μ Q) (KX K Z F μ σ W) → k b σ H Q) :
    Sim K R' W (fun σ H Q => t σ H fun b H1 => k b σ H1 Q) (fun env st => (m env st).bind fun a st1 => m' a env st1) := by
  intro Z F μ st env σ H Q g re hp
  rw [Res.post_bind] at hp
  refine h Z F μ st env σ H _ g re (Res.post_mono hp (fun a st1 q => ?_) fun _ _ q => q)
  intro F1 μ1 H1 b e1 g1 r1
  exact h' Z F1 μ1 st1 env σ H1 Q a b g1 (re.mono e1) r1 (post_ext e1 q)
end

/-! ### operations on values -/
abbrev Op1 := A → Store → Option (A × Store)
abbrev Op2 := A → A → Store → Option (A × Store)
abbrev OpN := List A → Store → Option (A × Store)
def SimV1 (K : PySem.W.Frag) (r : V → Hp → VK → Prop) (op : Op1) : Prop := ∀ (Z F : Hp) (μ : List Addr) (st st' : Store) (H : Hp) (a c : A) (x : V) (Q : VK), Good K Z F μ st H → Rep K F μ a x → op a st = some (c, st') → Kont K Z Rep F μ Q c st' → r x H Q
def SimV2 (K : PySem.W.Frag) (r : R2) (op : Op2) : Prop := ∀ (Z F : Hp) (μ : List Addr) (st st' : Store) (H : Hp) (a b c : A) (x y : V) (Q : VK), Good K Z F μ st H → Rep K F μ a x → Rep K F μ b y → op a b st = some (c, st') → Kont K Z Rep F μ Q c st' → r x y H Q
def SimVN (K : PySem.W.Frag) (r : List V → Hp → VK → Prop) (op : OpN) : Prop := ∀ (Z F : Hp) (μ : List Addr) (st st' : Store) (H : Hp) (as : List A) (c : A) (xs : List V) (Q : VK), Good K Z F μ st H → Reps K F μ as xs → op as st = some (c, st') → Kont K Z Rep F μ Q c st' → r xs H Q
def SimMt (K : PySem.W.Frag) (T : String) (r : V → List V → Hp → VK → Prop) (op : A → OpN) : Prop := ∀ (Z F : Hp) (μ : List Addr) (st st' : Store) (H : Hp) (a : A) (as : List A) (c : A) (x : V) (xs : List V) (Q : VK), Good K Z F μ st H → Rep K F μ a x → Reps K F μ as xs → op a as st = some (c, st') → Kont K Z Rep F μ Q c st' → tyV K T x H ∧ r x xs H Q
theorem SimV2.or {K : PySem.W.Frag} {r r' : R2} {op op' : Op2} (h : SimV2 K r op) (h' : SimV2 K r' op') : SimV2 K (fun x y H Q => r x y H Q ∨ r' x y H Q) (fun a b st => (op a b st).or (op' a b st)) := by
  intro Z F μ st st' H a b c x y Q g ra rb e k
  cases e1 : op a b st with
  | none => simp only [e1, Option.none_or] at e; exact .inr (h' Z F μ st st' H a b c x y Q g ra rb e k)
  | some p => simp only [e1, Option.some_or] at e; cases e; exact .inl (h Z F μ st st' H a b c x y Q g ra rb e1 k)
/-- a list made new: a cell, or known at once -/
def newL (mk : Bool) (xs : List A) (st : Store) : A × Store := if mk then (.cell st.length, st ++ [.lst xs]) else (.lst xs, st)
theorem newL_ok {K : PySem.W.Frag} {F : Hp} {μ : List Addr} {st : Store} {H : Hp} {mk : Bool} {xs : List A} {vs : List V} {Q : VK} {p : Addr} (g : Good K Z F μ st H) (hp : H p = none) (r : Reps K F μ xs vs)
    (k : Kont K Z Rep F μ Q (newL mk xs st).1 (newL mk xs st).2) : Q (.ref p) (upd H p (.lst vs)) := by
  cases mk with
  | true =>
    obtain ⟨g', e⟩ := g.push (p := p) (o := .lst vs) (c := .lst xs) hp ⟨vs, upd_same, r⟩
    exact k _ _ _ _ e g' (.cell (by rw [← g.len, List.getElem?_append_right (Nat.le_refl _), Nat.sub_self]; rfl))
  | false =>
    obtain ⟨g', e⟩ := g.known (p := p) (o := .lst vs) hp
    exact k _ _ _ _ e g' (.lst upd_same (r.mono e))
theorem newT_ok {K : PySem.W.Frag} {F : Hp} {μ : List Addr} {st : Store} {H : Hp} {xs : List A} {vs : List V} {Q : VK} {p : Addr} (g : Good K Z F μ st H) (hp : H p = none) (r : Reps K F μ xs vs)
    (k : Kont K Z Rep F μ Q (.tup xs) st) : Q (.ref p) (upd H p (.tup vs)) := by
  obtain ⟨g', e⟩ := g.known (p := p) (o := .tup vs) hp
  exact k _ _ _ _ e g' (.tup upd_same (r.mono e))
/-- lists that stand tracked -/
def lstH : A → Store → Option (List A)
  | .lst xs, _ => some xs
  | .cell n, st => match st[n]? with
    | some (.lst xs) => some xs
    | _ => none
  | _, _ => none
theorem lstH_ok {K : PySem.W.Frag} {F : Hp} {μ : List Addr} {st : Store} {H : Hp} {a : A} {xs : List A} {v : V} (g : Good K Z F μ st H) (r : Rep K F μ a v) (h : lstH a st = some xs) : ∃ p vs, v = .ref p ∧ H p = some (.lst vs) ∧ Reps K F μ xs vs := by
  cases a with
  | lst ys =>
    cases h
    cases r with
    | lst h1 r => exact ⟨_, _, rfl, g.sub _ _ h1, r⟩
  | cell n =>
    cases r with
    | cell h1 =>
      have h : (match st[n]? with | some (.lst xs) => some xs | _ => none) = some xs := h
      cases e : st[n]? with
      | none => rw [e] at h; cases h
      | some c =>
        rw [e] at h
        cases c with
        | lst ys =>
          cases h
          obtain ⟨a, h2, h3, vs, h4, h5⟩ := g.cell n _ e (by intro z; cases z)
          rw [h1] at h2; cases h2
          exact ⟨_, vs, rfl, h4, h5⟩
        | _ => cases h
  | _ => cases h
/-- any list that is read -/
def lstR : A → Store → Option (List A)
  | .slst xs, _ => some xs
  | a, st => lstH a st
theorem lstR_ok {K : PySem.W.Frag} {F : Hp} {μ : List Addr} {st : Store} {H : Hp} {a : A} {xs : List A} {v : V} (g : Good K Z F μ st H) (r : Rep K F μ a v) (h : lstR a st = some xs) : ∃ p vs, v = .ref p ∧ SqL K H p vs ∧ Reps K F μ xs vs := by
  have key : lstH a st = some xs → ∃ p vs, v = .ref p ∧ SqL K H p vs ∧ Reps K F μ xs vs := fun h => by
    obtain ⟨p, vs, e, h1, h2⟩ := lstH_ok g r h
    exact ⟨p, vs, e, SqL.of h1, h2⟩
  cases a with
  | slst ys =>
    cases h
    cases r with
    | slst h1 r => exact ⟨_, _, rfl, SqL.mono g.sub h1, r⟩
  | _ => exact key h
/-- a tuple's items -/
def tupR : A → Option (List A)
  | .tup xs => some xs
  | _ => none
theorem tupR_ok {K : PySem.W.Frag} {F : Hp} {μ : List Addr} {st : Store} {H : Hp} {a : A} {xs : List A} {v : V} (g : Good K Z F μ st H) (r : Rep K F μ a v) (h : tupR a = some xs) : ∃ p vs, v = .ref p ∧ SqT K H p vs ∧ Reps K F μ xs vs := by
  cases a with
  | tup ys =>
    cases h
    cases r with
    | tup h1 r => exact ⟨_, _, rfl, SqT.of (g.sub _ _ h1), r⟩
  | _ => cases h
/-- a list or a tuple that is read -/
def seqR (a : A) (st : Store) : Option (List A) := (tupR a).or (lstR a st)
theorem seqR_ok {K : PySem.W.Frag} {F : Hp} {μ : List Addr} {st : Store} {H : Hp} {a : A} {xs : List A} {v : V} (g : Good K Z F μ st H) (r : Rep K F μ a v) (h : seqR a st = some xs) : ∃ p vs, v = .ref p ∧ (SqL K H p vs ∨ SqT K H p vs) ∧ Reps K F μ xs vs := by
  unfold seqR at h
  cases e : tupR a with
  | some ys =>
    rw [e] at h; cases h
    obtain ⟨p, vs, e, h1, h2⟩ := tupR_ok g r e
    exact ⟨p, vs, e, .inr h1, h2⟩
  | none =>
    rw [e] at h
    obtain ⟨p, vs, e, h1, h2⟩ := lstR_ok g r h
    exact ⟨p, vs, e, .inl h1, h2⟩

/-! ### arithmetic -/
section
variable {K : PySem.W.Frag}
theorem Kont.same {F : Hp} {μ : List Addr} {st : Store} {H : Hp} {Q : VK} {a : A} {v : V} (k : Kont K Z Rep F μ Q a st) (g : Good K Z F μ st H) (r : Rep K F μ a v) : Q v H := k.now g r
def iiOp (p : Int → Int → Option A) : Op2 := fun a b st => match a, b with
  | .int i, .int j => (p i j).map fun c => (c, st)
  | _, _ => none
theorem sim_ii {C : Int → Int → Prop} {g : Int → Int → V} {p : Int → Int → Option A} (h : ∀ i j c, p i j = some c → C i j ∧ ∀ F μ, Rep K F μ c (g i j)) : SimV2 K (rI C g) (iiOp p) := by
  intro Z F μ st st' H a b c x y Q gd ra rb e k
  cases a with
  | int i =>
    cases b with
    | int j =>
      cases ra; cases rb
      have e : (p i j).map (fun c => (c, st)) = some (c, st') := e
      cases q : p i j with
      | none => rw [q] at e; cases e
      | some c' =>
        rw [q] at e; cases e
        obtain ⟨h1, h2⟩ := h i j _ q
        exact ⟨i, j, rfl, rfl, h1, k.same gd (h2 _ _)⟩
    | _ => cases e
  | _ => cases e
theorem sim_ii0 {g : Int → Int → V} {p : Int → Int → A} (h : ∀ i j F μ, Rep K F μ (p i j) (g i j)) : SimV2 K (rI0 g) (iiOp fun i j => some (p i j)) := by
  intro Z F μ st st' H a b c x y Q gd ra rb e k
  cases a with
  | int i =>
    cases b with
    | int j => cases ra; cases rb; cases e; exact ⟨i, j, rfl, rfl, k.same gd (h _ _ _ _)⟩
    | _ => cases e
  | _ => cases e
def gd (c : Prop) [Decidable c] (a : A) : Option A := if c then some a else none
@[simp] theorem gd_true {c : Prop} [Decidable c] {a : A} (h : c) : gd c a = some a := if_pos h
theorem gd_some {c : Prop} [Decidable c] {a b : A} (h : gd c a = some b) : c ∧ b = a := by
  unfold gd at h
  split at h
  · cases h; exact ⟨by assumption, rfl⟩
  · cases h
instance (i j : Int) : Decidable (CMulW i j) := by unfold CMulW; infer_instance
instance (i j : Int) : Decidable (CDivN i j) := by unfold CDivN; infer_instance
instance (i j : Int) : Decidable (CDivW i j) := by unfold CDivW; infer_instance
instance (i j : Int) : Decidable (CPow i j) := by unfold CPow; infer_instance
/-! + -/
def addI : Op2 := iiOp fun i j => some (.int (i + j))
def addS : Op2 := fun a b st => match a, b with
  | .str x, .str y => (gd (x.length + y.length ≤ sizeLine) (.str (x ++ y))).map fun c => (c, st)
  | _, _ => none
def addL (mk : Bool) : Op2 := fun a b st => match lstH a st, lstH b st with
  | some xs, some ys => if xs.length + ys.length ≤ sizeLine then some (newL mk (xs ++ ys) st) else none
  | _, _ => none
def addT : Op2 := fun a b st => match a, b with
  | .tup xs, .tup ys => if xs ≠ [] ∧ xs.length + ys.length ≤ sizeLine then some (.tup (xs ++ ys), st) else none
  | _, _ => none
theorem sim_addI : SimV2 K (rI0 fun i j => .int (i + j)) addI := sim_ii0 fun i j _ _ => .int _
theorem sim_addS : SimV2 K (fun x y H Q => ∃ i j, x = .str i ∧ y = .str j ∧ i.length + j.length ≤ sizeLine ∧ Q (.str (i ++ j)) H) addS := by
  intro Z F μ st st' H a b c x y Q g ra rb e k
  cases a with
  | str i =>
    cases b with
    | str j =>
      cases ra; cases rb
      have e : (gd (i.length + j.length ≤ sizeLine) (.str (i ++ j))).map (fun c => (c, st)) = some (c, st') := e
      cases q : gd (i.length + j.length ≤ sizeLine) (.str (i ++ j)) with
      | none => rw [q] at e; cases e
      | some c' =>
        rw [q] at e; cases e
        obtain ⟨h1, rfl⟩ := gd_some q
        exact ⟨i, j, rfl, rfl, h1, k.same g (.str _)⟩
    | _ => cases e
  | _ => cases e
theorem sim_addL {mk : Bool} : SimV2 K rCat (addL mk) := by
  intro Z F μ st st' H a b c x y Q g ra rb e k
  unfold addL at e
  cases ea : lstH a st with
  | none => rw [ea] at e; cases e
  | some xs =>
    cases eb : lstH b st with
    | none => rw [ea, eb] at e; cases e
    | some ys =>
      rw [ea, eb] at e
      obtain ⟨p, vs, rfl, h1, r1⟩ := lstH_ok g ra ea
      obtain ⟨q, ws, rfl, h2, r2⟩ := lstH_ok g rb eb
      have e : (if xs.length + ys.length ≤ sizeLine then some (newL mk (xs ++ ys) st) else none) = some (c, st') := e
      by_cases hl : xs.length + ys.length ≤ sizeLine
      · rw [if_pos hl] at e
        have e1 : newL mk (xs ++ ys) st = (c, st') := Option.some.inj e
        refine ⟨p, q, vs, ws, rfl, rfl, h1, h2, by rw [← r1.length, ← r2.length]; exact hl, fun l hl => ?_⟩
        exact newL_ok (mk := mk) g hl (r1.append r2) (by rw [e1]; exact k)
      · rw [if_neg hl] at e; cases e
theorem sim_addT : SimV2 K (rCatT K) addT := by
  intro Z F μ st st' H a b c x y Q g ra rb e k
  cases a with
  | tup xs =>
    cases b with
    | tup ys =>
      have e : (if xs ≠ [] ∧ xs.length + ys.length ≤ sizeLine then some (A.tup (xs ++ ys), st) else none) = some (c, st') := e
      by_cases hl : xs ≠ [] ∧ xs.length + ys.length ≤ sizeLine
      · rw [if_pos hl] at e; cases e
        obtain ⟨p, vs, rfl, h1, r1⟩ := tupR_ok g ra rfl
        obtain ⟨q, ws, rfl, h2, r2⟩ := tupR_ok g rb rfl
        refine ⟨p, q, vs, ws, rfl, rfl, h1, h2, fun z => hl.1 (List.length_eq_zero_iff.mp (by rw [r1.length, z]; rfl)), by rw [← r1.length, ← r2.length]; exact hl.2, fun z => ?_, fun _ l hp => newT_ok g hp (r1.append r2) k⟩
        have ey : ys = [] := List.length_eq_zero_iff.mp (by rw [r2.length, z]; rfl)
        subst ey
        rw [List.append_nil] at k
        exact k.same g ra
      · rw [if_neg hl] at e; cases e
    | _ => cases e
  | _ => cases e
def rAddA (K : PySem.W.Frag) : R2 := fun x y H Q => (rI0 fun i j => .int (i + j)) x y H Q ∨ (∃ i j, x = .str i ∧ y = .str j ∧ i.length + j.length ≤ sizeLine ∧ Q (.str (i ++ j)) H) ∨ rCat x y H Q ∨ rCatT K x y H Q
def addOp (mk : Bool) : Op2 := fun a b st => (addI a b st).or ((addS a b st).or ((addL mk a b st).or (addT a b st)))
theorem sim_add {mk : Bool} : SimV2 K (rAddA K) (addOp mk) := SimV2.or sim_addI (SimV2.or sim_addS (SimV2.or sim_addL sim_addT))
theorem op_addA {X : Cx} : OpR X (binaryOp .Add) (rAddA X.K) := op_add.or (op_add_str.or (op_cat.or op_catT))
/-! - * // % ** -/
def subOp : Op2 := iiOp fun i j => some (.int (i - j))
theorem sim_sub : SimV2 K (rI0 fun i j => .int (i - j)) subOp := sim_ii0 fun i j _ _ => .int _
def mulI : Op2 := iiOp fun i j => gd (CMulW i j) (.int (i * j))
theorem sim_mulI : SimV2 K (rI CMulW fun i j => .int (i * j)) mulI := sim_ii fun i j c h => by
  obtain ⟨h1, rfl⟩ := gd_some h
  exact ⟨h1, fun _ _ => .int _⟩
def mulL (mk : Bool) : Op2 := fun a b st => match lstH a st, b with
  | some xs, .int k => if -(2 ^ 63) ≤ k ∧ k < 2 ^ 63 ∧ xs.length * k.toNat ≤ sizeLine then some (newL mk (List.replicate k.toNat xs).flatten st) else none
  | _, _ => none
theorem sim_mulL {mk : Bool} : SimV2 K rRep (mulL mk) := by
  intro Z F μ st st' H a b c x y Q g ra rb e k
  unfold mulL at e
  cases ea : lstH a st with
  | none => rw [ea] at e; cases e
  | some xs =>
    rw [ea] at e
    cases b with
    | int n =>
      cases rb
      obtain ⟨p, vs, rfl, h1, r1⟩ := lstH_ok g ra ea
      have e : (if -(2 ^ 63) ≤ n ∧ n < 2 ^ 63 ∧ xs.length * n.toNat ≤ sizeLine then some (newL mk (List.replicate n.toNat xs).flatten st) else none) = some (c, st') := e
      by_cases hl : -(2 ^ 63) ≤ n ∧ n < 2 ^ 63 ∧ xs.length * n.toNat ≤ sizeLine
      · rw [if_pos hl] at e
        have e1 : newL mk (List.replicate n.toNat xs).flatten st = (c, st') := Option.some.inj e
        refine ⟨p, n, vs, rfl, rfl, h1, hl.1, hl.2.1, by rw [← r1.length]; exact hl.2.2, fun l hl => ?_⟩
        exact newL_ok (mk := mk) g hl (r1.rep _) (by rw [e1]; exact k)
      · rw [if_neg hl] at e; cases e
    | _ => cases e
def rMulA : R2 := fun x y H Q => (rI CMulW fun i j => .int (i * j)) x y H Q ∨ rRep x y H Q
def mulOp (mk : Bool) : Op2 := fun a b st => (mulI a b st).or (mulL mk a b st)
theorem sim_mul {mk : Bool} : SimV2 K rMulA (mulOp mk) := SimV2.or sim_mulI sim_mulL
theorem op_mulA {X : Cx} : OpR X (binaryOp .Mult) rMulA := op_mulW.or op_rep
def fdivN : Op2 := iiOp fun i j => gd (CDivN i j) (.int (i.fdiv j))
/-- // by a divisor of either sign, of less than nine thousand bits -/
def CDivL (_ j : Int) : Prop := j ≠ 0 ∧ j.natAbs.log2 < 9000
instance (i j : Int) : Decidable (CDivL i j) := by unfold CDivL; infer_instance
theorem op_fdivL {X : Cx} : OpR X (binaryOp .FloorDiv) (rI CDivL fun i j => .int (i.fdiv j)) := opI fun _ _ _ _ _ _ _ hc q => floordiv_int hc.1 q (.inl (PyProof.noPylong_of_log2 hc.2))
def fdivW : Op2 := iiOp fun i j => gd (CDivL i j) (.int (i.fdiv j))
theorem sim_fdivN : SimV2 K (rI CDivN fun i j => .int (i.fdiv j)) fdivN := sim_ii fun i j c h => by
  obtain ⟨h1, rfl⟩ := gd_some h
  exact ⟨h1, fun _ _ => .int _⟩
theorem sim_fdivW : SimV2 K (rI CDivL fun i j => .int (i.fdiv j)) fdivW := sim_ii fun i j c h => by
  obtain ⟨h1, rfl⟩ := gd_some h
  exact ⟨h1, fun _ _ => .int _⟩
def rFdivA : R2 := fun x y H Q => (rI CDivN fun i j => .int (i.fdiv j)) x y H Q ∨ (rI CDivL fun i j => .int (i.fdiv j)) x y H Q
def fdivOp : Op2 := fun a b st => (fdivN a b st).or (fdivW a b st)
theorem sim_fdiv : SimV2 K rFdivA fdivOp := SimV2.or sim_fdivN sim_fdivW
theorem op_fdivA {X : Cx} : OpR X (binaryOp .FloorDiv) rFdivA := op_fdivN.or op_fdivL
def modOp : Op2 := iiOp fun i j => gd (j ≠ 0) (.int (i.fmod j))
theorem sim_mod : SimV2 K (rI (fun _ j => j ≠ 0) fun i j => .int (i.fmod j)) modOp := sim_ii fun i j c h => by
  obtain ⟨h1, rfl⟩ := gd_some h
  exact ⟨h1, fun _ _ => .int _⟩
def powOp : Op2 := iiOp fun i j => gd (CPow i j) (.int (i ^ j.toNat))
theorem sim_pow : SimV2 K (rI CPow fun i j => .int (i ^ j.toNat)) powOp := sim_ii fun i j c h => by
  obtain ⟨h1, rfl⟩ := gd_some h
  exact ⟨h1, fun _ _ => .int _⟩
/-! comparisons -/
def ltOp : Op2 := iiOp fun i j => some (.bl (decide (i < j)))
def leOp : Op2 := iiOp fun i j => some (.bl (decide (i ≤ j)))
def gtOp : Op2 := iiOp fun i j => some (.bl (decide (j < i)))
def geOp : Op2 := iiOp fun i j => some (.bl (decide (j ≤ i)))
theorem sim_lt : SimV2 K (rI0 fun i j => .bl (decide (i < j))) ltOp := sim_ii0 fun i j _ _ => .bl _
theorem sim_le : SimV2 K (rI0 fun i j => .bl (decide (i ≤ j))) leOp := sim_ii0 fun i j _ _ => .bl _
theorem sim_gt : SimV2 K (rI0 fun i j => .bl (decide (j < i))) gtOp := sim_ii0 fun i j _ _ => .bl _
theorem sim_ge : SimV2 K (rI0 fun i j => .bl (decide (j ≤ i))) geOp := sim_ii0 fun i j _ _ => .bl _
/-- all, or nothing -/
def optAll {α β : Type} (f : α → Option β) : List α → Option (List β)
  | [] => some []
  | x :: xs => match f x, optAll f xs with
    | some y, some ys => some (y :: ys)
    | _, _ => none
/-- plain data -/
def toD (st : Store) : Nat → A → Option PyData
  | _, .non => some .none
  | _, .bl b => some (.bool b)
  | _, .int i => some (.int i)
  | _, .str s => some (.str s)
  | n + 1, .lst xs => (optAll (toD st n) xs).map .list
  | n + 1, .slst xs => (optAll (toD st n) xs).map .list
  | n + 1, .tup xs => (optAll (toD st n) xs).map .tuple
  | n + 1, .cell c => match st[c]? with
    | some (.lst xs) => (optAll (toD st n) xs).map .list
    | _ => none
  | _, _ => none
theorem optAll_dp {F : Hp} {μ : List Addr} {H : Hp} {f : A → Option PyData} (h : ∀ a d v, f a = some d → Rep K F μ a v → Dp K H v d) : ∀ {xs : List A} {ds : List PyData} {vs : List V}, optAll f xs = some ds → Reps K F μ xs vs → DpAll K H vs ds
  | [], _, _, e, r => by cases e; cases r; exact .nil
  | x :: xs, ds, _, e, .cons r t => by
    unfold optAll at e
    cases e1 : f x with
    | none => rw [e1] at e; cases e
    | some y =>
      cases e2 : optAll f xs with
      | none => rw [e1, e2] at e; cases e
      | some ys =>
        rw [e1, e2] at e; cases e
        exact .cons (h _ _ _ e1 r) (optAll_dp h e2 t)
theorem toD_ok {F : Hp} {μ : List Addr} {st : Store} {H : Hp} (g : Good K Z F μ st H) : ∀ (n : Nat) (a : A) (d : PyData) (v : V), toD st n a = some d → Rep K F μ a v → Dp K H v d := by
  intro n
  induction n with
  | zero =>
    intro a d v e r
    cases a with
    | non => cases e; cases r; exact .non
    | bl b => cases e; cases r; exact .bl b
    | int i => cases e; cases r; exact .int i
    | str s => cases e; cases r; exact .str s
    | _ => cases e
  | succ n ih =>
    intro a d v e r
    have lists : ∀ xs : List A, (optAll (toD st n) xs).map PyData.list = some d → (∃ p vs, v = .ref p ∧ SqL K H p vs ∧ Reps K F μ xs vs) → Dp K H v d := by
      rintro xs e ⟨p, vs, rfl, h1, h2⟩
      cases e1 : optAll (toD st n) xs with
      | none => rw [e1] at e; cases e
      | some ds => rw [e1] at e; cases e; exact .lst h1 (optAll_dp ih e1 h2)
    cases a with
    | non => cases e; cases r; exact .non
    | bl b => cases e; cases r; exact .bl b
    | int i => cases e; cases r; exact .int i
    | str s => cases e; cases r; exact .str s
    | lst xs => exact lists xs e (lstR_ok g r rfl)
    | slst xs => exact lists xs e (lstR_ok g r rfl)
    | tup xs =>
      obtain ⟨p, vs, rfl, h1, h2⟩ := tupR_ok g r rfl
      have e : (optAll (toD st n) xs).map PyData.tuple = some d := e
      cases e1 : optAll (toD st n) xs with
      | none => rw [e1] at e; cases e
      | some ds => rw [e1] at e; cases e; exact .tup h1 (optAll_dp ih e1 h2)
    | cell c =>
      have e : (match st[c]? with | some (.lst xs) => (optAll (toD st n) xs).map .list | _ => none) = some d := e
      cases e1 : st[c]? with
      | none => rw [e1] at e; cases e
      | some cc =>
        cases cc with
        | lst xs => rw [e1] at e; exact lists xs e (lstR_ok g r (by simp only [lstR, lstH, e1]))
        | _ => rw [e1] at e; cases e
    | _ => cases e
/-- == of data -/
def eqD (neg : Bool) : Op2 := fun a b st => match toD st 50 a, toD st 50 b with
  | some d, some e => if SeqAt.shaped d = true ∧ SeqAt.shaped e = true then some (.bl (if neg then !PyData.eqv d e else PyData.eqv d e), st) else none
  | _, _ => none
theorem eqD_ok {neg : Bool} {F : Hp} {μ : List Addr} {st st' : Store} {H : Hp} {a b c : A} {x y : V} (g : Good K Z F μ st H) (ra : Rep K F μ a x) (rb : Rep K F μ b y) (e : eqD neg a b st = some (c, st')) :
    ∃ d e, Dp K H x d ∧ Dp K H y e ∧ SeqAt.shaped d = true ∧ SeqAt.shaped e = true ∧ c = .bl (if neg then !PyData.eqv d e else PyData.eqv d e) ∧ st' = st := by
  unfold eqD at e
  cases e1 : toD st 50 a with
  | none => rw [e1] at e; cases e
  | some d =>
    cases e2 : toD st 50 b with
    | none => rw [e1, e2] at e; cases e
    | some d' =>
      rw [e1, e2] at e
      have e : (if SeqAt.shaped d = true ∧ SeqAt.shaped d' = true then some (A.bl (if neg then !PyData.eqv d d' else PyData.eqv d d'), st) else none) = some (c, st') := e
      by_cases hs : SeqAt.shaped d = true ∧ SeqAt.shaped d' = true
      · rw [if_pos hs] at e; cases e
        exact ⟨d, d', toD_ok g _ _ _ _ e1 ra, toD_ok g _ _ _ _ e2 rb, hs.1, hs.2, rfl, rfl⟩
      · rw [if_neg hs] at e; cases e
theorem sim_eqD : SimV2 K (rEqD K) (eqD false) := by
  intro Z F μ st st' H a b c x y Q g ra rb e k
  obtain ⟨d, e', h1, h2, h3, h4, rfl, rfl⟩ := eqD_ok g ra rb e
  exact ⟨d, e', h1, h2, h3, h4, k.same g (.bl _)⟩
theorem sim_neD : SimV2 K (rNeD K) (eqD true) := by
  intro Z F μ st st' H a b c x y Q g ra rb e k
  obtain ⟨d, e', h1, h2, h3, h4, rfl, rfl⟩ := eqD_ok g ra rb e
  exact ⟨d, e', h1, h2, h3, h4, k.same g (.bl _)⟩
/-- scalars -/
def eqSc (neg : Bool) : Op2 := fun a b st => match a, b with
  | .int i, .int j => some (.bl (if neg then !decide (i = j) else decide (i = j)), st)
  | .str i, .str j => some (.bl (if neg then !decide (i = j) else decide (i = j)), st)
  | .bl i, .bl j => some (.bl (if neg then !decide (i = j) else decide (i = j)), st)
  | _, _ => none
theorem dV_int {i j : Int} : decide (V.int i = V.int j) = decide (i = j) := by by_cases h : i = j <;> simp [h]
theorem dV_str {i j : Str} : decide (V.str i = V.str j) = decide (i = j) := by by_cases h : i = j <;> simp [h]
theorem dV_bl {i j : Bool} : decide (V.bl i = V.bl j) = decide (i = j) := by by_cases h : i = j <;> simp [h]
theorem sim_eqSc : SimV2 K rEq (eqSc false) := by
  intro Z F μ st st' H a b c x y Q g ra rb e k
  cases a <;> cases b <;> first
    | cases e; done
    | (cases ra; cases rb; cases e; refine ⟨rfl, ?_⟩; first | rw [dV_int] | rw [dV_str] | rw [dV_bl]
       exact k.same g (.bl _))
theorem sim_neSc : SimV2 K rNe (eqSc true) := by
  intro Z F μ st st' H a b c x y Q g ra rb e k
  cases a <;> cases b <;> first
    | cases e; done
    | (cases ra; cases rb; cases e; refine ⟨rfl, ?_⟩; first | rw [dV_int] | rw [dV_str] | rw [dV_bl]
       exact k.same g (.bl _))
def eqOp : Op2 := fun a b st => (eqSc false a b st).or (eqD false a b st)
def neOp : Op2 := fun a b st => (eqSc true a b st).or (eqD true a b st)
def rEqA (K : PySem.W.Frag) : R2 := fun x y H Q => rEq x y H Q ∨ rEqD K x y H Q
def rNeA (K : PySem.W.Frag) : R2 := fun x y H Q => rNe x y H Q ∨ rNeD K x y H Q
theorem sim_eq : SimV2 K (rEqA K) eqOp := SimV2.or sim_eqSc sim_eqD
theorem sim_ne : SimV2 K (rNeA K) neOp := SimV2.or sim_neSc sim_neD
/-! is, in -/
/-- x is None -/
def isN0 (neg : Bool) : Op2 := fun a b st => match b with
  | .non => (match a with
    | .non => some (.bl (!neg), st)
    | .cell _ => none
    | _ => some (.bl neg, st))
  | _ => none
/-- x is True, of a bool x -/
def isB0 (neg : Bool) : Op2 := fun a b st => match a, b with
  | .bl x, .bl y => some (.bl (if neg then !decide (x = y) else decide (x = y)), st)
  | _, _ => none
def isNOp (neg : Bool) : Op2 := fun a b st => (isN0 neg a b st).or (isB0 neg a b st)
theorem isN_ok {neg : Bool} {F : Hp} {μ : List Addr} {st st' : Store} {a b c : A} {x y : V} (ra : Rep K F μ a x) (rb : Rep K F μ b y) (e : isN0 neg a b st = some (c, st')) :
    y = .non ∧ c = .bl (if neg then !decide (x = .non) else decide (x = .non)) ∧ st' = st := by
  cases b with
  | non =>
    cases rb
    refine ⟨rfl, ?_⟩
    cases a <;> cases ra <;> cases e <;> cases neg <;> simp
  | _ => cases e
theorem isB_ok {neg : Bool} {F : Hp} {μ : List Addr} {st st' : Store} {a b c : A} {x y : V} (ra : Rep K F μ a x) (rb : Rep K F μ b y) (e : isB0 neg a b st = some (c, st')) :
    ∃ p q : Bool, x = .bl p ∧ y = .bl q ∧ c = .bl (if neg then !decide (p = q) else decide (p = q)) ∧ st' = st := by
  cases a <;> cases b <;> first | (cases e; done) | (cases ra; cases rb; cases e; exact ⟨_, _, rfl, rfl, rfl, rfl⟩)
def rIsA : R2 := fun x y H Q => (y = .non ∧ Q (.bl (decide (x = .non))) H) ∨ rIsB x y H Q
def rNotA : R2 := fun x y H Q => (y = .non ∧ Q (.bl (!decide (x = .non))) H) ∨ rNotB x y H Q
theorem sim_isN : SimV2 K rIsA (isNOp false) := SimV2.or (r := fun x y H Q => y = .non ∧ Q (.bl (decide (x = .non))) H) (fun Z F μ st st' H a b c x y Q g ra rb e k => by
  obtain ⟨h1, rfl, rfl⟩ := isN_ok ra rb e
  exact ⟨h1, k.same g (.bl _)⟩) (fun Z F μ st st' H a b c x y Q g ra rb e k => by
  obtain ⟨p, q, rfl, rfl, rfl, rfl⟩ := isB_ok ra rb e
  exact ⟨p, q, rfl, rfl, k.same g (.bl _)⟩)
theorem sim_notN : SimV2 K rNotA (isNOp true) := SimV2.or (r := fun x y H Q => y = .non ∧ Q (.bl (!decide (x = .non))) H) (fun Z F μ st st' H a b c x y Q g ra rb e k => by
  obtain ⟨h1, rfl, rfl⟩ := isN_ok ra rb e
  exact ⟨h1, k.same g (.bl _)⟩) (fun Z F μ st st' H a b c x y Q g ra rb e k => by
  obtain ⟨p, q, rfl, rfl, rfl, rfl⟩ := isB_ok ra rb e
  exact ⟨p, q, rfl, rfl, k.same g (.bl _)⟩)
/-! truth -/
def truA (st : Store) : A → Option Bool
  | .non => some false
  | .bl b => some b
  | .int i => some (i != 0)
  | .str y => if y.length ≤ sizeLine then some ((y.length : Int) != 0) else none
  | .dct ks _ => some (!ks.isEmpty)
  | .cell n => match st[n]? with
    | some (.lst xs) => some (!xs.isEmpty)
    | some (.dct ks _) => some (!ks.isEmpty)
    | _ => none
  | a => (seqR a st).map fun xs => !xs.isEmpty
theorem isEmpty_len {α β : Type} {xs : List α} {ys : List β} (h : xs.length = ys.length) : xs.isEmpty = ys.isEmpty := by
  cases xs <;> cases ys <;> simp_all
theorem seq_tru {F : Hp} {μ : List Addr} {st : Store} {H : Hp} {a : A} {x : V} {b : Bool} (g : Good K Z F μ st H) (r : Rep K F μ a x) (h : (seqR a st).map (fun xs => !xs.isEmpty) = some b) : TruV K x H b := by
  cases e : seqR a st with
  | none => rw [e] at h; cases h
  | some xs =>
    rw [e] at h; cases h
    obtain ⟨p, vs, rfl, h1, r1⟩ := seqR_ok g r e
    rcases h1 with h1 | h1
    · exact .inl ⟨vs, h1, congrArg (fun b => !b) (isEmpty_len r1.length)⟩
    · exact .inr (.inl ⟨vs, h1, congrArg (fun b => !b) (isEmpty_len r1.length)⟩)
theorem tru_of {F : Hp} {μ : List Addr} {st : Store} {H : Hp} {a : A} {x : V} {b : Bool} (g : Good K Z F μ st H) (r : Rep K F μ a x) (h : truA st a = some b) : TruV K x H b := by
  cases a with
  | non => cases h; cases r; rfl
  | bl b => cases h; cases r; rfl
  | int i => cases h; cases r; rfl
  | str y =>
    cases r
    have h : (if y.length ≤ sizeLine then some ((y.length : Int) != 0) else none) = some b := h
    by_cases hl : y.length ≤ sizeLine
    · rw [if_pos hl] at h; cases h; exact ⟨hl, rfl⟩
    · rw [if_neg hl] at h; cases h
  | dct ks vs =>
    cases h
    cases r with
    | dct h1 h2 r =>
      rename_i kvs
      exact .inr (.inr ⟨_, g.sub _ _ h1, by rw [isEmpty_len (α := Key) (β := Key × V) (by rw [← h2, List.length_map])]⟩)
  | xcp a d c ns vs => cases h
  | rng lo hi => cases h
  | cell n =>
    have h : (match st[n]? with | some (.lst xs) => some (!xs.isEmpty) | some (.dct ks _) => some (!ks.isEmpty) | _ => none) = some b := h
    cases e : st[n]? with
    | none => rw [e] at h; cases h
    | some c =>
      rw [e] at h
      cases c with
      | lst xs =>
        refine seq_tru (a := .cell n) g r ?_
        have : seqR (.cell n) st = some xs := by simp [seqR, tupR, lstR, lstH, e]
        rw [this]; exact h
      | dct ks vs =>
        cases h
        cases r with
        | cell h1 =>
          obtain ⟨a, h2, _, kvs, h4, h5, _⟩ := g.cell n _ e (by intro z; cases z)
          rw [h1] at h2; cases h2
          exact .inr (.inr ⟨kvs, h4, by rw [isEmpty_len (α := Key) (β := Key × V) (by rw [← h5, List.length_map])]⟩)
      | _ => cases h
  | lst xs => exact seq_tru g r h
  | slst xs => exact seq_tru g r h
  | tup xs => exact seq_tru g r h
  | ty n => cases h
  | glo x => cases h
  | obj c ns vs => cases h
end
end SL

set_option Elab.async false
set_option linter.all false
set_option maxRecDepth 100000
set_option maxHeartbeats 4000000
/-! SLc: expressions, calls, a def. -/
namespace SL
open PySem PySem.Spec L2
open PyProof.Rows hiding St

section
variable {Γ : G} {X : Cx}
theorem CtxOk.vis (h : CtxOk Γ X) {x : Str} (v : Vis Γ.sc x) : Vis X.env.scope x := by rw [h.sc]; exact v
theorem CtxOk.gl (h : CtxOk Γ X) {x : Str} (v : Γ.sc.names.lookup x = some .globalImplicit) : Gl X x := by unfold Gl Env.kindOf; rw [h.sc]; exact v
theorem CtxOk.mgn (h : CtxOk Γ X) {x : Str} {o : Option Value} (v : Γ.mg x = o) : X.mg x = o := by rw [h.mg]; exact v
theorem CtxOk.name (h : CtxOk Γ X) {x : Str} {i : Nat} (v : Γ.N[i]? = some x) : X.N[i]? = some x := by rw [h.N]; exact v
end

/-! ### names, constants -/
def eVar (i : Nat) : AEnv → Store → Res A := fun env st => match env[i]? with
  | some (some a) => .ok a st
  | _ => .stuck
def eC (a : A) : AEnv → Store → Res A := fun _ st => .ok a st
section
variable {Γ : G}
theorem sim_var {K : PySem.W.Frag} {W : WX} {i : Nat} : Sim K Rep W (tVar i) (eVar i) := by
  intro Z F μ st env σ H Q g re h
  unfold eVar at h
  cases e : env[i]? with
  | none => rw [e] at h; exact h.elim
  | some o =>
    cases o with
    | none => rw [e] at h; exact h.elim
    | some a =>
      rw [e] at h
      obtain ⟨v, h1, h2⟩ := re.at_ i a e
      exact ⟨v, h1, Kont.now h g h2⟩
theorem s_var {i : Nat} {x : Str} {pos : Pos} (hN : Γ.N[i]? = some x) (hv : Vis Γ.sc x) (hd : (x == ("__debug__" : Str)) = false := by decide) (hcd : (x == ("__classdict__" : Str)) = false := by decide) : SE Γ (.Name x pos) (eVar i) :=
  ⟨fun W => ⟨_, sim_var, fun X c _ => pe_var (c.name hN) (c.vis hv) hd hcd⟩⟩
theorem sim_c {K : PySem.W.Frag} {W : WX} {a : A} {v : V} (h : ∀ F μ, Rep K F μ a v) : Sim K Rep W (tC v) (eC a) := fun Z F μ st env σ H Q g re q => Kont.now (show Kont K Z Rep F μ Q a st from q) g (h _ _)
theorem s_int {i : Int} {j pos} : SE Γ (.Constant (.int i) j pos) (eC (.int i)) := ⟨fun W => ⟨_, sim_c fun _ _ => .int i, fun X c _ => pe_int⟩⟩
theorem s_bl {i : Bool} {j pos} : SE Γ (.Constant (.bool i) j pos) (eC (.bl i)) := ⟨fun W => ⟨_, sim_c fun _ _ => .bl i, fun X c _ => pe_bl⟩⟩
theorem s_str {i : Str} {j pos} : SE Γ (.Constant (.str i) j pos) (eC (.str i)) := ⟨fun W => ⟨_, sim_c fun _ _ => .str i, fun X c _ => pe_str⟩⟩
theorem s_non {j pos} : SE Γ (.Constant .none j pos) (eC .non) := ⟨fun W => ⟨_, sim_c fun _ _ => .non, fun X c _ => pe_non⟩⟩
/-- a def or class of the module as a value -/
theorem s_glo {x : Str} {pos : Pos} (hg : Γ.sc.names.lookup x = some .globalImplicit) (hm : Γ.mg x = some (.ref (He.ga Γ.K x))) (hd : (x == ("__debug__" : Str)) = false := by decide) : SE Γ (.Name x pos) (eC (.glo x)) :=
  ⟨fun W => ⟨_, sim_c fun _ _ => .glo x, fun X c _ => pe_glob (c.gl hg) (c.mgn hm) rfl hd⟩⟩
/-- a module's int -/
theorem s_gint {x : Str} {i : Int} {pos : Pos} (hg : Γ.sc.names.lookup x = some .globalImplicit) (hm : ∃ t, Γ.mg x = some (.int i t)) (hd : (x == ("__debug__" : Str)) = false := by decide) : SE Γ (.Name x pos) (eC (.int i)) :=
  let ⟨_, hm⟩ := hm
  ⟨fun W => ⟨_, sim_c fun _ _ => .int i, fun X c _ => pe_glob (c.gl hg) (c.mgn hm) ⟨_, rfl⟩ hd⟩⟩
/-- a builtin type as a value -/
theorem s_ty {x : Str} {n : String} {pos : Pos} (hg : Γ.sc.names.lookup x = some .globalImplicit) (hm : Γ.mg x = none) (hv : bootBuiltins x = some (.type n)) (hn : x ≠ "__name__" := by decide) (hd : (x == ("__debug__" : Str)) = false := by decide) : SE Γ (.Name x pos) (eC (.ty n)) :=
  ⟨fun W => ⟨_, sim_c fun _ _ => .ty n, fun X c _ => pe_bltn (c.gl hg) (c.mgn hm) hv rfl hn hd⟩⟩

/-! ### operators -/
def eBin (op : Op2) (ma mb : AEnv → Store → Res A) : AEnv → Store → Res A := fun env st => (ma env st).bind fun a st1 => (mb env st1).bind fun b st2 => Res.of (op a b st2)
def eUn (op : Op1) (ma : AEnv → Store → Res A) : AEnv → Store → Res A := fun env st => (ma env st).bind fun a st1 => Res.of (op a st1)
theorem sim_bin {K : PySem.W.Frag} {W : WX} {r : R2} {op : Op2} {ta tb : TE} {ma mb : AEnv → Store → Res A} (h : SimV2 K r op) (ha : Sim K Rep W ta ma) (hb : Sim K Rep W tb mb) : Sim K Rep W (tOp r ta tb) (eBin op ma mb) :=
  Sim.bind (k := fun x σ H Q => tb σ H fun y H2 => r x y H2 Q) (m' := fun a env st1 => (mb env st1).bind fun b st2 => Res.of (op a b st2)) ha fun Z F μ st env σ H Q a x g re ra hp => by
    rw [Res.post_bind] at hp
    refine hb Z F μ st env σ H _ g re (Res.post_mono hp (fun b st2 q => ?_) fun _ _ q => q)
    intro F1 μ1 H1 y e1 g1 rb
    obtain ⟨c, st3, e, k⟩ := Res.post_of q
    exact h Z F1 μ1 st2 st3 H1 a b c x y Q g1 (ra.mono e1) rb e (k.ext e1)
theorem sim_un {K : PySem.W.Frag} {W : WX} {r : V → Hp → VK → Prop} {op : Op1} {ta : TE} {ma : AEnv → Store → Res A} (h : SimV1 K r op) (ha : Sim K Rep W ta ma) : Sim K Rep W (tUn r ta) (eUn op ma) :=
  Sim.bind (k := fun x σ H Q => r x H Q) (m' := fun a env st1 => Res.of (op a st1)) ha fun Z F μ st env σ H Q a x g re ra hp => by
    obtain ⟨c, st3, e, k⟩ := Res.post_of hp
    exact h Z F μ st st3 H a c x Q g ra e k
variable {a b e : Expr} {ma mb mc : AEnv → Store → Res A} {pos : Pos}
theorem s_bin {o : Operator} {r : PySem.W.Frag → R2} {op : Op2} (ho : ∀ X : Cx, OpR X (binaryOp o) (r X.K)) (hs : SimV2 Γ.K (r Γ.K) op) (ha : SE Γ a ma) (hb : SE Γ b mb) : SE Γ (.BinOp a o b pos) (eBin op ma mb) :=
  ⟨fun W => by
    obtain ⟨ta, sa, pa⟩ := ha.run W
    obtain ⟨tb, sb, pb⟩ := hb.run W
    refine ⟨_, sim_bin hs sa sb, fun X c t => ?_⟩
    rw [← c.K]
    exact pe_op (ho X) (pa X c t) (pb X c t)⟩
theorem s_add {mk : Bool} (ha : SE Γ a ma) (hb : SE Γ b mb) : SE Γ (.BinOp a .Add b pos) (eBin (addOp mk) ma mb) := s_bin (fun _ => op_addA) sim_add ha hb
theorem s_sub (ha : SE Γ a ma) (hb : SE Γ b mb) : SE Γ (.BinOp a .Sub b pos) (eBin subOp ma mb) := s_bin (r := fun _ => _) (fun _ => op_sub) sim_sub ha hb
theorem s_mul {mk : Bool} (ha : SE Γ a ma) (hb : SE Γ b mb) : SE Γ (.BinOp a .Mult b pos) (eBin (mulOp mk) ma mb) := s_bin (r := fun _ => _) (fun _ => op_mulA) sim_mul ha hb
theorem s_fdiv (ha : SE Γ a ma) (hb : SE Γ b mb) : SE Γ (.BinOp a .FloorDiv b pos) (eBin fdivOp ma mb) := s_bin (r := fun _ => _) (fun _ => op_fdivA) sim_fdiv ha hb
theorem s_mod (ha : SE Γ a ma) (hb : SE Γ b mb) : SE Γ (.BinOp a .Mod b pos) (eBin modOp ma mb) := s_bin (r := fun _ => _) (fun _ => op_modN) sim_mod ha hb
theorem s_pow (ha : SE Γ a ma) (hb : SE Γ b mb) : SE Γ (.BinOp a .Pow b pos) (eBin powOp ma mb) := s_bin (r := fun _ => _) (fun _ => op_pow) sim_pow ha hb
def negOp : Op1 := fun a st => match a with
  | .int i => some (.int (-i), st)
  | _ => none
theorem sim_neg {K : PySem.W.Frag} : SimV1 K (rU fun i => .int (-i)) negOp := by
  intro Z F μ st st' H a c x Q g ra e k
  cases a with
  | int i => cases ra; cases e; exact ⟨i, rfl, k.same g (.int _)⟩
  | _ => cases e
theorem s_neg (ha : SE Γ a ma) : SE Γ (.UnaryOp .USub a pos) (eUn negOp ma) :=
  ⟨fun W => by
    obtain ⟨ta, sa, pa⟩ := ha.run W
    exact ⟨_, sim_un sim_neg sa, fun X c t => pe_un un_neg (pa X c t)⟩⟩

/-! ### comparisons, tests -/
def asB (a : A) (st : Store) : Res Bool := match a with
  | .bl b => .ok b st
  | _ => .stuck
def tOf (m : AEnv → Store → Res A) : AEnv → Store → Res Bool := fun env st => (m env st).bind asB
theorem sim_test {K : PySem.W.Frag} {W : WX} {t : TE} {m : AEnv → Store → Res A} (h : Sim K Rep W t m) : Sim K RepB W (tTest t) (tOf m) :=
  Sim.bind (R' := RepB) (k := fun x σ H Q => ∃ k, x = V.bl k ∧ Q k H) (m' := fun a env st1 => asB a st1) h fun Z F μ st env σ H Q a x g re ra hp => by
    cases a with
    | bl b => cases ra; exact ⟨b, rfl, Kont.now (show Kont K Z RepB F μ Q b st from hp) g rfl⟩
    | _ => exact hp.elim
theorem s_cmp {o : CmpOp} {r : PySem.W.Frag → R2} {op : Op2} (ho : ∀ X : Cx, CtxOk Γ X → OpR X (compareOp o) (r X.K)) (hs : SimV2 Γ.K (r Γ.K) op) (ha : SE Γ a ma) (hb : SE Γ b mb) (hm : behindInMarks o b = false) : SE Γ (.Compare a [o] [b] pos) (eBin op ma mb) :=
  ⟨fun W => by
    obtain ⟨ta, sa, pa⟩ := ha.run W
    obtain ⟨tb, sb, pb⟩ := hb.run W
    refine ⟨_, sim_bin hs sa sb, fun X c t => ?_⟩
    rw [← c.K]
    exact pe_cmpR (ho X c) (pa X c t) (pb X c t) hm⟩
theorem t_cmp {o : CmpOp} {r : PySem.W.Frag → R2} {op : Op2} (ho : ∀ X : Cx, CtxOk Γ X → OpR X (compareOp o) (r X.K)) (hs : SimV2 Γ.K (r Γ.K) op) (ha : SE Γ a ma) (hb : SE Γ b mb) (hm : behindInMarks o b = false) : ST Γ (.Compare a [o] [b] pos) (tOf (eBin op ma mb)) :=
  ⟨fun W => by
    obtain ⟨ta, sa, pa⟩ := ha.run W
    obtain ⟨tb, sb, pb⟩ := hb.run W
    refine ⟨_, sim_test (sim_bin hs sa sb), fun X c t => ?_⟩
    rw [← c.K]
    exact pt_cmpR (ho X c) (pa X c t) (pb X c t) hm⟩
/-- an operator of comparison, with its plain function -/
structure Cop (o : CmpOp) (op : Op2) : Prop where
  ex : ∃ r : PySem.W.Frag → R2, (∀ (Γ : G) (X : Cx), CtxOk Γ X → OpR X (compareOp o) (r X.K)) ∧ ∀ K, SimV2 K (r K) op
  nm : ∀ b, o = .In ∨ o = .NotIn ∨ behindInMarks o b = false
theorem c_eq : Cop .Eq eqOp := ⟨⟨rEqA, fun Γ X c => op_eq.or (op_eqD (Nat.lt_of_le_of_lt (by omega) c.units)), fun _ => sim_eq⟩, fun b => .inr (.inr (nomark b))⟩
theorem c_ne : Cop .NotEq neOp := ⟨⟨rNeA, fun Γ X c => op_ne.or (op_neD (Nat.lt_of_le_of_lt (by omega) c.units)), fun _ => sim_ne⟩, fun b => .inr (.inr (nomark b))⟩
theorem c_lt : Cop .Lt ltOp := ⟨⟨fun _ => _, fun Γ X c => op_lt, fun _ => sim_lt⟩, fun b => .inr (.inr (nomark b))⟩
theorem c_le : Cop .LtE leOp := ⟨⟨fun _ => _, fun Γ X c => op_le, fun _ => sim_le⟩, fun b => .inr (.inr (nomark b))⟩
theorem c_gt : Cop .Gt gtOp := ⟨⟨fun _ => _, fun Γ X c => op_gt, fun _ => sim_gt⟩, fun b => .inr (.inr (nomark b))⟩
theorem c_ge : Cop .GtE geOp := ⟨⟨fun _ => _, fun Γ X c => op_ge, fun _ => sim_ge⟩, fun b => .inr (.inr (nomark b))⟩
theorem c_isN : Cop .Is (isNOp false) := ⟨⟨fun _ => rIsA, fun Γ X c => op_isN.or op_isBl, fun _ => sim_isN⟩, fun b => .inr (.inr (nomark b))⟩
theorem c_notN : Cop .IsNot (isNOp true) := ⟨⟨fun _ => rNotA, fun Γ X c => op_notN.or op_notBl, fun _ => sim_notN⟩, fun b => .inr (.inr (nomark b))⟩
theorem s_c {o : CmpOp} {op : Op2} (h : Cop o op) (ha : SE Γ a ma) (hb : SE Γ b mb) (hm : behindInMarks o b = false := by first | exact nomark _ | rfl) : SE Γ (.Compare a [o] [b] pos) (eBin op ma mb) :=
  let ⟨_, h1, h2⟩ := h.ex
  s_cmp (fun X c => h1 Γ X c) (h2 _) ha hb hm
theorem t_c {o : CmpOp} {op : Op2} (h : Cop o op) (ha : SE Γ a ma) (hb : SE Γ b mb) (hm : behindInMarks o b = false := by first | exact nomark _ | rfl) : ST Γ (.Compare a [o] [b] pos) (tOf (eBin op ma mb)) :=
  let ⟨_, h1, h2⟩ := h.ex
  t_cmp (fun X c => h1 Γ X c) (h2 _) ha hb hm
/-- a op1 b op2 c -/
def eChain (o o' : Op2) (ma mb mc : AEnv → Store → Res A) : AEnv → Store → Res A := fun env st => (ma env st).bind fun a st1 => (mb env st1).bind fun b st2 => (Res.of (o a b st2)).bind fun z st3 => (asB z st3).bind fun k st4 =>
  if k then (mc env st4).bind fun c st5 => Res.of (o' b c st5) else .ok (.bl false) st4
theorem sim_chain {K : PySem.W.Frag} {W : WX} {r r' : R2} {o o' : Op2} {ta tb tc : TE} (h : SimV2 K r o) (h' : SimV2 K r' o') (ha : Sim K Rep W ta ma) (hb : Sim K Rep W tb mb) (hc : Sim K Rep W tc mc) : Sim K Rep W (tChain r r' ta tb tc) (eChain o o' ma mb mc) := by
  intro Z F μ st env σ H Q g re hp
  unfold eChain at hp
  rw [Res.post_bind] at hp
  refine ha Z F μ st env σ H _ g re (Res.post_mono hp (fun a st1 q => ?_) fun _ _ q => q)
  intro F1 μ1 H1 x e1 g1 ra
  rw [Res.post_bind] at q
  refine hb Z F1 μ1 st1 env σ H1 _ g1 (re.mono e1) (Res.post_mono q (fun b st2 q => ?_) fun _ _ q => q.ext e1)
  intro F2 μ2 H2 y e2 g2 rb
  rw [Res.post_bind] at q
  obtain ⟨z, st3, e, q⟩ := Res.post_of q
  refine h Z F2 μ2 st2 st3 H2 a b z x y _ g2 (ra.mono e2) rb e ?_
  intro F3 μ3 H3 v e3 g3 rz
  cases z with
  | bl k =>
    cases rz
    refine ⟨k, rfl, ?_⟩
    cases k with
    | true =>
      rw [if_pos rfl]
      have q : ((mc env st3).bind fun c st5 => Res.of (o' b c st5)).post (Kont K Z Rep F μ Q) (KX K Z F μ σ W) := q
      rw [Res.post_bind] at q
      have e13 := e1.trans (e2.trans e3)
      refine hc Z F3 μ3 st3 env σ H3 _ g3 (re.mono e13) (Res.post_mono q (fun c st4 q => ?_) fun _ _ q => q.ext e13)
      intro F4 μ4 H4 w' e4 g4 rc
      obtain ⟨d, st5, e', k⟩ := Res.post_of q
      exact h' Z F4 μ4 st4 st5 H4 b c d y w' Q g4 (rb.mono (e3.trans e4)) rc e' (k.ext (e13.trans e4))
    | false =>
      rw [if_neg Bool.false_ne_true]
      exact Kont.now ((show Kont K Z Rep F μ Q (.bl false) st3 from q).ext (e1.trans (e2.trans e3))) g3 (.bl _)
  | _ => exact q.elim
theorem s_chain {o o' : CmpOp} {op op' : Op2} {c : Expr} (h : Cop o op) (h' : Cop o' op') (ha : SE Γ a ma) (hb : SE Γ b mb) (hc : SE Γ c mc) (hm : lastMarks [o, o'] [b, c] = false := by with_unfolding_all rfl) : SE Γ (.Compare a [o, o'] [b, c] pos) (eChain op op' ma mb mc) :=
  ⟨fun W => by
    obtain ⟨r, h1, h2⟩ := h.ex
    obtain ⟨r', h1', h2'⟩ := h'.ex
    obtain ⟨ta, sa, pa⟩ := ha.run W
    obtain ⟨tb, sb, pb⟩ := hb.run W
    obtain ⟨tc, sc, pc⟩ := hc.run W
    refine ⟨_, sim_chain (h2 _) (h2' _) sa sb sc, fun X c t => ?_⟩
    rw [← c.K]
    exact pe_chain (h1 Γ X c) (h1' Γ X c) (pa X c t) (pb X c t) (pc X c t) hm⟩
theorem t_chain {o o' : CmpOp} {op op' : Op2} {c : Expr} (h : Cop o op) (h' : Cop o' op') (ha : SE Γ a ma) (hb : SE Γ b mb) (hc : SE Γ c mc) (hm : lastMarks [o, o'] [b, c] = false := by with_unfolding_all rfl) : ST Γ (.Compare a [o, o'] [b, c] pos) (tOf (eChain op op' ma mb mc)) :=
  ⟨fun W => by
    obtain ⟨r, h1, h2⟩ := h.ex
    obtain ⟨r', h1', h2'⟩ := h'.ex
    obtain ⟨ta, sa, pa⟩ := ha.run W
    obtain ⟨tb, sb, pb⟩ := hb.run W
    obtain ⟨tc, sc, pc⟩ := hc.run W
    refine ⟨_, sim_test (sim_chain (h2 _) (h2' _) sa sb sc), fun X c t => ?_⟩
    rw [← c.K]
    exact pt_chain (h1 Γ X c) (h1' Γ X c) (pa X c t) (pb X c t) (pc X c t) hm⟩
/-- any value's truth -/
def tTru (m : AEnv → Store → Res A) : AEnv → Store → Res Bool := fun env st => (m env st).bind fun a st1 => match truA st1 a with
  | some b => .ok b st1
  | none => .stuck
theorem t_tru (ha : SE Γ a ma) (he : ∀ env whole, isTrue a env whole = (do let v ← whole; standAt a.pos; holding [v] (truthy v)) := by intro _ _; rfl) : ST Γ a (tTru ma) :=
  ⟨fun W => by
    obtain ⟨ta, sa, pa⟩ := ha.run W
    refine ⟨fun σ H Q => ta σ H fun x H' => ∃ k, TruV Γ.K x H' k ∧ Q k H', ?_, fun X c t => ?_⟩
    · refine Sim.bind (k := fun x σ H Q => ∃ k, TruV Γ.K x H k ∧ Q k H) (m' := fun a env st1 => match truA st1 a with | some b => .ok b st1 | none => .stuck) sa fun Z F μ st env σ H Q a x g re ra hp => ?_
      cases e : truA st a with
      | none => rw [e] at hp; exact hp.elim
      | some b => rw [e] at hp; exact ⟨b, tru_of g ra e, Kont.now (show Kont Γ.K Z RepB F μ Q b st from hp) g rfl⟩
    · rw [← c.K]
      exact pt_truth (pa X c t) (he X.env)⟩
variable {p q : AEnv → Store → Res Bool} {rest : List Expr}
def tAndM (p q : AEnv → Store → Res Bool) : AEnv → Store → Res Bool := fun env st => (p env st).bind fun c st1 => if c then q env st1 else .ok false st1
def tOrM (p q : AEnv → Store → Res Bool) : AEnv → Store → Res Bool := fun env st => (p env st).bind fun c st1 => if c then .ok true st1 else q env st1
def tNotM (p : AEnv → Store → Res Bool) : AEnv → Store → Res Bool := fun env st => (p env st).bind fun c st1 => .ok (!c) st1
theorem sim_and {K : PySem.W.Frag} {W : WX} {t u : TT} (h : Sim K RepB W t p) (h' : Sim K RepB W u q) : Sim K RepB W (tAnd t u) (tAndM p q) :=
  Sim.bind (k := fun c σ H Q => if c = true then u σ H Q else Q false H) (m' := fun c env st1 => if c then q env st1 else .ok false st1) h fun Z F μ st env σ H Q a x g re ra hp => by
    cases (ra : a = x)
    cases a with
    | true => rw [if_pos rfl]; exact h' Z F μ st env σ H Q g re hp
    | false => rw [if_neg Bool.false_ne_true]; exact Kont.now (show Kont K Z RepB F μ Q false st from hp) g rfl
theorem sim_or {K : PySem.W.Frag} {W : WX} {t u : TT} (h : Sim K RepB W t p) (h' : Sim K RepB W u q) : Sim K RepB W (tOr t u) (tOrM p q) :=
  Sim.bind (k := fun c σ H Q => if c = true then Q true H else u σ H Q) (m' := fun c env st1 => if c then .ok true st1 else q env st1) h fun Z F μ st env σ H Q a x g re ra hp => by
    cases (ra : a = x)
    cases a with
    | true => rw [if_pos rfl]; exact Kont.now (show Kont K Z RepB F μ Q true st from hp) g rfl
    | false => rw [if_neg Bool.false_ne_true]; exact h' Z F μ st env σ H Q g re hp
theorem sim_not {K : PySem.W.Frag} {W : WX} {t : TT} (h : Sim K RepB W t p) : Sim K RepB W (tNot t) (tNotM p) :=
  Sim.bind (k := fun c σ H Q => Q (!c) H) (m' := fun c env st1 => .ok (!c) st1) h fun Z F μ st env σ H Q a x g re ra hp => by
    cases (ra : a = x)
    exact Kont.now (show Kont K Z RepB F μ Q (!a) st from hp) g rfl
theorem w_and1 (ha : ST Γ a p) : SWt Γ (.BoolOp .And [a] pos) p := ⟨fun W => let ⟨t, s, h⟩ := ha.run W; ⟨t, s, fun X c k => pw_and1 (h X c k)⟩⟩
theorem w_or1 (ha : ST Γ a p) : SWt Γ (.BoolOp .Or [a] pos) p := ⟨fun W => let ⟨t, s, h⟩ := ha.run W; ⟨t, s, fun X c k => pw_or1 (h X c k)⟩⟩
theorem w_and (ha : ST Γ a p) (hb : SWt Γ (.BoolOp .And (b :: rest) pos) q) : SWt Γ (.BoolOp .And (a :: b :: rest) pos) (tAndM p q) :=
  ⟨fun W => let ⟨t, s, h⟩ := ha.run W; let ⟨t', s', h'⟩ := hb.run W; ⟨_, sim_and s s', fun X c k => pw_and (h X c k) (h' X c k)⟩⟩
theorem w_or (ha : ST Γ a p) (hb : SWt Γ (.BoolOp .Or (b :: rest) pos) q) : SWt Γ (.BoolOp .Or (a :: b :: rest) pos) (tOrM p q) :=
  ⟨fun W => let ⟨t, s, h⟩ := ha.run W; let ⟨t', s', h'⟩ := hb.run W; ⟨_, sim_or s s', fun X c k => pw_or (h X c k) (h' X c k)⟩⟩
theorem t_w (h : SWt Γ e p) : ST Γ e p := ⟨fun W => let ⟨t, s, h⟩ := h.run W; ⟨t, s, fun X c k => (h X c k).pt⟩⟩
theorem t_not (h : ST Γ a p) : ST Γ (.UnaryOp .Not a pos) (tNotM p) := ⟨fun W => let ⟨t, s, h⟩ := h.run W; ⟨_, sim_not s, fun X c k => pt_not (h X c k)⟩⟩
/-- and, or as values: True and False alone -/
def eAndV (ma mb : AEnv → Store → Res A) : AEnv → Store → Res A := fun env st => (ma env st).bind fun a st1 => (asB a st1).bind fun c st2 => if c then mb env st2 else .ok (.bl false) st2
def eOrV (ma mb : AEnv → Store → Res A) : AEnv → Store → Res A := fun env st => (ma env st).bind fun a st1 => (asB a st1).bind fun c st2 => if c then .ok (.bl true) st2 else mb env st2
def eNotV (ma : AEnv → Store → Res A) : AEnv → Store → Res A := fun env st => (ma env st).bind fun a st1 => (asB a st1).bind fun c st2 => .ok (.bl (!c)) st2
theorem sim_andV {K : PySem.W.Frag} {W : WX} {t u : TE} (h : Sim K Rep W t ma) (h' : Sim K Rep W u mb) : Sim K Rep W (tAndV t u) (eAndV ma mb) :=
  Sim.bind (R' := Rep) (k := fun x σ H Q => ∃ c, x = V.bl c ∧ if c = true then u σ H Q else Q (V.bl false) H) (m' := fun a env st1 => (asB a st1).bind fun c st2 => if c then mb env st2 else .ok (A.bl false) st2) h fun Z F μ st env σ H Q a x g re ra hp => by
    cases a with
    | bl b =>
      cases ra
      refine ⟨b, rfl, ?_⟩
      cases b with
      | true => rw [if_pos rfl]; exact h' Z F μ st env σ H Q g re hp
      | false => rw [if_neg Bool.false_ne_true]; exact Kont.now (show Kont K Z Rep F μ Q (.bl false) st from hp) g (.bl _)
    | _ => exact hp.elim
theorem sim_orV {K : PySem.W.Frag} {W : WX} {t u : TE} (h : Sim K Rep W t ma) (h' : Sim K Rep W u mb) : Sim K Rep W (tOrV t u) (eOrV ma mb) :=
  Sim.bind (R' := Rep) (k := fun x σ H Q => ∃ c, x = V.bl c ∧ if c = true then Q (V.bl true) H else u σ H Q) (m' := fun a env st1 => (asB a st1).bind fun c st2 => if c then .ok (A.bl true) st2 else mb env st2) h fun Z F μ st env σ H Q a x g re ra hp => by
    cases a with
    | bl b =>
      cases ra
      refine ⟨b, rfl, ?_⟩
      cases b with
      | true => rw [if_pos rfl]; exact Kont.now (show Kont K Z Rep F μ Q (.bl true) st from hp) g (.bl _)
      | false => rw [if_neg Bool.false_ne_true]; exact h' Z F μ st env σ H Q g re hp
    | _ => exact hp.elim
theorem sim_notV {K : PySem.W.Frag} {W : WX} {t : TE} (h : Sim K Rep W t ma) : Sim K Rep W (tNotV t) (eNotV ma) :=
  Sim.bind (R' := Rep) (k := fun x σ H Q => ∃ c, x = V.bl c ∧ Q (V.bl (!c)) H) (m' := fun a env st1 => (asB a st1).bind fun c st2 => .ok (A.bl (!c)) st2) h fun Z F μ st env σ H Q a x g re ra hp => by
    cases a with
    | bl b => cases ra; exact ⟨b, rfl, Kont.now (show Kont K Z Rep F μ Q (.bl (!b)) st from hp) g (.bl _)⟩
    | _ => exact hp.elim
theorem s_one {o} (h : SE Γ a ma) : SE Γ (.BoolOp o [a] pos) ma := ⟨fun W => let ⟨t, s, h⟩ := h.run W; ⟨t, s, fun X c k => pe_one (h X c k)⟩⟩
theorem s_and (ha : SE Γ a ma) (hb : SE Γ (.BoolOp .And (b :: rest) pos) mb) : SE Γ (.BoolOp .And (a :: b :: rest) pos) (eAndV ma mb) :=
  ⟨fun W => let ⟨t, s, h⟩ := ha.run W; let ⟨t', s', h'⟩ := hb.run W; ⟨_, sim_andV s s', fun X c k => pe_and (h X c k) (h' X c k)⟩⟩
theorem s_or (ha : SE Γ a ma) (hb : SE Γ (.BoolOp .Or (b :: rest) pos) mb) : SE Γ (.BoolOp .Or (a :: b :: rest) pos) (eOrV ma mb) :=
  ⟨fun W => let ⟨t, s, h⟩ := ha.run W; let ⟨t', s', h'⟩ := hb.run W; ⟨_, sim_orV s s', fun X c k => pe_or (h X c k) (h' X c k)⟩⟩
theorem s_not (ha : SE Γ a ma) : SE Γ (.UnaryOp .Not a pos) (eNotV ma) := ⟨fun W => let ⟨t, s, h⟩ := ha.run W; ⟨_, sim_notV s, fun X c k => pe_not (h X c k)⟩⟩
def eIf (p : AEnv → Store → Res Bool) (ma mb : AEnv → Store → Res A) : AEnv → Store → Res A := fun env st => (p env st).bind fun c st1 => if c then ma env st1 else mb env st1
theorem s_if {c : Expr} (hc : ST Γ c p) (ha : SE Γ a ma) (hb : SE Γ b mb) : SE Γ (.IfExp c a b pos) (eIf p ma mb) :=
  ⟨fun W => by
    obtain ⟨tc, sc, pc⟩ := hc.run W
    obtain ⟨ta, sa, pa⟩ := ha.run W
    obtain ⟨tb, sb, pb⟩ := hb.run W
    refine ⟨tIf tc ta tb, ?_, fun X c t => pe_ifExp (pc X c t) (pa X c t) (pb X c t)⟩
    refine Sim.bind (k := fun c σ H Q => if c = true then ta σ H Q else tb σ H Q) (m' := fun c env st1 => if c then ma env st1 else mb env st1) sc fun Z F μ st env σ H Q a x g re ra hp => ?_
    cases (ra : a = x)
    cases a with
    | true => rw [if_pos rfl]; exact sa Z F μ st env σ H Q g re hp
    | false => rw [if_neg Bool.false_ne_true]; exact sb Z F μ st env σ H Q g re hp⟩

/-! ### arguments, displays -/
def aNil : AEnv → Store → Res (List A) := fun _ st => .ok [] st
def aCons (m : AEnv → Store → Res A) (ms : AEnv → Store → Res (List A)) : AEnv → Store → Res (List A) := fun env st => (m env st).bind fun a st1 => (ms env st1).bind fun as st2 => .ok (a :: as) st2
variable {es : List Expr} {ms : AEnv → Store → Res (List A)}
theorem a_nil : SA Γ [] aNil := ⟨fun W => ⟨tNil, fun Z F μ st env σ H Q g re h => Kont.now (show Kont Γ.K Z Reps F μ Q [] st from h) g .nil, fun X c t => pa_nil⟩⟩
theorem a_cons (ha : SE Γ e ma) (hr : SA Γ es ms) (hs : ∀ env, starEach (e :: es) env = (false, eval e env) :: starEach es env := by intro _; rfl) : SA Γ (e :: es) (aCons ma ms) :=
  ⟨fun W => by
    obtain ⟨ta, sa, pa⟩ := ha.run W
    obtain ⟨tr, sr, pr⟩ := hr.run W
    refine ⟨tCons ta tr, ?_, fun X c t => pa_cons (pa X c t) (pr X c t) (hs _)⟩
    refine Sim.bind (R' := Reps) (k := fun x σ H Q => tr σ H fun xs H2 => Q (x :: xs) H2) (m' := fun a env st1 => (ms env st1).bind fun as st2 => .ok (a :: as) st2) sa fun Z F μ st env σ H Q a x g re ra hp => ?_
    rw [Res.post_bind] at hp
    refine sr Z F μ st env σ H _ g re (Res.post_mono hp (fun as st2 q => ?_) fun _ _ q => q)
    intro F1 μ1 H1 xs e1 g1 rs
    exact Kont.now ((show Kont Γ.K Z Reps F μ Q (a :: as) st2 from q).ext e1) g1 (.cons (ra.mono e1) rs)⟩
def eTup (ms : AEnv → Store → Res (List A)) : AEnv → Store → Res A := fun env st => (ms env st).bind fun xs st1 => if xs.length ≤ sizeLine then .ok (.tup xs) st1 else .stuck
def eLst (mk : Bool) (ms : AEnv → Store → Res (List A)) : AEnv → Store → Res A := fun env st => (ms env st).bind fun xs st1 => if xs.length ≤ sizeLine then .ok (newL mk xs st1).1 (newL mk xs st1).2 else .stuck
theorem s_tup {k} (h : SA Γ es ms) : SE Γ (.Tuple es k pos) (eTup ms) :=
  ⟨fun W => by
    obtain ⟨ta, sa, pa⟩ := h.run W
    refine ⟨tTup ta, ?_, fun X c t => pe_tup (pa X c t)⟩
    refine Sim.bind (R' := Rep) (k := fun xs σ H Q => xs.length ≤ sizeLine ∧ ∀ p, H p = none → Q (V.ref p) (upd H p (HO.tup xs))) (m' := fun xs env st1 => if xs.length ≤ sizeLine then .ok (A.tup xs) st1 else .stuck) sa fun Z F μ st env σ H Q a x g re ra hp => ?_
    by_cases hl : a.length ≤ sizeLine
    · rw [if_pos hl] at hp
      exact ⟨by rw [← ra.length]; exact hl, fun p hp' => newT_ok g hp' ra hp⟩
    · rw [if_neg hl] at hp; exact hp.elim⟩
theorem s_lst {mk : Bool} (h : SA Γ es ms) : SE Γ (.List es pos) (eLst mk ms) :=
  ⟨fun W => by
    obtain ⟨ta, sa, pa⟩ := h.run W
    refine ⟨tLst ta, ?_, fun X c t => pe_lst (pa X c t)⟩
    refine Sim.bind (R' := Rep) (k := fun xs σ H Q => xs.length ≤ sizeLine ∧ ∀ p, H p = none → Q (V.ref p) (upd H p (HO.lst xs))) (m' := fun xs env st1 => if xs.length ≤ sizeLine then .ok (newL mk xs st1).1 (newL mk xs st1).2 else .stuck) sa fun Z F μ st env σ H Q a x g re ra hp => ?_
    by_cases hl : a.length ≤ sizeLine
    · rw [if_pos hl] at hp
      exact ⟨by rw [← ra.length]; exact hl, fun p hp' => newL_ok (mk := mk) g hp' ra hp⟩
    · rw [if_neg hl] at hp; exact hp.elim⟩

/-! ### subscripts, slices -/
def ixL : Op2 := fun a b st => match seqR a st, b with
  | some xs, .int i => (atI xs i).map fun c => (c, st)
  | _, _ => none
def ixS : Op2 := fun a b st => match a, b with
  | .str z, .int i => if z.length ≤ sizeLine then (atI z.cps.toList i).map fun c => (.str ⟨#[c]⟩, st) else none
  | _, _ => none
def ixOp : Op2 := fun a b st => (ixL a b st).or (ixS a b st)
theorem atI_reps {K : PySem.W.Frag} {F : Hp} {μ : List Addr} {xs : List A} {vs : List V} {i : Int} {c : A} (r : Reps K F μ xs vs) (h : atI xs i = some c) : ∃ v, atI vs i = some v ∧ Rep K F μ c v := by
  unfold atI at h ⊢
  rw [← r.length]
  cases e : ixN xs.length i with
  | none => rw [e] at h; cases h
  | some j =>
    rw [e] at h
    obtain ⟨v, h1, h2⟩ := r.get (i := j) (a := c) h
    exact ⟨v, h1, h2⟩
theorem sim_ixL {K : PySem.W.Frag} : SimV2 K (fun x y H Q => rIxL K x y H Q ∨ rIxT K x y H Q) ixL := by
  intro Z F μ st st' H a b c x y Q g ra rb e k
  unfold ixL at e
  cases e1 : seqR a st with
  | none => rw [e1] at e; cases e
  | some xs =>
    rw [e1] at e
    cases b with
    | int i =>
      cases rb
      have e : (atI xs i).map (fun c => (c, st)) = some (c, st') := e
      cases e2 : atI xs i with
      | none => rw [e2] at e; cases e
      | some d =>
        rw [e2] at e; cases e
        obtain ⟨p, vs, rfl, h1, r1⟩ := seqR_ok g ra e1
        obtain ⟨v, h2, h3⟩ := atI_reps r1 e2
        rcases h1 with h1 | h1
        · exact .inl ⟨p, vs, i, v, rfl, rfl, h1, h2, k.same g h3⟩
        · exact .inr ⟨p, vs, i, v, rfl, rfl, h1, h2, k.same g h3⟩
    | _ => cases e
theorem sim_ixS {K : PySem.W.Frag} : SimV2 K rIxS ixS := by
  intro Z F μ st st' H a b c x y Q g ra rb e k
  cases a with
  | str z =>
    cases b with
    | int i =>
      cases ra; cases rb
      have e : (if z.length ≤ sizeLine then (atI z.cps.toList i).map (fun c => (A.str ⟨#[c]⟩, st)) else none) = some (c, st') := e
      by_cases hl : z.length ≤ sizeLine
      · rw [if_pos hl] at e
        cases e2 : atI z.cps.toList i with
        | none => rw [e2] at e; cases e
        | some d =>
          rw [e2] at e; cases e
          exact ⟨z, i, d, rfl, rfl, hl, e2, k.same g (.str _)⟩
      · rw [if_neg hl] at e; cases e
    | _ => cases e
  | _ => cases e
theorem sim_ix {K : PySem.W.Frag} : SimV2 K (fun x y H Q => (rIxL K x y H Q ∨ rIxT K x y H Q) ∨ rIxS x y H Q) ixOp := SimV2.or sim_ixL sim_ixS
theorem s_ix (ha : SE Γ a ma) (hb : SE Γ b mb) (hs : PlainIx b := by intro _ _; rfl) : SE Γ (.Subscript a b pos) (eBin ixOp ma mb) :=
  ⟨fun W => by
    obtain ⟨ta, sa, pa⟩ := ha.run W
    obtain ⟨tb, sb, pb⟩ := hb.run W
    refine ⟨_, sim_bin sim_ix sa sb, fun X c t => ?_⟩
    rw [← c.K]
    exact pe_ix ((ix_list.or ix_tup).or ix_str) (pa X c t) (pb X c t) hs⟩
/-- a slice's part -/
structure SO (Γ : G) (e : Option Expr) (m : AEnv → Store → Res (Option Int)) : Prop where
  run : ∀ W : WX, ∃ t : TO, Sim Γ.K (fun _ _ _ (a b : Option Int) => a = b) W t m ∧ ∀ X, CtxOk Γ X → Takes X W → PO X e t
def oNone : AEnv → Store → Res (Option Int) := fun _ st => .ok none st
def oSome (m : AEnv → Store → Res A) : AEnv → Store → Res (Option Int) := fun env st => (m env st).bind fun a st1 => match a with
  | .int i => .ok (some i) st1
  | _ => .stuck
theorem o_none : SO Γ none oNone := ⟨fun W => ⟨tNoPart, fun Z F μ st env σ H Q g re h => Kont.now (show Kont Γ.K Z (fun _ _ _ (a b : Option Int) => a = b) F μ Q none st from h) g rfl, fun X c t => po_none⟩⟩
theorem o_some (h : SE Γ e ma) : SO Γ (some e) (oSome ma) :=
  ⟨fun W => by
    obtain ⟨ta, sa, pa⟩ := h.run W
    refine ⟨tPart ta, ?_, fun X c t => po_some (pa X c t)⟩
    refine Sim.bind (R' := fun _ _ _ (a b : Option Int) => a = b) (k := fun x σ H Q => ∃ i, x = V.int i ∧ Q (some i) H) (m' := fun a env st1 => match a with | .int i => .ok (some i) st1 | _ => .stuck) sa fun Z F μ st env σ H Q a x g re ra hp => ?_
    cases a with
    | int i => cases ra; exact ⟨i, rfl, Kont.now (show Kont Γ.K Z (fun _ _ _ (a b : Option Int) => a = b) F μ Q (some i) st from hp) g rfl⟩
    | _ => exact hp.elim⟩
def cutA (xs : List A) (lo hi : Option Int) : List A := (xs.drop (HT.sIx xs.length 0 lo)).take (HT.sIx xs.length xs.length hi - HT.sIx xs.length 0 lo)
theorem cutA_reps {K : PySem.W.Frag} {F : Hp} {μ : List Addr} {xs : List A} {vs : List V} (r : Reps K F μ xs vs) (lo hi : Option Int) : Reps K F μ (cutA xs lo hi) (cutV vs lo hi) := by
  unfold cutA cutV
  rw [r.length]
  exact (r.drop _).take _
/-- x[lo:hi] -/
def slOp (mk : Bool) (a : A) (lo hi : Option Int) (st : Store) : Option (A × Store) := match a with
  | .tup xs => if HT.sIx xs.length 0 lo = 0 ∧ HT.sIx xs.length xs.length hi = xs.length then none else some (.tup (cutA xs lo hi), st)
  | .str z => if z.length ≤ sizeLine then some (.str (cutS z lo hi), st) else none
  | a => (lstR a st).map fun xs => newL mk (cutA xs lo hi) st
theorem SlR_K {X : Cx} {K : PySem.W.Frag} (h : X.K = K) : True := trivial
def rSlA (K : PySem.W.Frag) : V → Option Int → Option Int → Hp → VK → Prop := fun x lo hi H Q => rSlT K x lo hi H Q ∨ (∃ z, x = .str z ∧ z.length ≤ sizeLine ∧ Q (.str (cutS z lo hi)) H) ∨ rSlL K x lo hi H Q
theorem sim_sl {K : PySem.W.Frag} {mk : Bool} {F : Hp} {μ : List Addr} {st st' : Store} {H : Hp} {a c : A} {x : V} {lo hi : Option Int} {Q : VK} (g : Good K Z F μ st H) (ra : Rep K F μ a x) (e : slOp mk a lo hi st = some (c, st')) (k : Kont K Z Rep F μ Q c st') :
    rSlA K x lo hi H Q := by
  have lists : (lstR a st).map (fun xs => newL mk (cutA xs lo hi) st) = some (c, st') → rSlA K x lo hi H Q := fun e => by
    cases e1 : lstR a st with
    | none => rw [e1] at e; cases e
    | some xs =>
      rw [e1] at e
      have e : newL mk (cutA xs lo hi) st = (c, st') := Option.some.inj e
      obtain ⟨p, vs, rfl, h1, r1⟩ := lstR_ok g ra e1
      exact .inr (.inr ⟨p, vs, rfl, h1, fun l hl => newL_ok (mk := mk) g hl (cutA_reps r1 lo hi) (by rw [e]; exact k)⟩)
  cases a with
  | tup xs =>
    have e : (if HT.sIx xs.length 0 lo = 0 ∧ HT.sIx xs.length xs.length hi = xs.length then none else some (A.tup (cutA xs lo hi), st)) = some (c, st') := e
    by_cases hw : HT.sIx xs.length 0 lo = 0 ∧ HT.sIx xs.length xs.length hi = xs.length
    · rw [if_pos hw] at e; cases e
    · rw [if_neg hw] at e; cases e
      obtain ⟨p, vs, rfl, h1, r1⟩ := tupR_ok g ra rfl
      exact .inl ⟨p, vs, rfl, h1, by rw [← r1.length]; exact hw, fun l hl => newT_ok g hl (cutA_reps r1 lo hi) k⟩
  | str z =>
    cases ra
    have e : (if z.length ≤ sizeLine then some (A.str (cutS z lo hi), st) else none) = some (c, st') := e
    by_cases hl : z.length ≤ sizeLine
    · rw [if_pos hl] at e; cases e; exact .inr (.inl ⟨z, rfl, hl, k.same g (.str _)⟩)
    · rw [if_neg hl] at e; cases e
  | _ => exact lists e
end
end SL

set_option Elab.async false
set_option linter.all false
set_option maxRecDepth 100000
set_option maxHeartbeats 4000000
/-! SLd: slices, calls of built-ins, methods. -/
namespace SL
open PySem PySem.Spec L2
open PyProof.Rows hiding St
section
variable {Γ : G} {a b e : Expr} {es : List Expr} {ma mb mc : AEnv → Store → Res A} {ms : AEnv → Store → Res (List A)} {pos p2 p apos cpos : Pos}
def eSl (mk : Bool) (ma : AEnv → Store → Res A) (ml mh : AEnv → Store → Res (Option Int)) : AEnv → Store → Res A := fun env st => (ma env st).bind fun a st1 => (ml env st1).bind fun lo st2 => (mh env st2).bind fun hi st3 => Res.of (slOp mk a lo hi st3)
theorem s_sl {mk : Bool} {lo hi : Option Expr} {ml mh : AEnv → Store → Res (Option Int)} (ha : SE Γ a ma) (hl : SO Γ lo ml) (hh : SO Γ hi mh) : SE Γ (.Subscript a (.Slice lo hi none p2) pos) (eSl mk ma ml mh) :=
  ⟨fun W => by
    obtain ⟨ta, sa, pa⟩ := ha.run W
    obtain ⟨tl, sl, pl⟩ := hl.run W
    obtain ⟨th, sh, ph⟩ := hh.run W
    refine ⟨tSl (rSlA Γ.K) ta tl th, ?_, fun X c t => ?_⟩
    · intro Z F μ st env σ H Q g re hp
      unfold eSl at hp
      rw [Res.post_bind] at hp
      refine sa Z F μ st env σ H _ g re (Res.post_mono hp (fun a st1 q => ?_) fun _ _ q => q)
      intro F1 μ1 H1 x e1 g1 ra
      rw [Res.post_bind] at q
      refine sl Z F1 μ1 st1 env σ H1 _ g1 (re.mono e1) (Res.post_mono q (fun l st2 q => ?_) fun _ _ q => q.ext e1)
      intro F2 μ2 H2 l' e2 g2 rl
      cases rl
      rw [Res.post_bind] at q
      refine sh Z F2 μ2 st2 env σ H2 _ g2 (re.mono (e1.trans e2)) (Res.post_mono q (fun h st3 q => ?_) fun _ _ q => q.ext (e1.trans e2))
      intro F3 μ3 H3 h' e3 g3 rh
      cases rh
      obtain ⟨c, st4, e, k⟩ := Res.post_of q
      exact sim_sl (mk := mk) g3 (ra.mono (e2.trans e3)) e (k.ext (e1.trans (e2.trans e3)))
    · rw [← c.K]
      exact pe_slice (sl_tup.or (sl_str.or sl_list)) (pa X c t) (pl X c t) (ph X c t)⟩

/-! ### calls of built-ins -/
def eCB (op : OpN) (ms : AEnv → Store → Res (List A)) : AEnv → Store → Res A := fun env st => (ms env st).bind fun xs st1 => Res.of (op xs st1)
theorem sim_cb {K : PySem.W.Frag} {W : WX} {r : List V → Hp → VK → Prop} {op : OpN} {t : TA} (h : SimVN K r op) (ha : Sim K Reps W t ms) : Sim K Rep W (tCB r t) (eCB op ms) :=
  Sim.bind (k := fun xs σ H Q => r xs H Q) (m' := fun xs env st1 => Res.of (op xs st1)) ha fun Z F μ st env σ H Q a x g re ra hp => by
    obtain ⟨c, st3, e, k⟩ := Res.post_of hp
    exact h Z F μ st st3 H a c x Q g ra e k
/-- a built-in with its plain function -/
structure Cb (f : Value) (op : OpN) : Prop where
  ex : ∃ r : PySem.W.Frag → List V → Hp → VK → Prop, (∀ (Γ : G) (X : Cx), CtxOk Γ X → Γ.calm = true → CallR X f (r X.K)) ∧ ∀ K, SimVN K (r K) op
theorem Cb.or {f : Value} {op op' : OpN} (h : Cb f op) (h' : Cb f op') : Cb f (fun xs st => (op xs st).or (op' xs st)) := by
  obtain ⟨r, h1, h2⟩ := h.ex
  obtain ⟨r', h1', h2'⟩ := h'.ex
  refine ⟨⟨fun K xs H Q => r K xs H Q ∨ r' K xs H Q, fun Γ X c cm => (h1 Γ X c cm).or (h1' Γ X c cm), fun K Z F μ st st' H as c xs Q g ra e k => ?_⟩⟩
  cases e1 : op as st with
  | none => simp only [e1, Option.none_or] at e; exact .inr (h2' K Z F μ st st' H as c xs Q g ra e k)
  | some p => simp only [e1, Option.some_or] at e; cases e; exact .inl (h2 K Z F μ st st' H as c xs Q g ra e1 k)
theorem s_cb {x : Str} {id : String} {op : OpN} (h : Cb (.builtin id) op) (hg : Γ.sc.names.lookup x = some .globalImplicit) (hm : Γ.mg x = none) (hv : bootBuiltins x = some (.builtin id)) (ha : SA Γ (e :: es) ms)
    (hn : x ≠ "__name__" := by decide) (hdb : (x == ("__debug__" : Str)) = false := by decide)
    (he : ∀ env, starEach (e :: es) env = (false, eval e env) :: starEach es env := by intro _; rfl) (hpl : ∀ env, (backTo pos (starEach es env)).any (·.1) = false := by intro _; rfl) (cm : Γ.calm = true := by rfl) : SE Γ (.Call (.Name x p) (e :: es) [] pos) (eCB op ms) :=
  ⟨fun W => by
    obtain ⟨r, h1, h2⟩ := h.ex
    obtain ⟨ta, sa, pa⟩ := ha.run W
    refine ⟨_, sim_cb (h2 _) sa, fun X c t => ?_⟩
    rw [← c.K]
    exact pe_callB (h1 Γ X c cm) (c.gl hg) (c.mgn hm) hv (pa X c t) hn hdb (he _) (hpl _)⟩
theorem s_cty {x : Str} {T : String} {op : OpN} (h : Cb (.type T) op) (hg : Γ.sc.names.lookup x = some .globalImplicit) (hm : Γ.mg x = none) (hv : bootBuiltins x = some (.type T)) (ha : SA Γ (e :: es) ms)
    (hn : x ≠ "__name__" := by decide) (hdb : (x == ("__debug__" : Str)) = false := by decide)
    (he : ∀ env, starEach (e :: es) env = (false, eval e env) :: starEach es env := by intro _; rfl) (hpl : ∀ env, (backTo pos (starEach es env)).any (·.1) = false := by intro _; rfl) (cm : Γ.calm = true := by rfl) : SE Γ (.Call (.Name x p) (e :: es) [] pos) (eCB op ms) :=
  ⟨fun W => by
    obtain ⟨r, h1, h2⟩ := h.ex
    obtain ⟨ta, sa, pa⟩ := ha.run W
    refine ⟨_, sim_cb (h2 _) sa, fun X c t => ?_⟩
    rw [← c.K]
    exact pe_callTy (h1 Γ X c cm) (c.gl hg) (c.mgn hm) hv (pa X c t) hn hdb (he _) (hpl _)⟩
/-- of one argument -/
def one1 (op : Op1) : OpN := fun xs st => match xs with
  | [a] => op a st
  | _ => none
def two2 (op : Op2) : OpN := fun xs st => match xs with
  | [a, b] => op a b st
  | _ => none
theorem cb1 {f : Value} {r : PySem.W.Frag → List V → Hp → VK → Prop} {op : Op1} (h : ∀ (Γ : G) (X : Cx), CtxOk Γ X → Γ.calm = true → CallR X f (r X.K))
    (h' : ∀ (K : PySem.W.Frag) (Z F : Hp) (μ : List Addr) (st st' : Store) (H : Hp) (a c : A) (x : V) (Q : VK), Good K Z F μ st H → Rep K F μ a x → op a st = some (c, st') → Kont K Z Rep F μ Q c st' → r K [x] H Q) : Cb f (one1 op) :=
  ⟨⟨r, h, fun K Z F μ st st' H as c xs Q g ra e k => by
    cases as with
    | nil => cases e
    | cons a as =>
      cases as with
      | nil =>
        obtain ⟨x, rfl, ra1⟩ := ra.one
        exact h' K Z F μ st st' H a c x Q g ra1 e k
      | cons b as => cases e⟩⟩
theorem cb2 {f : Value} {r : PySem.W.Frag → List V → Hp → VK → Prop} {op : Op2} (h : ∀ (Γ : G) (X : Cx), CtxOk Γ X → Γ.calm = true → CallR X f (r X.K))
    (h' : ∀ (K : PySem.W.Frag) (Z F : Hp) (μ : List Addr) (st st' : Store) (H : Hp) (a b c : A) (x y : V) (Q : VK), Good K Z F μ st H → Rep K F μ a x → Rep K F μ b y → op a b st = some (c, st') → Kont K Z Rep F μ Q c st' → r K [x, y] H Q) : Cb f (two2 op) :=
  ⟨⟨r, h, fun K Z F μ st st' H as c xs Q g ra e k => by
    cases as with
    | nil => cases e
    | cons a as =>
      cases as with
      | nil => cases e
      | cons b as =>
        cases as with
        | nil =>
          obtain ⟨x, y, rfl, ra1, rb1⟩ := ra.two
          exact h' K Z F μ st st' H a b c x y Q g ra1 rb1 e k
        | cons b as => cases e⟩⟩
/-! len -/
def lenA : Op1 := fun a st => match a with
  | .str y => if y.length ≤ sizeLine then some (.int y.length, st) else none
  | a => (seqR a st).map fun xs => (.int xs.length, st)
theorem cb_len : Cb (.builtin "len") (one1 lenA) := cb1 (r := fun K xs H Q => ∃ x n, xs = [x] ∧ LenV K x H n ∧ Q (.int n) H) (fun _ _ _ _ => call_len) fun K Z F μ st st' H a c x Q g ra e k => by
  have seq_len : (seqR a st).map (fun xs => (A.int xs.length, st)) = some (c, st') → ∃ x' n, [x] = [x'] ∧ LenV K x' H n ∧ Q (.int n) H := fun e => by
    cases e1 : seqR a st with
    | none => rw [e1] at e; cases e
    | some xs =>
      rw [e1] at e; cases e
      obtain ⟨p, vs, rfl, h1, r1⟩ := seqR_ok g ra e1
      refine ⟨_, xs.length, rfl, ?_, k.same g (.int _)⟩
      rcases h1 with h1 | h1
      · exact .inl ⟨vs, h1, r1.length⟩
      · exact .inr ⟨vs, h1, r1.length⟩
  cases a with
  | str y =>
    cases ra
    have e : (if y.length ≤ sizeLine then some (A.int y.length, st) else none) = some (c, st') := e
    by_cases hl : y.length ≤ sizeLine
    · rw [if_pos hl] at e; cases e; exact ⟨V.str y, y.length, rfl, (show y.length ≤ sizeLine ∧ y.length = y.length from ⟨hl, rfl⟩), k.same g (.int _)⟩
    · rw [if_neg hl] at e; cases e
  | _ => exact seq_len e
/-! list(x), tuple(x) -/
def listA (mk : Bool) : Op1 := fun a st => (seqR a st).map fun ys => newL mk ys st
theorem cb_list {mk : Bool} : Cb (.type "list") (one1 (listA mk)) := cb1 (r := fun K xs H Q => ∃ p ys, xs = [.ref p] ∧ (SqL K H p ys ∨ SqT K H p ys) ∧ ∀ l, H l = none → Q (.ref l) (upd H l (.lst ys))) (fun _ _ _ _ => call_list_of) fun K Z F μ st st' H a c x Q g ra e k => by
  have e : (seqR a st).map (fun ys => newL mk ys st) = some (c, st') := e
  cases e1 : seqR a st with
  | none => rw [e1] at e; cases e
  | some ys =>
    rw [e1] at e
    have e : newL mk ys st = (c, st') := Option.some.inj e
    obtain ⟨p, vs, rfl, h1, r1⟩ := seqR_ok g ra e1
    exact ⟨p, vs, rfl, h1, fun l hl => newL_ok (mk := mk) g hl r1 (by rw [e]; exact k)⟩
def tupleA : Op1 := fun a st => match a with
  | .tup ys => some (.tup ys, st)
  | a => (lstR a st).map fun ys => (.tup ys, st)
theorem cb_tuple : Cb (.type "tuple") (one1 tupleA) := cb1 (r := fun K xs H Q => ∃ p ys, xs = [.ref p] ∧ ((SqL K H p ys ∧ ∀ l, H l = none → Q (.ref l) (upd H l (.tup ys))) ∨ (SqT K H p ys ∧ Q (.ref p) H))) (fun _ _ _ _ => call_tuple_of) fun K Z F μ st st' H a c x Q g ra e k => by
  have lists : (lstR a st).map (fun ys => (A.tup ys, st)) = some (c, st') → ∃ p ys, [x] = [V.ref p] ∧ ((SqL K H p ys ∧ ∀ l, H l = none → Q (.ref l) (upd H l (.tup ys))) ∨ (SqT K H p ys ∧ Q (.ref p) H)) := fun e => by
    cases e1 : lstR a st with
    | none => rw [e1] at e; cases e
    | some ys =>
      rw [e1] at e; cases e
      obtain ⟨p, vs, rfl, h1, r1⟩ := lstR_ok g ra e1
      exact ⟨p, vs, rfl, .inl ⟨h1, fun l hl => newT_ok g hl r1 k⟩⟩
  cases a with
  | tup ys =>
    cases e
    obtain ⟨p, vs, rfl, h1, r1⟩ := tupR_ok g ra rfl
    exact ⟨p, vs, rfl, .inr ⟨h1, k.same g ra⟩⟩
  | _ => exact lists e
/-! int, abs, bool, sum -/
def intA : Op1 := fun a st => match a with
  | .int i => some (.int i, st)
  | .bl k => some (.int (if k then 1 else 0), st)
  | _ => none
theorem cb_int : Cb (.type "int") (one1 intA) := cb1 (r := fun _ xs H Q => (∃ i, xs = [.int i] ∧ Q (.int i) H) ∨ ∃ k, xs = [.bl k] ∧ Q (.int (if k then 1 else 0)) H) (fun _ _ _ _ => call_int1) fun K Z F μ st st' H a c x Q g ra e k => by
  cases a with
  | int i => cases ra; cases e; exact .inl ⟨i, rfl, k.same g (.int _)⟩
  | bl b => cases ra; cases e; exact .inr ⟨b, rfl, k.same g (.int _)⟩
  | _ => cases e
def absA : Op1 := fun a st => match a with
  | .int i => some (.int (if i < 0 then -i else i), st)
  | _ => none
theorem cb_abs : Cb (.builtin "abs") (one1 absA) := cb1 (r := fun _ xs H Q => ∃ i, xs = [.int i] ∧ Q (.int (if i < 0 then -i else i)) H) (fun _ _ _ _ => call_abs) fun K Z F μ st st' H a c x Q g ra e k => by
  cases a with
  | int i => cases ra; cases e; exact ⟨i, rfl, k.same g (.int _)⟩
  | _ => cases e
/-- the ints of a list of ints -/
def intsA : List A → Option (List Int) := optAll fun a => match a with
  | .int i => some i
  | _ => none
theorem intsA_ok {xs : List A} {ns : List Int} (h : intsA xs = some ns) : xs = ns.map A.int := by
  unfold intsA at h
  induction xs generalizing ns with
  | nil => cases h; rfl
  | cons x xs ih =>
    unfold optAll at h
    cases x with
    | int i =>
      cases e : optAll (fun a : A => match a with | .int i => some i | _ => none) xs with
      | none => rw [e] at h; cases h
      | some ms => rw [e] at h; cases h; rw [ih e]; rfl
    | _ => cases h
@[simp] theorem intsA_map (ns : List Int) : intsA (ns.map A.int) = some ns := by
  unfold intsA
  induction ns with
  | nil => rfl
  | cons n ns ih => rw [List.map_cons]; unfold optAll; rw [ih]
def sumA : Op1 := fun a st => match lstR a st with
  | some xs => (intsA xs).map fun ns => (.int ns.sum, st)
  | none => none
theorem cb_sum : Cb (.builtin "sum") (one1 sumA) := cb1 (r := rSum) (fun _ _ c cm => cr_sum (c.calm cm)) fun K Z F μ st st' H a c x Q g ra e k => by
  unfold sumA at e
  cases e1 : lstR a st with
  | none => rw [e1] at e; cases e
  | some xs =>
    rw [e1] at e
    have e : (intsA xs).map (fun ns => (A.int ns.sum, st)) = some (c, st') := e
    cases e2 : intsA xs with
    | none => rw [e2] at e; cases e
    | some ns =>
      rw [e2] at e; cases e
      obtain ⟨p, vs, rfl, h1, r1⟩ := lstR_ok g ra e1
      rw [intsA_ok e2] at r1
      rw [r1.intsV] at h1
      exact ⟨p, ns, rfl, h1, k.same g (.int _)⟩
/-! isinstance of built-in types -/
/-- the name of a value's type -/
def tyName : A → Store → Option String
  | .non, _ => some "NoneType"
  | .bl _, _ => some "bool"
  | .int _, _ => some "int"
  | .str _, _ => some "str"
  | .lst _, _ => some "list"
  | .slst _, _ => some "list"
  | .tup _, _ => some "tuple"
  | .dct _ _, _ => some "dict"
  | .cell n, st => match st[n]? with
    | some (.lst _) => some "list"
    | some (.dct _ _) => some "dict"
    | _ => none
  | _, _ => none
theorem sqL_ty {K : PySem.W.Frag} {H : Hp} {p : Addr} {vs : List V} (h : SqL K H p vs) : TyX K H (.ref p) (.type "list") := by
  rcases h with (h | ⟨o, h⟩) | ⟨o, its, n, h1, h2, _⟩
  · exact .base (.lst h)
  · exact .base (.frz h)
  · exact .kList h1 h2
theorem sqT_ty {K : PySem.W.Frag} {H : Hp} {p : Addr} {vs : List V} (h : SqT K H p vs) : TyX K H (.ref p) (.type "tuple") := by
  rcases h with (h | ⟨o, h⟩) | ⟨o, its, n, h1, h2, _⟩
  · exact .base (.tup h)
  · exact .fTuple h
  · exact .kTuple h1 h2
theorem tyName_ok {K : PySem.W.Frag} {F : Hp} {μ : List Addr} {st : Store} {H : Hp} {a : A} {x : V} {n : String} (g : Good K Z F μ st H) (r : Rep K F μ a x) (h : tyName a st = some n) : TyX K H x (.type n) := by
  cases a with
  | non => cases h; cases r; exact .base .non
  | bl b => cases h; cases r; exact .base (.bl b)
  | int i => cases h; cases r; exact .base (.int i)
  | str s => cases h; cases r; exact .base (.str s)
  | lst xs => cases h; cases r with | lst h1 _ => exact .base (.lst (g.sub _ _ h1))
  | slst xs => cases h; cases r with | slst h1 _ => exact sqL_ty (SqL.mono g.sub h1)
  | tup xs => cases h; cases r with | tup h1 _ => exact sqT_ty (SqT.of (g.sub _ _ h1))
  | dct ks xs => cases h; cases r with | dct h1 _ _ => exact .base (.dK (g.sub _ _ h1))
  | cell m =>
    have h : (match st[m]? with | some (.lst _) => some "list" | some (.dct _ _) => some "dict" | _ => none) = some n := h
    cases e : st[m]? with
    | none => rw [e] at h; cases h
    | some c =>
      rw [e] at h
      cases r with
      | cell h1 =>
        cases c with
        | lst xs =>
          cases h
          obtain ⟨a, h2, _, vs, h4, _⟩ := g.cell m _ e (by intro z; cases z)
          rw [h1] at h2; cases h2
          exact .base (.lst h4)
        | dct ks xs =>
          cases h
          obtain ⟨a, h2, _, vs, h4, _⟩ := g.cell m _ e (by intro z; cases z)
          rw [h1] at h2; cases h2
          exact .base (.dK h4)
        | _ => cases h
  | _ => cases h
/-- one of these classes -/
def isiTys (n : String) : List A → Option Bool
  | [] => some false
  | .ty m :: cs => match kitB n m, isiTys n cs with
    | some b, some r => some (b || r)
    | _, _ => none
  | _ :: _ => none
theorem isiTys_ok {K : PySem.W.Frag} {F : Hp} {μ : List Addr} {n : String} : ∀ {cs : List A} {vs : List V} {b : Bool}, isiTys n cs = some b → Reps K F μ cs vs → ∃ us : List Value, Paired ClsV vs us ∧ PySem.W.kitAny K (.type n) us = some b
  | [], _, _, e, .nil => by cases e; exact ⟨[], .nil, kitAny_nil⟩
  | c :: cs, _, b, e, .cons r t => by
    cases c with
    | ty m =>
      cases r
      have e : (match kitB n m, isiTys n cs with | some b, some r => some (b || r) | _, _ => none) = some b := e
      cases e1 : kitB n m with
      | none => rw [e1] at e; cases e
      | some x =>
        cases e2 : isiTys n cs with
        | none => rw [e1, e2] at e; cases e
        | some y =>
          rw [e1, e2] at e; cases e
          obtain ⟨us, h1, h2⟩ := isiTys_ok e2 t
          refine ⟨_, .cons (.ty m) h1, kitAny_cons (kit_ty e1) (r := x || y) (fun hb => ?_) (fun hb => ?_)⟩
          · subst hb; exact h2
          · subst hb; rfl
    | _ => cases e
def isiA : Op2 := fun a c st => match tyName a st, c with
  | some n, .ty m => (kitB n m).map fun b => (.bl b, st)
  | some n, .tup cs => (isiTys n cs).map fun b => (.bl b, st)
  | _, _ => none
theorem SqT.tracked {K : PySem.W.Frag} {H : Hp} {a : Addr} {xs : List V} (h : SqT K H a xs) : True := trivial
def rIsiA (K : PySem.W.Frag) : List V → Hp → VK → Prop := fun xs H Q => rIsi K xs H Q ∨ rIsiT K xs H Q
def isiB : Op2 := fun a c st => match c with
    | .ty _ => isiA a c st
    | _ => none
theorem cb_isi : Cb (.builtin "isinstance") (two2 isiB) := cb2 (r := rIsi) (fun _ _ _ _ => call_isi) fun K Z F μ st st' H a b c x y Q g ra rb e k => by
  cases b with
  | ty m =>
    cases rb
    have e : isiA a (.ty m) st = some (c, st') := e
    unfold isiA at e
    cases e1 : tyName a st with
    | none => rw [e1] at e; cases e
    | some n =>
      rw [e1] at e
      have e : (kitB n m).map (fun b => (A.bl b, st)) = some (c, st') := e
      cases e2 : kitB n m with
      | none => rw [e2] at e; cases e
      | some b =>
        rw [e2] at e; cases e
        exact ⟨x, _, _, _, b, rfl, .ty m, tyName_ok g ra e1, kit_ty e2, k.same g (.bl _)⟩
  | _ => cases e
end
end SL

set_option Elab.async false
set_option linter.all false
set_option maxRecDepth 100000
set_option maxHeartbeats 4000000
/-! SLe: methods of built-in types; calls of defs; statements. -/
namespace SL
open PySem PySem.Spec L2
open PyProof.Rows hiding St
section
variable {Γ : G} {a b e o : Expr} {es : List Expr} {ma mb mc mo : AEnv → Store → Res A} {ms : AEnv → Store → Res (List A)} {pos p2 p apos cpos : Pos}
/-! isinstance(x, (T1, T2)) -/
def eIsiT (ma : AEnv → Store → Res A) (ms : AEnv → Store → Res (List A)) : AEnv → Store → Res A := fun env st => (ma env st).bind fun a st1 => (ms env st1).bind fun cs st2 =>
  if cs.length ≤ sizeLine then Res.of ((tyName a st2).bind fun n => (isiTys n cs).map fun b => (.bl b, st2)) else .stuck
theorem s_isiT {k : Nat} {pt : Pos} (ha : SE Γ e ma) (hc : SA Γ es ms) (hg : Γ.sc.names.lookup ("isinstance" : Str) = some .globalImplicit) (hm : Γ.mg "isinstance" = none)
    (he : ∀ env, starEach [e, .Tuple es k pt] env = (false, eval e env) :: starEach [.Tuple es k pt] env := by intro _; rfl) : SE Γ (.Call (.Name "isinstance" p) [e, .Tuple es k pt] [] pos) (eIsiT ma ms) :=
  ⟨fun W => by
    obtain ⟨ta, sa, pa⟩ := ha.run W
    obtain ⟨tc, sc, pc⟩ := hc.run W
    refine ⟨tCB (rIsiT Γ.K) (tCons ta (tCons (tTup tc) tNil)), ?_, fun X c t => ?_⟩
    · intro Z F μ st env σ H Q g re hp
      unfold eIsiT at hp
      rw [Res.post_bind] at hp
      refine sa Z F μ st env σ H _ g re (Res.post_mono hp (fun a st1 q => ?_) fun _ _ q => q)
      intro F1 μ1 H1 x e1 g1 ra
      rw [Res.post_bind] at q
      refine sc Z F1 μ1 st1 env σ H1 _ g1 (re.mono e1) (Res.post_mono q (fun cs st2 q => ?_) fun _ _ q => q.ext e1)
      intro F2 μ2 H2 xs e2 g2 rs
      by_cases hl : cs.length ≤ sizeLine
      · rw [if_pos hl] at q
        refine ⟨by rw [← rs.length]; exact hl, fun p hp => ?_⟩
        obtain ⟨c, st3, e, k⟩ := Res.post_of q
        cases en : tyName a st2 with
        | none => rw [en] at e; cases e
        | some n =>
          rw [en] at e
          have e : (isiTys n cs).map (fun b => (A.bl b, st2)) = some (c, st3) := e
          cases eb : isiTys n cs with
          | none => rw [eb] at e; cases e
          | some b =>
            rw [eb] at e; cases e
            obtain ⟨g3, e3⟩ := g2.known (p := p) (o := .tup xs) hp
            obtain ⟨us, h1, h2⟩ := isiTys_ok eb rs
            have ra3 := ra.mono (e2.trans e3)
            exact ⟨x, p, xs, _, us, b, rfl, upd_same, h1, tyName_ok g3 ra3 en, h2, Kont.now (k.ext (e1.trans (e2.trans e3))) g3 (.bl _)⟩
      · rw [if_neg hl] at q; exact q.elim
    · rw [← c.K]
      exact pe_callB call_isiT (c.gl hg) (c.mgn hm) PyProof.Rows.boot_isinstance (pa_cons (pa X c t) (pa_cons (pe_tup (pc X c t)) pa_nil) (he _)) (he := he _)⟩

/-! ### methods -/
def tyVA (T : String) (a : A) (st : Store) : Bool := match T, a with
  | "str", .str _ => true
  | "list", a => (lstR a st).isSome
  | "dict", .dct _ _ => true
  | "dict", .cell n => (match st[n]? with
    | some (.dct _ _) => true
    | _ => false)
  | _, _ => false
theorem tyVA_ok {K : PySem.W.Frag} {F : Hp} {μ : List Addr} {st : Store} {H : Hp} {T : String} {a : A} {x : V} (g : Good K Z F μ st H) (r : Rep K F μ a x) (h : tyVA T a st = true) : tyV K T x H := by
  unfold tyVA at h
  split at h
  · cases r; rfl
  · cases e : lstR a st with
    | none => rw [e] at h; cases h
    | some xs =>
      obtain ⟨p, vs, rfl, h1, _⟩ := lstR_ok g r e
      exact .inl ⟨rfl, vs, h1⟩
  · cases r with
    | dct h1 _ _ => exact .inr (.inr (.inl ⟨rfl, .inl ⟨_, g.sub _ _ h1⟩⟩))
  · rename_i n
    cases r with
    | cell h1 =>
      cases e : st[n]? with
      | none => rw [e] at h; cases h
      | some c =>
        cases c with
        | dct ks xs =>
          obtain ⟨a, h2, _, vs, h4, _⟩ := g.cell _ _ e (by intro z; cases z)
          rw [h1] at h2; cases h2
          exact .inr (.inr (.inl ⟨rfl, .inl ⟨_, h4⟩⟩))
        | _ => rw [e] at h; cases h
  · cases h
/-- a method with its plain function -/
structure Cm (T id : String) (op : A → OpN) : Prop where
  ex : ∃ r : PySem.W.Frag → V → List V → Hp → VK → Prop, (∀ (Γ : G) (X : Cx), CtxOk Γ X → MtR X id (r X.K)) ∧
    ∀ (K : PySem.W.Frag) (Z F : Hp) (μ : List Addr) (st st' : Store) (H : Hp) (a : A) (as : List A) (c : A) (x : V) (xs : List V) (Q : VK), Good K Z F μ st H → Rep K F μ a x → Reps K F μ as xs → op a as st = some (c, st') → Kont K Z Rep F μ Q c st' → r K x xs H Q
def eM (T : String) (op : A → OpN) (mo : AEnv → Store → Res A) (ms : AEnv → Store → Res (List A)) : AEnv → Store → Res A := fun env st => (mo env st).bind fun a st1 => if tyVA T a st1 then (ms env st1).bind fun as st2 => Res.of (op a as st2) else .stuck
theorem sim_m {K : PySem.W.Frag} {W : WX} {T : String} {r : V → List V → Hp → VK → Prop} {op : A → OpN} {to : TE} {t : TA}
    (h : ∀ (Z F : Hp) (μ : List Addr) (st st' : Store) (H : Hp) (a : A) (as : List A) (c : A) (x : V) (xs : List V) (Q : VK), Good K Z F μ st H → Rep K F μ a x → Reps K F μ as xs → op a as st = some (c, st') → Kont K Z Rep F μ Q c st' → r x xs H Q)
    (ho : Sim K Rep W to mo) (ha : Sim K Reps W t ms) : Sim K Rep W (tBM K T r to t) (eM T op mo ms) := by
  intro Z F μ st env σ H Q g re hp
  unfold eM at hp
  rw [Res.post_bind] at hp
  refine ho Z F μ st env σ H _ g re (Res.post_mono hp (fun a st1 q => ?_) fun _ _ q => q)
  intro F1 μ1 H1 x e1 g1 ra
  by_cases ty : tyVA T a st1 = true
  · rw [if_pos ty] at q
    refine ⟨tyVA_ok g1 ra ty, ?_⟩
    rw [Res.post_bind] at q
    refine ha Z F1 μ1 st1 env σ H1 _ g1 (re.mono e1) (Res.post_mono q (fun as st2 q => ?_) fun _ _ q => q.ext e1)
    intro F2 μ2 H2 xs e2 g2 rs
    obtain ⟨c, st3, e, k⟩ := Res.post_of q
    exact h Z F2 μ2 st2 st3 H2 a as c x xs Q g2 (ra.mono e2) rs e (k.ext (e1.trans e2))
  · rw [if_neg ty] at q; exact q.elim
theorem s_m {T id : String} {name : Str} {op : A → OpN} (pa : PlainAttrs T) (slot : Slot T name id) (hty : typeOf (.builtin id) = pure (.type "method_descriptor")) (hm : Cm T id op) (ho : SE Γ o mo) (ha : SA Γ (e :: es) ms)
    (hbase : ∀ env, attributeBase o name env (eval o env) = eval o env := by intro _; rfl)
    (hfew : ∀ env, ((backTo cpos (starEach (e :: es) env)).all (fun x => !x.1) && (backToKw cpos (keywordEach [] env)).all (fun x => x.1.isSome)
      && decide ((e :: es).length + ([] : List Keyword).length + (if ([] : List Keyword).isEmpty then 0 else 1) < 30)) = true := by intro _; rfl)
    (hline : (apos.endLine == cpos.line) = true := by rfl) (hs : ∀ env, starEach (e :: es) env = (false, eval e env) :: starEach es env := by intro _; rfl) (hplain : ∀ env, (backTo cpos (starEach es env)).any (·.1) = false := by intro _; rfl) :
    SE Γ (.Call (.Attribute o name apos) (e :: es) [] cpos) (eM T op mo ms) :=
  ⟨fun W => by
    obtain ⟨r, h1, h2⟩ := hm.ex
    obtain ⟨to, so, po⟩ := ho.run W
    obtain ⟨ta, sa, pa'⟩ := ha.run W
    refine ⟨_, sim_m (T := T) (h2 _) so sa, fun X c t => ?_⟩
    rw [← c.K]
    exact pe_bm pa slot hty (h1 Γ X c) (po X c t) (pa' X c t) (hbase _) (hfew _) hline (hs _) (hplain _)⟩
theorem s_m0 {T id : String} {name : Str} {op : A → OpN} (pa : PlainAttrs T) (slot : Slot T name id) (hty : typeOf (.builtin id) = pure (.type "method_descriptor")) (hm : Cm T id op) (ho : SE Γ o mo)
    (hbase : ∀ env, attributeBase o name env (eval o env) = eval o env := by intro _; rfl) (hline : (apos.endLine == cpos.line) = true := by rfl) :
    SE Γ (.Call (.Attribute o name apos) [] [] cpos) (eM T op mo aNil) :=
  ⟨fun W => by
    obtain ⟨r, h1, h2⟩ := hm.ex
    obtain ⟨to, so, po⟩ := ho.run W
    refine ⟨tBM Γ.K T (r Γ.K) to tNil, sim_m (T := T) (h2 _) so (fun Z F μ st env σ H Q g re h => Kont.now (show Kont Γ.K Z Reps F μ Q [] st from h) g .nil), fun X c t => ?_⟩
    rw [← c.K]
    exact pe_bm0 pa slot hty (h1 Γ X c) (po X c t) (hbase _) hline⟩
/-- a list's cell is written by a method -/
def cellL (a : A) (st : Store) : Option (Nat × List A) := match a with
  | .cell n => (match st[n]? with
    | some (.lst xs) => some (n, xs)
    | _ => none)
  | _ => none
theorem cellL_ok {K : PySem.W.Frag} {F : Hp} {μ : List Addr} {st : Store} {H : Hp} {a : A} {n : Nat} {xs : List A} {v : V} (g : Good K Z F μ st H) (r : Rep K F μ a v) (h : cellL a st = some (n, xs)) :
    ∃ p vs, v = .ref p ∧ H p = some (.lst vs) ∧ Reps K F μ xs vs ∧ ∀ ys ws, Reps K F μ ys ws → Good K Z F μ (st.set n (.lst ys)) (upd H p (.lst ws)) := by
  cases a with
  | cell m =>
    cases r with
    | cell h1 =>
      have h : (match st[m]? with | some (.lst xs) => some (m, xs) | _ => none) = some (n, xs) := h
      cases e : st[m]? with
      | none => rw [e] at h; cases h
      | some c =>
        rw [e] at h
        cases c with
        | lst ys =>
          cases h
          obtain ⟨a, h2, h3, vs, h4, h5⟩ := g.cell n _ e (by intro z; cases z)
          rw [h1] at h2; cases h2
          exact ⟨_, vs, rfl, h4, h5, fun ys ws r => g.write (o := .lst ws) e (by intro z; cases z) h1 ⟨ws, upd_same, r⟩⟩
        | _ => cases h
  | _ => cases h
def appendM : A → OpN := fun a as st => match cellL a st, as with
  | some (n, xs), [y] => if xs.length < sizeLine then some (.non, st.set n (.lst (xs ++ [y]))) else none
  | _, _ => none
theorem m_append : Cm "list" "list.append" appendM := ⟨⟨fun _ => rAppend, fun _ _ _ => mt_append, fun K Z F μ st st' H a as c x xs Q g ra rs e k => by
  unfold appendM at e
  cases e1 : cellL a st with
  | none => rw [e1] at e; cases e
  | some p =>
    obtain ⟨n, ys⟩ := p
    rw [e1] at e
    cases as with
    | nil => cases e
    | cons y as =>
      cases as with
      | cons z as => cases e
      | nil =>
        obtain ⟨v, rfl, ry⟩ := rs.one
        obtain ⟨p, vs, rfl, h1, r1, hw⟩ := cellL_ok g ra e1
        have e : (if ys.length < sizeLine then some (A.non, st.set n (.lst (ys ++ [y]))) else none) = some (c, st') := e
        by_cases hl : ys.length < sizeLine
        · rw [if_pos hl] at e; cases e
          exact ⟨p, vs, v, rfl, rfl, h1, by rw [← r1.length]; exact hl, k.now (hw _ _ (r1.append (.cons ry .nil))) .non⟩
        · rw [if_neg hl] at e; cases e⟩⟩
def popM : A → OpN := fun a as st => match cellL a st, as with
  | some (n, xs), [] => (xs[xs.length - 1]?).map fun y => (y, st.set n (.lst xs.dropLast))
  | some (n, xs), [.int i] => if -(2 ^ 63) ≤ i ∧ i < 2 ^ 63 then (seqIndex? i xs.length).bind fun k => (xs[k]?).map fun y => (y, st.set n (.lst (xs.eraseIdx k))) else none
  | _, _ => none
theorem m_pop : Cm "list" "list.pop" popM := ⟨⟨fun _ x xs H Q => rPop x xs H Q ∨ rPopAt x xs H Q, fun _ _ _ => MtR.or mt_pop mt_popAt, fun K Z F μ st st' H a as c x xs Q g ra rs e k => by
  unfold popM at e
  cases e1 : cellL a st with
  | none => rw [e1] at e; cases e
  | some p =>
    obtain ⟨n, ys⟩ := p
    rw [e1] at e
    obtain ⟨p, vs, rfl, h1, r1, hw⟩ := cellL_ok g ra e1
    cases as with
    | nil =>
      cases rs
      have e : (ys[ys.length - 1]?).map (fun y => (y, st.set n (.lst ys.dropLast))) = some (c, st') := e
      cases e2 : ys[ys.length - 1]? with
      | none => rw [e2] at e; cases e
      | some y =>
        rw [e2] at e; cases e
        obtain ⟨v, h2, h3⟩ := r1.get e2
        exact .inl ⟨p, vs, v, rfl, rfl, h1, by rw [← r1.length]; exact h2, k.now (hw _ _ r1.dropLast) h3⟩
    | cons i as =>
      cases as with
      | cons z as => cases i <;> cases e
      | nil =>
        cases i with
        | int i =>
          obtain ⟨v, rfl, ry⟩ := rs.one
          cases ry
          have e : (if -(2 ^ 63) ≤ i ∧ i < 2 ^ 63 then (seqIndex? i ys.length).bind (fun k => (ys[k]?).map fun y => (y, st.set n (.lst (ys.eraseIdx k)))) else none) = some (c, st') := e
          by_cases hl : -(2 ^ 63) ≤ i ∧ i < 2 ^ 63
          · rw [if_pos hl] at e
            cases e2 : seqIndex? i ys.length with
            | none => rw [e2] at e; cases e
            | some j =>
              rw [e2] at e
              have e : (ys[j]?).map (fun y => (y, st.set n (.lst (ys.eraseIdx j)))) = some (c, st') := e
              cases e3 : ys[j]? with
              | none => rw [e3] at e; cases e
              | some y =>
                rw [e3] at e; cases e
                obtain ⟨v, h2, h3⟩ := r1.get e3
                exact .inr ⟨p, vs, i, j, v, rfl, rfl, h1, hl.1, hl.2, by rw [← r1.length]; exact e2, h2, k.now (hw _ _ (r1.eraseIdx j)) h3⟩
          · rw [if_neg hl] at e; cases e
        | _ => cases e⟩⟩
def reverseM : A → OpN := fun a as st => match cellL a st, as with
  | some (n, xs), [] => some (.non, st.set n (.lst xs.reverse))
  | _, _ => none
theorem m_reverse : Cm "list" "list.reverse" reverseM := ⟨⟨fun _ => rReverse, fun _ _ _ => mt_reverse, fun K Z F μ st st' H a as c x xs Q g ra rs e k => by
  unfold reverseM at e
  cases e1 : cellL a st with
  | none => rw [e1] at e; cases e
  | some p =>
    obtain ⟨n, ys⟩ := p
    rw [e1] at e
    cases as with
    | cons y as => cases e
    | nil =>
      cases rs; cases e
      obtain ⟨p, vs, rfl, h1, r1, hw⟩ := cellL_ok g ra e1
      exact ⟨p, vs, rfl, rfl, h1, k.now (hw _ _ r1.reverse) .non⟩⟩⟩
def clearM : A → OpN := fun a as st => match cellL a st, as with
  | some (n, xs), [] => some (.non, st.set n (.lst []))
  | _, _ => none
theorem m_clear : Cm "list" "list.clear" clearM := ⟨⟨fun _ => rClear, fun _ _ _ => mt_clear, fun K Z F μ st st' H a as c x xs Q g ra rs e k => by
  unfold clearM at e
  cases e1 : cellL a st with
  | none => rw [e1] at e; cases e
  | some p =>
    obtain ⟨n, ys⟩ := p
    rw [e1] at e
    cases as with
    | cons y as => cases e
    | nil =>
      cases rs; cases e
      obtain ⟨p, vs, rfl, h1, r1, hw⟩ := cellL_ok g ra e1
      exact ⟨p, vs, rfl, rfl, h1, k.now (hw _ _ .nil) .non⟩⟩⟩

/-! ### calls of defs -/
/-- a def's promise: what the plain function tells -/
def spM (K : PySem.W.Frag) (n : Nat) (M : List A → Store → Res A) : Sp := fun vs H Q E => vs.length = n ∧ ∃ Z F μ st as, Good K Z F μ st H ∧ Reps K F μ as vs ∧
  (M as st).post (Kont K Z Rep F μ Q) (fun e st' => ∀ F' μ' H' d, Ext F F' μ μ' → Good K Z F' μ' st' H' → XRep K F' μ' e d → E (.ref (He.ga K e.c)) d H')
/-- a def of the module, what it does -/
structure FnS (P : Program) (w : World) (K : PySem.W.Frag) (mg : Str → Option Value) (base : Heap) (k : Nat) (f : Addr) (ps : List Str) (M : List A → Store → Res A) : Prop where
  ex : ∃ fd, FnOk P w K mg base (L2.CX P w) k f fd ps (spM K ps.length M) ∧ Binds K fd ps []
  kp : PySem.W.keepIn K (.ref f) = true
  ar : ∀ as st, as.length ≠ ps.length → M as st = .stuck
def eCall (M : List A → Store → Res A) (ms : AEnv → Store → Res (List A)) : AEnv → Store → Res A := fun env st => (ms env st).bind fun as st1 => M as st1
theorem sim_call {K : PySem.W.Frag} {W : WX} {n : Nat} {M : List A → Store → Res A} {t : TA} (ar : ∀ as st, as.length ≠ n → M as st = .stuck) (ha : Sim K Reps W t ms) : Sim K Rep W (tCallS (spM K n M) (WE W) t) (eCall M ms) :=
  Sim.bind (k := fun vs σ H Q => spM K n M vs H Q (WE W σ)) (m' := fun as env st1 => M as st1) ha fun Z F μ st env σ H Q a x g re ra hp => by
    refine ⟨?_, Z, F, μ, st, a, g, ra, hp⟩
    rw [← ra.length]
    by_cases h : a.length = n
    · exact h
    · rw [ar a st h] at hp; exact hp.elim
theorem s_call {j : Nat} {x : Str} {ps : List Str} {M : List A → Store → Res A} (F : FnS Γ.P Γ.w Γ.K Γ.mg Γ.base j (He.ga Γ.K x) ps M) (hj : j ≤ Γ.k) (hg : Γ.sc.names.lookup x = some .globalImplicit) (hm : Γ.mg x = some (.ref (He.ga Γ.K x)))
    (ha : SA Γ (e :: es) ms) (hdb : (x == ("__debug__" : Str)) = false := by decide) (he : ∀ env, starEach (e :: es) env = (false, eval e env) :: starEach es env := by intro _; rfl)
    (hpl : ∀ env, (backTo pos (starEach es env)).any (·.1) = false := by intro _; rfl) (cm : Γ.calm = true := by rfl) : SE Γ (.Call (.Name x p) (e :: es) [] pos) (eCall M ms) :=
  ⟨fun W => by
    obtain ⟨fd, h1, h2⟩ := F.ex
    obtain ⟨ta, sa, pa⟩ := ha.run W
    refine ⟨_, sim_call F.ar sa, fun X c t => ?_⟩
    have h1' : FnOk X.prog X.w X.K X.mg X.base (L2.CX X.prog X.w) j (He.ga Γ.K x) fd ps (spM Γ.K ps.length M) := by
      rw [c.prog, c.w, c.K, c.mg, c.base]; exact h1
    exact pe_callS h1' ((c.room cm).mono hj) (c.gl hg) (c.mgn hm) (by rw [c.K]; exact F.kp) (by rw [c.K]; exact h2) (fun σ => passAt t σ) (pa X c t) hdb (he _) (hpl _)⟩
end
end SL

set_option Elab.async false
set_option linter.all false
set_option maxRecDepth 100000
set_option maxHeartbeats 4000000
/-! SLf: what loops walk; targets; statements. -/
namespace SL
open PySem PySem.Spec L2
open PyProof.Rows hiding St
/-! ### what is walked -/
abbrev Src := Option (Nat × List A)
def srcOk (src : Src) (_ : List A) (st : Store) : Prop := match src with
  | none => True
  | some c => st[c.1]? = some (.lst c.2)
@[simp] theorem srcOk_none (xs : List A) (st : Store) : srcOk none xs st = True := (rfl)
@[simp] theorem srcOk_some (c : Nat) (ys xs : List A) (st : Store) : srcOk (some (c, ys)) xs st = (st[c]? = some (.lst ys)) := (rfl)
def ItOk (K : PySem.W.Frag) (Z F : Hp) (μ : List Addr) (xs : List A) (src : Src) (J : It) : Prop := ∀ (Z' : Hp) (i : Nat) (F' : Hp) (μ' : List Addr) (st' : Store) (H' : Hp), Ext F F' μ μ' → Good K Z' F' μ' st' H' → srcOk src xs st' →
  (∀ x, xs[i]? = some x → J.go i H' ∧ ∀ v H2, J.yld i H' v H2 → ∃ F2, Ext F' F2 μ' μ' ∧ Good K Z' F2 μ' st' H2 ∧ Rep K F2 μ' x v) ∧ (xs.length ≤ i → J.stop i H')
theorem ItOk.ext {K : PySem.W.Frag} {Z F F1 : Hp} {μ μ1 : List Addr} {xs : List A} {src : Src} {J : It} (h : ItOk K Z F μ xs src J) (e : Ext F F1 μ μ1) : ItOk K Z F1 μ1 xs src J := fun Z' i F' μ' st' H' e' => h Z' i F' μ' st' H' (e.trans e')
abbrev MI := AEnv → Store → Res (List A × Src)
def SimI (K : PySem.W.Frag) (W : WX) (wi : TI) (m : MI) : Prop := ∀ (Z F : Hp) (μ : List Addr) (st : Store) (env : AEnv) (σ : St) (H : Hp) (R : It → Hp → Prop), Good K Z F μ st H → REnv K F μ env σ →
  (m env st).post (fun p st' => ∀ F' μ' H', Ext F F' μ μ' → Good K Z F' μ' st' H' → ∀ J, ItOk K Z F' μ' p.1 p.2 J → R J H') (KX K Z F μ σ W) → wi σ H R
structure SI (Γ : G) (tg iter : Expr) (m : MI) : Prop where
  run : ∀ W : WX, ∃ wi : TI, SimI Γ.K W wi m ∧ ∀ X, CtxOk Γ X → Takes X W → PI X tg iter wi
theorem pi_or {X : Cx} {tg iter : Expr} {w1 w2 : TI} (h1 : PI X tg iter w1) (h2 : PI X tg iter w2) : PI X tg iter (fun σ H R => w1 σ H R ∨ w2 σ H R) :=
  ⟨fun pins s σ H R I h => h.elim (h1.run pins s σ H R I) (h2.run pins s σ H R I)⟩
def srcOf (a : A) (xs : List A) : Src := match a with
  | .cell n => some (n, xs)
  | _ => none
def isCell : A → Bool
  | .cell _ => true
  | _ => false
/-- a list or a tuple -/
def mSeq (m : AEnv → Store → Res A) : MI := fun env st => (m env st).bind fun a st1 => match seqR a st1 with
  | some xs => .ok (xs, srcOf a xs) st1
  | none => .stuck
/-- what is read of a list later -/
theorem lstR_later {K : PySem.W.Frag} {Z Z' F F' : Hp} {μ μ' : List Addr} {st st' : Store} {H H' : Hp} {a : A} {xs all : List A} {p : Addr} (g : Good K Z F μ st H) (r : Rep K F μ a (.ref p)) (h : lstR a st = some xs) (e : Ext F F' μ μ') (g' : Good K Z' F' μ' st' H')
    (s : srcOk (srcOf a xs) all st') : ∃ vs, SqL K H' p vs ∧ Reps K F' μ' xs vs := by
  have fin : ∀ st'', Good K Z' F' μ' st'' H' → lstR a st'' = some xs → ∃ vs, SqL K H' p vs ∧ Reps K F' μ' xs vs := fun st'' g'' h'' => by
    obtain ⟨q, vs, e1, h1, h2⟩ := lstR_ok g'' (r.mono e) h''
    cases e1
    exact ⟨vs, h1, h2⟩
  cases a with
  | lst ys => exact fin st' g' h
  | slst ys => exact fin st' g' h
  | cell n => exact fin st' g' (by have s : st'[n]? = some (.lst xs) := s; simp [lstR, lstH, s])
  | _ => cases h
section
variable {Γ : G} {e e2 : Expr} {tg : Expr} {m m2 : AEnv → Store → Res A} {p pos : Pos}
theorem itl_ok {K : PySem.W.Frag} {Z F : Hp} {μ : List Addr} {st : Store} {H : Hp} {a : A} {xs : List A} {p : Addr} (g : Good K Z F μ st H) (r : Rep K F μ a (.ref p)) (h : lstR a st = some xs) : ItOk K Z F μ xs (srcOf a xs) (Itl K p) := by
  intro Z' i F' μ' st' H' e g' s
  obtain ⟨vs, h1, h2⟩ := lstR_later g r h e g' s
  refine ⟨fun x hx => ?_, fun hl => ⟨vs, h1, by rw [← h2.length]; exact hl⟩⟩
  obtain ⟨v, hv, rv⟩ := h2.get hx
  refine ⟨⟨vs, v, h1, hv⟩, fun w H2 y => ?_⟩
  obtain ⟨rfl, y⟩ := y
  have := y vs h1
  rw [hv] at this; cases this
  exact ⟨F', Ext.refl, g', rv⟩
theorem itt_ok {K : PySem.W.Frag} {Z F : Hp} {μ : List Addr} {st : Store} {H : Hp} {a : A} {xs : List A} {p : Addr} (g : Good K Z F μ st H) (r : Rep K F μ a (.ref p)) (h : tupR a = some xs) : ItOk K Z F μ xs none (Itt K p) := by
  intro Z' i F' μ' st' H' e g' s
  obtain ⟨q, vs, e1, h1, h2⟩ := tupR_ok g' (r.mono e) h
  cases e1
  refine ⟨fun x hx => ?_, fun hl => ⟨vs, h1, by rw [← h2.length]; exact hl⟩⟩
  obtain ⟨v, hv, rv⟩ := h2.get hx
  refine ⟨⟨vs, v, h1, hv⟩, fun w H2 y => ?_⟩
  obtain ⟨rfl, y⟩ := y
  have := y vs h1
  rw [hv] at this; cases this
  exact ⟨F', Ext.refl, g', rv⟩
theorem i_seq (h : SE Γ e m) : SI Γ tg e (mSeq m) :=
  ⟨fun W => by
    obtain ⟨t, s, ph⟩ := h.run W
    refine ⟨fun σ H R => iList Γ.K t σ H R ∨ iTup Γ.K t σ H R, ?_, fun X c k => ?_⟩
    · intro Z F μ st env σ H R g re hp
      unfold mSeq at hp
      rw [Res.post_bind] at hp
      have left : ((m env st).post (fun a st1 => ∀ xs, lstR a st1 = some xs → seqR a st1 = some xs → (match seqR a st1 with | some xs => Res.ok (xs, srcOf a xs) st1 | none => .stuck).post (fun p st' => ∀ F' μ' H', Ext F F' μ μ' → Good Γ.K Z F' μ' st' H' → ∀ J, ItOk Γ.K Z F' μ' p.1 p.2 J → R J H') (KX Γ.K Z F μ σ W)) (KX Γ.K Z F μ σ W)) → (∀ a st1, m env st = .ok a st1 → ∃ xs, lstR a st1 = some xs ∧ seqR a st1 = some xs) → iList Γ.K t σ H R := by
        intro hq hl
        refine s Z F μ st env σ H _ g re ?_
        cases em : m env st with
        | stuck => rw [em] at hq; exact hq.elim
        | exc x st1 => rw [em] at hq; exact hq
        | ok a st1 =>
          rw [em] at hq
          obtain ⟨xs, h1, h2⟩ := hl a st1 em
          have q := hq xs h1 h2
          rw [h2] at q
          intro F1 μ1 H1 x e1 g1 ra
          obtain ⟨p, vs, rfl, h3, h4⟩ := lstR_ok g1 ra h1
          exact ⟨p, rfl, ⟨vs, h3⟩, q F1 μ1 H1 e1 g1 _ (itl_ok g1 ra h1)⟩
      have right : (∀ a st1, m env st = .ok a st1 → ∃ xs, tupR a = some xs) → (∃ a st1, m env st = .ok a st1) → iTup Γ.K t σ H R := by
        rintro hl ⟨a, st1, em⟩
        refine s Z F μ st env σ H _ g re ?_
        rw [em] at hp ⊢
        obtain ⟨xs, h1⟩ := hl a st1 em
        have h2 : seqR a st1 = some xs := by unfold seqR; rw [h1]; rfl
        have q : (match seqR a st1 with | some xs => Res.ok (xs, srcOf a xs) st1 | none => .stuck).post (fun p st' => ∀ F' μ' H', Ext F F' μ μ' → Good Γ.K Z F' μ' st' H' → ∀ J, ItOk Γ.K Z F' μ' p.1 p.2 J → R J H') (KX Γ.K Z F μ σ W) := hp
        rw [h2] at q
        intro F1 μ1 H1 x e1 g1 ra
        obtain ⟨p, vs, rfl, h3, h4⟩ := tupR_ok g1 ra h1
        have hs : srcOf a xs = none := by cases a <;> first | rfl | cases h1
        refine ⟨p, rfl, ⟨vs, h3⟩, q F1 μ1 H1 e1 g1 _ ?_⟩
        show ItOk Γ.K Z F1 μ1 xs (srcOf a xs) _
        rw [hs]
        exact itt_ok g1 ra h1
      cases em : m env st with
      | stuck => rw [em] at hp; exact hp.elim
      | exc x st1 =>
        refine .inl (left ?_ fun a st1 z => by rw [em] at z; cases z)
        rw [em] at hp ⊢; exact hp
      | ok a st1 =>
        cases et : tupR a with
        | some xs => exact .inr (right (fun a' st' z => by rw [em] at z; cases z; exact ⟨xs, et⟩) ⟨a, st1, em⟩)
        | none =>
          refine .inl (left ?_ fun a' st' z => ?_)
          · rw [em] at hp ⊢; intro xs h1 h2; exact hp
          · rw [em] at z; cases z
            rw [em] at hp
            have q : (match seqR a st1 with | some xs => Res.ok (xs, srcOf a xs) st1 | none => .stuck).post (fun p st' => ∀ F' μ' H', Ext F F' μ μ' → Good Γ.K Z F' μ' st' H' → ∀ J, ItOk Γ.K Z F' μ' p.1 p.2 J → R J H') (KX Γ.K Z F μ σ W) := hp
            cases eq : seqR a st1 with
            | none => rw [eq] at q; exact q.elim
            | some xs =>
              refine ⟨xs, ?_, rfl⟩
              unfold seqR at eq; rw [et] at eq; exact eq
    · rw [← c.K]
      exact pi_or (pi_list (ph X c k)) (pi_tup (ph X c k))⟩
/-- the ints from lo, below hi -/
def rgA (lo hi : Int) : List A := (List.range (hi - lo).toNat).map fun i => .int (lo + (i : Nat))
theorem rgA_get {lo hi : Int} {i : Nat} {x : A} (h : (rgA lo hi)[i]? = some x) : i < (hi - lo).toNat ∧ x = .int (lo + (i : Nat)) := by
  unfold rgA at h
  rw [List.getElem?_map] at h
  by_cases hi' : i < (hi - lo).toNat
  · rw [List.getElem?_range hi'] at h; cases h; exact ⟨hi', rfl⟩
  · rw [List.getElem?_eq_none (by rw [List.length_range]; omega)] at h; cases h
theorem rgA_length {lo hi : Int} : (rgA lo hi).length = (hi - lo).toNat := by unfold rgA; rw [List.length_map, List.length_range]
theorem itr_ok {K : PySem.W.Frag} {Z F : Hp} {μ : List Addr} {lo hi : Int} : ItOk K Z F μ (rgA lo hi) none (Itr lo (hi - lo).toNat) := by
  intro Z' i F' μ' st' H' e g' s
  refine ⟨fun x hx => ?_, fun hl => by rw [rgA_length] at hl; exact hl⟩
  obtain ⟨h1, rfl⟩ := rgA_get hx
  refine ⟨h1, fun v H2 y => ?_⟩
  obtain ⟨rfl, rfl⟩ := y
  exact ⟨F', Ext.refl, g', .int _⟩
def mRng1 (ms : AEnv → Store → Res (List A)) : MI := fun env st => (ms env st).bind fun as st1 => match as with
  | [.int j] => if -(2 ^ 62) ≤ j ∧ j < 2 ^ 62 then .ok (rgA 0 j, none) st1 else .stuck
  | _ => .stuck
def mRng2 (ms : AEnv → Store → Res (List A)) : MI := fun env st => (ms env st).bind fun as st1 => match as with
  | [.int i, .int j] => if -(2 ^ 62) ≤ i ∧ i < 2 ^ 62 ∧ -(2 ^ 62) ≤ j ∧ j < 2 ^ 62 then .ok (rgA i j, none) st1 else .stuck
  | _ => .stuck
variable {ms : AEnv → Store → Res (List A)}
theorem i_rng1 (hg : Γ.sc.names.lookup ("range" : Str) = some .globalImplicit) (hm : Γ.mg "range" = none) (ha : SA Γ [e] ms) (hs : ∀ env, starEach [e] env = [(false, eval e env)] := by intro _; rfl) : SI Γ tg (.Call (.Name "range" p) [e] [] pos) (mRng1 ms) :=
  ⟨fun W => by
    obtain ⟨t, s, ph⟩ := ha.run W
    refine ⟨iRng1 t, ?_, fun X c k => pi_range1 (c.gl hg) (c.mgn hm) (ph X c k) (hs _)⟩
    intro Z F μ st env σ H R g re hp
    unfold mRng1 at hp
    rw [Res.post_bind] at hp
    refine s Z F μ st env σ H _ g re (Res.post_mono hp (fun as st1 q => ?_) fun _ _ q => q)
    intro F1 μ1 H1 xs e1 g1 ra
    split at q
    · rename_i j
      split at q
      · rename_i hb
        obtain ⟨v, rfl, rv⟩ := ra.one
        cases rv
        exact ⟨j, rfl, hb.1, hb.2, by have := q F1 μ1 H1 e1 g1 (Itr 0 (j - 0).toNat) itr_ok; rw [Int.sub_zero] at this; exact this⟩
      · exact q.elim
    · exact q.elim⟩
theorem i_rng2 (hg : Γ.sc.names.lookup ("range" : Str) = some .globalImplicit) (hm : Γ.mg "range" = none) (ha : SA Γ [e, e2] ms) (hs : ∀ env, starEach [e, e2] env = [(false, eval e env), (false, eval e2 env)] := by intro _; rfl)
    (hs2 : ∀ env, starEach [e2] env = [(false, eval e2 env)] := by intro _; rfl) : SI Γ tg (.Call (.Name "range" p) [e, e2] [] pos) (mRng2 ms) :=
  ⟨fun W => by
    obtain ⟨t, s, ph⟩ := ha.run W
    refine ⟨iRng2 t, ?_, fun X c k => pi_range2 (c.gl hg) (c.mgn hm) (ph X c k) (hs _) (hs2 _)⟩
    intro Z F μ st env σ H R g re hp
    unfold mRng2 at hp
    rw [Res.post_bind] at hp
    refine s Z F μ st env σ H _ g re (Res.post_mono hp (fun as st1 q => ?_) fun _ _ q => q)
    intro F1 μ1 H1 xs e1 g1 ra
    split at q
    · rename_i i j
      split at q
      · rename_i hb
        obtain ⟨v, w, rfl, rv, rw'⟩ := ra.two
        cases rv; cases rw'
        exact ⟨i, j, rfl, hb, q F1 μ1 H1 e1 g1 (Itr i (j - i).toNat) itr_ok⟩
      · exact q.elim
    · exact q.elim⟩
/-- reversed(xs), enumerate(xs), zip(xs, ys) of lists -/
def mRev (ms : AEnv → Store → Res (List A)) : MI := fun env st => (ms env st).bind fun as st1 => match as with
  | [a] => (match lstR a st1 with
    | some xs => .ok (xs.reverse, srcOf a xs) st1
    | none => .stuck)
  | _ => .stuck
def enA : Nat → List A → List A
  | _, [] => []
  | i, x :: xs => .tup [.int i, x] :: enA (i + 1) xs
theorem enA_get : ∀ (xs : List A) (j i : Nat), (enA j xs)[i]? = (xs[i]?).map fun x => A.tup [.int ((j + i : Nat) : Int), x]
  | [], j, i => by simp [enA]
  | x :: xs, j, 0 => by simp [enA]
  | x :: xs, j, i + 1 => by
    rw [enA, List.getElem?_cons_succ, enA_get xs (j + 1) i, List.getElem?_cons_succ]
    congr 1
    funext y
    rw [show j + 1 + i = j + (i + 1) by omega]
theorem enA_length : ∀ (xs : List A) (j : Nat), (enA j xs).length = xs.length
  | [], _ => rfl
  | x :: xs, j => by rw [enA, List.length_cons, List.length_cons, enA_length xs]
def mEnum (ms : AEnv → Store → Res (List A)) : MI := fun env st => (ms env st).bind fun as st1 => match as with
  | [a] => (match lstR a st1 with
    | some xs => .ok (enA 0 xs, srcOf a xs) st1
    | none => .stuck)
  | _ => .stuck
def zpA (xs ys : List A) : List A := (xs.zip ys).map fun p => .tup [p.1, p.2]
def mZip (ms : AEnv → Store → Res (List A)) : MI := fun env st => (ms env st).bind fun as st1 => match as with
  | [a, b] => (match isCell a, isCell b with
    | false, false => (match lstR a st1, lstR b st1 with
      | some xs, some ys => .ok (zpA xs ys, none) st1
      | _, _ => .stuck)
    | _, _ => .stuck)
  | _ => .stuck
theorem i_rev (hg : Γ.sc.names.lookup ("reversed" : Str) = some .globalImplicit) (hm : Γ.mg "reversed" = none) (ha : SA Γ [e] ms) (hs : ∀ env, starEach [e] env = [(false, eval e env)] := by intro _; rfl) : SI Γ tg (.Call (.Name "reversed" p) [e] [] pos) (mRev ms) :=
  ⟨fun W => by
    obtain ⟨t, s, ph⟩ := ha.run W
    refine ⟨iRev Γ.K t, ?_, fun X c k => by rw [← c.K]; exact pi_reversed (c.gl hg) (c.mgn hm) (ph X c k) (hs _)⟩
    intro Z F μ st env σ H R g re hp
    unfold mRev at hp
    rw [Res.post_bind] at hp
    refine s Z F μ st env σ H _ g re (Res.post_mono hp (fun as st1 q => ?_) fun _ _ q => q)
    intro F1 μ1 H1 xs e1 g1 ra
    split at q
    · rename_i a
      obtain ⟨v, rfl, rv⟩ := ra.one
      · split at q
        · rename_i ys hy
          obtain ⟨p, vs, rfl, h1, r1⟩ := lstR_ok g1 rv hy
          refine ⟨p, vs, rfl, h1, q F1 μ1 H1 e1 g1 _ ?_⟩
          intro Z' i F' μ' st' H' e' g' s'
          obtain ⟨ws, h2, r2⟩ := lstR_later g1 rv hy e' g' s'
          have hlen : vs.length = ys.length := r1.length.symm
          refine ⟨fun x hx => ?_, fun hl => by rw [hlen]; rw [List.length_reverse] at hl; exact hl⟩
          have hi : i < ys.length := by have := (List.getElem?_eq_some_iff.mp hx).1; rw [List.length_reverse] at this; exact this
          rw [List.getElem?_reverse hi] at hx
          obtain ⟨v, hv, rv'⟩ := r2.get hx
          refine ⟨⟨by omega, ws, v, h2, by rw [hlen]; exact hv⟩, fun w H2 y => ?_⟩
          obtain ⟨rfl, y⟩ := y
          have := y ws h2
          rw [hlen, hv] at this; cases this
          exact ⟨F', Ext.refl, g', rv'⟩
        · exact q.elim
    · exact q.elim⟩
theorem i_enum {elts : List Expr} {kk : Nat} {tpos : Pos} (hg : Γ.sc.names.lookup ("enumerate" : Str) = some .globalImplicit) (hm : Γ.mg "enumerate" = none) (ha : SA Γ [e] ms) (hs : ∀ env, starEach [e] env = [(false, eval e env)] := by intro _; rfl) :
    SI Γ (.Tuple elts kk tpos) (.Call (.Name "enumerate" p) [e] [] pos) (mEnum ms) :=
  ⟨fun W => by
    obtain ⟨t, s, ph⟩ := ha.run W
    refine ⟨iEnum Γ.K t, ?_, fun X c k => by rw [← c.K]; exact pi_enum (c.gl hg) (c.mgn hm) (ph X c k) (hs _)⟩
    intro Z F μ st env σ H R g re hp
    unfold mEnum at hp
    rw [Res.post_bind] at hp
    refine s Z F μ st env σ H _ g re (Res.post_mono hp (fun as st1 q => ?_) fun _ _ q => q)
    intro F1 μ1 H1 xs e1 g1 ra
    split at q
    · rename_i a
      obtain ⟨v, rfl, rv⟩ := ra.one
      · split at q
        · rename_i ys hy
          obtain ⟨p, vs, rfl, h1, r1⟩ := lstR_ok g1 rv hy
          refine ⟨p, vs, rfl, h1, q F1 μ1 H1 e1 g1 _ ?_⟩
          intro Z' i F' μ' st' H' e' g' s'
          obtain ⟨ws, h2, r2⟩ := lstR_later g1 rv hy e' g' s'
          refine ⟨fun x hx => ?_, fun hl => ⟨ws, h2, by rw [enA_length] at hl; rw [← r2.length]; exact hl⟩⟩
          rw [enA_get] at hx
          cases hy' : ys[i]? with
          | none => rw [hy'] at hx; cases hx
          | some y =>
            rw [hy'] at hx; cases hx
            obtain ⟨v, hv, rv'⟩ := r2.get hy'
            refine ⟨⟨ws, v, h2, hv⟩, fun w H2 z => ?_⟩
            obtain ⟨T, x, rfl, hT, rfl, z⟩ := z
            have := z ws h2
            rw [hv] at this; cases this
            obtain ⟨g2, e2⟩ := g'.known (p := T) (o := .tup [.int (i : Nat), v]) hT
            exact ⟨_, e2, g2, .tup upd_same (.cons (by rw [Nat.zero_add]; exact .int _) (.cons (rv'.mono e2) .nil))⟩
        · exact q.elim
    · exact q.elim⟩
theorem nsrc {a : A} {xs : List A} (h : isCell a = false) : srcOf a xs = none := by cases a <;> first | rfl | cases h
theorem i_zip {elts : List Expr} {kk : Nat} {tpos : Pos} (hg : Γ.sc.names.lookup ("zip" : Str) = some .globalImplicit) (hm : Γ.mg "zip" = none) (ha : SA Γ [e, e2] ms) (hs : ∀ env, starEach [e, e2] env = (false, eval e env) :: starEach [e2] env := by intro _; rfl)
    (hpl : ∀ env, (backTo pos (starEach [e2] env)).any (·.1) = false := by intro _; rfl) : SI Γ (.Tuple elts kk tpos) (.Call (.Name "zip" p) [e, e2] [] pos) (mZip ms) :=
  ⟨fun W => by
    obtain ⟨t, s, ph⟩ := ha.run W
    refine ⟨iZip Γ.K t, ?_, fun X c k => by rw [← c.K]; exact pi_zip (c.gl hg) (c.mgn hm) (ph X c k) (hs _) (hpl _)⟩
    intro Z F μ st env σ H R g re hp
    unfold mZip at hp
    rw [Res.post_bind] at hp
    refine s Z F μ st env σ H _ g re (Res.post_mono hp (fun as st1 q => ?_) fun _ _ q => q)
    intro F1 μ1 H1 xs e1 g1 ra
    split at q
    · rename_i a b
      obtain ⟨v, w, rfl, rv, rw'⟩ := ra.two
      split at q
      · rename_i ha' hb'
        split at q
        · rename_i xs ys hx hy
          obtain ⟨p1, vs, rfl, h1, r1⟩ := lstR_ok g1 rv hx
          obtain ⟨p2, ws, rfl, h2, r2⟩ := lstR_ok g1 rw' hy
          refine ⟨p1, p2, vs, ws, rfl, h1, h2, q F1 μ1 H1 e1 g1 _ ?_⟩
          intro Z' i F' μ' st' H' e' g' s'
          obtain ⟨vs', k1, t1⟩ := lstR_later (all := xs) g1 rv hx e' g' (by rw [nsrc ha']; trivial)
          obtain ⟨ws', k2, t2⟩ := lstR_later (all := ys) g1 rw' hy e' g' (by rw [nsrc hb']; trivial)
          refine ⟨fun x hx' => ?_, fun hl => ⟨vs', ws', k1, k2, ?_⟩⟩
          · unfold zpA at hx'
            rw [List.getElem?_map] at hx'
            cases hz : (xs.zip ys)[i]? with
            | none => rw [hz] at hx'; cases hx'
            | some pr =>
              rw [hz] at hx'; cases hx'
              rw [List.getElem?_zip_eq_some] at hz
              obtain ⟨v1, hv1, rv1⟩ := t1.get hz.1
              obtain ⟨v2, hv2, rv2⟩ := t2.get hz.2
              refine ⟨⟨vs', ws', v1, v2, k1, k2, hv1, hv2⟩, fun u H2 z => ?_⟩
              obtain ⟨T, x, y, rfl, hT, rfl, z1, z2⟩ := z
              have q1 := z1 vs' k1
              have q2 := z2 ws' k2
              rw [hv1] at q1; cases q1
              rw [hv2] at q2; cases q2
              obtain ⟨g2, e2⟩ := g'.known (p := T) (o := .tup [v1, v2]) hT
              exact ⟨_, e2, g2, .tup upd_same (.cons (rv1.mono e2) (.cons (rv2.mono e2) .nil))⟩
          · unfold zpA at hl
            rw [List.length_map, List.length_zip] at hl
            have := t1.length; have := t2.length
            omega
        · exact q.elim
      · exact q.elim
    · exact q.elim⟩
end
end SL

set_option Elab.async false
set_option linter.all false
set_option maxRecDepth 100000
set_option maxHeartbeats 4000000
/-! SLg: targets, statements, comprehensions, a def. -/
namespace SL
open PySem PySem.Spec L2
open PyProof.Rows hiding St
/-! ### targets -/
abbrev MG := A → AEnv → Option AEnv
/-- the slots differ at most at own -/
structure Diff (own : List Nat) (σ σ' : St) : Prop where
  len : σ'.length = σ.length
  at_ : ∀ i, i ∉ own → σ'[i]? = σ[i]?
theorem Diff.refl {own : List Nat} {σ : St} : Diff own σ σ := ⟨rfl, fun _ _ => rfl⟩
theorem Diff.trans {o1 o2 : List Nat} {σ σ1 σ2 : St} (a : Diff o1 σ σ1) (b : Diff o2 σ1 σ2) : Diff (o1 ++ o2) σ σ2 := ⟨b.len.trans a.len, fun i h => by
  rw [List.mem_append, not_or] at h
  exact (b.at_ i h.2).trans (a.at_ i h.1)⟩
theorem wipe_at (σ : St) : ∀ (vs : List Nat) (i : Nat), (wipe σ vs)[i]? = if i ∈ vs ∧ i < σ.length then some none else σ[i]?
  | [], i => by simp [wipe]
  | v :: vs, i => by
    unfold wipe
    rw [List.getElem?_set, wipe_length, wipe_at σ vs i]
    by_cases h : v = i
    · subst h
      by_cases hl : v < σ.length <;> simp [hl]
    · have h' : i ≠ v := fun q => h q.symm
      simp [h, h']
theorem Diff.wipe {own vs : List Nat} {σ σ' : St} (d : Diff own σ σ') (h : ∀ i ∈ own, i ∈ vs) : L2.wipe σ' vs = L2.wipe σ vs := by
  apply List.ext_getElem?
  intro i
  rw [wipe_at, wipe_at, d.len]
  by_cases hi : i ∈ vs
  · by_cases hl : i < σ.length
    · simp [hi, hl]
    · simp [hi, hl]
      rw [d.len]; omega
  · simp [hi]
    exact d.at_ i fun q => hi (h i q)
def SimG (K : PySem.W.Frag) (t : TG) (g : MG) (own : List Nat) : Prop := ∀ (Z F : Hp) (μ : List Addr) (st : Store) (env env' : AEnv) (σ : St) (H : Hp) (v : V) (a : A) (Q : St → Hp → Prop), Good K Z F μ st H → REnv K F μ env σ → Rep K F μ a v → g a env = some env' →
  (∀ σ', REnv K F μ env' σ' → Diff own σ σ' → Q σ' H) → t v σ H Q
structure SG (Γ : G) (fo : Str → Bool) (tg : Expr) (g : MG) (own : List Nat) : Prop where
  run : ∃ t : TG, SimG Γ.K t g own ∧ ∀ X, CtxOk Γ X → (∀ x, fo x = true → X.fn x = true) → PG X tg t
structure SGs (Γ : G) (fo : Str → Bool) (tgs : List Expr) (g : List A → AEnv → Option AEnv) (own : List Nat) : Prop where
  run : ∃ t : TGs, (∀ (Z F : Hp) (μ : List Addr) (st : Store) (env env' : AEnv) (σ : St) (H : Hp) (vs : List V) (as : List A) (Q : St → Hp → Prop), Good Γ.K Z F μ st H → REnv Γ.K F μ env σ → Reps Γ.K F μ as vs → g as env = some env' →
    (∀ σ', REnv Γ.K F μ env' σ' → Diff own σ σ' → Q σ' H) → t vs σ H Q) ∧ ∀ X, CtxOk Γ X → (∀ x, fo x = true → X.fn x = true) → PGs X tgs t
def gN (i : Nat) : MG := fun a env => some (env.set i (some a))
def gsNil : List A → AEnv → Option AEnv := fun as env => match as with
  | [] => some env
  | _ => none
def gsCons (g : MG) (gs : List A → AEnv → Option AEnv) : List A → AEnv → Option AEnv := fun as env => match as with
  | a :: as => (g a env).bind fun env1 => gs as env1
  | _ => none
def gT (n : Nat) (gs : List A → AEnv → Option AEnv) : MG := fun a env => match tupR a with
  | some xs => if xs.length = n then gs xs env else none
  | none => none
section
variable {Γ : G} {fo : Str → Bool} {own own' : List Nat} {pos : Pos} {e : Expr} {es : List Expr} {g : MG} {gs : List A → AEnv → Option AEnv}
theorem g_name {i : Nat} {x : Str} (hi : Γ.N[i]? = some x) (hx : Loc Γ.sc x) (hf : fo x = true ∨ Γ.sc.names.lookup x = some .local := by first | exact .inl rfl | exact .inr rfl) : SG Γ fo (.Name x pos) (gN i) [i] :=
  ⟨gName i, fun Z F μ st env env' σ H v a Q g re ra e k => by cases e; exact k _ (re.set i ra) ⟨by rw [List.length_set], fun j hj => by rw [List.getElem?_set_ne (fun q => hj (by simp [q]))]⟩, fun X c hfo => pg_name c.nd (c.name hi) (by rw [c.sc]; exact hx) (hf.imp (hfo x) fun h => by rw [c.sc]; exact h)⟩
theorem gs_nil : SGs Γ fo [] gsNil [] := by
  refine ⟨gNil, fun Z F μ st env env' σ H vs as Q g re ra e k => ?_, fun X c hfo => pgs_nil⟩
  cases as with
  | nil => cases ra; cases e; exact ⟨rfl, k _ re Diff.refl⟩
  | cons a as => cases e
theorem gs_cons (h : SG Γ fo e g own) (hs : SGs Γ fo es gs own') (ha : ∀ env, (assignEach (e :: es) env).map (·.2) = assign e env :: (assignEach es env).map (·.2) := by intro _; rfl) : SGs Γ fo (e :: es) (gsCons g gs) (own ++ own') := by
  obtain ⟨t, h1, h2⟩ := h.run
  obtain ⟨ts, h3, h4⟩ := hs.run
  refine ⟨gCons t ts, fun Z F μ st env env' σ H vs as Q gd re ra e' k => ?_, fun X c hfo => pgs_cons (h2 X c hfo) (h4 X c hfo) (ha _)⟩
  cases as with
  | nil => cases e'
  | cons a as =>
    cases ra with
    | cons r rs =>
      have e' : (g a env).bind (fun env1 => gs as env1) = some env' := e'
      cases e1 : g a env with
      | none => rw [e1] at e'; cases e'
      | some env1 =>
        rw [e1] at e'
        exact ⟨_, _, rfl, h1 Z F μ st env env1 σ H _ a _ gd re r e1 fun σ' re' d => h3 Z F μ st env1 env' σ' H _ as Q gd re' rs e' fun σ2 re2 d2 => k σ2 re2 (d.trans d2)⟩
theorem g_tup {k n : Nat} (hs : SGs Γ fo es gs own) (hn : ∀ env, (assignEach es env).length = n := by intro _; rfl) (hst : ∀ env, (assignEach es env).findIdx? (·.1) = none := by intro _; rfl) (cm : Γ.calm = true := by rfl) : SG Γ fo (.Tuple es k pos) (gT n gs) own := by
  obtain ⟨ts, h3, h4⟩ := hs.run
  refine ⟨gTup Γ.K n ts, fun Z F μ st env env' σ H v a Q gd re ra e' k => ?_, fun X c hfo => by rw [← c.K]; exact pg_tup (c.calm cm) (h4 X c hfo) (hn _) (hst _)⟩
  unfold gT at e'
  cases e1 : tupR a with
  | none => rw [e1] at e'; cases e'
  | some xs =>
    rw [e1] at e'
    have e' : (if xs.length = n then gs xs env else none) = some env' := e'
    by_cases hl : xs.length = n
    · rw [if_pos hl] at e'
      obtain ⟨p, vs, rfl, h5, h6⟩ := tupR_ok gd ra e1
      exact ⟨p, vs, rfl, h5, by rw [← h6.length]; exact hl, h3 Z F μ st env env' σ H vs xs Q gd re h6 e' k⟩
    · rw [if_neg hl] at e'; cases e'
end

/-! ### statements -/
def KN (K : PySem.W.Frag) (Z F : Hp) (μ : List Addr) (P : St → Hp → Prop) : AEnv → Store → Prop := fun env' st' => ∀ F' μ' H' σ', Ext F F' μ μ' → Good K Z F' μ' st' H' → REnv K F' μ' env' σ' → P σ' H'
def KXS (K : PySem.W.Frag) (Z F : Hp) (μ : List Addr) (W : WX) : Exc → AEnv → Store → Prop := fun e env' st' => ∀ F' μ' H' σ' d, Ext F F' μ μ' → Good K Z F' μ' st' H' → REnv K F' μ' env' σ' → XRep K F' μ' e d → W (.ref (He.ga K e.c)) d σ' H'
def KS (K : PySem.W.Frag) (Z F : Hp) (μ : List Addr) (D : Ends) (W : WX) : SPost := ⟨KN K Z F μ D.nx, Kont K Z Rep F μ D.rt, KN K Z F μ D.bk, KN K Z F μ D.ct, KXS K Z F μ W⟩
abbrev MS := AEnv → Store → SRes
def SimS (K : PySem.W.Frag) (W : WX) (t : TS) (m : MS) : Prop := ∀ (Z F : Hp) (μ : List Addr) (st : Store) (env : AEnv) (σ : St) (H : Hp) (D : Ends), Good K Z F μ st H → REnv K F μ env σ → (m env st).post (KS K Z F μ D W) → t D σ H
structure SS (Γ : G) (fo : Str → Bool) (s : Stmt) (m : MS) : Prop where
  run : ∀ W : WX, ∃ t : TS, SimS Γ.K W t m ∧ ∀ X, CtxOk Γ X → (∀ x, fo x = true → X.fn x = true) → Takes X W → PS X s t
structure SB (Γ : G) (fo : Str → Bool) (ss : List Stmt) (m : MS) : Prop where
  run : ∀ W : WX, ∃ t : TS, SimS Γ.K W t m ∧ ∀ X, CtxOk Γ X → (∀ x, fo x = true → X.fn x = true) → Takes X W → PSs X ss t
section
variable {K : PySem.W.Frag} {Z F F' : Hp} {μ μ' : List Addr} {W : WX} {D : Ends}
theorem KN.ext {P : St → Hp → Prop} {env : AEnv} {st : Store} (e : Ext F F' μ μ') (h : KN K Z F μ P env st) : KN K Z F' μ' P env st := fun F2 μ2 H2 σ2 e2 g r => h F2 μ2 H2 σ2 (e.trans e2) g r
theorem KXS.ext {x : Exc} {env : AEnv} {st : Store} (e : Ext F F' μ μ') (h : KXS K Z F μ W x env st) : KXS K Z F' μ' W x env st := fun F2 μ2 H2 σ2 d e2 g r => h F2 μ2 H2 σ2 d (e.trans e2) g r
theorem KS.ext {r : SRes} (e : Ext F F' μ μ') (h : r.post (KS K Z F μ D W)) : r.post (KS K Z F' μ' D W) :=
  SRes.post_mono h (fun _ _ q => KN.ext e q) (fun _ _ q => Kont.ext e q) (fun _ _ q => KN.ext e q) (fun _ _ q => KN.ext e q) (fun _ _ _ q => KXS.ext e q)
theorem KN.now {P : St → Hp → Prop} {env : AEnv} {st : Store} {σ : St} {H : Hp} (h : KN K Z F μ P env st) (g : Good K Z F μ st H) (r : REnv K F μ env σ) : P σ H := h F μ H σ Ext.refl g r
/-- an expression, then the rest of its statement -/
theorem SimS.of {α β : Type} {R : Rel α β} {t : St → Hp → (β → Hp → Prop) → Prop} {m : AEnv → Store → Res α} {f : α → AEnv → Store → SRes} {k : β → TS} (h : Sim K R W t m)
    (h' : ∀ (Z F : Hp) (μ : List Addr) (st : Store) (env : AEnv) (σ : St) (H : Hp) (D : Ends) (a : α) (b : β), Good K Z F μ st H → REnv K F μ env σ → R K F μ a b → (f a env st).post (KS K Z F μ D W) → k b D σ H) :
    SimS K W (fun D σ H => t σ H fun b H1 => k b D σ H1) (fun env st => (m env st).toS env fun a st1 => f a env st1) := by
  intro Z F μ st env σ H D g re hp
  rw [Res.post_toS] at hp
  refine h Z F μ st env σ H _ g re (Res.post_mono hp (fun a st1 q => ?_) fun x st1 q => ?_)
  · intro F1 μ1 H1 b e1 g1 r1
    exact h' Z F1 μ1 st1 env σ H1 D a b g1 (re.mono e1) r1 (KS.ext e1 q)
  · intro F1 μ1 H1 d e1 g1 x1
    exact q F1 μ1 H1 σ d e1 g1 (re.mono e1) x1
end
def sNil : MS := fun env st => .nx env st
def sSeq (a b : MS) : MS := fun env st => (a env st).bind b
def sAsg (g : MG) (m : AEnv → Store → Res A) : MS := fun env st => (m env st).toS env fun a st1 => match g a env with
  | some env1 => .nx env1 st1
  | none => .stuck
def sEx (m : AEnv → Store → Res A) : MS := fun env st => (m env st).toS env fun _ st1 => .nx env st1
def sRet (m : AEnv → Store → Res A) : MS := fun env st => (m env st).toS env fun a st1 => .rt a st1
def sRetN : MS := fun _ st => .rt .non st
def sIf (p : AEnv → Store → Res Bool) (a b : MS) : MS := fun env st => (p env st).toS env fun c st1 => if c then a env st1 else b env st1
def sBk : MS := fun env st => .bk env st
def sCt : MS := fun env st => .ct env st
section
variable {Γ : G} {fo : Str → Bool} {pos : Pos} {e : Expr} {s : Stmt} {ss : List Stmt} {m : AEnv → Store → Res A} {ma mb : MS}
theorem b_nil : SB Γ fo [] sNil := ⟨fun W => ⟨tNext, fun Z F μ st env σ H D g re h => KN.now h g re, fun X c hf t => pss_nil⟩⟩
theorem b_one (h : SS Γ fo s ma) : SB Γ fo [s] ma := ⟨fun W => let ⟨t, h1, h2⟩ := h.run W; ⟨t, h1, fun X c hf k => pss_one (h2 X c hf k)⟩⟩
theorem sim_seq {K : PySem.W.Frag} {W : WX} {t u : TS} (h1 : SimS K W t ma) (h2 : SimS K W u mb) : SimS K W (tSeq t u) (sSeq ma mb) := by
  intro Z F μ st env σ H D g re hp
  unfold sSeq at hp
  rw [SRes.post_bind] at hp
  refine h1 Z F μ st env σ H _ g re (SRes.post_mono hp (fun env1 st1 q => ?_) (fun _ _ q => q) (fun _ _ q => q) (fun _ _ q => q) (fun _ _ _ q => q))
  intro F1 μ1 H1 σ1 e1 g1 re1
  exact h2 Z F1 μ1 st1 env1 σ1 H1 D g1 re1 (KS.ext e1 q)
theorem b_cons (h : SS Γ fo s ma) (hs : SB Γ fo ss mb) : SB Γ fo (s :: ss) (sSeq ma mb) :=
  ⟨fun W => let ⟨t, h1, h2⟩ := h.run W; let ⟨u, h3, h4⟩ := hs.run W; ⟨_, sim_seq h1 h3, fun X c hf k => pss_cons (h2 X c hf k) (h4 X c hf k)⟩⟩
theorem st_pass : SS Γ fo (.Pass pos) sNil := ⟨fun W => ⟨tNext, fun Z F μ st env σ H D g re h => KN.now h g re, fun X c hf t => ps_pass⟩⟩
theorem st_break : SS Γ fo (.Break pos) sBk := ⟨fun W => ⟨tBreak, fun Z F μ st env σ H D g re h => KN.now h g re, fun X c hf t => ps_break⟩⟩
theorem st_cont : SS Γ fo (.Continue pos) sCt := ⟨fun W => ⟨tCont, fun Z F μ st env σ H D g re h => KN.now h g re, fun X c hf t => ps_continue⟩⟩
theorem st_ex (h : SE Γ e m) (hs : ∀ env, swapsWith e none pos.line env = pure false := by intro _; rfl) : SS Γ fo (.Expr e pos) (sEx m) :=
  ⟨fun W => let ⟨t, h1, h2⟩ := h.run W; ⟨tDrop t, SimS.of (k := fun b D σ H => D.nx σ H) (f := fun a env st1 => .nx env st1) h1 (fun Z F μ st env σ H D a b g re r q => KN.now q g re), fun X c hf k => ps_expr (h2 X c k) (hs _)⟩⟩
theorem st_ret (h : SE Γ e m) : SS Γ fo (.Return (some e) pos) (sRet m) :=
  ⟨fun W => let ⟨t, h1, h2⟩ := h.run W; ⟨tRet t, SimS.of (k := fun b D σ H => D.rt b H) (f := fun a env st1 => .rt a st1) h1 (fun Z F μ st env σ H D a b g re r q => Kont.now q g r), fun X c hf k => ps_ret (h2 X c k)⟩⟩
theorem st_retN : SS Γ fo (.Return none pos) sRetN := ⟨fun W => ⟨tRetN, fun Z F μ st env σ H D g re h => Kont.now (R := Rep) (a := A.non) (b := V.non) (Q := D.rt) h g .non, fun X c hf t => ps_retN⟩⟩
theorem st_if {c : Expr} {p : AEnv → Store → Res Bool} {ssb : List Stmt} (hc : ST Γ c p) (ha : SB Γ fo ss ma) (hb : SB Γ fo ssb mb) : SS Γ fo (.If c ss ssb pos) (sIf p ma mb) :=
  ⟨fun W => by
    obtain ⟨tc, h1, h2⟩ := hc.run W
    obtain ⟨ta, h3, h4⟩ := ha.run W
    obtain ⟨tb, h5, h6⟩ := hb.run W
    refine ⟨tIfS tc ta tb, SimS.of (k := fun b D σ H => if b = true then ta D σ H else tb D σ H) (f := fun (c : Bool) env st1 => if c then ma env st1 else mb env st1) h1 (fun Z F μ st env σ H D a b g re r q => ?_), fun X c hf k => ps_if (h2 X c k) (h4 X c hf k) (h6 X c hf k)⟩
    cases (r : a = b)
    cases a with
    | true => rw [if_pos rfl]; exact h3 Z F μ st env σ H D g re q
    | false => rw [if_neg Bool.false_ne_true]; exact h5 Z F μ st env σ H D g re q⟩
theorem sim_asg {K : PySem.W.Frag} {W : WX} {t : TE} {tg : TG} {g : MG} {own : List Nat} (h : Sim K Rep W t m) (hg : SimG K tg g own) : SimS K W (tAsg t tg) (sAsg g m) :=
  SimS.of (k := fun b D σ H => tg b σ H D.nx) (f := fun a env st1 => match g a env with | some env1 => .nx env1 st1 | none => .stuck) h (fun Z F μ st env σ H D a b gd re r q => by
    cases e1 : g a env with
    | none => rw [e1] at q; exact q.elim
    | some env1 =>
      rw [e1] at q
      exact hg Z F μ st env env1 σ H b a D.nx gd re r e1 fun σ' re' _ => KN.now q gd re')
theorem sim_gN {K : PySem.W.Frag} (i : Nat) : SimG K (gName i) (gN i) [i] := fun Z F μ st env env' σ H v a Q g re ra e k => by cases e; exact k _ (re.set i ra) ⟨by rw [List.length_set], fun j hj => by rw [List.getElem?_set_ne (fun q => hj (by simp [q]))]⟩
/-- x = e -/
theorem st_set {i : Nat} {x : Str} {pos' : Pos} (hi : Γ.N[i]? = some x) (hx : Loc Γ.sc x) (h : SE Γ e m) (hs : ∀ X : Cx, CtxOk Γ X → swapsWith e (some (.Name x pos')) pos.line X.env = pure false := by intro _ _; rfl)
    (hf : fo x = true ∨ Γ.sc.names.lookup x = some .local := by first | exact .inl rfl | exact .inr rfl) : SS Γ fo (.Assign [.Name x pos'] e pos) (sAsg (gN i) m) :=
  ⟨fun W => let ⟨t, h1, h2⟩ := h.run W
   ⟨_, sim_asg h1 (tg := gName i) (sim_gN i),
    fun X c hfo k => ps_set c.nd (c.name hi) (by rw [c.sc]; exact hx) (h2 X c k) (hs X c) (hf.imp (hfo x) fun h => by rw [c.sc]; exact h)⟩⟩
/-- a, b = e -/
theorem st_asg {tg : Expr} {g : MG} {own : List Nat} (h : SE Γ e m) (hg : SG Γ fo tg g own) (hs : ∀ env, swapsWithSole [tg] e pos.line env = pure false := by intro _; rfl) (hw : ∀ env, swappedStores [tg] e env = pure none := by intro _; rfl)
    (ha : ∀ env, (assignEach [tg] env).map (·.2) = [assign tg env] := by intro _; rfl) : SS Γ fo (.Assign [tg] e pos) (sAsg g m) :=
  ⟨fun W => by
    obtain ⟨t, h1, h2⟩ := h.run W
    obtain ⟨u, h3, h4⟩ := hg.run
    exact ⟨_, sim_asg h1 h3, fun X c hf k => ps_asg (h2 X c k) (h4 X c hf) (hs _) (hw _) (ha _)⟩⟩
/-- a, b = e1, e2 -/
def sPar (i j : Nat) (ms : AEnv → Store → Res (List A)) : MS := fun env st => (ms env st).toS env fun as st1 => match as with
  | [a, b] => .nx ((env.set i (some a)).set j (some b)) st1
  | _ => .stuck
theorem st_par {i j : Nat} {x y : Str} {a b : Expr} {ms : AEnv → Store → Res (List A)} {px py pt : Pos} {kt k2 pt2} (hi : Γ.N[i]? = some x) (hj : Γ.N[j]? = some y) (hij : i ≠ j) (hx : Γ.sc.names.lookup x = some .local) (hy : Γ.sc.names.lookup y = some .local) (h : SA Γ [a, b] ms)
    (hw : ∀ X : Cx, CtxOk Γ X → swappedStores [.Tuple [.Name x px, .Name y py] kt pt] (.Tuple [a, b] k2 pt2) X.env = pure (some [x, y]))
    (hs : ∀ env, swapsWithSole [.Tuple [.Name x px, .Name y py] kt pt] (.Tuple [a, b] k2 pt2) pos.line env = pure false := by intro _; rfl) (cm : Γ.calm = true := by rfl) :
    SS Γ fo (.Assign [.Tuple [.Name x px, .Name y py] kt pt] (.Tuple [a, b] k2 pt2) pos) (sPar i j ms) :=
  ⟨fun W => by
    obtain ⟨t, h1, h2⟩ := h.run W
    refine ⟨tPar i j t, SimS.of (k := fun (vs : List V) D σ H => ∃ v w, vs = [v, w] ∧ D.nx ((σ.set i (some v)).set j (some w)) H) (f := fun (as : List A) env st1 => match as with | [a, b] => .nx ((env.set i (some a)).set j (some b)) st1 | _ => .stuck) h1 (fun Z F μ st env σ H D as vs g re r q => ?_),
      fun X c hf k => ps_par (c.calm cm) c.nd (c.name hi) (c.name hj) hij (by rw [c.sc]; exact hx) (by rw [c.sc]; exact hy) (h2 X c k) (hw X c) (hs _)⟩
    split at q
    · obtain ⟨v, w, rfl, r1, r2⟩ := r.two
      exact ⟨v, w, rfl, KN.now q g ((re.set i r1).set j r2)⟩
    · exact q.elim⟩
/-! xs[i] = e -/
def setL : A → A → A → Store → Option Store := fun o i v st => match cellL o st, i with
  | some (n, xs), .int k => (ixN xs.length k).map fun j => st.set n (.lst (xs.set j v))
  | _, _ => none
/-- a store by values -/
structure Cset (op : A → A → A → Store → Option Store) : Prop where
  ex : ∃ r : PySem.W.Frag → TSet, (∀ (Γ : G) (X : Cx), CtxOk Γ X → PSet X (r X.K)) ∧ ∀ (K : PySem.W.Frag) (Z F : Hp) (μ : List Addr) (st st' : Store) (H : Hp) (o i a : A) (x y v : V) (Q : Hp → Prop), Good K Z F μ st H → Rep K F μ o x → Rep K F μ i y → Rep K F μ a v → op o i a st = some st' →
    (∀ F' H', Ext F F' μ μ → Good K Z F' μ st' H' → Q H') → r K x y v H Q
theorem cset_list : Cset setL := ⟨⟨fun _ => rSetL, fun _ _ _ => set_list, fun K Z F μ st st' H o i a x y v Q g ro ri ra e k => by
  unfold setL at e
  cases e1 : cellL o st with
  | none => rw [e1] at e; cases e
  | some p =>
    obtain ⟨n, xs⟩ := p
    rw [e1] at e
    cases i with
    | int j =>
      cases ri
      have e : (ixN xs.length j).map (fun l => st.set n (.lst (xs.set l a))) = some st' := e
      cases e2 : ixN xs.length j with
      | none => rw [e2] at e; cases e
      | some l =>
        rw [e2] at e; cases e
        obtain ⟨p, vs, rfl, h1, r1, hw⟩ := cellL_ok g ro e1
        exact ⟨p, vs, j, l, rfl, rfl, h1, by rw [← r1.length]; exact e2, k _ _ Ext.refl (hw _ _ (Reps.set ra l r1))⟩
    | _ => cases e⟩⟩
def sSub (op : A → A → A → Store → Option Store) (mv mo mi : AEnv → Store → Res A) : MS := fun env st => (mv env st).toS env fun v st1 => (mo env st1).toS env fun o st2 => (mi env st2).toS env fun i st3 => match op o i v st3 with
  | some st4 => .nx env st4
  | none => .stuck
theorem st_sub {op : A → A → A → Store → Option Store} {o i : Expr} {mo mi : AEnv → Store → Res A} {sp : Pos} (hop : Cset op) (h : SE Γ e m) (ho : SE Γ o mo) (hi : SE Γ i mi)
    (hass : ∀ env v, assign (.Subscript o i sp) env v = (do
      let ov ← holding [v] (eval o env)
      let iv ← holding [v, ov] (eval i env)
      standAt sp
      holding [v, ov, iv] (setItem ov iv v)
      release [v, ov, iv] []) := by intro _ _; rfl)
    (hs : ∀ env, swapsWithSole [.Subscript o i sp] e pos.line env = pure false := by intro _; rfl) (hw : ∀ env, swappedStores [.Subscript o i sp] e env = pure none := by intro _; rfl)
    (ha : ∀ env, (assignEach [.Subscript o i sp] env).map (·.2) = [assign (.Subscript o i sp) env] := by intro _; rfl) : SS Γ fo (.Assign [.Subscript o i sp] e pos) (sSub op m mo mi) :=
  ⟨fun W => by
    obtain ⟨r, h1, h2⟩ := hop.ex
    obtain ⟨t, s1, p1⟩ := h.run W
    obtain ⟨t2, s2, p2⟩ := ho.run W
    obtain ⟨t3, s3, p3⟩ := hi.run W
    refine ⟨tAsg t (gSub t2 t3 (r Γ.K)), ?_, fun X c hf k => ?_⟩
    · intro Z F μ st env σ H D g re hp
      unfold sSub at hp
      rw [Res.post_toS] at hp
      refine s1 Z F μ st env σ H _ g re (Res.post_mono hp (fun v st1 q => ?_) fun x st1 q F1 μ1 H1 d e1 g1 x1 => q F1 μ1 H1 σ d e1 g1 (re.mono e1) x1)
      intro F1 μ1 H1 vv e1 g1 rv
      rw [Res.post_toS] at q
      refine s2 Z F1 μ1 st1 env σ H1 _ g1 (re.mono e1) (Res.post_mono q (fun o st2 q => ?_) fun x st2 q F2 μ2 H2 d e2 g2 x1 => q F2 μ2 H2 σ d (e1.trans e2) g2 (re.mono (e1.trans e2)) x1)
      intro F2 μ2 H2 ov e2 g2 ro
      rw [Res.post_toS] at q
      refine s3 Z F2 μ2 st2 env σ H2 _ g2 (re.mono (e1.trans e2)) (Res.post_mono q (fun i st3 q => ?_) fun x st3 q F3 μ3 H3 d e3 g3 x1 => q F3 μ3 H3 σ d (e1.trans (e2.trans e3)) g3 (re.mono (e1.trans (e2.trans e3))) x1)
      intro F3 μ3 H3 iv e3 g3 ri
      cases eo : op o i v st3 with
      | none => rw [eo] at q; exact q.elim
      | some st4 =>
        rw [eo] at q
        have e13 := e1.trans (e2.trans e3)
        refine h2 Γ.K Z F3 μ3 st3 st4 H3 o i v ov iv vv _ g3 (ro.mono e3) ri (rv.mono (e2.trans e3)) eo fun F4 H4 e4 g4 => ?_
        exact KN.now ((show KN Γ.K Z F μ D.nx env st4 from q).ext (e13.trans e4)) g4 (re.mono (e13.trans e4))
    · rw [← c.K]
      exact ps_asg (p1 X c k) (pg_sub (p2 X c k) (p3 X c k) (h1 Γ X c) (hass _)) (hs _) (hw _) (ha _)⟩
/-! x op= e -/
def sAug (i : Nat) (op : Op2) (m : AEnv → Store → Res A) : MS := fun env st => match env[i]? with
  | some (some a) => (m env st).toS env fun b st1 => match op a b st1 with
    | some (c, st2) => .nx (env.set i (some c)) st2
    | none => .stuck
  | _ => .stuck
/-- an in-place operator with its plain function -/
structure Cip (o : Operator) (op : Op2) : Prop where
  ex : ∃ r : PySem.W.Frag → R2, (∀ X : Cx, OpR X (inplaceOp o) (r X.K)) ∧ ∀ K, SimV2 K (r K) op
theorem ip_addI : Cip .Add addI := ⟨⟨fun _ => _, fun _ => iop_add, fun _ => sim_addI⟩⟩
theorem ip_subI : Cip .Sub subOp := ⟨⟨fun _ => _, fun _ => iop_sub, fun _ => sim_sub⟩⟩
theorem ip_addS : Cip .Add addS := ⟨⟨fun _ => _, fun _ => iop_add_str, fun _ => sim_addS⟩⟩
theorem st_aug {i : Nat} {x : Str} {o : Operator} {op : Op2} {pos' : Pos} (ho : Cip o op) (hi : Γ.N[i]? = some x) (hx : Loc Γ.sc x) (h : SE Γ e m) (hf : fo x = true ∨ Γ.sc.names.lookup x = some .local := by first | exact .inl rfl | exact .inr rfl) :
    SS Γ fo (.AugAssign (.Name x pos') o e pos) (sAug i op m) :=
  ⟨fun W => by
    obtain ⟨r, h1, h2⟩ := ho.ex
    obtain ⟨t, s, p⟩ := h.run W
    refine ⟨tAug i t (fun x y H Q => r Γ.K x y H Q), ?_, fun X c hfo k => ?_⟩
    · intro Z F μ st env σ H D g re hp
      unfold sAug at hp
      cases e1 : env[i]? with
      | none => rw [e1] at hp; exact hp.elim
      | some oa =>
        cases oa with
        | none => rw [e1] at hp; exact hp.elim
        | some a =>
          rw [e1] at hp
          obtain ⟨v, hv, rv⟩ := re.at_ i a e1
          refine ⟨v, hv, ?_⟩
          have hp : ((m env st).toS env fun b st1 => match op a b st1 with | some (c, st2) => .nx (env.set i (some c)) st2 | none => .stuck).post (KS Γ.K Z F μ D W) := hp
          rw [Res.post_toS] at hp
          refine s Z F μ st env σ H _ g re (Res.post_mono hp (fun b st1 q => ?_) fun x st1 q F1 μ1 H1 d e1 g1 x1 => q F1 μ1 H1 σ d e1 g1 (re.mono e1) x1)
          intro F1 μ1 H1 y e2 g1 ry
          cases eo : op a b st1 with
          | none => rw [eo] at q; exact q.elim
          | some pr =>
            obtain ⟨c, st2⟩ := pr
            rw [eo] at q
            refine h2 Γ.K Z F1 μ1 st1 st2 H1 a b c v y _ g1 (rv.mono e2) ry eo ?_
            intro F2 μ2 H2 z e3 g2 rz
            exact KN.now ((show KN Γ.K Z F μ D.nx (env.set i (some c)) st2 from q).ext (e2.trans e3)) g2 ((re.mono (e2.trans e3)).set i rz)
    · have hip : PIp X o (fun x y H Q => r Γ.K x y H Q) := by
        intro pins s σ H x y v u Q I rx ry q
        have := h1 X
        rw [c.K] at this
        exact this pins s σ H x y v u Q I rx ry q
      exact ps_aug c.nd (c.name hi) (by rw [c.sc]; exact hx) (p X c k) hip (hf.imp (hfo x) fun h => by rw [c.sc]; exact h)⟩

/-! ### loops -/
open Classical in
noncomputable def forL (src : Src) (all : List A) (g : MG) (body : MS) : List A → AEnv → Store → SRes
  | [], env, st => if srcOk src all st then .nx env st else .stuck
  | x :: xs, env, st => if srcOk src all st then (match g x env with
    | some env1 => (match body env1 st with
      | .nx e s => forL src all g body xs e s
      | .ct e s => forL src all g body xs e s
      | .bk e s => .nx e s
      | r => r)
    | none => .stuck) else .stuck
noncomputable def sFor (mi : MI) (g : MG) (body : MS) : MS := fun env st => (mi env st).toS env fun p st1 => forL p.2 p.1 g body p.1 env st1
theorem sim_for {K : PySem.W.Frag} {W : WX} {wi : TI} {tg : TG} {tb : TS} {mi : MI} {g : MG} {own : List Nat} {body : MS} (hi : SimI K W wi mi) (hg : SimG K tg g own) (hb : SimS K W tb body) : SimS K W (tFor wi tg tb) (sFor mi g body) := by
  intro Z F μ st env σ H D gd re hp
  unfold sFor at hp
  rw [Res.post_toS] at hp
  refine hi Z F μ st env σ H _ gd re (Res.post_mono hp (fun p st1 q => ?_) fun x st1 q F1 μ1 H1 d e1 g1 x1 => q F1 μ1 H1 σ d e1 g1 (re.mono e1) x1)
  obtain ⟨xs, src⟩ := p
  intro F1 μ1 H1 e1 g1 J hJ
  refine ⟨fun i m σ' H' => m = xs.length - i ∧ i ≤ xs.length ∧ ∃ F' μ' env' st', Ext F1 F' μ1 μ' ∧ Good K Z F' μ' st' H' ∧ REnv K F' μ' env' σ' ∧ (forL src xs g body (xs.drop i) env' st').post (KS K Z F' μ' D W), ⟨xs.length, ?_⟩, ?_⟩
  · exact ⟨rfl, Nat.zero_le _, F1, μ1, env, st1, Ext.refl, g1, re.mono e1, KS.ext e1 q⟩
  · rintro i m σ' H' ⟨rfl, hil, F', μ', env', st', e2, g2, re2, hp2⟩
    have chk : srcOk src xs st' := by
      cases ed : xs.drop i with
      | nil =>
        rw [ed] at hp2
        by_cases h : srcOk src xs st'
        · exact h
        · rw [forL, if_neg h] at hp2; exact hp2.elim
      | cons y ys =>
        rw [ed] at hp2
        by_cases h : srcOk src xs st'
        · exact h
        · rw [forL, if_neg h] at hp2; exact hp2.elim
    obtain ⟨j1, j2⟩ := hJ Z i F' μ' st' H' e2 g2 chk
    by_cases hl : i < xs.length
    · refine .inr ?_
      have ed : xs.drop i = xs[i] :: xs.drop (i + 1) := List.drop_eq_getElem_cons hl
      rw [ed, forL, if_pos chk] at hp2
      obtain ⟨hgo, hy⟩ := j1 xs[i] (List.getElem?_eq_getElem hl)
      cases eg : g xs[i] env' with
      | none => rw [eg] at hp2; exact hp2.elim
      | some env1 =>
        rw [eg] at hp2
        dsimp only at hp2
        let N : St → Hp → Prop := fun σ'' H'' => ∃ F' μ' env' st', Ext F1 F' μ1 μ' ∧ Good K Z F' μ' st' H'' ∧ REnv K F' μ' env' σ'' ∧ (forL src xs g body (xs.drop (i + 1)) env' st').post (KS K Z F' μ' D W)
        refine ⟨hgo, N, ?_, ?_⟩
        · rintro σ'' H'' ⟨F3, μ3, env3, st3, e3, g3, re3, hp3⟩
          exact ⟨xs.length - (i + 1), by omega, rfl, hl, F3, μ3, env3, st3, e3, g3, re3, hp3⟩
        · intro x H2 yd
          obtain ⟨F2, e3, g3, rx⟩ := hy x H2 yd
          refine hg Z F2 μ' st' env' env1 σ' H2 x xs[i] _ g3 (re2.mono e3) rx eg fun σ3 re3 _ => ?_
          refine hb Z F2 μ' st' env1 σ3 H2 _ g3 re3 ?_
          have hp3 := KS.ext e3 hp2
          cases eb : body env1 st' with
          | nx ee ss =>
            rw [eb] at hp3
            intro F4 μ4 H4 σ4 e4 g4 re4
            exact ⟨F4, μ4, ee, ss, e2.trans (e3.trans e4), g4, re4, KS.ext e4 hp3⟩
          | ct ee ss =>
            rw [eb] at hp3
            intro F4 μ4 H4 σ4 e4 g4 re4
            exact ⟨F4, μ4, ee, ss, e2.trans (e3.trans e4), g4, re4, KS.ext e4 hp3⟩
          | bk ee ss => rw [eb] at hp3; exact hp3
          | rt a ss => rw [eb] at hp3; exact hp3
          | exc x ee ss => rw [eb] at hp3; exact hp3
          | stuck => rw [eb] at hp3; exact hp3.elim
    · have hil' : i = xs.length := by omega
      subst hil'
      refine .inl ⟨j2 (Nat.le_refl _), ?_⟩
      rw [List.drop_length, forL, if_pos chk] at hp2
      exact KN.now (show KN K Z F' μ' D.nx env' st' from hp2) g2 re2
theorem st_for {tg iter : Expr} {mi : MI} {g : MG} {own : List Nat} (hi : SI Γ tg iter mi) (hg : SG Γ fo tg g own) (hb : SB Γ fo ss ma) (hs : ∀ env x, foldedSetIterable iter env x = pure x := by intro _ _; rfl) (cm : Γ.calm = true := by rfl) : SS Γ fo (.For tg iter ss [] pos) (sFor mi g ma) :=
  ⟨fun W => by
    obtain ⟨wi, h1, h2⟩ := hi.run W
    obtain ⟨u, h3, h4⟩ := hg.run
    obtain ⟨tb, h5, h6⟩ := hb.run W
    exact ⟨_, sim_for h1 h3 h5, fun X c hf k => ps_for c.own (c.calm cm) (h2 X c k) (h4 X c hf) (h6 X c hf k) (hs _)⟩⟩
/-- while, at most so many turns -/
def whL (p : AEnv → Store → Res Bool) (body : MS) : Nat → AEnv → Store → SRes
  | 0, _, _ => .stuck
  | n + 1, env, st => (p env st).toS env fun c st1 => if c then (match body env st1 with
    | .nx e s => whL p body n e s
    | .ct e s => whL p body n e s
    | .bk e s => .nx e s
    | r => r) else .nx env st1
/-- more turns than any while takes -/
def fuelW : Nat := 2 ^ 64
def sWhile (p : AEnv → Store → Res Bool) (body : MS) : MS := fun env st => whL p body fuelW env st
theorem sim_while {K : PySem.W.Frag} {W : WX} {tc : TT} {tb : TS} {p : AEnv → Store → Res Bool} {body : MS} (hc : Sim K RepB W tc p) (hb : SimS K W tb body) : SimS K W (tWhile tc tb) (sWhile p body) := by
  intro Z F μ st env σ H D gd re hp
  refine ⟨fun m σ' H' => ∃ F' μ' env' st', Ext F F' μ μ' ∧ Good K Z F' μ' st' H' ∧ REnv K F' μ' env' σ' ∧ (whL p body m env' st').post (KS K Z F' μ' D W), ⟨fuelW, F, μ, env, st, Ext.refl, gd, re, hp⟩, ?_⟩
  rintro m σ' H' ⟨F', μ', env', st', e2, g2, re2, hp2⟩
  cases m with
  | zero => exact hp2.elim
  | succ n =>
    rw [whL, Res.post_toS] at hp2
    refine hc Z F' μ' st' env' σ' H' _ g2 re2 (Res.post_mono hp2 (fun c st1 q => ?_) fun x st1 q F1 μ1 H1 d e1 g1 x1 => q F1 μ1 H1 σ' d e1 g1 (re2.mono e1) x1)
    intro F3 μ3 H3 b e3 g3 rb
    cases (rb : c = b)
    cases c with
    | false => rw [if_neg Bool.false_ne_true]; exact KN.now ((show KN K Z F' μ' D.nx env' st1 from q).ext e3) g3 (re2.mono e3)
    | true =>
      rw [if_pos rfl]
      refine ⟨fun σ'' H'' => ∃ F' μ' env' st', Ext F F' μ μ' ∧ Good K Z F' μ' st' H'' ∧ REnv K F' μ' env' σ'' ∧ (whL p body n env' st').post (KS K Z F' μ' D W), fun σ'' H'' h => ⟨n, Nat.lt_succ_self _, h⟩, ?_⟩
      refine hb Z F3 μ3 st1 env' σ' H3 _ g3 (re2.mono e3) ?_
      have hp3 := KS.ext e3 (show (match body env' st1 with | .nx e s => whL p body n e s | .ct e s => whL p body n e s | .bk e s => SRes.nx e s | r => r).post (KS K Z F' μ' D W) from q)
      cases eb : body env' st1 with
      | nx ee ss =>
        rw [eb] at hp3
        intro F4 μ4 H4 σ4 e4 g4 re4
        exact ⟨F4, μ4, ee, ss, e2.trans (e3.trans e4), g4, re4, KS.ext e4 hp3⟩
      | ct ee ss =>
        rw [eb] at hp3
        intro F4 μ4 H4 σ4 e4 g4 re4
        exact ⟨F4, μ4, ee, ss, e2.trans (e3.trans e4), g4, re4, KS.ext e4 hp3⟩
      | bk ee ss => rw [eb] at hp3; exact hp3
      | rt a ss => rw [eb] at hp3; exact hp3
      | exc x ee ss => rw [eb] at hp3; exact hp3
      | stuck => rw [eb] at hp3; exact hp3.elim
theorem st_while {c : Expr} {p : AEnv → Store → Res Bool} (hc : ST Γ c p) (hb : SB Γ fo ss ma) : SS Γ fo (.While c ss [] pos) (sWhile p ma) :=
  ⟨fun W => by
    obtain ⟨tc, h1, h2⟩ := hc.run W
    obtain ⟨tb, h5, h6⟩ := hb.run W
    exact ⟨_, sim_while h1 h5, fun X c hf k => ps_while c.own (h2 X c k) (h6 X c hf k)⟩⟩
end
end SL

set_option Elab.async false
set_option linter.all false
set_option maxRecDepth 100000
set_option maxHeartbeats 4000000
/-! SLh: comprehensions; lists of a range; what a def's body is worth. -/
namespace SL
open PySem PySem.Spec L2
open PyProof.Rows hiding St
/-- the place of a comprehension's block -/
def G.blk (Γ : G) (scope : Scope) : G := { Γ with sc := relS scope Γ.sc, st := false, hx := none }
def blkFo (scope : Scope) : Str → Bool := fun x => scope.names.lookup x == some .cell
theorem CtxOk.blk {Γ : G} {X : Cx} (c : CtxOk Γ X) (scope : Scope) (s : Shared) (H : Hp) (C : Addr) (cl : List (Str × Addr)) (fp : List Addr) : CtxOk (Γ.blk scope) (X.blk s H scope (compEnvC scope cl C X.env) fp) where
  prog := c.prog
  w := c.w
  K := c.K
  mg := c.mg
  base := c.base
  N := c.N
  sc := by
    show relabel scope X.env = relS scope Γ.sc
    unfold relabel relS Env.kindOf
    rw [c.sc]
  calm := c.calm
  room := c.room
  units := c.units
  stk := fun z => Bool.noConfusion z
  hx := fun _ _ _ z => nomatch z
  nd := c.nd
  own := PassesOwn.never
def noX {α : Type} (r : Res α) : Res α := match r with
  | .exc _ _ => .stuck
  | r => r
@[simp] theorem noX_ok {α : Type} {a : α} {st : Store} : noX (.ok a st) = .ok a st := (rfl)
theorem noX_post {α : Type} {r : Res α} {P : α → Store → Prop} {E E' : Exc → Store → Prop} (h : (noX r).post P E) : r.post P E' := by
  cases r with
  | ok a st => exact h
  | exc e st => exact h.elim
  | stuck => exact h
def wipeA (env : AEnv) : List Nat → AEnv
  | [] => env
  | v :: vs => (wipeA env vs).set v none
theorem REnv.wipe {K : PySem.W.Frag} {F : Hp} {μ : List Addr} {env : AEnv} {σ : St} (r : REnv K F μ env σ) : ∀ vs : List Nat, REnv K F μ (wipeA env vs) (L2.wipe σ vs)
  | [] => r
  | v :: vs => (r.wipe vs).unset v
theorem wipe_wipe (σ : St) (vs : List Nat) : wipe (wipe σ vs) vs = wipe σ vs := by
  apply List.ext_getElem?
  intro i
  rw [wipe_at, wipe_at, wipe_length]
  by_cases h : i ∈ vs ∧ i < σ.length
  · rw [if_pos h, if_pos h]
  · rw [if_neg h]
open Classical in
noncomputable def lcL (src : Src) (all : List A) (g : MG) (mt : AEnv → Store → Res Bool) (me : AEnv → Store → Res A) (env0 : AEnv) : List A → List A → Store → Res (List A)
  | [], acc, st => if srcOk src all st then .ok acc st else .stuck
  | x :: xs, acc, st => if srcOk src all st then (match g x env0 with
    | none => .stuck
    | some env1 => (noX (mt env1 st)).bind fun b st1 => if b then (noX (me env1 st1)).bind fun y st2 => if acc.length < sizeLine then lcL src all g mt me env0 xs (acc ++ [y]) st2 else .stuck
      else lcL src all g mt me env0 xs acc st1) else .stuck
noncomputable def eLc (mk : Bool) (mi : MI) (g : MG) (own : List Nat) (mt : AEnv → Store → Res Bool) (me : AEnv → Store → Res A) : AEnv → Store → Res A := fun env st => (mi env st).bind fun p st1 =>
  (lcL p.2 p.1 g mt me (wipeA env own) p.1 [] st1).bind fun acc st2 => .ok (newL mk acc st2).1 (newL mk acc st2).2
abbrev W0 : WX := fun _ _ _ _ => False
theorem sim_lc {K : PySem.W.Frag} {W : WX} {mk : Bool} {wi : TI} {tg : TG} {tt : TT} {te : TE} {mi : MI} {g : MG} {own gown : List Nat} {mt : AEnv → Store → Res Bool} {me : AEnv → Store → Res A} (hi : SimI K W wi mi) (hg : SimG K tg g gown) (hsub : ∀ i ∈ gown, i ∈ own)
    (ht : Sim K RepB W0 tt mt) (he : Sim K Rep W0 te me) : Sim K Rep W (tLc wi tg tt te own) (eLc mk mi g own mt me) := by
  intro Z F μ st env σ H Q gd re hp
  unfold eLc at hp
  rw [Res.post_bind] at hp
  refine hi Z F μ st env σ H _ gd re (Res.post_mono hp (fun p st1 q => ?_) fun _ _ q => q)
  obtain ⟨xs, src⟩ := p
  intro F1 μ1 H1 e1 g1 J hJ D hD
  have hZ : Z D = none := g1.noz hD
  rw [Res.post_bind] at q
  refine ⟨fun i m H' => m = xs.length - i ∧ i ≤ xs.length ∧ ∃ F' μ' st' acc vs, Ext F1 F' μ1 μ' ∧ Good K (upd Z D (.lst vs)) F' μ' st' H' ∧ Reps K F' μ' acc vs ∧
    (lcL src xs g mt me (wipeA env own) (xs.drop i) acc st').post (fun acc' st'' => Kont K Z Rep F' μ' Q (newL mk acc' st'').1 (newL mk acc' st'').2) (fun _ _ => True), ⟨xs.length, ?_⟩, ?_⟩
  · refine ⟨rfl, Nat.zero_le _, F1, μ1, st1, [], [], Ext.refl, g1.apart hD rfl, .nil, ?_⟩
    exact Res.post_mono q (fun acc st2 q => Kont.ext e1 q) fun _ _ _ => trivial
  · rintro i m H' ⟨rfl, hil, F', μ', st', acc, vs, e2, g2, ra, hp2⟩
    have chk : srcOk src xs st' := by
      cases ed : xs.drop i with
      | nil =>
        rw [ed] at hp2
        by_cases h : srcOk src xs st'
        · exact h
        · rw [lcL, if_neg h] at hp2; exact hp2.elim
      | cons y ys =>
        rw [ed] at hp2
        by_cases h : srcOk src xs st'
        · exact h
        · rw [lcL, if_neg h] at hp2; exact hp2.elim
    obtain ⟨j1, j2⟩ := hJ _ i F' μ' st' H' e2 g2 chk
    have re2 : REnv K F' μ' (wipeA env own) (wipe σ own) := (re.mono (e1.trans e2)).wipe own
    by_cases hl : i < xs.length
    · refine .inr ?_
      have ed : xs.drop i = xs[i] :: xs.drop (i + 1) := List.drop_eq_getElem_cons hl
      rw [ed, lcL, if_pos chk] at hp2
      obtain ⟨hgo, hy⟩ := j1 xs[i] (List.getElem?_eq_getElem hl)
      cases eg : g xs[i] (wipeA env own) with
      | none => rw [eg] at hp2; exact hp2.elim
      | some env1 =>
        rw [eg] at hp2
        dsimp only at hp2
        let Nx : Hp → Prop := fun H'' => ∃ F' μ' st' acc vs, Ext F1 F' μ1 μ' ∧ Good K (upd Z D (.lst vs)) F' μ' st' H'' ∧ Reps K F' μ' acc vs ∧
          (lcL src xs g mt me (wipeA env own) (xs.drop (i + 1)) acc st').post (fun acc' st'' => Kont K Z Rep F' μ' Q (newL mk acc' st'').1 (newL mk acc' st'').2) (fun _ _ => True)
        refine ⟨hgo, Nx, fun H'' h => ⟨xs.length - (i + 1), by omega, rfl, hl, h⟩, ?_⟩
        intro x H2 yd
        obtain ⟨F2, e3, g3, rx⟩ := hy x H2 yd
        refine hg _ F2 μ' st' _ env1 _ H2 x xs[i] _ g3 (re2.mono e3) rx eg fun σ3 re3 df => ⟨?_, ?_⟩
        · rw [df.wipe hsub, wipe_wipe]
        · rw [Res.post_bind] at hp2
          refine ht _ F2 μ' st' env1 σ3 H2 _ g3 re3 (Res.post_mono (noX_post (E' := fun _ _ => False) hp2) (fun b st2 q => ?_) fun _ _ z => z.elim)
          intro F4 μ4 H4 b' e4 g4 rb
          cases (rb : b = b')
          cases b with
          | false =>
            rw [if_neg Bool.false_ne_true]
            refine ⟨F4, μ4, st2, acc, vs, e2.trans (e3.trans e4), g4, ra.mono (e3.trans e4), ?_⟩
            exact Res.post_mono (show (lcL src xs g mt me (wipeA env own) (xs.drop (i + 1)) acc st2).post _ _ from q) (fun a s q => Kont.ext (e3.trans e4) q) fun _ _ _ => trivial
          | true =>
            rw [if_pos rfl]
            have q : ((noX (me env1 st2)).bind fun y st3 => if acc.length < sizeLine then lcL src xs g mt me (wipeA env own) (xs.drop (i + 1)) (acc ++ [y]) st3 else .stuck).post (fun acc' st'' => Kont K Z Rep F' μ' Q (newL mk acc' st'').1 (newL mk acc' st'').2) (fun _ _ => True) := q
            rw [Res.post_bind] at q
            refine he _ F4 μ4 st2 env1 σ3 H4 _ g4 (re3.mono e4) (Res.post_mono (noX_post (E' := fun _ _ => False) q) (fun y st3 q => ?_) fun _ _ z => z.elim)
            intro F5 μ5 H5 v e5 g5 rv
            by_cases hacc : acc.length < sizeLine
            · rw [if_pos hacc] at q
              refine ⟨vs, g5.zub _ _ upd_same, by rw [← ra.length]; exact hacc, ?_⟩
              have e35 := e3.trans (e4.trans e5)
              refine ⟨F5, μ5, st3, acc ++ [y], vs ++ [v], e2.trans e35, g5.zset rfl rfl, (ra.mono e35).append (.cons rv .nil), ?_⟩
              exact Res.post_mono q (fun a s q => Kont.ext e35 q) fun _ _ _ => trivial
            · rw [if_neg hacc] at q; exact q.elim
    · have hil' : i = xs.length := by omega
      subst hil'
      refine .inl ⟨j2 (Nat.le_refl _), ?_⟩
      rw [List.drop_length, lcL, if_pos chk] at hp2
      have k : Kont K Z Rep F' μ' Q (newL mk acc st').1 (newL mk acc st').2 := hp2
      cases mk with
      | false =>
        obtain ⟨g3, e3⟩ := g2.zknown hZ
        exact (k.ext e3).now g3 (.lst upd_same (ra.mono e3))
      | true =>
        obtain ⟨g3, e3⟩ := g2.zpush (c := .lst acc) hZ ⟨vs, g2.zub _ _ upd_same, ra⟩
        exact (k.ext e3).now g3 (.cell (by rw [← g2.len, List.getElem?_append_right (Nat.le_refl _), Nat.sub_self]; rfl))
/-- a clause's tests -/
structure STs (Γ : G) (ifs : List Expr) (m : AEnv → Store → Res Bool) : Prop where
  run : ∀ W : WX, ∃ t : TT, Sim Γ.K RepB W t m ∧ ∀ X, CtxOk Γ X → Takes X W → PTs X ifs t
def tYesM : AEnv → Store → Res Bool := fun _ st => .ok true st
section
variable {Γ : G} {fo : Str → Bool} {elt tg iter : Expr} {ifs : List Expr} {scope : Scope} {pos spos py p : Pos} {mi : MI} {g : MG} {own : List (Str × Nat)} {gown : List Nat} {mt : AEnv → Store → Res Bool} {me : AEnv → Store → Res A}
theorem ts_nil : STs Γ [] tYesM := ⟨fun W => ⟨tYes, fun Z F μ st env σ H Q g re h => Kont.now (show Kont Γ.K Z RepB F μ Q true st from h) g rfl, fun X c t => pts_nil⟩⟩
theorem ts_one {c : Expr} (h : ST Γ c mt) : STs Γ [c] mt := ⟨fun W => let ⟨t, h1, h2⟩ := h.run W; ⟨t, h1, fun X c k => pts_one (h2 X c k)⟩⟩
theorem s_lc {mk : Bool} (hi : SI Γ tg iter mi) (ok : blkC Γ.N Γ.sc scope own = true) (hg : SG (Γ.blk scope) (blkFo scope) tg g gown) (hsub : ∀ i ∈ gown, i ∈ own.map (·.2)) (ht : STs (Γ.blk scope) ifs mt) (he : SE (Γ.blk scope) elt me)
    (hs : ∀ env x, foldedSetIterable iter env x = pure x := by intro _ _; rfl) (cm : Γ.calm = true := by rfl) : SE Γ (.ListComp elt [⟨tg, iter, ifs, 0⟩] scope pos) (eLc mk mi g (own.map (·.2)) mt me) :=
  ⟨fun W => by
    obtain ⟨wi, h1, h2⟩ := hi.run W
    obtain ⟨u, h3, h4⟩ := hg.run
    obtain ⟨tt, h5, h6⟩ := ht.run W0
    obtain ⟨te, h7, h8⟩ := he.run W0
    refine ⟨_, sim_lc (mk := mk) h1 h3 hsub h5 h7, fun X c k => ?_⟩
    exact pe_lc (c.calm cm) c.nd (h2 X c k) (by rw [c.N, c.sc]; exact blkOk_by ok) (fun s H C cl fp => h4 _ (c.blk scope s H C cl fp) fun x h => h) (fun s H C cl fp => h6 _ (c.blk scope s H C cl fp) takes0) (fun s H C cl fp => h8 _ (c.blk scope s H C cl fp) takes0) (hs _)⟩
theorem st_setLc {mk : Bool} {i : Nat} {y : Str} (hy : Γ.N[i]? = some y) (hyl : Γ.sc.names.lookup y = some .local) (hk : Γ.sc.kind = .function) (hl : (py.line == pos.line) = true) (hn : (scope.names.any fun (n, k) => n == y && (k == .local || k == .cell)) = false)
    (hi : SI Γ tg iter mi) (ok : blkC Γ.N Γ.sc scope own = true) (hg : SG (Γ.blk scope) (blkFo scope) tg g gown) (hsub : ∀ i ∈ gown, i ∈ own.map (·.2)) (ht : STs (Γ.blk scope) ifs mt) (he : SE (Γ.blk scope) elt me)
    (hs : ∀ env x, foldedSetIterable iter env x = pure x := by intro _ _; rfl) (cm : Γ.calm = true := by rfl) : SS Γ fo (.Assign [.Name y py] (.ListComp elt [⟨tg, iter, ifs, 0⟩] scope pos) spos) (sAsg (gN i) (eLc mk mi g (own.map (·.2)) mt me)) :=
  ⟨fun W => by
    obtain ⟨wi, h1, h2⟩ := hi.run W
    obtain ⟨u, h3, h4⟩ := hg.run
    obtain ⟨tt, h5, h6⟩ := ht.run W0
    obtain ⟨te, h7, h8⟩ := he.run W0
    refine ⟨_, sim_asg (sim_lc (mk := mk) h1 h3 hsub h5 h7) (sim_gN i), fun X c hfo k => ?_⟩
    exact ps_setLc (c.calm cm) c.nd (c.name hy) (by rw [c.sc]; exact hyl) (sw_true (by rw [c.sc]; exact hk) (by rw [c.sc]; exact hyl) hl hn) (h2 X c k) (by rw [c.N, c.sc]; exact blkOk_by ok) (fun s H C cl fp => h4 _ (c.blk scope s H C cl fp) fun x h => h) (fun s H C cl fp => h6 _ (c.blk scope s H C cl fp) takes0) (fun s H C cl fp => h8 _ (c.blk scope s H C cl fp) takes0) (hs _)⟩
/-- where the target is captured by some block: an ordinary store -/
theorem sw_cell {X : Cx} (c : CtxOk Γ X) {y : Str} {gs : List Comprehension} {l : Nat} (hy : Γ.sc.names.lookup y = some .cell) : swapsWith (.ListComp elt gs scope pos) (some (.Name y py)) l X.env = pure false := by
  have e : (X.env.kindOf y == some NameKind.local) = false := by unfold Env.kindOf; rw [c.sc, hy]; rfl
  show (pure (X.env.blockKind == .function && X.env.kindOf y == some .local && py.line == pos.line && !(scope.names.any fun (n, k) => n == y && (k == .local || k == .cell))) : Sem Bool) = pure false
  rw [e, Bool.and_false, Bool.false_and, Bool.false_and]
/-! list(range(..)), tuple(range(..)) -/
def rgPair : List A → Option (Int × Int)
  | [.int j] => some ((0 : Int), j)
  | [.int i, .int j] => some (i, j)
  | _ => none
def eRg (mk : Option Bool) (ms : AEnv → Store → Res (List A)) : AEnv → Store → Res A := fun env st => (ms env st).bind fun as st1 =>
  match rgPair as with
  | some (i, j) => if -(2 ^ 62) ≤ i ∧ i < 2 ^ 62 ∧ -(2 ^ 62) ≤ j ∧ j < 2 ^ 62 ∧ (j - i).toNat ≤ 2 ^ 24 then (match mk with
    | some mk => .ok (newL mk (rgA i j) st1).1 (newL mk (rgA i j) st1).2
    | none => .ok (.tup (rgA i j)) st1) else .stuck
  | none => .stuck
theorem rgA_reps {K : PySem.W.Frag} {F : Hp} {μ : List Addr} (i j : Int) : Reps K F μ (rgA i j) (rgV i j) := by
  unfold rgA rgV
  generalize List.range (j - i).toNat = l
  induction l with
  | nil => exact .nil
  | cons n l ih => exact .cons (.int _) ih
/-- the two ends of a range -/
structure SR (Γ : G) (e : Expr) (ms : AEnv → Store → Res (List A)) : Prop where
  run : ∀ W : WX, ∃ t : St → Hp → (Int → Int → Hp → Prop) → Prop, (∀ (Z F : Hp) (μ : List Addr) (st : Store) (env : AEnv) (σ : St) (H : Hp) (Q : Int → Int → Hp → Prop), Good Γ.K Z F μ st H → REnv Γ.K F μ env σ →
    (ms env st).post (fun as st1 => ∀ F' μ' H', Ext F F' μ μ' → Good Γ.K Z F' μ' st1 H' → ∃ i j, rgPair as = some (i, j) ∧ Q i j H') (KX Γ.K Z F μ σ W) → t σ H Q) ∧
    ∀ X, CtxOk Γ X → Takes X W → PRg X e t
theorem r_1 {a : Expr} {ma : AEnv → Store → Res A} (hg : Γ.sc.names.lookup ("range" : Str) = some .globalImplicit) (hm : Γ.mg "range" = none) (ha : SE Γ a ma) (hs : ∀ env, starEach [a] env = (false, eval a env) :: starEach [] env := by intro _; rfl) :
    SR Γ (.Call (.Name "range" p) [a] [] pos) (aCons ma aNil) :=
  ⟨fun W => by
    obtain ⟨t, h1, h2⟩ := ha.run W
    refine ⟨tRg1 t, fun Z F μ st env σ H Q g re hp => ?_, fun X c k => prg_1 (c.gl hg) (c.mgn hm) (h2 X c k) (hs _)⟩
    unfold aCons aNil at hp
    rw [Res.post_bind] at hp
    refine h1 Z F μ st env σ H _ g re (Res.post_mono hp (fun a st1 q => ?_) fun _ _ q => q)
    intro F1 μ1 H1 x e1 g1 ra
    obtain ⟨i, j, e, k⟩ := q F1 μ1 H1 e1 g1
    cases a with
    | int n => cases ra; cases e; exact ⟨_, rfl, k⟩
    | _ => cases e⟩
theorem r_2 {a b : Expr} {ma mb : AEnv → Store → Res A} (hg : Γ.sc.names.lookup ("range" : Str) = some .globalImplicit) (hm : Γ.mg "range" = none) (ha : SE Γ a ma) (hb : SE Γ b mb) (hs : ∀ env, starEach [a, b] env = (false, eval a env) :: starEach [b] env := by intro _; rfl)
    (hs2 : ∀ env, starEach [b] env = (false, eval b env) :: starEach [] env := by intro _; rfl) (hp : ∀ env, (backTo pos (starEach [b] env)).any (·.1) = false := by intro _; rfl) :
    SR Γ (.Call (.Name "range" p) [a, b] [] pos) (aCons ma (aCons mb aNil)) :=
  ⟨fun W => by
    obtain ⟨t, h1, h2⟩ := ha.run W
    obtain ⟨u, h3, h4⟩ := hb.run W
    refine ⟨tRg2 t u, fun Z F μ st env σ H Q g re hp => ?_, fun X c k => prg_2 (c.gl hg) (c.mgn hm) (h2 X c k) (h4 X c k) (hs _) (hs2 _) (hp _)⟩
    unfold aCons aNil at hp
    rw [Res.post_bind] at hp
    refine h1 Z F μ st env σ H _ g re (Res.post_mono hp (fun a st1 q => ?_) fun _ _ q => q)
    intro F1 μ1 H1 x e1 g1 ra
    simp only [Res.post_bind] at q
    refine h3 Z F1 μ1 st1 env σ H1 _ g1 (re.mono e1) (Res.post_mono q (fun b st2 q => ?_) fun _ _ q => q.ext e1)
    intro F2 μ2 H2 y e2 g2 rb
    obtain ⟨i, j, e, k⟩ := q F2 μ2 H2 (e1.trans e2) g2
    cases a with
    | int n =>
      cases b with
      | int m => cases ra; cases rb; cases e; exact ⟨_, _, rfl, rfl, k⟩
      | _ => cases e
    | _ => cases b <;> cases e⟩
variable {e : Expr} {ms : AEnv → Store → Res (List A)}
theorem sim_rg {W : WX} {mk : Option Bool} {t : St → Hp → (Int → Int → Hp → Prop) → Prop} (h : ∀ (Z F : Hp) (μ : List Addr) (st : Store) (env : AEnv) (σ : St) (H : Hp) (Q : Int → Int → Hp → Prop), Good Γ.K Z F μ st H → REnv Γ.K F μ env σ →
    (ms env st).post (fun as st1 => ∀ F' μ' H', Ext F F' μ μ' → Good Γ.K Z F' μ' st1 H' → ∃ i j, rgPair as = some (i, j) ∧ Q i j H') (KX Γ.K Z F μ σ W) → t σ H Q) :
    Sim Γ.K Rep W (match mk with | some _ => tLstRg t | none => tTupRg t) (eRg mk ms) := by
  intro Z F μ st env σ H Q g re hp
  unfold eRg at hp
  rw [Res.post_bind] at hp
  have key : (ms env st).post (fun as st1 => ∀ F' μ' H', Ext F F' μ μ' → Good Γ.K Z F' μ' st1 H' → ∃ i j, rgPair as = some (i, j) ∧
      (RgOk i j ∧ ∀ q, H' q = none → Q (.ref q) (upd H' q (match mk with | some _ => .lst (rgV i j) | none => .tup (rgV i j))))) (KX Γ.K Z F μ σ W) := by
    refine Res.post_mono hp (fun as st1 q => ?_) fun _ _ q => q
    intro F1 μ1 H1 e1 g1
    split at q
    · rename_i i j hr
      split at q
      · rename_i hb
        refine ⟨i, j, hr, hb, fun p hp' => ?_⟩
        cases mk with
        | some mk =>
          have q : Kont Γ.K Z Rep F μ Q (newL mk (rgA i j) st1).1 (newL mk (rgA i j) st1).2 := q
          exact newL_ok (mk := mk) g1 hp' (rgA_reps i j) (q.ext e1)
        | none =>
          have q : Kont Γ.K Z Rep F μ Q (.tup (rgA i j)) st1 := q
          exact newT_ok g1 hp' (rgA_reps i j) (q.ext e1)
      · exact q.elim
    · exact q.elim
  cases mk with
  | some mk => exact h Z F μ st env σ H _ g re key
  | none => exact h Z F μ st env σ H _ g re key
theorem s_listRg {mk : Bool} (hg : Γ.sc.names.lookup ("list" : Str) = some .globalImplicit) (hm : Γ.mg "list" = none) (h : SR Γ e ms) (na : ∀ env, starEach [e] env = (false, eval e env) :: starEach [] env := by intro _; rfl) (cm : Γ.calm = true := by rfl) : SE Γ (.Call (.Name "list" p) [e] [] pos) (eRg (some mk) ms) :=
  ⟨fun W => let ⟨t, h1, h2⟩ := h.run W; ⟨tLstRg t, sim_rg (mk := some mk) h1, fun X c k => pe_listRg (c.calm cm) (c.gl hg) (c.mgn hm) (h2 X c k) (na _)⟩⟩
theorem s_tupRg (hg : Γ.sc.names.lookup ("tuple" : Str) = some .globalImplicit) (hm : Γ.mg "tuple" = none) (h : SR Γ e ms) (na : ∀ env, starEach [e] env = (false, eval e env) :: starEach [] env := by intro _; rfl) (cm : Γ.calm = true := by rfl) : SE Γ (.Call (.Name "tuple" p) [e] [] pos) (eRg none ms) :=
  ⟨fun W => let ⟨t, h1, h2⟩ := h.run W; ⟨tTupRg t, sim_rg (mk := none) h1, fun X c k => pe_tupRg (c.calm cm) (c.gl hg) (c.mgn hm) (h2 X c k) (na _)⟩⟩
end
end SL

set_option Elab.async false
set_option linter.all false
set_option maxRecDepth 100000
set_option maxHeartbeats 4000000
/-! SLi: what a def is worth: its cells go, or become data; the law's end. -/
namespace SL
open PySem PySem.Spec L2
open PyProof.Rows hiding St
mutual
def A.bel (n : Nat) : A → Bool
  | .cell c => decide (c < n)
  | .lst xs => belowL n xs
  | .slst xs => belowL n xs
  | .tup xs => belowL n xs
  | .obj _ _ vs => belowL n vs
  | .dct _ vs => belowL n vs
  | .rng _ _ => true
  | .xcp _ _ _ _ vs => belowL n vs
  | .non => true
  | .bl _ => true
  | .int _ => true
  | .str _ => true
  | .ty _ => true
  | .glo _ => true
def belowL (n : Nat) : List A → Bool
  | [] => true
  | x :: xs => x.bel n && belowL n xs
end
def C.bel (n : Nat) : C → Bool
  | .lst xs => belowL n xs
  | .dct _ vs => belowL n vs
  | .dcT _ vs => belowL n vs
  | .obj _ _ vs => belowL n vs
  | .dead => true
section
variable {K : PySem.W.Frag} {Z F : Hp} {μ : List Addr}
theorem take_get {α : Type} {l : List α} {n i : Nat} (h : i < n) : (l.take n)[i]? = l[i]? := by rw [List.getElem?_take]; simp [h]
mutual
theorem Rep.cut {n : Nat} : ∀ {a : A} {v : V}, Rep K F μ a v → a.bel n = true → Rep K F (μ.take n) a v
  | _, _, .non, _ => .non
  | _, _, .bl b, _ => .bl b
  | _, _, .int i, _ => .int i
  | _, _, .str s, _ => .str s
  | _, _, .ty n, _ => .ty n
  | _, _, .glo x, _ => .glo x
  | _, _, .lst s r, h => .lst s (Reps.cut r (by simpa [A.bel] using h))
  | _, _, .slst s r, h => .slst s (Reps.cut r (by simpa [A.bel] using h))
  | _, _, .tup s r, h => .tup s (Reps.cut r (by simpa [A.bel] using h))
  | _, _, .rng s, _ => .rng s
  | _, _, .cell e, h => .cell (by rw [take_get (by simpa [A.bel] using h)]; exact e)
  | _, _, .obj h1 h2 h3 r, h => .obj h1 h2 h3 (Reps.cut r (by simpa [A.bel] using h))
  | _, _, .dct h1 h3 r, h => .dct h1 h3 (Reps.cut r (by simpa [A.bel] using h))
  | _, _, .xcp0, _ => .xcp0
  | _, _, .xcpD h1 h3 r, h => .xcpD h1 h3 (Reps.cut r (by simpa [A.bel] using h))
theorem Reps.cut {n : Nat} : ∀ {as : List A} {vs : List V}, Reps K F μ as vs → belowL n as = true → Reps K F (μ.take n) as vs
  | _, _, .nil, _ => .nil
  | _, _, .cons r t, h => by
    rw [belowL, Bool.and_eq_true] at h
    exact .cons (Rep.cut r h.1) (Reps.cut t h.2)
end
mutual
theorem Rep.bel : ∀ {a : A} {v : V}, Rep K F μ a v → a.bel μ.length = true
  | _, _, .non => by simp [A.bel]
  | _, _, .bl b => by simp [A.bel]
  | _, _, .int i => by simp [A.bel]
  | _, _, .str s => by simp [A.bel]
  | _, _, .ty n => by simp [A.bel]
  | _, _, .glo x => by simp [A.bel]
  | _, _, .lst s r => by simp only [A.bel]; exact Reps.bel r
  | _, _, .slst s r => by simp only [A.bel]; exact Reps.bel r
  | _, _, .tup s r => by simp only [A.bel]; exact Reps.bel r
  | _, _, .rng s => by simp only [A.bel]
  | _, _, .cell e => by simp only [A.bel, decide_eq_true_eq]; exact (List.getElem?_eq_some_iff.mp e).1
  | _, _, .obj h1 h2 h3 r => by simp only [A.bel]; exact Reps.bel r
  | _, _, .dct h1 h3 r => by simp only [A.bel]; exact Reps.bel r
  | _, _, .xcp0 => by simp [A.bel, belowL]
  | _, _, .xcpD h1 h3 r => by simp only [A.bel]; exact Reps.bel r
theorem Reps.bel : ∀ {as : List A} {vs : List V}, Reps K F μ as vs → belowL μ.length as = true
  | _, _, .nil => by simp [belowL]
  | _, _, .cons r t => by rw [belowL, Rep.bel r, Reps.bel t]; rfl
end
theorem CRep.cut {n : Nat} {H : Hp} {c : C} {a : Addr} (h : CRep K F μ H c a) (b : c.bel n = true) : CRep K F (μ.take n) H c a := by
  cases c with
  | lst xs => obtain ⟨vs, h, r⟩ := h; exact ⟨vs, h, r.cut b⟩
  | dct ks xs => obtain ⟨kvs, h, q, r⟩ := h; exact ⟨kvs, h, q, r.cut b⟩
  | dcT ks xs => obtain ⟨kvs, h, q, r⟩ := h; exact ⟨kvs, h, q, r.cut b⟩
  | obj c ns xs => obtain ⟨dx, fs, h, h2, q, r⟩ := h; exact ⟨dx, fs, h, h2, q, r.cut b⟩
  | dead => trivial
theorem CRep.bel {H : Hp} {c : C} {a : Addr} (h : CRep K F μ H c a) : c.bel μ.length = true := by
  cases c with
  | lst xs => obtain ⟨vs, h, r⟩ := h; exact r.bel
  | dct ks xs => obtain ⟨kvs, h, q, r⟩ := h; exact r.bel
  | dcT ks xs => obtain ⟨kvs, h, q, r⟩ := h; exact r.bel
  | obj c ns xs => obtain ⟨dx, fs, h, h2, q, r⟩ := h; exact r.bel
  | dead => rfl
/-- the cells of the caller stand as they stood, or hold nothing of the callee's -/
def okS (n : Nat) (st0 st : Store) : Prop := ∀ i, i < n → st[i]? = st0[i]? ∨ ∃ c, st[i]? = some c ∧ c.bel n = true
theorem Good.trunc {st : Store} {H : Hp} {n : Nat} (g : Good K Z F μ st H) (h : ∀ i c, i < n → st[i]? = some c → c ≠ .dead → c.bel n = true) : Good K Z F (μ.take n) (st.take n) H := by
  refine { zub := g.zub, zf := g.zf, zc := g.zc, sub := g.sub, len := by rw [List.length_take, List.length_take, g.len], cell := fun i c hi hc => ?_, inj := fun i j a c d h1 n1 h2 n2 m1 m2 => ?_ }
  · have hin : i < n := by have := (List.getElem?_eq_some_iff.mp hi).1; rw [List.length_take] at this; omega
    rw [take_get hin] at hi
    obtain ⟨a, h1, h2, h3⟩ := g.cell i c hi hc
    exact ⟨a, by rw [take_get hin]; exact h1, h2, h3.cut (h i c hin hi hc)⟩
  · have hin : i < n := by have := (List.getElem?_eq_some_iff.mp h1).1; rw [List.length_take] at this; omega
    have hjn : j < n := by have := (List.getElem?_eq_some_iff.mp h2).1; rw [List.length_take] at this; omega
    rw [take_get hin] at h1 m1
    rw [take_get hjn] at h2 m2
    exact g.inj i j a c d h1 n1 h2 n2 m1 m2
end

/-! ### cells become data -/
def frzL (f : A → Store → Option (A × Store)) : List A → Store → Option (List A × Store)
  | [], st => some ([], st)
  | x :: xs, st => match f x st with
    | some (y, st1) => (match frzL f xs st1 with
      | some (ys, st2) => some (y :: ys, st2)
      | none => none)
    | none => none
def frzA (n : Nat) : Nat → A → Store → Option (A × Store)
  | 0, a, st => if a.bel n = true then some (a, st) else none
  | k + 1, a, st => if a.bel n = true then some (a, st) else match a with
    | .cell c => (match st[c]? with
      | some (.lst xs) => (frzL (frzA n k) xs (st.set c .dead)).map fun p => (.lst p.1, p.2)
      | some (.dct ks xs) => (frzL (frzA n k) xs (st.set c .dead)).map fun p => (.dct ks p.1, p.2)
      | some (.obj cn ns xs) => (frzL (frzA n k) xs (st.set c .dead)).map fun p => (.obj cn ns p.1, p.2)
      | _ => none)
    | .lst xs => (frzL (frzA n k) xs st).map fun p => (.lst p.1, p.2)
    | .tup xs => (frzL (frzA n k) xs st).map fun p => (.tup p.1, p.2)
    | .obj cn ns xs => (frzL (frzA n k) xs st).map fun p => (.obj cn ns p.1, p.2)
    | _ => none
section
variable {K : PySem.W.Frag} {Z : Hp} {μ : List Addr}
theorem frzL_ok {f : A → Store → Option (A × Store)} {H : Hp} (h : ∀ (F : Hp) (st st' : Store) (a b : A) (v : V), Good K Z F μ st H → Rep K F μ a v → f a st = some (b, st') → ∃ F', Ext F F' μ μ ∧ Good K Z F' μ st' H ∧ Rep K F' μ b v) :
    ∀ (xs : List A) (F : Hp) (st st' : Store) (ys : List A) (vs : List V), Good K Z F μ st H → Reps K F μ xs vs → frzL f xs st = some (ys, st') → ∃ F', Ext F F' μ μ ∧ Good K Z F' μ st' H ∧ Reps K F' μ ys vs
  | [], F, st, st', ys, vs, g, r, e => by cases e; cases r; exact ⟨F, Ext.refl, g, .nil⟩
  | x :: xs, F, st, st', ys, _, g, .cons r t, e => by
    unfold frzL at e
    cases e1 : f x st with
    | none => rw [e1] at e; cases e
    | some p =>
      obtain ⟨y, st1⟩ := p
      rw [e1] at e
      dsimp only at e
      cases e2 : frzL f xs st1 with
      | none => rw [e2] at e; cases e
      | some q =>
        obtain ⟨zs, st2⟩ := q
        rw [e2] at e; cases e
        obtain ⟨F1, x1, g1, r1⟩ := h F st st1 x y _ g r e1
        obtain ⟨F2, x2, g2, r2⟩ := frzL_ok h xs F1 st1 _ zs _ g1 (t.mono x1) e2
        exact ⟨F2, x1.trans x2, g2, .cons (r1.mono x2) r2⟩
theorem frzA_ok {H : Hp} {n : Nat} : ∀ (k : Nat) (F : Hp) (st st' : Store) (a b : A) (v : V), Good K Z F μ st H → Rep K F μ a v → frzA n k a st = some (b, st') → ∃ F', Ext F F' μ μ ∧ Good K Z F' μ st' H ∧ Rep K F' μ b v := by
  intro k
  induction k with
  | zero =>
    intro F st st' a b v g r e
    unfold frzA at e
    split at e
    · cases e; exact ⟨F, Ext.refl, g, r⟩
    · cases e
  | succ k ih =>
    intro F st st' a b v g r e
    unfold frzA at e
    split at e
    · cases e; exact ⟨F, Ext.refl, g, r⟩
    · cases a with
      | cell c =>
        dsimp only at e
        cases r with
        | cell hc =>
          rename_i ad
          cases ec : st[c]? with
          | none => rw [ec] at e; cases e
          | some cc =>
            rw [ec] at e
            cases cc with
            | lst xs =>
              dsimp only at e
              obtain ⟨a2, m2, _, vs, h4, h5⟩ := g.cell c _ ec (by intro z; cases z)
              rw [hc] at m2; cases m2
              obtain ⟨g1, x1⟩ := g.know (o := .lst vs) ec (by intro z; cases z) hc h4
              cases el : frzL (frzA n k) xs (st.set c .dead) with
              | none => rw [el] at e; cases e
              | some p =>
                rw [el] at e; cases e
                obtain ⟨F2, x2, g2, r2⟩ := frzL_ok ih xs _ _ p.2 p.1 vs g1 (h5.mono x1) el
                exact ⟨F2, x1.trans x2, g2, .lst (x2.f _ _ upd_same) r2⟩
            | dcT ks xs => cases e
            | dct ks xs =>
              dsimp only at e
              obtain ⟨a2, m2, _, kvs, h4, h6, h5⟩ := g.cell c _ ec (by intro z; cases z)
              rw [hc] at m2; cases m2
              obtain ⟨g1, x1⟩ := g.know (o := .dK kvs) ec (by intro z; cases z) hc h4
              cases el : frzL (frzA n k) xs (st.set c .dead) with
              | none => rw [el] at e; cases e
              | some p =>
                rw [el] at e; cases e
                obtain ⟨F2, x2, g2, r2⟩ := frzL_ok ih xs _ _ p.2 p.1 _ g1 (h5.mono x1) el
                exact ⟨F2, x1.trans x2, g2, .dct (x2.f _ _ upd_same) h6 r2⟩
            | obj cn ns xs =>
              dsimp only at e
              obtain ⟨a2, m2, ⟨hF, hZ⟩, dx, fs, h4, h7, h6, h5⟩ := g.cell c _ ec (by intro z; cases z)
              rw [hc] at m2; cases m2
              obtain ⟨g1, x1⟩ := g.know (o := .ins (He.ga K cn) dx fs) ec (by intro z; cases z) hc h4
              have hzd : Z dx = none := by
                cases ez : Z dx with
                | none => rfl
                | some u =>
                  have c1 := g.zc _ _ ez
                  have c2 := g.zub _ _ ez
                  rw [h7] at c2; cases c2; cases c1
              have hfd : upd F ad (.ins (He.ga K cn) dx fs) dx = none ∨ upd F ad (.ins (He.ga K cn) dx fs) dx = some (.own ad) := by
                cases ef : upd F ad (.ins (He.ga K cn) dx fs) dx with
                | none => exact .inl rfl
                | some u => have := g1.sub _ _ ef; rw [h7] at this; exact .inr this.symm
              obtain ⟨g2, x2⟩ := g1.knowO (q := dx) (u := .own ad) h7 rfl hzd hfd
              cases el : frzL (frzA n k) xs (st.set c .dead) with
              | none => rw [el] at e; cases e
              | some p =>
                rw [el] at e; cases e
                obtain ⟨F2, x3, g3, r2⟩ := frzL_ok ih xs _ _ p.2 p.1 _ g2 (h5.mono (x1.trans x2)) el
                exact ⟨F2, x1.trans (x2.trans x3), g3, .obj ((x2.trans x3).f _ _ upd_same) (x3.f _ _ upd_same) h6 r2⟩
            | dead => cases e
      | lst xs =>
        dsimp only at e
        cases r with
        | lst h1 h2 =>
          cases el : frzL (frzA n k) xs st with
          | none => rw [el] at e; cases e
          | some p =>
            rw [el] at e; cases e
            obtain ⟨F2, x2, g2, r2⟩ := frzL_ok ih xs _ _ p.2 p.1 _ g h2 el
            exact ⟨F2, x2, g2, .lst (x2.f _ _ h1) r2⟩
      | tup xs =>
        dsimp only at e
        cases r with
        | tup h1 h2 =>
          cases el : frzL (frzA n k) xs st with
          | none => rw [el] at e; cases e
          | some p =>
            rw [el] at e; cases e
            obtain ⟨F2, x2, g2, r2⟩ := frzL_ok ih xs _ _ p.2 p.1 _ g h2 el
            exact ⟨F2, x2, g2, .tup (x2.f _ _ h1) r2⟩
      | obj cn ns xs =>
        dsimp only at e
        cases r with
        | obj h1 h3 h4 h2 =>
          cases el : frzL (frzA n k) xs st with
          | none => rw [el] at e; cases e
          | some p =>
            rw [el] at e; cases e
            obtain ⟨F2, x2, g2, r2⟩ := frzL_ok ih xs _ _ p.2 p.1 _ g h2 el
            exact ⟨F2, x2, g2, .obj (x2.f _ _ h1) (x2.f _ _ h3) h4 r2⟩
      | _ => cases e
end
end SL

set_option Elab.async false
set_option linter.all false
set_option maxRecDepth 100000
set_option maxHeartbeats 4000000
/-! SLj: a def by its body; the law. -/
namespace SL
open PySem PySem.Spec L2
open PyProof.Rows hiding St
def C.live : C → Bool
  | .dead => false
  | _ => true
theorem C.live_ne {c : C} (h : c.live = true) : c ≠ .dead := by intro e; subst e; cases h
noncomputable instance (n : Nat) (st0 st : Store) : Decidable (okS n st0 st) := Classical.propDecidable _
/-- a def hands back a value: what is the def's own becomes data (rc: or one new cell stays) -/
noncomputable def finA (rc : Bool) (n : Nat) (st0 : Store) (a : A) (st : Store) : Res A :=
  match rc, a with
  | true, .cell c => if n ≤ c then (match st[c]? with
    | some cc => if cc.live = true ∧ cc.bel n = true ∧ okS n st0 st then .ok (.cell n) (st.take n ++ [cc]) else .stuck
    | none => .stuck) else .stuck
  | _, a => match frzA n 8 a st with
    | some (b, st1) => if b.bel n = true ∧ okS n st0 st1 then .ok b (st1.take n) else .stuck
    | none => .stuck
noncomputable def fin (rc : Bool) (n : Nat) (st0 : Store) (r : SRes) : Res A := match r with
  | .nx _ st => finA false n st0 .non st
  | .rt a st => finA rc n st0 a st
  | .exc e _ st => if belowL n e.vs = true ∧ okS n st0 st then .exc e (st.take n) else .stuck
  | _ => .stuck
noncomputable def fnM (rc : Bool) (np ns : Nat) (body : MS) : List A → Store → Res A := fun as st =>
  if as.length = np then fin rc st.length st (body (as.map some ++ List.replicate (ns - np) none) st) else .stuck
section
variable {K : PySem.W.Frag} {Z F F' : Hp} {μ μ' : List Addr} {st0 st : Store} {H H' : Hp}
theorem okS_bel (g0 : Good K Z F μ st0 H) (ok : okS st0.length st0 st) : ∀ i c, i < st0.length → st[i]? = some c → c ≠ .dead → c.bel st0.length = true := by
  intro i c hi hc hd
  rcases ok i hi with h | ⟨c', h, hb⟩
  · rw [h] at hc
    obtain ⟨a, _, _, h3⟩ := g0.cell i c hc hd
    rw [← g0.len]
    exact h3.bel
  · rw [h] at hc; cases hc; exact hb
theorem pre_take (e : Ext F F' μ μ') : μ'.take μ.length = μ := by
  apply List.ext_getElem?
  intro i
  by_cases h : i < μ.length
  · rw [take_get h]
    exact (e.m i _ (List.getElem?_eq_getElem h)).trans (List.getElem?_eq_getElem h).symm
  · rw [List.getElem?_eq_none (by rw [List.length_take]; omega), List.getElem?_eq_none (by omega)]
theorem good_le (e : Ext F F' μ μ') (g0 : Good K Z F μ st0 H) (g : Good K Z F' μ' st H') : st0.length ≤ st.length := by
  rw [← g0.len, ← g.len]
  by_cases h : μ.length ≤ μ'.length
  · exact h
  · have hl : μ'.length < μ.length := by omega
    have := e.m μ'.length _ (List.getElem?_eq_getElem hl)
    rw [List.getElem?_eq_none (Nat.le_refl _)] at this
    cases this
theorem finA_ok {rc : Bool} {a : A} {v : V} {Q : VK} {E : Exc → Store → Prop} (g0 : Good K Z F μ st0 H) (e : Ext F F' μ μ') (g : Good K Z F' μ' st H') (r : Rep K F' μ' a v) (h : (finA rc st0.length st0 a st).post (Kont K Z Rep F μ Q) E) : Q v H' := by
  have gen : (match frzA st0.length 8 a st with | some (b, st1) => if b.bel st0.length = true ∧ okS st0.length st0 st1 then Res.ok b (st1.take st0.length) else .stuck | none => .stuck : Res A).post (Kont K Z Rep F μ Q) E → Q v H' := by
    intro h
    cases ef : frzA st0.length 8 a st with
    | none => rw [ef] at h; exact h.elim
    | some p =>
      obtain ⟨b, st1⟩ := p
      rw [ef] at h
      dsimp only at h
      split at h
      · rename_i hb
        obtain ⟨F2, x2, g2, r2⟩ := frzA_ok 8 F' st st1 a b v g r ef
        have k : Kont K Z Rep F μ Q b (st1.take st0.length) := h
        have hm := pre_take e
        have g3 := g2.trunc (okS_bel g0 hb.2)
        rw [← g0.len, hm] at g3
        have r3 := r2.cut hb.1
        rw [← g0.len, hm] at r3
        rw [← g0.len] at k
        exact k F2 μ H' v ⟨fun a o q => x2.f _ _ (e.f _ _ q), fun _ _ q => q⟩ g3 r3
      · exact h.elim
  unfold finA at h
  split at h
  · rename_i c
    split at h
    · rename_i hn
      split at h
      · rename_i cc hcc
        split at h
        · rename_i hb
          have hb1 := C.live_ne hb.1
          have k : Kont K Z Rep F μ Q (.cell st0.length) (st.take st0.length ++ [cc]) := h
          obtain ⟨a2, m2, ⟨hF2, hZ2⟩, hr2⟩ := g.cell c cc hcc hb1
          cases r with
          | cell hc =>
            rw [hc] at m2; cases m2
            have hm := pre_take e
            have g3 := g.trunc (okS_bel g0 hb.2.2)
            rw [← g0.len, hm] at g3
            have hr3 := hr2.cut hb.2.1
            rw [← g0.len, hm] at hr3
            obtain ⟨o, ho, hco⟩ := hr2.o hb1
            -- the cell laid anew behind the caller's
            have hlen : (st.take st0.length).length = st0.length := by rw [List.length_take]; have := good_le e g0 g; omega
            have g4 : Good K Z F' (μ ++ [a2]) (st.take st0.length ++ [cc]) H' := by
              rw [← g0.len] at hlen ⊢
              refine { zub := g3.zub, zf := g3.zf, zc := g3.zc, sub := g3.sub, len := by rw [List.length_append, List.length_append, hlen]; rfl, cell := fun i d hi hd => ?_, inj := fun i j a d d' hi hd hj hd' ei ej => ?_ }
              · by_cases hl : i < (st.take μ.length).length
                · rw [List.getElem?_append_left hl] at hi
                  obtain ⟨b, h1, h2, h3⟩ := g3.cell i d hi hd
                  exact ⟨b, ext_push.m (F := F') (F' := F') i b h1, h2, h3.mono ext_push fun _ _ q => q⟩
                · have hi' := (List.getElem?_eq_some_iff.mp hi).1
                  rw [List.length_append] at hi'
                  have ei : i = (st.take μ.length).length := by simp at hi' hl ⊢; omega
                  subst ei
                  rw [List.getElem?_append_right (Nat.le_refl _), Nat.sub_self] at hi
                  simp at hi; subst hi
                  refine ⟨_, ?_, ⟨hF2, hZ2⟩, hr3.mono ext_push fun _ _ q => q⟩
                  rw [hlen, List.getElem?_append_right (Nat.le_refl _), Nat.sub_self]; rfl
              · have key : ∀ (i : Nat) (d : C), (st.take μ.length ++ [cc])[i]? = some d → d ≠ .dead → ∀ b, (μ ++ [a2])[i]? = some b → (i < μ.length ∧ st[i]? = some d ∧ μ'[i]? = some b) ∨ (i = μ.length ∧ μ'[c]? = some b) := by
                  intro i d hi hd b hb'
                  by_cases hl : i < μ.length
                  · rw [List.getElem?_append_left (by rw [hlen]; exact hl), take_get hl] at hi
                    rw [List.getElem?_append_left hl] at hb'
                    exact .inl ⟨hl, hi, e.m _ _ hb'⟩
                  · have hi' := (List.getElem?_eq_some_iff.mp hi).1
                    rw [List.length_append, hlen] at hi'
                    have ei : i = μ.length := by simp at hi'; omega
                    subst ei
                    rw [List.getElem?_append_right (Nat.le_refl _), Nat.sub_self] at hb'
                    simp at hb'; subst hb'
                    exact .inr ⟨rfl, hc⟩
                have hn' : μ.length ≤ c := by rw [g0.len]; exact hn
                rcases key i d hi hd _ ei with ⟨l1, a1, b1⟩ | ⟨l1, b1⟩ <;> rcases key j d' hj hd' _ ej with ⟨l2, a2, b2⟩ | ⟨l2, b2⟩
                · exact g.inj i j a d d' a1 hd a2 hd' b1 b2
                · have := g.inj i c a d cc a1 hd hcc hb1 b1 b2; omega
                · have := g.inj j c a d' cc a2 hd' hcc hb1 b2 b1; omega
                · omega
            exact k F' (μ ++ [a2]) H' _ ⟨e.f, fun i b q => ext_push.m (F := F') (F' := F') i b q⟩ g4 (.cell (by rw [← g0.len, List.getElem?_append_right (Nat.le_refl _), Nat.sub_self]; rfl))
        · exact h.elim
      · exact h.elim
    · exact h.elim
  · exact gen h
end
section
variable {P : Program} {w : World} {K : PySem.W.Frag} {mg : Str → Option Value} {base : Heap}
theorem start_env {F : Hp} {μ : List Addr} {as : List A} {vs : List V} (r : Reps K F μ as vs) (N : List Str) : REnv K F μ (as.map some ++ List.replicate (N.length - as.length) none) (L2.start N vs) := by
  unfold L2.start
  rw [r.length]
  refine ⟨by simp [r.length], fun i a h => ?_⟩
  by_cases hl : i < as.length
  · rw [List.getElem?_append_left (by rw [List.length_map]; exact hl), List.getElem?_map] at h
    cases e : as[i]? with
    | none => rw [e] at h; cases h
    | some b =>
      rw [e] at h; cases h
      obtain ⟨v, h1, h2⟩ := r.get e
      exact ⟨v, by rw [List.getElem?_append_left (by rw [List.length_map, ← r.length]; exact hl), List.getElem?_map, h1]; rfl, h2⟩
  · rw [List.getElem?_append_right (by rw [List.length_map]; omega)] at h
    rw [List.getElem?_replicate] at h
    split at h <;> cases h
/-- the reading of a body, from the def's plain function -/
theorem body_ok {rc : Bool} {N : List Str} {np : Nat} {m : MS} {t : TS} {W : WX} {E : XK} (hW : ∀ cls d σ H, E cls d H → W cls d σ H) (h : SimS K W t m) {vs : List V} {H : Hp} {Q : VK}
    (hs : spM K np (fnM rc np N.length m) vs H Q E) : t { nx := fun _ H' => Q .non H', rt := Q } (L2.start N vs) H := by
  obtain ⟨hl, Z, F, μ, st, as, g, r, hp⟩ := hs
  have hal : as.length = np := by rw [r.length]; exact hl
  unfold fnM at hp
  rw [if_pos hal] at hp
  rw [← hal] at hp
  refine h Z F μ st _ (L2.start N vs) H _ g (start_env r N) ?_
  generalize m (as.map some ++ List.replicate (N.length - as.length) none) st = rr at hp ⊢
  cases rr with
  | nx env st' =>
    intro F' μ' H' σ' e g' re
    exact finA_ok (rc := false) (a := .non) (v := .non) g e g' .non hp
  | rt a st' =>
    intro F' μ' H' v e g' ra
    exact finA_ok g e g' ra hp
  | bk env st' => exact hp.elim
  | ct env st' => exact hp.elim
  | stuck => exact hp.elim
  | exc x env st' =>
    intro F' μ' H' σ' d e g' re xr
    have hp : (if belowL st.length x.vs = true ∧ okS st.length st st' then Res.exc x (st'.take st.length) else .stuck : Res A).post (Kont K Z Rep F μ Q) (fun e st' => ∀ F' μ' H' d, Ext F F' μ μ' → Good K Z F' μ' st' H' → XRep K F' μ' e d → E (.ref (He.ga K e.c)) d H') := hp
    split at hp
    · rename_i hb
      apply hW
      have hm := pre_take e
      have g3 := g'.trunc (okS_bel g hb.2)
      rw [← g.len, hm] at g3
      refine (show ∀ F' μ' H' d, Ext F F' μ μ' → Good K Z F' μ' (st'.take st.length) H' → XRep K F' μ' x d → E (.ref (He.ga K x.c)) d H' from hp) F' μ H' d ⟨e.f, fun _ _ q => q⟩ (by rw [← g.len]; exact g3) ?_
      rcases xr with xr | ⟨dd, fs, h1, h2, h3, h4⟩
      · exact .inl xr
      · refine .inr ⟨dd, fs, h1, h2, h3, ?_⟩
        have := h4.cut hb.1
        rw [← g.len, hm] at this
        exact this
    · exact hp.elim
/-- THE RULE for a def -/
theorem fnS_of {rc : Bool} {x qual : Str} {params : Arguments} {body : List Stmt} {scope : Scope} {f : Addr} {fd : FuncData} {N ps : List Str} {k : Nat} {m : MS} (F : FunD K x qual params body scope [] [] f fd) (S : FnScope N ps scope)
    (hB : Binds K fd ps []) (h : SB ⟨P, w, K, mg, base, N, scope, k, true, true, none⟩ (fun _ => true) body m) : FnS P w K mg base (k + 1) f ps (fnM rc ps.length N.length m) where
  ex := by
    refine ⟨fd, F.ok S (fun vs H Q E hs => hs.1) (fun cdv A outer s H vs Q E hr hs => ?_), hB⟩
    obtain ⟨t, h1, h2⟩ := h.run (fun cls d _ H => E cls d H)
    refine ⟨t, h2 _ ?_ (fun _ _ => rfl) (takes_of rfl rfl rfl rfl), body_ok (fun _ _ _ _ z => z) h1 hs⟩
    exact { prog := rfl, w := rfl, K := rfl, mg := rfl, base := rfl, N := rfl, sc := rfl, calm := fun _ => rfl, room := fun _ => hr, units := u100 hr, stk := fun _ => ⟨rfl, rfl⟩, hx := (fun _ _ _ z => nomatch z), nd := S.nd, own := passes_of rfl }
  kp := F.kp
  ar := fun as st hne => by unfold fnM; rw [if_neg hne]
/-- a def that isn't called so deep -/
theorem fnS_zero {fd : FuncData} {f : Addr} {ps : List Str} (hB : Binds K fd ps []) (kp : PySem.W.keepIn K (.ref f) = true) (k : Nat) : FnS P w K mg base k f ps (fun _ _ => .stuck) where
  ex := ⟨fd, ⟨fun vs H Q E hs => hs.1, fun A outer s H args us vs Q E _ _ _ _ hs => by obtain ⟨_, _, _, _, _, _, _, _, z⟩ := hs; exact z.elim⟩, hB⟩
  kp := kp
  ar := fun _ _ _ => rfl
/-- the law -/
theorem law_of {x qual : Str} {params : Arguments} {body : List Stmt} {scope : Scope} {f : Addr} {fd : FuncData} {N ps : List Str} {k : Nat} {m : MS} (F : FunD K x qual params body scope [] [] f fd) (S : FnScope N ps scope)
    (h : SB ⟨P, w, K, mg, base, N, scope, k, true, true, none⟩ (fun _ => true) body m) : FnOk P w K mg base CX0 (k + 1) f fd ps (fun vs H Q _ => spM K ps.length (fnM false ps.length N.length m) vs H Q E0) := by
  refine F.ok S (fun vs H Q E hs => hs.1) (fun cdv A outer s H vs Q E hr hs => ?_)
  obtain ⟨t, h1, h2⟩ := h.run W0
  refine ⟨t, PSs.nox (h2 _ ?_ (fun _ _ => rfl) takes0), body_ok (fun _ _ _ _ z => z) h1 hs⟩
  exact { prog := rfl, w := rfl, K := rfl, mg := rfl, base := rfl, N := rfl, sc := rfl, calm := fun _ => rfl, room := fun _ => hr, units := u100 hr, stk := fun _ => ⟨rfl, rfl⟩, hx := (fun _ _ _ z => nomatch z), nd := S.nd, own := PassesOwn.never }
/-- the law at a script, from its plain function -/
theorem law_sp {M : List A → Store → Res A} {H : Hp} {a : Addr} {ns : List Int} (hS : SqL K H a (ns.map V.int)) (h : ∃ st, M [.slst (ns.map A.int)] [] = .ok (.bl true) st) : spM K 1 M [.ref a] H (fun v _ => v = .bl true) E0 := by
  obtain ⟨st, h⟩ := h
  refine ⟨rfl, fun _ => none, H, [], [], [.slst (ns.map A.int)], ?_, .cons (.slst hS (Reps.ints ns)) .nil, ?_⟩
  · exact { zub := fun _ _ q => (by cases q), zf := fun _ _ q => (by cases q), zc := fun _ _ q => (by cases q), sub := fun _ _ q => q, len := rfl, cell := fun i c q => (by simp at q), inj := fun i j a c d q => (by simp at q) }
  · rw [h]
    intro F' μ' H' b e g r
    cases r; rfl
end
end SL

set_option Elab.async false
set_option linter.all false
set_option maxRecDepth 100000
set_option maxHeartbeats 4000000
/-! SLk: two stores at once. -/
namespace SL
open PySem PySem.Spec L2
open PyProof.Rows hiding St
section
variable {Γ : G} {fo : Str → Bool} {pos : Pos} {a b : Expr}
theorem sw_sub2 {o1 i1 o2 i2 : Expr} {p1 p2 pt pv : Pos} {k kv : Nat} (env : Env) : swappedStores [.Tuple [.Subscript o1 i1 p1, .Subscript o2 i2 p2] k pt] (.Tuple [a, b] kv pv) env = pure none := by
  simp only [swappedStores]
  by_cases h : (env.blockKind != ScopeKind.function) = true
  · simp [h]
  · simp [h]
def sSub2 (op : A → A → A → Store → Option Store) (ms : AEnv → Store → Res (List A)) (mo1 mi1 mo2 mi2 : AEnv → Store → Res A) : MS := fun env st => (ms env st).toS env fun as st1 => match as with
  | [v, w] => (mo1 env st1).toS env fun o1 st2 => (mi1 env st2).toS env fun i1 st3 => match op o1 i1 v st3 with
    | some st4 => (mo2 env st4).toS env fun o2 st5 => (mi2 env st5).toS env fun i2 st6 => match op o2 i2 w st6 with
      | some st7 => .nx env st7
      | none => .stuck
    | none => .stuck
  | _ => .stuck
def SubAss (o i : Expr) (sp : Pos) : Prop := ∀ env v, assign (.Subscript o i sp) env v = (do
      let ov ← holding [v] (eval o env)
      let iv ← holding [v, ov] (eval i env)
      standAt sp
      holding [v, ov, iv] (setItem ov iv v)
      release [v, ov, iv] [])
theorem st_sub2 {op : A → A → A → Store → Option Store} {o1 i1 o2 i2 : Expr} {ms : AEnv → Store → Res (List A)} {mo1 mi1 mo2 mi2 : AEnv → Store → Res A} {p1 p2 pt pv : Pos} {k kv : Nat} (hop : Cset op) (h : SA Γ [a, b] ms) (ho1 : SE Γ o1 mo1) (hi1 : SE Γ i1 mi1) (ho2 : SE Γ o2 mo2) (hi2 : SE Γ i2 mi2)
    (ha1 : SubAss o1 i1 p1 := by intro _ _; rfl) (ha2 : SubAss o2 i2 p2 := by intro _ _; rfl) (cm : Γ.calm = true := by rfl) :
    SS Γ fo (.Assign [.Tuple [.Subscript o1 i1 p1, .Subscript o2 i2 p2] k pt] (.Tuple [a, b] kv pv) pos) (sSub2 op ms mo1 mi1 mo2 mi2) :=
  ⟨fun W => by
    obtain ⟨r, h1, h2⟩ := hop.ex
    obtain ⟨t, s0, p0⟩ := h.run W
    obtain ⟨t1, s1, q1⟩ := ho1.run W
    obtain ⟨t2, s2, q2⟩ := hi1.run W
    obtain ⟨t3, s3, q3⟩ := ho2.run W
    obtain ⟨t4, s4, q4⟩ := hi2.run W
    refine ⟨tAsg (tTup t) (gTup Γ.K 2 (gCons (gSub t1 t2 (r Γ.K)) (gCons (gSub t3 t4 (r Γ.K)) gNil))), ?_, fun X c hf kk => ?_⟩
    · intro Z F μ st env σ H D g re hp
      unfold sSub2 at hp
      rw [Res.post_toS] at hp
      refine s0 Z F μ st env σ H _ g re (Res.post_mono hp (fun as st1 q => ?_) fun x st1 q F1 μ1 H1 d e1 g1 x1 => q F1 μ1 H1 σ d e1 g1 (re.mono e1) x1)
      intro F1 μ1 H1 vs e1 g1 rs
      split at q
      · rename_i v w
        obtain ⟨vv, wv, rfl, rv, rw'⟩ := rs.two
        refine ⟨by show 2 ≤ sizeLine; rw [sizeLine_eq]; decide, fun p hp => ⟨p, [vv, wv], rfl, SqT.of upd_same, rfl, ?_⟩⟩
        obtain ⟨g1', e1'⟩ := g1.known (p := p) (o := .tup [vv, wv]) hp
        have e01 := e1.trans e1'
        refine ⟨vv, [wv], rfl, ?_⟩
        rw [Res.post_toS] at q
        refine s1 Z _ μ1 st1 env σ _ _ g1' (re.mono e01) (Res.post_mono q (fun o1 st2 q => ?_) fun x st2 q F2 μ2 H2 d e2 g2 x1 => q F2 μ2 H2 σ d (e01.trans e2) g2 (re.mono (e01.trans e2)) x1)
        intro F2 μ2 H2 ov e2 g2 ro
        have e02 := e01.trans e2
        rw [Res.post_toS] at q
        refine s2 Z F2 μ2 st2 env σ H2 _ g2 (re.mono e02) (Res.post_mono q (fun i1 st3 q => ?_) fun x st3 q F3 μ3 H3 d e3 g3 x1 => q F3 μ3 H3 σ d (e02.trans e3) g3 (re.mono (e02.trans e3)) x1)
        intro F3 μ3 H3 iv e3 g3 ri
        have e03 := e02.trans e3
        cases eo : op o1 i1 v st3 with
        | none => rw [eo] at q; exact q.elim
        | some st4 =>
          rw [eo] at q
          dsimp only at q
          refine h2 Γ.K Z F3 μ3 st3 st4 H3 o1 i1 v ov iv vv _ g3 (ro.mono e3) ri (rv.mono (e1'.trans (e2.trans e3))) eo fun F4 H4 e4 g4 => ?_
          have e04 := e03.trans e4
          refine ⟨wv, [], rfl, ?_⟩
          rw [Res.post_toS] at q
          refine s3 Z F4 μ3 st4 env σ H4 _ g4 (re.mono e04) (Res.post_mono q (fun o2 st5 q => ?_) fun x st5 q F5 μ5 H5 d e5 g5 x1 => q F5 μ5 H5 σ d (e04.trans e5) g5 (re.mono (e04.trans e5)) x1)
          intro F5 μ5 H5 ov2 e5 g5 ro2
          have e05 := e04.trans e5
          rw [Res.post_toS] at q
          refine s4 Z F5 μ5 st5 env σ H5 _ g5 (re.mono e05) (Res.post_mono q (fun i2 st6 q => ?_) fun x st6 q F6 μ6 H6 d e6 g6 x1 => q F6 μ6 H6 σ d (e05.trans e6) g6 (re.mono (e05.trans e6)) x1)
          intro F6 μ6 H6 iv2 e6 g6 ri2
          have e06 := e05.trans e6
          cases eo2 : op o2 i2 w st6 with
          | none => rw [eo2] at q; exact q.elim
          | some st7 =>
            rw [eo2] at q
            refine h2 Γ.K Z F6 μ6 st6 st7 H6 o2 i2 w ov2 iv2 wv _ g6 (ro2.mono e6) ri2 (rw'.mono (e1'.trans (e2.trans (e3.trans (e4.trans (e5.trans e6)))))) eo2 fun F7 H7 e7 g7 => ?_
            exact ⟨rfl, KN.now ((show KN Γ.K Z F μ D.nx env st7 from q).ext (e06.trans e7)) g7 (re.mono (e06.trans e7))⟩
      · exact q.elim
    · rw [← c.K]
      exact ps_asg (pe_tup (p0 X c kk)) (pg_tup (c.calm cm) (pgs_cons (pg_sub (q1 X c kk) (q2 X c kk) (h1 Γ X c) (ha1 _)) (pgs_cons (pg_sub (q3 X c kk) (q4 X c kk) (h1 Γ X c) (ha2 _)) pgs_nil))) (hs := by rfl) (hw := sw_sub2 _) (h1 := by rfl)⟩
end
end SL

set_option Elab.async false
set_option linter.all false
set_option maxRecDepth 100000
set_option maxHeartbeats 4000000
/-! SLm: words for the plain functions. -/
namespace SL
open PySem PySem.Spec L2
open PyProof.Rows hiding St
section
variable {i j : Nat} {env : AEnv} {st : Store} {a b : A} {ma mb mc : AEnv → Store → Res A} {ms : AEnv → Store → Res (List A)} {p q : AEnv → Store → Res Bool}
@[simp] theorem eVar_ap : eVar i env st = match env[i]? with | some (some a) => .ok a st | _ => .stuck := (rfl)
@[simp] theorem eC_ap : eC a env st = .ok a st := (rfl)
@[simp] theorem eBin_ap {op : Op2} : eBin op ma mb env st = (ma env st).bind fun a st1 => (mb env st1).bind fun b st2 => Res.of (op a b st2) := (rfl)
@[simp] theorem eUn_ap {op : Op1} : eUn op ma env st = (ma env st).bind fun a st1 => Res.of (op a st1) := (rfl)
@[simp] theorem aNil_ap : aNil env st = .ok [] st := (rfl)
@[simp] theorem aCons_ap : aCons ma ms env st = (ma env st).bind fun a st1 => (ms env st1).bind fun as st2 => .ok (a :: as) st2 := (rfl)
@[simp] theorem eTup_ap : eTup ms env st = (ms env st).bind fun xs st1 => if xs.length ≤ sizeLine then .ok (.tup xs) st1 else .stuck := (rfl)
@[simp] theorem eLst_ap {mk : Bool} : eLst mk ms env st = (ms env st).bind fun xs st1 => if xs.length ≤ sizeLine then .ok (newL mk xs st1).1 (newL mk xs st1).2 else .stuck := (rfl)
@[simp] theorem newL_t {xs : List A} : newL true xs st = (.cell st.length, st ++ [.lst xs]) := (rfl)
@[simp] theorem newL_f {xs : List A} : newL false xs st = (.lst xs, st) := (rfl)
@[simp] theorem eCB_ap {op : OpN} : eCB op ms env st = (ms env st).bind fun xs st1 => Res.of (op xs st1) := (rfl)
@[simp] theorem one1_ap {op : Op1} : one1 op [a] st = op a st := (rfl)
@[simp] theorem two2_ap {op : Op2} : two2 op [a, b] st = op a b st := (rfl)
@[simp] theorem eCall_ap {M : List A → Store → Res A} : eCall M ms env st = (ms env st).bind fun as st1 => M as st1 := (rfl)
@[simp] theorem eM_ap {T : String} {op : A → OpN} : eM T op ma ms env st = (ma env st).bind fun a st1 => if tyVA T a st1 then (ms env st1).bind fun as st2 => Res.of (op a as st2) else .stuck := (rfl)
@[simp] theorem tOf_ap : tOf ma env st = (ma env st).bind asB := (rfl)
@[simp] theorem asB_bl {k : Bool} : asB (.bl k) st = .ok k st := (rfl)
@[simp] theorem tTru_ap : tTru ma env st = (ma env st).bind fun a st1 => match truA st1 a with | some b => .ok b st1 | none => .stuck := (rfl)
@[simp] theorem tAndM_ap : tAndM p q env st = (p env st).bind fun c st1 => if c then q env st1 else .ok false st1 := (rfl)
@[simp] theorem tOrM_ap : tOrM p q env st = (p env st).bind fun c st1 => if c then .ok true st1 else q env st1 := (rfl)
@[simp] theorem tNotM_ap : tNotM p env st = (p env st).bind fun c st1 => .ok (!c) st1 := (rfl)
@[simp] theorem tYesM_ap : tYesM env st = .ok true st := (rfl)
@[simp] theorem eAndV_ap : eAndV ma mb env st = (ma env st).bind fun a st1 => (asB a st1).bind fun c st2 => if c then mb env st2 else .ok (.bl false) st2 := (rfl)
@[simp] theorem eOrV_ap : eOrV ma mb env st = (ma env st).bind fun a st1 => (asB a st1).bind fun c st2 => if c then .ok (.bl true) st2 else mb env st2 := (rfl)
@[simp] theorem eNotV_ap : eNotV ma env st = (ma env st).bind fun a st1 => (asB a st1).bind fun c st2 => .ok (.bl (!c)) st2 := (rfl)
@[simp] theorem eIf_ap : eIf p ma mb env st = (p env st).bind fun c st1 => if c then ma env st1 else mb env st1 := (rfl)
@[simp] theorem eSl_ap {mk : Bool} {ml mh : AEnv → Store → Res (Option Int)} : eSl mk ma ml mh env st = (ma env st).bind fun a st1 => (ml env st1).bind fun lo st2 => (mh env st2).bind fun hi st3 => Res.of (slOp mk a lo hi st3) := (rfl)
@[simp] theorem oNone_ap : oNone env st = .ok none st := (rfl)
@[simp] theorem oSome_ap : oSome ma env st = (ma env st).bind fun a st1 => match a with | .int i => .ok (some i) st1 | _ => .stuck := (rfl)
@[simp] theorem eIsiT_ap : eIsiT ma ms env st = (ma env st).bind fun a st1 => (ms env st1).bind fun cs st2 =>
  if cs.length ≤ sizeLine then Res.of ((tyName a st2).bind fun n => (isiTys n cs).map fun b => (.bl b, st2)) else .stuck := (rfl)
@[simp] theorem mSeq_ap : mSeq ma env st = (ma env st).bind fun a st1 => match seqR a st1 with | some xs => .ok (xs, srcOf a xs) st1 | none => .stuck := (rfl)
@[simp] theorem eLc_ap {mk : Bool} {mi : MI} {g : MG} {own : List Nat} : eLc mk mi g own p ma env st = (mi env st).bind fun r st1 =>
  (lcL r.2 r.1 g p ma (wipeA env own) r.1 [] st1).bind fun acc st2 => .ok (newL mk acc st2).1 (newL mk acc st2).2 := (rfl)
@[simp] theorem gN_ap : gN i a env = some (env.set i (some a)) := (rfl)
@[simp] theorem wipeA_nil : wipeA env [] = env := (rfl)
@[simp] theorem wipeA_cons {vs : List Nat} : wipeA env (i :: vs) = (wipeA env vs).set i none := (rfl)
variable {x y : MS} {g : MG}
@[simp] theorem sNil_ap : sNil env st = .nx env st := (rfl)
@[simp] theorem sSeq_ap : sSeq x y env st = (x env st).bind y := (rfl)
@[simp] theorem sAsg_ap : sAsg g ma env st = (ma env st).toS env fun a st1 => match g a env with | some env1 => .nx env1 st1 | none => .stuck := (rfl)
@[simp] theorem sEx_ap : sEx ma env st = (ma env st).toS env fun _ st1 => .nx env st1 := (rfl)
@[simp] theorem sRet_ap : sRet ma env st = (ma env st).toS env fun a st1 => .rt a st1 := (rfl)
@[simp] theorem sRetN_ap : sRetN env st = .rt .non st := (rfl)
@[simp] theorem sIf_ap : sIf p x y env st = (p env st).toS env fun c st1 => if c then x env st1 else y env st1 := (rfl)
@[simp] theorem sBk_ap : sBk env st = .bk env st := (rfl)
@[simp] theorem sCt_ap : sCt env st = .ct env st := (rfl)
@[simp] theorem sFor_ap {mi : MI} : sFor mi g x env st = (mi env st).toS env fun r st1 => forL r.2 r.1 g x r.1 env st1 := (rfl)
@[simp] theorem sAug_ap {op : Op2} : sAug i op ma env st = match env[i]? with
  | some (some a) => (ma env st).toS env fun b st1 => match op a b st1 with
    | some (c, st2) => .nx (env.set i (some c)) st2
    | none => .stuck
  | _ => .stuck := (rfl)
@[simp] theorem sSub_ap {op : A → A → A → Store → Option Store} : sSub op ma mb mc env st = (ma env st).toS env fun v st1 => (mb env st1).toS env fun o st2 => (mc env st2).toS env fun i st3 => match op o i v st3 with
  | some st4 => .nx env st4
  | none => .stuck := (rfl)
@[simp] theorem sSub2_ap {op : A → A → A → Store → Option Store} {mo1 mi1 mo2 mi2 : AEnv → Store → Res A} : sSub2 op ms mo1 mi1 mo2 mi2 env st = (ms env st).toS env fun as st1 => match as with
  | [v, w] => (mo1 env st1).toS env fun o1 st2 => (mi1 env st2).toS env fun i1 st3 => match op o1 i1 v st3 with
    | some st4 => (mo2 env st4).toS env fun o2 st5 => (mi2 env st5).toS env fun i2 st6 => match op o2 i2 w st6 with
      | some st7 => .nx env st7
      | none => .stuck
    | none => .stuck
  | _ => .stuck := (rfl)
@[simp] theorem sPar_ap : sPar i j ms env st = (ms env st).toS env fun as st1 => match as with
  | [a, b] => .nx ((env.set i (some a)).set j (some b)) st1
  | _ => .stuck := (rfl)
/-! operations upon what they fit -/
@[simp] theorem addOp_ii {mk : Bool} {m n : Int} : addOp mk (.int m) (.int n) st = some (.int (m + n), st) := (rfl)
@[simp] theorem subOp_ii {m n : Int} : subOp (.int m) (.int n) st = some (.int (m - n), st) := (rfl)
@[simp] theorem addI_ii {m n : Int} : addI (.int m) (.int n) st = some (.int (m + n), st) := (rfl)
@[simp] theorem negOp_i {m : Int} : negOp (.int m) st = some (.int (-m), st) := (rfl)
theorem mulOp_ii {mk : Bool} {m n : Int} (h : CMulW m n) : mulOp mk (.int m) (.int n) st = some (.int (m * n), st) := by
  simp [mulOp, mulI, iiOp, gd, h]
theorem modOp_ii {m n : Int} (h : n ≠ 0) : modOp (.int m) (.int n) st = some (.int (m.fmod n), st) := by
  simp [modOp, iiOp, gd, h]
theorem fdivOp_ii {m n : Int} (h : CDivN m n) : fdivOp (.int m) (.int n) st = some (.int (m.fdiv n), st) := by
  simp [fdivOp, fdivN, iiOp, gd, h]
theorem fdivOp_L {m n : Int} (h : n ≠ 0) (h2 : n.natAbs.log2 < 9000) : fdivOp (.int m) (.int n) st = some (.int (m.fdiv n), st) := by
  by_cases c : CDivN m n
  · exact fdivOp_ii c
  · have c2 : CDivL m n := ⟨h, h2⟩
    simp [fdivOp, fdivN, fdivW, iiOp, gd, c, c2]
theorem powOp_ii {m n : Int} (h : CPow m n) : powOp (.int m) (.int n) st = some (.int (m ^ n.toNat), st) := by
  simp [powOp, iiOp, gd, h]
@[simp] theorem ltOp_ii {m n : Int} : ltOp (.int m) (.int n) st = some (.bl (decide (m < n)), st) := (rfl)
@[simp] theorem leOp_ii {m n : Int} : leOp (.int m) (.int n) st = some (.bl (decide (m ≤ n)), st) := (rfl)
@[simp] theorem gtOp_ii {m n : Int} : gtOp (.int m) (.int n) st = some (.bl (decide (n < m)), st) := (rfl)
@[simp] theorem geOp_ii {m n : Int} : geOp (.int m) (.int n) st = some (.bl (decide (n ≤ m)), st) := (rfl)
@[simp] theorem eqOp_ii {m n : Int} : eqOp (.int m) (.int n) st = some (.bl (decide (m = n)), st) := (rfl)
@[simp] theorem neOp_ii {m n : Int} : neOp (.int m) (.int n) st = some (.bl (!decide (m = n)), st) := (rfl)
@[simp] theorem eqOp_ss {m n : Str} : eqOp (.str m) (.str n) st = some (.bl (decide (m = n)), st) := (rfl)
@[simp] theorem neOp_ss {m n : Str} : neOp (.str m) (.str n) st = some (.bl (!decide (m = n)), st) := (rfl)
@[simp] theorem absA_i {m : Int} : absA (.int m) st = some (.int (if m < 0 then -m else m), st) := (rfl)
@[simp] theorem intA_i {m : Int} : intA (.int m) st = some (.int m, st) := (rfl)
@[simp] theorem intA_b {k : Bool} : intA (.bl k) st = some (.int (if k then 1 else 0), st) := (rfl)
@[simp] theorem truA_b {k : Bool} : truA st (.bl k) = some k := (rfl)
@[simp] theorem truA_i {m : Int} : truA st (.int m) = some (m != 0) := (rfl)
variable {xs ys : List A}
@[simp] theorem seqR_lst : seqR (.lst xs) st = some xs := (rfl)
@[simp] theorem seqR_slst : seqR (.slst xs) st = some xs := (rfl)
@[simp] theorem seqR_tup : seqR (.tup xs) st = some xs := (rfl)
theorem seqR_cell {c : Nat} (h : st[c]? = some (.lst xs)) : seqR (.cell c) st = some xs := by simp [seqR, tupR, lstR, lstH, h]
@[simp] theorem srcOf_lst {ys : List A} : srcOf (.lst xs) ys = none := (rfl)
@[simp] theorem srcOf_slst {ys : List A} : srcOf (.slst xs) ys = none := (rfl)
@[simp] theorem srcOf_tup {ys : List A} : srcOf (.tup xs) ys = none := (rfl)
@[simp] theorem truA_lst : truA st (.lst xs) = some (!xs.isEmpty) := (rfl)
@[simp] theorem truA_tup : truA st (.tup xs) = some (!xs.isEmpty) := (rfl)
@[simp] theorem lenA_lst : lenA (.lst xs) st = some (.int xs.length, st) := (rfl)
@[simp] theorem lenA_slst : lenA (.slst xs) st = some (.int xs.length, st) := (rfl)
@[simp] theorem lenA_tup : lenA (.tup xs) st = some (.int xs.length, st) := (rfl)
theorem lenA_cell {c : Nat} (h : st[c]? = some (.lst xs)) : lenA (.cell c) st = some (.int xs.length, st) := by simp [lenA, seqR_cell h]
@[simp] theorem listA_lst {mk : Bool} : listA mk (.lst xs) st = some (newL mk xs st) := (rfl)
@[simp] theorem listA_tup {mk : Bool} : listA mk (.tup xs) st = some (newL mk xs st) := (rfl)
@[simp] theorem listA_slst {mk : Bool} : listA mk (.slst xs) st = some (newL mk xs st) := (rfl)
theorem listA_cell {mk : Bool} {c : Nat} (h : st[c]? = some (.lst xs)) : listA mk (.cell c) st = some (newL mk xs st) := by simp [listA, seqR_cell h]
@[simp] theorem tupleA_lst : tupleA (.lst xs) st = some (.tup xs, st) := (rfl)
@[simp] theorem tupleA_tup : tupleA (.tup xs) st = some (.tup xs, st) := (rfl)
theorem tupleA_cell {c : Nat} (h : st[c]? = some (.lst xs)) : tupleA (.cell c) st = some (.tup xs, st) := by simp [tupleA, lstR, lstH, h]
theorem ixOp_at {a : A} {k : Int} {v : A} (h : seqR a st = some xs) (h2 : atI xs k = some v) : ixOp a (.int k) st = some (v, st) := by simp [ixOp, ixL, h, h2]
theorem atI_of {α : Type} {l : List α} {k : Int} {v : α} (h0 : 0 ≤ k) (h : l[k.toNat]? = some v) : atI l k = some v := by
  have : ((k.toNat : Nat) : Int) = k := Int.toNat_of_nonneg h0
  rw [← this]
  exact atI_nat h
/-! cells -/
@[simp] theorem get_app_len {c : C} {l : List C} {n : Nat} (h : n = st.length) : (st ++ c :: l)[n]? = some c := by subst h; simp
theorem cellL_ok' {c : Nat} (h : st[c]? = some (.lst xs)) : cellL (.cell c) st = some (c, xs) := by simp [cellL, h]
theorem tyVA_cell {c : Nat} (h : st[c]? = some (.lst xs)) : tyVA "list" (.cell c) st = true := by simp [tyVA, lstR, lstH, h]
theorem appendM_c {c : Nat} {v : A} (h : st[c]? = some (.lst xs)) (hl : xs.length < sizeLine) : appendM (.cell c) [v] st = some (.non, st.set c (.lst (xs ++ [v]))) := by simp [appendM, cellL_ok' h, hl]
theorem popM_c {c : Nat} {v : A} (h : st[c]? = some (.lst (xs ++ [v]))) : popM (.cell c) [] st = some (v, st.set c (.lst xs)) := by simp [popM, cellL_ok' h]
theorem popM_at {c : Nat} {k : Int} {v : A} (h : st[c]? = some (.lst xs)) (h0 : 0 ≤ k) (h1 : k < 2 ^ 63) (hv : xs[k.toNat]? = some v) : popM (.cell c) [.int k] st = some (v, st.set c (.lst (xs.eraseIdx k.toNat))) := by
  have hl : k.toNat < xs.length := (List.getElem?_eq_some_iff.mp hv).1
  have hi : seqIndex? k xs.length = some k.toNat := by
    unfold seqIndex?
    have h2 : ¬ k < 0 := by omega
    have h3 : k < xs.length := by omega
    simp [h2, h3, h0]
  simp only [popM, cellL_ok' h]
  rw [if_pos ⟨by omega, h1⟩, hi]
  simp [hv]
theorem reverseM_c {c : Nat} (h : st[c]? = some (.lst xs)) : reverseM (.cell c) [] st = some (.non, st.set c (.lst xs.reverse)) := by simp [reverseM, cellL_ok' h]
theorem setL_c {c : Nat} {k : Int} {v : A} (h : st[c]? = some (.lst xs)) (h0 : 0 ≤ k) (h1 : k < xs.length) : setL (.cell c) (.int k) v st = some (st.set c (.lst (xs.set k.toNat v))) := by
  simp [setL, cellL_ok' h, ixN, h0, h1]
/-! ranges -/
theorem mRng1_ap {m : Int} (h : (ms env st) = .ok [.int m] st) (h1 : -(2 ^ 62) ≤ m) (h2 : m < 2 ^ 62) : mRng1 ms env st = .ok (rgA 0 m, none) st := by
  simp only [mRng1, h, Res.bind_ok]; rw [if_pos ⟨h1, h2⟩]
theorem mRng2_ap {m n : Int} (h : (ms env st) = .ok [.int m, .int n] st) (h1 : -(2 ^ 62) ≤ m) (h2 : m < 2 ^ 62) (h3 : -(2 ^ 62) ≤ n) (h4 : n < 2 ^ 62) : mRng2 ms env st = .ok (rgA m n, none) st := by
  simp only [mRng2, h, Res.bind_ok]; rw [if_pos ⟨h1, h2, h3, h4⟩]
theorem rgA_nat (n : Nat) : rgA 0 (n : Int) = (List.range n).map fun i => A.int ((i : Nat) : Int) := by
  unfold rgA
  simp
theorem rgA_ints (n : Nat) : rgA 0 (n : Int) = ((List.range n).map fun i => ((i : Nat) : Int)).map A.int := by
  rw [rgA_nat, List.map_map]; rfl
/-! a def's end -/
theorem okS_same {st : Store} : okS st.length st st := fun _ _ => .inl rfl
theorem okS_app {l : List C} : okS st.length st (st ++ l) := fun i hi => .inl (List.getElem?_append_left hi)
theorem okS_set {c : Nat} {k : C} {l : List C} (h : k.bel st.length = true) : okS st.length st (st.set c k ++ l) := fun i hi => by
  rw [List.getElem?_append_left (by rw [List.length_set]; exact hi)]
  by_cases e : c = i
  · subst e; exact .inr ⟨k, by rw [List.getElem?_set_self hi], h⟩
  · exact .inl (List.getElem?_set_ne e)
@[simp] theorem bel_ints (n : Nat) (l : List Int) : belowL n (l.map A.int) = true := by
  induction l with
  | nil => rfl
  | cons x l ih => rw [List.map_cons, belowL, ih]; simp [A.bel]
/-- a value without cells goes out, nothing else changed -/
theorem finA_pure {rc : Bool} {a : A} {l : List C} (h : a.bel st.length = true) (hc : ∀ c, a ≠ .cell c) : finA rc st.length st a (st ++ l) = .ok a st := by
  have gen : (match frzA st.length 8 a (st ++ l) with | some (b, st1) => if b.bel st.length = true ∧ okS st.length st st1 then Res.ok b (st1.take st.length) else .stuck | none => .stuck : Res A) = .ok a st := by
    have e : frzA st.length 8 a (st ++ l) = some (a, st ++ l) := by unfold frzA; rw [if_pos h]
    rw [e]
    dsimp only
    rw [if_pos ⟨h, okS_app⟩]
    simp
  cases rc with
  | false => exact gen
  | true =>
    cases a with
    | cell c => exact absurd rfl (hc c)
    | _ => exact gen
/-- the same where the caller's cell c was written -/
theorem finA_set {rc : Bool} {a : A} {l : List C} {c : Nat} {k : C} (h : a.bel st.length = true) (hc : ∀ c, a ≠ .cell c) (hk : k.bel st.length = true) : finA rc st.length st a (st.set c k ++ l) = .ok a (st.set c k) := by
  have gen : (match frzA st.length 8 a (st.set c k ++ l) with | some (b, st1) => if b.bel st.length = true ∧ okS st.length st st1 then Res.ok b (st1.take st.length) else .stuck | none => .stuck : Res A) = .ok a (st.set c k) := by
    have e : frzA st.length 8 a (st.set c k ++ l) = some (a, st.set c k ++ l) := by unfold frzA; rw [if_pos h]
    rw [e]
    dsimp only
    rw [if_pos ⟨h, okS_set hk⟩]
    congr 1
    have : st.length = (st.set c k).length := by simp
    rw [this, List.take_left]
  cases rc with
  | false => exact gen
  | true =>
    cases a with
    | cell c => exact absurd rfl (hc c)
    | _ => exact gen
/-- a new list goes out as data -/
theorem finA_lst {l : List C} {n : Nat} {zs : List A} (hn : st.length ≤ n) (h : (st ++ l)[n]? = some (.lst zs)) (hb : belowL st.length zs = true) : finA false st.length st (.cell n) (st ++ l) = .ok (.lst zs) st := by
  have hnb : A.bel st.length (.cell n) = false := by simp [A.bel]; omega
  have e2 : ∀ (k : Nat) (ys : List A) (s : Store), belowL st.length ys = true → frzL (frzA st.length k) ys s = some (ys, s) := by
    intro k ys
    induction ys with
    | nil => intro s _; rfl
    | cons y ys ih =>
      intro s hb
      rw [belowL, Bool.and_eq_true] at hb
      unfold frzL
      have e : frzA st.length k y s = some (y, s) := by cases k <;> (unfold frzA; rw [if_pos hb.1])
      rw [e]
      dsimp only
      rw [ih s hb.2]
  have e : frzA st.length 8 (.cell n) (st ++ l) = some (.lst zs, (st ++ l).set n .dead) := by
    unfold frzA
    rw [if_neg (by rw [hnb]; decide)]
    dsimp only
    rw [h]
    dsimp only
    rw [e2 _ _ _ hb]
    rfl
  unfold finA
  dsimp only
  rw [e]
  dsimp only
  have hs : (st ++ l).set n .dead = st ++ l.set (n - st.length) .dead := by rw [List.set_append_right _ _ hn]
  rw [hs, if_pos ⟨by simp only [A.bel]; exact hb, okS_app⟩]
  simp
end
/-! ### loops -/
/-- by an invariant over the turns; the end is told by P -/
theorem forL_post {src : Src} {all : List A} {g : MG} {body : MS} {P : SPost} (I : Nat → AEnv → Store → Prop) (hsrc : ∀ i e s, I i e s → srcOk src all s) : ∀ (xs : List A) (k : Nat) (env : AEnv) (st : Store), I k env st →
    (∀ i x e s, xs[i]? = some x → I (k + i) e s → ∃ e1, g x e = some e1 ∧ (body e1 s).post { nx := I (k + i + 1), ct := I (k + i + 1), bk := P.nx, rt := P.rt, ex := P.ex }) →
    (∀ e s, I (k + xs.length) e s → P.nx e s) → (forL src all g body xs env st).post P
  | [], k, env, st, h0, hs, hd => by
    rw [forL, if_pos (hsrc _ _ _ h0)]
    exact hd _ _ h0
  | x :: xs, k, env, st, h0, hs, hd => by
    rw [forL, if_pos (hsrc _ _ _ h0)]
    obtain ⟨e1, h1, h2⟩ := hs 0 x env st rfl h0
    rw [h1]
    dsimp only
    have ih := forL_post (g := g) (body := body) (P := P) I hsrc xs (k + 1)
    have hs' : ∀ i y e s, xs[i]? = some y → I (k + 1 + i) e s → ∃ e1, g y e = some e1 ∧ (body e1 s).post { nx := I (k + 1 + i + 1), ct := I (k + 1 + i + 1), bk := P.nx, rt := P.rt, ex := P.ex } := fun i y e s hy hi => by
      have := hs (i + 1) y e s (by rw [List.getElem?_cons_succ]; exact hy) (by rw [show k + (i + 1) = k + 1 + i by omega]; exact hi)
      rw [show k + (i + 1) + 1 = k + 1 + i + 1 by omega] at this
      exact this
    have hd' : ∀ e s, I (k + 1 + xs.length) e s → P.nx e s := fun e s h => hd e s (by rw [List.length_cons, show k + (xs.length + 1) = k + 1 + xs.length by omega]; exact h)
    cases eb : body e1 st with
    | nx e s => rw [eb] at h2; exact ih e s h2 hs' hd'
    | ct e s => rw [eb] at h2; exact ih e s h2 hs' hd'
    | bk e s => rw [eb] at h2; exact h2
    | rt a s => rw [eb] at h2; exact h2
    | exc x e s => rw [eb] at h2; exact h2
    | stuck => rw [eb] at h2; exact h2.elim
/-- a loop that runs through -/
theorem forL_inv {all : List A} {g : MG} {body : MS} {xs : List A} {env : AEnv} {st : Store} (I : Nat → AEnv → Store → Prop) (h0 : I 0 env st)
    (hs : ∀ i x e s, xs[i]? = some x → I i e s → ∃ e1, g x e = some e1 ∧ ∃ e2 s2, (body e1 s = .nx e2 s2 ∨ body e1 s = .ct e2 s2) ∧ I (i + 1) e2 s2) : ∃ e s, forL none all g body xs env st = .nx e s ∧ I xs.length e s := by
  have h := forL_post (src := none) (all := all) (g := g) (body := body) (P := ⟨fun e s => I xs.length e s, fun _ _ => False, fun _ _ => False, fun _ _ => False, fun _ _ _ => False⟩) I (fun _ _ _ _ => trivial) xs 0 env st h0
    (fun i x e s hx hi => by
      rw [Nat.zero_add] at hi ⊢
      obtain ⟨e1, h1, e2, s2, h2, h3⟩ := hs i x e s hx hi
      refine ⟨e1, h1, ?_⟩
      rcases h2 with h2 | h2 <;> rw [h2] <;> exact h3)
    (fun e s h => by rw [Nat.zero_add] at h; exact h)
  cases e : forL none all g body xs env st with
  | nx e' s => rw [e] at h; exact ⟨e', s, rfl, h⟩
  | ct e' s => rw [e] at h; exact h.elim
  | bk e' s => rw [e] at h; exact h.elim
  | rt a s => rw [e] at h; exact h.elim
  | exc x e' s => rw [e] at h; exact h.elim
  | stuck => rw [e] at h; exact h.elim
/-- a comprehension that maps -/
theorem lcL_map {all : List A} {g : MG} {me : AEnv → Store → Res A} {mt : AEnv → Store → Res Bool} {env0 : AEnv} {st : Store} (t : A → Bool) (f : A → A) : ∀ (xs acc : List A), (∀ x ∈ xs, ∃ e1, g x env0 = some e1 ∧ mt e1 st = .ok (t x) st ∧ (t x = true → me e1 st = .ok (f x) st)) →
    acc.length + xs.length ≤ sizeLine → lcL none all g mt me env0 xs acc st = .ok (acc ++ (xs.filter t).map f) st
  | [], acc, _, _ => by rw [lcL, if_pos (show srcOk none all st from trivial)]; simp
  | x :: xs, acc, h, hl => by
    rw [lcL, if_pos (show srcOk none all st from trivial)]
    obtain ⟨e1, h1, h2, h3⟩ := h x (by simp)
    rw [h1]
    dsimp only
    rw [h2]
    simp only [noX_ok, Res.bind_ok]
    rw [List.length_cons] at hl
    cases ht : t x with
    | true =>
      rw [if_pos rfl, h3 ht]
      simp only [noX_ok, Res.bind_ok]
      rw [if_pos (by omega), lcL_map t f xs (acc ++ [f x]) (fun y hy => h y (by simp [hy])) (by simp; omega)]
      simp [ht]
    | false =>
      rw [if_neg Bool.false_ne_true, lcL_map t f xs acc (fun y hy => h y (by simp [hy])) (by omega)]
      simp [ht]
/-- a while, by a measure -/
theorem whL_inv {p : AEnv → Store → Res Bool} {body : MS} {P : SPost} (I : Nat → AEnv → Store → Prop)
    (hs : ∀ m e s, I m e s → ∃ c, p e s = .ok c s ∧ (c = true → ∃ n, m = n + 1 ∧ (body e s).post { nx := I n, ct := I n, bk := P.nx, rt := P.rt, ex := P.ex }) ∧ (c = false → P.nx e s)) : ∀ (k m : Nat) (env : AEnv) (st : Store), m < k → I m env st → (whL p body k env st).post P
  | 0, m, _, _, h, _ => absurd h (Nat.not_lt_zero _)
  | k + 1, m, env, st, h, h0 => by
    rw [whL]
    obtain ⟨c, h1, h2, h3⟩ := hs m env st h0
    rw [h1]
    simp only [Res.toS_ok]
    cases c with
    | false => rw [if_neg Bool.false_ne_true]; exact h3 rfl
    | true =>
      rw [if_pos rfl]
      obtain ⟨n, rfl, h4⟩ := h2 rfl
      cases eb : body env st with
      | nx e s => rw [eb] at h4; exact whL_inv I hs k n e s (by omega) h4
      | ct e s => rw [eb] at h4; exact whL_inv I hs k n e s (by omega) h4
      | bk e s => rw [eb] at h4; exact h4
      | rt a s => rw [eb] at h4; exact h4
      | exc x e s => rw [eb] at h4; exact h4
      | stuck => rw [eb] at h4; exact h4.elim
end SL
namespace SL
open PySem PySem.Spec L2
open PyProof.Rows hiding St
/-- it goes on to the next turn -/
def NxP (r : SRes) (P : AEnv → Store → Prop) : Prop := match r with
  | .nx e s => P e s
  | .ct e s => P e s
  | _ => False
@[simp] theorem NxP_nx {e : AEnv} {s : Store} {P : AEnv → Store → Prop} : NxP (.nx e s) P = P e s := (rfl)
@[simp] theorem NxP_ct {e : AEnv} {s : Store} {P : AEnv → Store → Prop} : NxP (.ct e s) P = P e s := (rfl)
theorem NxP.of {r : SRes} {P : AEnv → Store → Prop} (h : NxP r P) : ∃ e s, (r = .nx e s ∨ r = .ct e s) ∧ P e s := by
  cases r with
  | nx e s => exact ⟨e, s, .inl rfl, h⟩
  | ct e s => exact ⟨e, s, .inr rfl, h⟩
  | _ => exact h.elim
/-- a loop that runs through -/
theorem for_inv {all : List A} {g : MG} {body : MS} {xs : List A} {env : AEnv} {st : Store} (I : Nat → AEnv → Store → Prop) (h0 : I 0 env st)
    (hs : ∀ i x e s, xs[i]? = some x → I i e s → ∃ e1, g x e = some e1 ∧ NxP (body e1 s) (I (i + 1))) : ∃ e s, forL none all g body xs env st = .nx e s ∧ I xs.length e s :=
  forL_inv I h0 fun i x e s hx hi => by
    obtain ⟨e1, h1, h2⟩ := hs i x e s hx hi
    obtain ⟨e2, s2, h3, h4⟩ := h2.of
    exact ⟨e1, h1, e2, s2, h3, h4⟩
end SL
namespace SL
open PySem PySem.Spec L2
open PyProof.Rows hiding St
/-- one new cell goes out -/
theorem finA_cell {st : Store} {l : List C} {n : Nat} {c : C} (hn : st.length ≤ n) (h : (st ++ l)[n]? = some c) (hl : c.live = true) (hb : c.bel st.length = true) : finA true st.length st (.cell n) (st ++ l) = .ok (.cell st.length) (st ++ [c]) := by
  unfold finA
  dsimp only
  rw [if_pos hn, h]
  dsimp only
  rw [if_pos ⟨hl, hb, okS_app⟩]
  simp
/-- a def's call, by its body -/
theorem fnM_rt {rc : Bool} {np ns : Nat} {body : MS} {as : List A} {st st' : Store} {a b : A} {s : Store} (hl : as.length = np) (hb : body (as.map some ++ List.replicate (ns - np) none) st = .rt a st') (hf : finA rc st.length st a st' = .ok b s) : fnM rc np ns body as st = .ok b s := by
  unfold fnM
  rw [if_pos hl, hb]
  exact hf
theorem fnM_nx {rc : Bool} {np ns : Nat} {body : MS} {as : List A} {st st' : Store} {e : AEnv} {b : A} {s : Store} (hl : as.length = np) (hb : body (as.map some ++ List.replicate (ns - np) none) st = .nx e st') (hf : finA false st.length st .non st' = .ok b s) : fnM rc np ns body as st = .ok b s := by
  unfold fnM
  rw [if_pos hl, hb]
  exact hf
end SL

set_option Elab.async false
set_option linter.all false
set_option maxRecDepth 100000
set_option maxHeartbeats 4000000
/-! SLn: lists of numbers; equal data. -/
namespace SL
open PySem PySem.Spec L2
open PyProof.Rows hiding St
abbrev ti (l : List Int) : A := .tup (l.map A.int)
abbrev lI (l : List Int) : A := .lst (l.map A.int)
theorem rgA_intsG (a b : Int) : rgA a b = ((List.range (b - a).toNat).map fun i => a + ((i : Nat) : Int)).map A.int := by
  unfold rgA; rw [List.map_map]; rfl
theorem get_getD {l : List Int} {k : Nat} (h : k < l.length) : (l.map A.int)[k]? = some (.int (l.getD k 0)) := by
  rw [List.getElem?_map, List.getElem?_eq_getElem h, List.getD_eq_getElem?_getD, List.getElem?_eq_getElem h]; rfl
theorem ix_ints {st : Store} {a : A} {l : List Int} {k : Int} (h : seqR a st = some (l.map A.int)) (h0 : 0 ≤ k) (h1 : k < l.length) : ixOp a (.int k) st = some (.int (l.getD k.toNat 0), st) :=
  ixOp_at h (atI_of h0 (get_getD (by omega)))
theorem ix_ti {st : Store} {l : List Int} {k : Int} (h0 : 0 ≤ k) (h1 : k < l.length) : ixOp (.tup (l.map A.int)) (.int k) st = some (.int (l.getD k.toNat 0), st) := ix_ints rfl h0 h1
theorem ix_lI {st : Store} {l : List Int} {k : Int} (h0 : 0 ≤ k) (h1 : k < l.length) : ixOp (.lst (l.map A.int)) (.int k) st = some (.int (l.getD k.toNat 0), st) := ix_ints rfl h0 h1
theorem ix_li {st : Store} {c : Nat} {l : List Int} {k : Int} (h : st[c]? = some (.lst (l.map A.int))) (h0 : 0 ≤ k) (h1 : k < l.length) : ixOp (.cell c) (.int k) st = some (.int (l.getD k.toNat 0), st) := ix_ints (seqR_cell h) h0 h1
theorem appendM_li {st : Store} {c : Nat} {l : List Int} {v : Int} (h : st[c]? = some (.lst (l.map A.int))) (hl : l.length < sizeLine) : appendM (.cell c) [.int v] st = some (.non, st.set c (.lst ((l ++ [v]).map A.int))) := by
  rw [appendM_c h (by simpa using hl)]; simp
theorem setL_li {st : Store} {c : Nat} {l : List Int} {k v : Int} (h : st[c]? = some (.lst (l.map A.int))) (h0 : 0 ≤ k) (h1 : k < l.length) : setL (.cell c) (.int k) (.int v) st = some (st.set c (.lst ((l.set k.toNat v).map A.int))) := by
  rw [setL_c h h0 (by simpa using h1)]; simp
theorem eraseIdx_mapA : ∀ (l : List Int) (k : Nat), (l.map A.int).eraseIdx k = (l.eraseIdx k).map A.int
  | [], _ => by simp
  | x :: l, 0 => by simp
  | x :: l, k + 1 => by simp [eraseIdx_mapA l k]
theorem popM_li {st : Store} {c : Nat} {k : Int} {l : List Int} (h : st[c]? = some (.lst (l.map A.int))) (h0 : 0 ≤ k) (h1 : k < l.length) (h2 : l.length < 2 ^ 62) : popM (.cell c) [.int k] st = some (.int (l.getD k.toNat 0), st.set c (.lst ((l.eraseIdx k.toNat).map A.int))) := by
  rw [popM_at h h0 (by omega) (get_getD (l := l) (by omega)), eraseIdx_mapA]
/-! data without cells -/
theorem belowL_all {n : Nat} : ∀ {xs : List A}, (∀ x ∈ xs, x.bel n = true) → belowL n xs = true
  | [], _ => by simp [belowL]
  | x :: xs, h => by rw [belowL, h x (by simp), belowL_all fun y hy => h y (by simp [hy])]; rfl
theorem bel_int {n : Nat} {i : Int} : (A.int i).bel n = true := by simp [A.bel]
theorem bel_tup {n : Nat} {xs : List A} (h : ∀ x ∈ xs, x.bel n = true) : (A.tup xs).bel n = true := by simp only [A.bel]; exact belowL_all h
theorem bel_lst {n : Nat} {xs : List A} (h : ∀ x ∈ xs, x.bel n = true) : (A.lst xs).bel n = true := by simp only [A.bel]; exact belowL_all h
theorem bel_ti {n : Nat} {l : List Int} : (A.tup (l.map A.int)).bel n = true := by simp only [A.bel]; exact bel_ints n l
theorem bel_lI {n : Nat} {l : List Int} : (A.lst (l.map A.int)).bel n = true := by simp only [A.bel]; exact bel_ints n l
theorem fin_ti {rc : Bool} {st : Store} {l : List C} {p : List Int} : finA rc st.length st (ti p) (st ++ l) = .ok (ti p) st := finA_pure bel_ti (by intro c h; cases h)
theorem fin_ti0 {rc : Bool} {st : Store} {p : List Int} : finA rc st.length st (ti p) st = .ok (ti p) st := by
  have := fin_ti (rc := rc) (st := st) (l := []) (p := p); simpa using this
theorem fin_lI {rc : Bool} {st : Store} {l : List C} {p : List Int} : finA rc st.length st (lI p) (st ++ l) = .ok (lI p) st := finA_pure bel_lI (by intro c h; cases h)
theorem fin_lI0 {rc : Bool} {st : Store} {p : List Int} : finA rc st.length st (lI p) st = .ok (lI p) st := by
  have := fin_lI (rc := rc) (st := st) (l := []) (p := p); simpa using this
theorem fin_pure0 {rc : Bool} {st : Store} {a : A} (h : a.bel st.length = true) (hc : ∀ c, a ≠ .cell c) : finA rc st.length st a st = .ok a st := by
  have := finA_pure (rc := rc) (st := st) (l := []) h hc; simpa using this
theorem fin_int0 {rc : Bool} {st : Store} {i : Int} : finA rc st.length st (.int i) st = .ok (.int i) st := fin_pure0 bel_int (by intro c h; cases h)
theorem fin_bl0 {rc : Bool} {st : Store} {i : Bool} : finA rc st.length st (.bl i) st = .ok (.bl i) st := fin_pure0 (by simp [A.bel]) (by intro c h; cases h)
theorem fin_lIc {st : Store} {l : List C} {n : Nat} {zs : List Int} (hn : st.length ≤ n) (h : (st ++ l)[n]? = some (.lst (zs.map A.int))) : finA false st.length st (.cell n) (st ++ l) = .ok (lI zs) st := finA_lst hn h (bel_ints _ _)
/-! equal data -/
/-- data, at most so deep -/
def Dt (st : Store) (n : Nat) (a : A) : Prop := ∃ d, toD st n a = some d ∧ d.canLay0 = true ∧ d.depth ≤ n + 1
theorem dt_int {st : Store} {n : Nat} {i : Int} : Dt st n (.int i) := ⟨.int i, by cases n <;> rfl, rfl, by simp [PyData.depth]⟩
theorem dt_bl {st : Store} {n : Nat} {i : Bool} : Dt st n (.bl i) := ⟨.bool i, by cases n <;> rfl, rfl, by simp [PyData.depth]⟩
theorem dt_non {st : Store} {n : Nat} : Dt st n .non := ⟨.none, by cases n <;> rfl, rfl, by simp [PyData.depth]⟩
theorem dt_str {st : Store} {n : Nat} {x : Str} (h : PyData.canLay0 (.str x) = true) : Dt st n (.str x) := ⟨.str x, by cases n <;> rfl, h, by simp [PyData.depth]⟩
theorem dt_all {st : Store} {n : Nat} : ∀ {xs : List A}, (∀ x ∈ xs, Dt st n x) → ∃ ds, optAll (toD st n) xs = some ds ∧ PyData.canLayAll0 ds = true ∧ PyData.depthAll ds ≤ n + 1
  | [], _ => ⟨[], rfl, rfl, by simp [PyData.depthAll]⟩
  | x :: xs, h => by
    obtain ⟨d, h1, h2, h3⟩ := h x (by simp)
    obtain ⟨ds, h4, h5, h6⟩ := dt_all (xs := xs) fun y hy => h y (by simp [hy])
    exact ⟨d :: ds, by rw [optAll, h1, h4], by simp [PyData.canLayAll0, h2, h5], by simp only [PyData.depthAll]; omega⟩
theorem dt_lst {st : Store} {n : Nat} {xs : List A} (h : ∀ x ∈ xs, Dt st n x) : Dt st (n + 1) (.lst xs) := by
  obtain ⟨ds, h4, h5, h6⟩ := dt_all h
  exact ⟨.list ds, by rw [toD, h4]; rfl, by simpa [PyData.canLay0] using h5, by simp only [PyData.depth]; omega⟩
theorem dt_tup {st : Store} {n : Nat} {xs : List A} (h : ∀ x ∈ xs, Dt st n x) : Dt st (n + 1) (.tup xs) := by
  obtain ⟨ds, h4, h5, h6⟩ := dt_all h
  exact ⟨.tuple ds, by rw [toD, h4]; rfl, by simpa [PyData.canLay0] using h5, by simp only [PyData.depth]; omega⟩
theorem neOp_same {st : Store} {a : A} (h : Dt st 50 a) : neOp a a st = some (.bl false, st) := by
  obtain ⟨d, h1, h2, h3⟩ := h
  have hs : SeqAt.shaped d = true := by
    show (d.canLay0 && decide (d.depth ≤ 64)) = true
    rw [h2, decide_eq_true (by omega)]; rfl
  have e : eqD true a a st = some (.bl false, st) := by
    have hr : PyData.eqv d d = true := by first | exact PySem.SeqAt.eqv_refl d h2 | exact PySem.eqv_refl d h2 | exact PyProof.P3.eqv_refl d h2
    unfold eqD; rw [h1]; dsimp only; rw [if_pos ⟨hs, hs⟩, hr]; rfl
  unfold neOp
  rw [e]
  cases a <;> simp [eqSc]
theorem eqOp_same {st : Store} {a : A} (h : Dt st 50 a) : eqOp a a st = some (.bl true, st) := by
  obtain ⟨d, h1, h2, h3⟩ := h
  have hs : SeqAt.shaped d = true := by
    show (d.canLay0 && decide (d.depth ≤ 64)) = true
    rw [h2, decide_eq_true (by omega)]; rfl
  have e : eqD false a a st = some (.bl true, st) := by
    have hr : PyData.eqv d d = true := by first | exact PySem.SeqAt.eqv_refl d h2 | exact PySem.eqv_refl d h2 | exact PyProof.P3.eqv_refl d h2
    unfold eqD; rw [h1]; dsimp only; rw [if_pos ⟨hs, hs⟩, hr]; rfl
  unfold eqOp
  rw [e]
  cases a <;> simp [eqSc]
theorem dt_ti {st : Store} {n : Nat} {l : List Int} : Dt st (n + 1) (.tup (l.map A.int)) := dt_tup fun x hx => by
  obtain ⟨i, _, rfl⟩ := List.mem_map.mp hx; exact dt_int
theorem dt_lI {st : Store} {n : Nat} {l : List Int} : Dt st (n + 1) (.lst (l.map A.int)) := dt_lst fun x hx => by
  obtain ⟨i, _, rfl⟩ := List.mem_map.mp hx; exact dt_int
theorem neOp_ti {st : Store} {l : List Int} : neOp (.tup (l.map A.int)) (.tup (l.map A.int)) st = some (.bl false, st) := neOp_same dt_ti
theorem filT {α : Type} : ∀ l : List α, l.filter (fun _ => true) = l
  | [] => rfl
  | x :: l => by rw [List.filter_cons, filT l]; rfl
/-- a comprehension over numbers that maps and keeps the store -/
theorem eLc_ints {mi : MI} {i : Nat} {own : List Nat} {p : AEnv → Store → Res Bool} {ma : AEnv → Store → Res A} {env : AEnv} {st : Store} {mk : Bool} {xs : List Int} (t : Int → Bool) (f : Int → Int) (hmi : mi env st = .ok (xs.map A.int, none) st) (hl : xs.length ≤ sizeLine)
    (h : ∀ x ∈ xs, p ((wipeA env own).set i (some (.int x))) st = .ok (t x) st ∧ (t x = true → ma ((wipeA env own).set i (some (.int x))) st = .ok (.int (f x)) st)) :
    eLc mk mi (gN i) own p ma env st = .ok (newL mk (((xs.filter t).map f).map A.int) st).1 (newL mk (((xs.filter t).map f).map A.int) st).2 := by
  rw [eLc_ap, hmi]
  simp only [Res.bind_ok]
  have := lcL_map (all := xs.map A.int) (g := gN i) (me := ma) (mt := p) (env0 := wipeA env own) (st := st) (fun a => match a with | .int x => t x | _ => false) (fun a => match a with | .int x => .int (f x) | a => a) (xs.map A.int) [] (fun a ha => by
    obtain ⟨x, hx, rfl⟩ := List.mem_map.mp ha
    obtain ⟨h1, h2⟩ := h x hx
    exact ⟨_, rfl, h1, h2⟩) (by simpa using hl)
  rw [this]
  simp only [Res.bind_ok, List.nil_append, List.filter_map, List.map_map]
  rfl
end SL

set_option Elab.async false
set_option linter.all false
set_option maxRecDepth 100000
set_option maxHeartbeats 4000000
/-! SLp: own exceptions: raised, caught. -/
namespace SL
open PySem PySem.Spec L2
open PyProof.Rows hiding St
/-! ### an expression that makes an exception -/
structure SMk (Γ : G) (e : Expr) (m : AEnv → Store → Res Exc) : Prop where
  run : ∀ W : WX, ∃ t : L2.St → Hp → XK → Prop, (∀ (Z F : Hp) (μ : List Addr) (st : Store) (env : AEnv) (σ : L2.St) (H : Hp) (Q : XK), Good Γ.K Z F μ st H → REnv Γ.K F μ env σ →
      (m env st).post (fun x st1 => ∀ F' μ' H' d, Ext F F' μ μ' → Good Γ.K Z F' μ' st1 H' → XRep Γ.K F' μ' x d → Q (.ref (He.ga Γ.K x.c)) d H') (KX Γ.K Z F μ σ W) → t σ H Q) ∧
    ∀ X, CtxOk Γ X → Takes X W → PMk X e t
def sRaise (m : AEnv → Store → Res Exc) : MS := fun env st => (m env st).toS env fun x st1 => .exc x env st1
theorem st_raise {Γ : G} {fo : Str → Bool} {e : Expr} {m : AEnv → Store → Res Exc} {pos : Pos} (h : SMk Γ e m) (cm : Γ.calm = true := by rfl) : SS Γ fo (.Raise (some e) none pos) (sRaise m) :=
  ⟨fun W => by
    obtain ⟨t, h1, h2⟩ := h.run W
    refine ⟨fun _ σ H => t σ H fun cls d H' => W cls d σ H', fun Z F μ st env σ H D g re hp => ?_, fun X c hf k => ps_raise (c.calm cm) k (h2 X c k)⟩
    unfold sRaise at hp
    rw [Res.post_toS] at hp
    refine h1 Z F μ st env σ H _ g re (Res.post_mono hp (fun x st1 q => ?_) fun x st1 q => ?_)
    · intro F' μ' H' d e' g' xr
      exact (show KXS Γ.K Z F μ W x env st1 from q) F' μ' H' σ d e' g' (re.mono e') xr
    · intro F' μ' H' d e' g' xr
      exact (show KXS Γ.K Z F μ W x env st1 from q) F' μ' H' σ d e' g' (re.mono e') xr⟩
/-! ### a class over KnotError, its __init__: Base.__init__(self, lit + what); self.what = what -/
/-- what the written part says of the base class -/
structure KBase (K : PySem.W.Frag) (B : Addr) : Prop where
  ga : PySem.W.specialIn K (.ref B) "__getattribute__" = some (some (.builtin "type.__getattribute__"))
  ty : PySem.W.typeIn K (.ref B) = some (.type "type")
  rd : PySem.W.readsIn K B (.type "type") = true
  fi : PySem.W.findCls K (.ref B) (.type "type") "__init__" = some (.val (.builtin "ValueError.__init__"))
def kBaseB (K : PySem.W.Frag) (B : Addr) : Bool := decide (PySem.W.specialIn K (.ref B) "__getattribute__" = some (some (.builtin "type.__getattribute__"))) && (decide (PySem.W.typeIn K (.ref B) = some (.type "type")) && (PySem.W.readsIn K B (.type "type") && (match PySem.W.findCls K (.ref B) (.type "type") "__init__" with
  | some (.val (.builtin x)) => decide (x = "ValueError.__init__")
  | _ => false)))
theorem kBaseB_ok {K : PySem.W.Frag} {B : Addr} (h : kBaseB K B = true) : KBase K B := by
  unfold kBaseB at h
  obtain ⟨h1, h⟩ := Bool.and_eq_true_iff.mp h
  obtain ⟨h2, h⟩ := Bool.and_eq_true_iff.mp h
  obtain ⟨h3, h4⟩ := Bool.and_eq_true_iff.mp h
  refine ⟨of_decide_eq_true h1, of_decide_eq_true h2, h3, ?_⟩
  split at h4
  · rename_i x e
    rw [e, of_decide_eq_true h4]
  · cases h4
section
variable {X : Cx} {e : Expr} {es : List Expr} {ta : TA} {B : Addr} {x : Str} {p1 p2 pos : Pos}
/-- Base.__init__(self, ..), Base an own class over ValueError -/
theorem pe_kinit {pl : Sem Bool} (hg : Gl X x) (hm : X.mg x = some (.ref B)) (kb : KBase X.K B) (ha : PA X (e :: es) ta) (hdb : (x == ("__debug__" : Str)) = false := by decide)
    (hc : eval (.Call (.Attribute (.Name x p1) "__init__" p2) (e :: es) [] pos) X.env = (do
      let ov ← eval (.Name x p1) X.env
      standAt p2.atName
      let (f, first) ← holding [ov] (getMethod ov "__init__" pl)
      callWith pos f first (backTo pos (starEach (e :: es) X.env)) (backToKw pos (keywordEach [] X.env))) := by rfl)
    (he : starEach (e :: es) X.env = (false, eval e X.env) :: starEach es X.env := by rfl) (hpl : (backTo pos (starEach es X.env)).any (·.1) = false := by rfl) :
    PE X (.Call (.Attribute (.Name x p1) "__init__" p2) (e :: es) [] pos) (tVeI X.K ta) := by
  refine ⟨fun pins s σ H Q I h => PySem.W.methodCall_KW (ld_glob I hg hm ?_ hdb) hc⟩
  obtain ⟨m, fr⟩ := I.fr
  refine PySem.W.method_of_cls fr I.ok.mod.kin kb.ga (PySem.W.cls_val fr I.ok.mod.kin kb.ty kb.rd kb.fi (by decide +kernel) ?_)
  refine PyProof.Rows.callWith_method1 (thn (ha.run pos pins _ σ H _ (I.tok _) h) fun us s1 hh => ?_) he hpl
  obtain ⟨vs, H1, I1, r1, a, C, ws, ev, hl, T, ea, q⟩ := hh
  subst ev
  cases r1 with
  | @cons _ u0 _ ur ra rw' =>
    obtain rfl : u0 = Value.ref a := ra
    refine oinit_ok T I1 ea ?_ fun s' J => ⟨.non, H1, J, rfl, q⟩
    have := Paired.length rw'
    rw [sizeLine_eq]
    omega
end
/-- the promise of such an __init__ -/
def spW (K : PySem.W.Frag) (C : Addr) : Sp := fun vs H Q _ => ∃ (a : Addr) (s : Str), vs = [.ref a, .str s] ∧ s.length < 1000 ∧ H a = some (exo a C none) ∧
  ∀ dx, H dx = none → dx ≠ a → Q .non (upd (upd H dx (exd dx [("what", .str s)])) a (exo a C (some dx)))
/-- such a class -/
structure KExc (P : Program) (w : World) (K : PySem.W.Frag) (mg : Str → Option Value) (base : Heap) (C : Addr) : Prop where
  oex : OexC K C
  nw : PySem.W.findIn K (.ref C) "what" = some none
  fi : ∃ fI fd, PySem.W.findIn K (.ref C) "__init__" = some (some (.ref fI)) ∧ PySem.W.typeIn K (.ref fI) = some (.type "function") ∧ FnOk P w K mg base (L2.CX P w) 1 fI fd ["self", "what"] (spW K C) ∧ Binds K fd ["self", "what"] []
abbrev kinitBody (bn lit : Str) (p1 p2 p3 p4 p5 p6 p7 p8 p9 p10 p11 p12 : Pos) (j : Nat) : List Stmt :=
  [.Expr (.Call (.Attribute (.Name bn p1) "__init__" p2) [.Name "self" p3, .BinOp (.Constant (.str lit) j p4) .Add (.Name "what" p5) p6] [] p7) p8,
   .Assign [.Attribute (.Name "self" p9) "what" p10] (.Name "what" p11) p12]
theorem kexc_of {P : Program} {w : World} {K : PySem.W.Frag} {mg : Str → Option Value} {base : Heap} {C B fI : Addr} {fd : FuncData} {qual bn lit : Str} {params : Arguments} {scope : Scope} {p1 p2 p3 p4 p5 p6 p7 p8 p9 p10 p11 p12 : Pos} {j : Nat} {pl : Env → Sem Bool}
    (F : FunD K "__init__" qual params (kinitBody bn lit p1 p2 p3 p4 p5 p6 p7 p8 p9 p10 p11 p12 j) scope [] [] fI fd) (S : FnScope ["self", "what"] ["self", "what"] scope) (hB : Binds K fd ["self", "what"] [])
    (oex : OexC K C) (nw : PySem.W.findIn K (.ref C) "what" = some none) (fi : PySem.W.findIn K (.ref C) "__init__" = some (some (.ref fI))) (ft : PySem.W.typeIn K (.ref fI) = some (.type "function"))
    (kb : KBase K B) (hm : mg bn = some (.ref B)) (hg : scope.names.lookup bn = some .globalImplicit) (vs : Vis scope "self") (vw : Vis scope "what") (hlit : lit.length < 1000)
    (hdb : (bn == ("__debug__" : Str)) = false)
    (hc : ∀ env, eval (.Call (.Attribute (.Name bn p1) "__init__" p2) [.Name "self" p3, .BinOp (.Constant (.str lit) j p4) .Add (.Name "what" p5) p6] [] p7) env = (do
      let ov ← eval (.Name bn p1) env
      standAt p2.atName
      let (f, first) ← holding [ov] (getMethod ov "__init__" (pl env))
      callWith p7 f first (backTo p7 (starEach [.Name "self" p3, .BinOp (.Constant (.str lit) j p4) .Add (.Name "what" p5) p6] env)) (backToKw p7 (keywordEach [] env))) := by intro _; rfl) : KExc P w K mg base C where
  oex := oex
  nw := nw
  fi := by
    refine ⟨fI, fd, fi, ft, F.ok S (fun vs H Q E hs => ?_) (fun cdv A outer s H vs' Q E hr hs => ?_), hB⟩
    · obtain ⟨a, s, rfl, _⟩ := hs; rfl
    · obtain ⟨a, s, rfl, hsl, ha, hq⟩ := hs
      refine ⟨_, pss_cons (ps_expr (pe_kinit (pl := pl _) hg hm kb (pa_cons (pv 0 rfl vs) (pa_cons (pe_op op_add_str pe_str (pv 1 rfl vw)) pa_nil)) hdb (hc _))) (pss_one (ps_ost (pv 0 rfl vs) (pv 1 rfl vw))), ?_⟩
      refine ⟨.ref a, rfl, .str s, rfl, lit, s, rfl, rfl, by rw [sizeLine_eq]; omega, a, C, [.str (lit ++ s)], rfl, by simp, oex, ha, .str s, rfl, .ref a, rfl, a, C, rfl, oex, nw, .inl ⟨ha, hq⟩⟩
section
variable {Γ : G} {e : Expr} {es : List Expr} {m : AEnv → Store → Res A} {pos p : Pos}
/-- C(what) -/
def mkWhat (c : Str) (m : AEnv → Store → Res A) : AEnv → Store → Res Exc := fun env st => (m env st).bind fun a st1 => match a with
  | .str s => if s.length < 1000 then .ok ⟨c, ["what"], [.str s]⟩ st1 else .stuck
  | _ => .stuck
theorem mk_what {x : Str} (ke : KExc Γ.P Γ.w Γ.K Γ.mg Γ.base (He.ga Γ.K x)) (hg : Γ.sc.names.lookup x = some .globalImplicit) (hm : Γ.mg x = some (.ref (He.ga Γ.K x))) (ha : SE Γ e m) (hk : 2 ≤ Γ.k) (hdb : (x == ("__debug__" : Str)) = false := by decide)
    (he : ∀ env, starEach [e] env = (false, eval e env) :: starEach [] env := by intro _; rfl) (hpl : ∀ env, (backTo pos (starEach [] env)).any (·.1) = false := by intro _; rfl) (cm : Γ.calm = true := by rfl) :
    SMk Γ (.Call (.Name x p) [e] [] pos) (mkWhat x m) :=
  ⟨fun W => by
    obtain ⟨t, h1, h2⟩ := ha.run W
    obtain ⟨fI, fd, f1, f2, f3, f4⟩ := ke.fi
    refine ⟨tMkO (He.ga Γ.K x) (spW Γ.K (He.ga Γ.K x)) [] (tCons t tNil), fun Z F μ st env σ H Q g re hp => ?_, fun X c tk => ?_⟩
    · unfold mkWhat at hp
      rw [Res.post_bind] at hp
      refine h1 Z F μ st env σ H _ g re (Res.post_mono hp (fun a st1 q => ?_) fun _ _ q => q)
      intro F1 μ1 H1 v e1 g1 ra
      cases a with
      | str s =>
        cases ra
        dsimp only at q
        by_cases hl : s.length < 1000
        · rw [if_pos hl] at q
          refine ⟨by simp, fun a hna => ⟨a, s, rfl, hl, upd_same, fun dx hdx hda => ?_⟩⟩
          refine ⟨rfl, dx, [("what", .str s)], upd_same, ?_, ?_, ?_⟩
          · rw [upd_ne hda, upd_same]
          · rw [upd_ne hda] at hdx; exact hdx
          · have hd1 : H1 dx = none := by rw [upd_ne hda] at hdx; exact hdx
            have eq : upd (del (upd (upd (upd H1 a (exo a (He.ga Γ.K x) none)) dx (exd dx [("what", .str s)])) a (exo a (He.ga Γ.K x) (some dx))) a) dx (.xd [("what", .str s)]) = upd H1 dx (.xd [("what", .str s)]) := by
              funext b
              by_cases hb : b = dx
              · subst hb; rw [upd_same, upd_same]
              · rw [upd_ne hb, upd_ne hb]
                by_cases hb2 : b = a
                · subst hb2; rw [del_same, hna]
                · rw [del_ne hb2, upd_ne hb2, upd_ne hb, upd_ne hb2]
            rw [eq]
            obtain ⟨g2, e2⟩ := g1.known (p := dx) (o := .xd [("what", .str s)]) hd1
            exact (show ∀ F' μ' H' d, Ext F F' μ μ' → Good Γ.K Z F' μ' st1 H' → XRep Γ.K F' μ' ⟨x, ["what"], [.str s]⟩ d → Q (.ref (He.ga Γ.K x)) d H' from q) _ μ1 _ (some dx) (e1.trans e2) g2 (.inr ⟨dx, [("what", .str s)], rfl, upd_same, rfl, .cons (.str s) .nil⟩)
        · rw [if_neg hl] at q; exact q.elim
      | _ => exact q.elim
    · have hr := c.room cm
      have f3' : FnOk X.prog X.w X.K X.mg X.base (L2.CX X.prog X.w) 1 fI fd ["self", "what"] (spW Γ.K (He.ga Γ.K x)) := by rw [c.prog, c.w, c.K, c.mg, c.base]; exact f3
      exact pmk_oex (C := He.ga Γ.K x) (fI := fI) (k := 1) (fd := fd) (ps := ["self", "what"]) (ds := []) (dvs := []) (by rw [c.K]; exact ke.oex) (by rw [c.K]; exact f1) (by rw [c.K]; exact f2) f3' (hr.mono hk) (by rw [c.K]; exact f4) .nil (fun _ _ _ _ _ _ _ z => by obtain ⟨_, _, _, _, _, _, _, _, _, _, _, _, _, z⟩ := z) (c.gl hg) (by rw [c.mg]; exact hm) (pa_cons (h2 X c tk) pa_nil (he _)) hdb (he _) (hpl _)⟩
end
end SL

set_option Elab.async false
set_option linter.all false
set_option maxRecDepth 100000
set_option maxHeartbeats 4000000
/-! SLq: try, except; what a caught exception holds. -/
namespace SL
open PySem PySem.Spec L2
open PyProof.Rows hiding St
/-- within an except suite: the exception at a, its class c, its dict d -/
def G.hot (Γ : G) (a : Addr) (c : Str) (d : Option Addr) : G := { Γ with calm := false, st := false, hx := some (a, c, d) }
theorem CtxOk.hot {Γ : G} {X : Cx} (k : CtxOk Γ X) {a : Addr} {c : Str} {d : Option Addr} {oe : Obj} {pn : List (Addr × Obj)} (hz : Zc (.ref (He.ga Γ.K c)) d oe) (hf : ∃ vs, oe.data = .fields vs) : CtxOk (Γ.hot a c d) (X.suite a ((a, oe) :: pn)) where
  prog := k.prog
  w := k.w
  K := k.K
  mg := k.mg
  base := k.base
  N := k.N
  sc := k.sc
  calm := fun z => Bool.noConfusion z
  room := fun z => Bool.noConfusion z
  units := k.units
  stk := fun z => Bool.noConfusion z
  hx := fun a' c' d' z => by
    have z' : some (a, c, d) = some (a', c', d') := z
    cases z'
    exact ⟨X, oe, pn, rfl, hz, hf⟩
  nd := k.nd
  own := PassesOwn.never
theorem CtxOk.tr {Γ : G} {X : Cx} (k : CtxOk Γ X) {pn : List (Addr × Obj)} {xe : Value → Shared → Prop} (ho : PassesOwn (model X.prog X.w) X.A X.env xe) (hx : Γ.hx = none) : CtxOk Γ (X.tr pn xe) where
  prog := k.prog
  w := k.w
  K := k.K
  mg := k.mg
  base := k.base
  N := k.N
  sc := k.sc
  calm := k.calm
  room := k.room
  units := k.units
  stk := k.stk
  hx := fun a' c' d' z => by rw [hx] at z; cases z
  nd := k.nd
  own := ho
/-- e.f of the exception in hand -/
def eXf (cs : List Str) (f : Str) (a0 : Addr) (c0 : Str) (d0 : Option Addr) (m : AEnv → Store → Res A) : AEnv → Store → Res A := fun env st => (m env st).bind fun v st1 => match v with
  | .xcp a d c ns vs => if a = a0 ∧ c = c0 ∧ d = d0 ∧ c ∈ cs then (match (ns.zip vs).lookup f with
    | some x => .ok x st1
    | none => .stuck) else .stuck
  | _ => .stuck
theorem lookup_reps {K : PySem.W.Frag} {F : Hp} {μ : List Addr} {f : Str} : ∀ {fs : List (Str × V)} {ns : List Str} {xs : List A} {x : A}, fs.map (·.1) = ns → Reps K F μ xs (fs.map (·.2)) → (ns.zip xs).lookup f = some x → ∃ v, fs.lookup f = some v ∧ Rep K F μ x v
  | [], ns, xs, x, h1, h2, h3 => by subst h1; simp at h3
  | (g, w) :: fs, ns, xs, x, h1, h2, h3 => by
    subst h1
    cases h2 with
    | @cons y _ ys _ r t =>
      rw [List.map_cons, List.zip_cons_cons, List.lookup_cons] at h3
      rw [List.lookup_cons]
      cases e : (f == g) with
      | true => rw [e] at h3; cases h3; exact ⟨w, rfl, r⟩
      | false => rw [e] at h3; exact lookup_reps rfl t h3
theorem s_xf {Γ : G} {e : Expr} {n : Str} {pos : Pos} {m : AEnv → Store → Res A} {a0 : Addr} {c0 : Str} {d0 : Option Addr} (cs : List Str) (h : SE (Γ.hot a0 c0 d0) e m) (hcs : ∀ c ∈ cs, XfC Γ.K (He.ga Γ.K c) ∧ PySem.W.findIn Γ.K (.ref (He.ga Γ.K c)) n = some none)
    (hb : ∀ env, attributeBase e n env (eval e env) = eval e env := by intro _; rfl) : SE (Γ.hot a0 c0 d0) (.Attribute e n pos) (eXf cs n a0 c0 d0 m) :=
  ⟨fun W => by
    obtain ⟨t, h1, h2⟩ := h.run W
    refine ⟨fun σ H Q => c0 ∈ cs ∧ tXf a0 (.ref (He.ga Γ.K c0)) d0 (He.ga Γ.K c0) n t σ H Q ∨ c0 ∉ cs ∧ t σ H (fun _ _ => False), fun Z F μ st env σ H Q g re hp => ?_, fun X k tk => ?_⟩
    · by_cases hc : c0 ∈ cs
      · refine .inl ⟨hc, ?_⟩
        unfold eXf at hp
        rw [Res.post_bind] at hp
        refine h1 Z F μ st env σ H _ g re (Res.post_mono hp (fun v st1 q => ?_) fun _ _ q => q)
        intro F1 μ1 H1 b e1 g1 rb
        cases v with
        | xcp a d c ns vs =>
          dsimp only at q
          by_cases hh : a = a0 ∧ c = c0 ∧ d = d0 ∧ c ∈ cs
          · rw [if_pos hh] at q
            obtain ⟨rfl, rfl, rfl, _⟩ := hh
            cases rb with
            | xcp0 => simp at q; exact q.elim
            | xcpD r1 r2 r3 =>
              rename_i dd fs
              cases el : (ns.zip vs).lookup n with
              | none => rw [el] at q; exact q.elim
              | some x =>
                rw [el] at q
                obtain ⟨w, hw, rw'⟩ := lookup_reps r2 r3 el
                exact ⟨rfl, rfl, dd, fs, w, rfl, g1.sub _ _ r1, hw, (show Kont Γ.K Z Rep F μ Q x st1 from q) F1 μ1 H1 w e1 g1 rw'⟩
          · rw [if_neg hh] at q; exact q.elim
        | _ => exact q.elim
      · refine .inr ⟨hc, ?_⟩
        unfold eXf at hp
        rw [Res.post_bind] at hp
        refine h1 Z F μ st env σ H _ g re (Res.post_mono hp (fun v st1 q => ?_) fun _ _ q => q)
        cases v with
        | xcp a d c ns vs =>
          dsimp only at q
          rw [if_neg (show ¬ (a = a0 ∧ c = c0 ∧ d = d0 ∧ c ∈ cs) from fun z => hc (z.2.1 ▸ z.2.2.2))] at q
          exact q.elim
        | _ => exact q.elim
    · obtain ⟨X', oe, pn, rfl, hz, hf⟩ := k.hx a0 c0 d0 rfl
      refine ⟨fun pins s σ H Q I hh => ?_⟩
      rcases hh with ⟨hc, hh⟩ | hh
      · have kK : (X'.suite a0 ((a0, oe) :: pn)).K = Γ.K := k.K
        have T := hcs c0 hc
        exact (pe_xf (X := X') (a := a0) (C := He.ga Γ.K c0) (by rw [show X'.K = Γ.K from kK]; exact T.1) (by rw [show X'.K = Γ.K from kK]; exact T.2) hz hf (h2 _ k tk) (hb _)).run pins s σ H Q I hh
      · exact attr_of (hb _) (thn ((h2 _ k tk).run pins s σ H _ I hh.2) fun u s1 z => by obtain ⟨_, _, _, _, z⟩ := z; exact z.elim)⟩
/-! ### try: body, except C as n: suite -/
def clr (i : Nat) (r : SRes) : SRes := match r with
  | .nx e s => .nx (e.set i none) s
  | .bk e s => .bk (e.set i none) s
  | .ct e s => .ct (e.set i none) s
  | .rt a s => .rt a s
  | .exc _ _ _ => .stuck
  | .stuck => .stuck
def noXS (r : SRes) : SRes := match r with
  | .exc _ _ _ => .stuck
  | r => r
/-- tbl: the classes that may come, whether the clause takes them; the suite is run with any exception of that class and these fields in slot i -/
noncomputable def sTryAs (tbl : List (Str × Bool)) (i : Nat) (body : MS) (ms : Addr → Str → Option Addr → MS) : MS := open Classical in fun env st => match body env st with
  | .exc x e s => (match tbl.lookup x.c with
    | some true => if ∀ a d, clr i (ms a x.c d (e.set i (some (.xcp a d x.c x.ns x.vs))) s) = clr i (ms 0 x.c none (e.set i (some (.xcp 0 none x.c x.ns x.vs))) s) then clr i (ms 0 x.c none (e.set i (some (.xcp 0 none x.c x.ns x.vs))) s) else .stuck
    | some false => .exc x e s
    | none => .stuck)
  | r => r
noncomputable def sTryNo (tbl : List (Str × Bool)) (body : MS) (ms : Addr → Str → Option Addr → MS) : MS := open Classical in fun env st => match body env st with
  | .exc x e s => (match tbl.lookup x.c with
    | some true => if ∀ a d, noXS (ms a x.c d e s) = noXS (ms 0 x.c none e s) then noXS (ms 0 x.c none e s) else .stuck
    | some false => .exc x e s
    | none => .stuck)
  | r => r
theorem lookup_mem' {α β : Type} [BEq α] [LawfulBEq α] {x : α} {y : β} : ∀ {l : List (α × β)}, l.lookup x = some y → (x, y) ∈ l
  | [], h => by cases h
  | (a, b) :: l, h => by
    rw [List.lookup_cons] at h
    cases e : (x == a) with
    | true => rw [e] at h; cases h; rw [eq_of_beq e]; exact List.mem_cons_self
    | false => rw [e] at h; exact List.mem_cons_of_mem _ (lookup_mem' h)
theorem XRep.xcp {K : PySem.W.Frag} {F : Hp} {μ : List Addr} {x : Exc} {d : Option Addr} (h : XRep K F μ x d) (a : Addr) : Rep K F μ (.xcp a d x.c x.ns x.vs) (.ref a) := by
  rcases h with ⟨rfl, h1, h2⟩ | ⟨dd, fs, rfl, h1, h2, h3⟩
  · rw [h1, h2]; exact .xcp0
  · exact .xcpD h1 h2 h3
theorem REnv.unset' {K : PySem.W.Frag} {F : Hp} {μ : List Addr} {env : AEnv} {σ : L2.St} (r : REnv K F μ env σ) (i : Nat) : REnv K F μ (env.set i none) (σ.set i none) := by
  refine ⟨by rw [List.length_set, List.length_set]; exact r.len, fun j b hj => ?_⟩
  by_cases e : i = j
  · subst e
    by_cases hl : i < env.length
    · rw [List.getElem?_set_self hl] at hj; cases hj
    · rw [List.getElem?_eq_none (by rw [List.length_set]; omega)] at hj; cases hj
  · rw [List.getElem?_set_ne e] at hj ⊢
    exact r.at_ j b hj
section
variable {Γ : G} {fo : Str → Bool} {x n : Str} {i : Nat} {body suite : List Stmt} {b₀ : Stmt} {np pos pos' : Pos} {m : MS} {ms : Addr → Str → Option Addr → MS} {tbl : List (Str × Bool)}
theorem st_tryAs (hi : Γ.N[i]? = some n) (hl : Γ.sc.names.lookup n = some .local) (hg : Γ.sc.names.lookup x = some .globalImplicit) (hm : Γ.mg x = some (.ref (He.ga Γ.K x))) (hdb : (x == ("__debug__" : Str)) = false)
    (htb : ∀ p ∈ tbl, PySem.W.exmOne Γ.K (.ref (He.ga Γ.K p.1)) (.ref (He.ga Γ.K x)) = some p.2) (hb : SB Γ fo body m) (hsu : ∀ a c d, SB (Γ.hot a c d) fo (b₀ :: suite) (ms a c d)) (hst : Γ.st = true := by rfl) (hhx : Γ.hx = none := by rfl) :
    SS Γ fo (.Try body [.ExceptHandler (some (.Name x np)) (some n) (b₀ :: suite) pos'] [] [] pos) (sTryAs tbl i m ms) :=
  ⟨fun W => by
    classical
    let ts : Addr → Value → Option Addr → TS := fun a cls d D σ H => ∃ c, cls = .ref (He.ga Γ.K c) ∧ Classical.choose ((hsu a c d).run W0) D σ H
    have hts : ∀ a c d, SimS Γ.K W0 (Classical.choose ((hsu a c d).run W0)) (ms a c d) ∧ ∀ X, CtxOk (Γ.hot a c d) X → (∀ x, fo x = true → X.fn x = true) → Takes X W0 → PSs X (b₀ :: suite) (Classical.choose ((hsu a c d).run W0)) := fun a c d => Classical.choose_spec ((hsu a c d).run W0)
    let tb : WX → TS := fun W => Classical.choose (hb.run W)
    have htbs : ∀ W, SimS Γ.K W (tb W) m ∧ ∀ X, CtxOk Γ X → (∀ x, fo x = true → X.fn x = true) → Takes X W → PSs X body (tb W) := fun W => Classical.choose_spec (hb.run W)
    refine ⟨fun D σ H => tb (wAs Γ.K (.ref (He.ga Γ.K x)) i ts W D) D σ H, fun Z F μ st env σ H D g re hp => ?_, fun X c hf k => ?_⟩
    · refine (htbs _).1 Z F μ st env σ H D g re ?_
      unfold sTryAs at hp
      generalize m env st = r at hp ⊢
      cases r with
      | nx e s => exact hp
      | rt a s => exact hp
      | bk e s => exact hp
      | ct e s => exact hp
      | stuck => exact hp
      | exc y e s =>
        intro F' μ' H' σ' d e' g' re' xr
        dsimp only at hp
        cases hlk : tbl.lookup y.c with
        | none => rw [hlk] at hp; exact hp.elim
        | some b =>
          rw [hlk] at hp
          refine ⟨b, htb _ (lookup_mem' hlk), fun hbt a hna => ?_, fun hbf => ?_⟩
          · subst hbt
            dsimp only at hp
            split at hp
            · rename_i hall
              rw [← hall a d] at hp
              refine ⟨y.c, rfl, (hts a y.c d).1 Z F' μ' s _ _ H' _ g' (re'.set i (xr.xcp a)) ?_⟩
              have hp2 := KS.ext e' hp
              generalize ms a y.c d (e.set i (some (.xcp a d y.c y.ns y.vs))) s = r2 at hp2 ⊢
              cases r2 with
              | nx e2 s2 =>
                intro F3 μ3 H3 σ3 e3 g3 re3
                exact (show KN Γ.K Z F' μ' D.nx (e2.set i none) s2 from hp2) F3 μ3 H3 _ e3 g3 (re3.unset' i)
              | rt a s2 => exact hp2
              | bk e2 s2 =>
                intro F3 μ3 H3 σ3 e3 g3 re3
                exact (show KN Γ.K Z F' μ' D.bk (e2.set i none) s2 from hp2) F3 μ3 H3 _ e3 g3 (re3.unset' i)
              | ct e2 s2 =>
                intro F3 μ3 H3 σ3 e3 g3 re3
                exact (show KN Γ.K Z F' μ' D.ct (e2.set i none) s2 from hp2) F3 μ3 H3 _ e3 g3 (re3.unset' i)
              | exc _ _ _ => exact hp2.elim
              | stuck => exact hp2.elim
            · exact hp.elim
          · subst hbf
            exact (show KXS Γ.K Z F μ W y e s from hp) F' μ' H' σ' d e' g' re' xr
    · obtain ⟨k1, k2⟩ := c.stk hst
      have hK := c.K
      rw [← hK]
      refine ps_try_as (i := i) k1 k2 c.nd (c.name hi) (by unfold Env.kindOf; rw [c.sc]; exact hl) ⟨c.gl hg, hdb, .inl (by rw [c.mg, hK]; exact hm)⟩ k (fun W' pn xe tk ho => (htbs W').2 _ (c.tr ho hhx) hf tk) (fun a oe cls d pn hz hfl => ⟨fun pins s σ H D I hh => ?_⟩)
      obtain ⟨c', rfl, hh⟩ := hh
      exact ((hts a c' d).2 _ (c.hot hz hfl) hf takes0).run pins s σ H D I hh⟩
theorem st_tryNo (hg : Γ.sc.names.lookup x = some .globalImplicit) (hm : Γ.mg x = some (.ref (He.ga Γ.K x))) (hdb : (x == ("__debug__" : Str)) = false)
    (htb : ∀ p ∈ tbl, PySem.W.exmOne Γ.K (.ref (He.ga Γ.K p.1)) (.ref (He.ga Γ.K x)) = some p.2) (hb : SB Γ fo body m) (hsu : ∀ a c d, SB (Γ.hot a c d) fo (b₀ :: suite) (ms a c d)) (hst : Γ.st = true := by rfl) (hhx : Γ.hx = none := by rfl) :
    SS Γ fo (.Try body [.ExceptHandler (some (.Name x np)) none (b₀ :: suite) pos'] [] [] pos) (sTryNo tbl m ms) :=
  ⟨fun W => by
    classical
    let ts : Addr → Value → Option Addr → TS := fun a cls d D σ H => ∃ c, cls = .ref (He.ga Γ.K c) ∧ Classical.choose ((hsu a c d).run W0) D σ H
    have hts : ∀ a c d, SimS Γ.K W0 (Classical.choose ((hsu a c d).run W0)) (ms a c d) ∧ ∀ X, CtxOk (Γ.hot a c d) X → (∀ x, fo x = true → X.fn x = true) → Takes X W0 → PSs X (b₀ :: suite) (Classical.choose ((hsu a c d).run W0)) := fun a c d => Classical.choose_spec ((hsu a c d).run W0)
    let tb : WX → TS := fun W => Classical.choose (hb.run W)
    have htbs : ∀ W, SimS Γ.K W (tb W) m ∧ ∀ X, CtxOk Γ X → (∀ x, fo x = true → X.fn x = true) → Takes X W → PSs X body (tb W) := fun W => Classical.choose_spec (hb.run W)
    refine ⟨fun D σ H => tb (wOnly Γ.K (.ref (He.ga Γ.K x)) ts W D) D σ H, fun Z F μ st env σ H D g re hp => ?_, fun X c hf k => ?_⟩
    · refine (htbs _).1 Z F μ st env σ H D g re ?_
      unfold sTryNo at hp
      generalize m env st = r at hp ⊢
      cases r with
      | nx e s => exact hp
      | rt a s => exact hp
      | bk e s => exact hp
      | ct e s => exact hp
      | stuck => exact hp
      | exc y e s =>
        intro F' μ' H' σ' d e' g' re' xr
        dsimp only at hp
        cases hlk : tbl.lookup y.c with
        | none => rw [hlk] at hp; exact hp.elim
        | some b =>
          rw [hlk] at hp
          refine ⟨b, htb _ (lookup_mem' hlk), fun hbt a hna => ?_, fun hbf => ?_⟩
          · subst hbt
            dsimp only at hp
            split at hp
            · rename_i hall
              rw [← hall a d] at hp
              refine ⟨y.c, rfl, (hts a y.c d).1 Z F' μ' s _ _ H' _ g' re' ?_⟩
              have hp2 := KS.ext e' hp
              generalize ms a y.c d e s = r2 at hp2 ⊢
              cases r2 with
              | exc _ _ _ => exact hp2.elim
              | _ => exact hp2
            · exact hp.elim
          · subst hbf
            exact (show KXS Γ.K Z F μ W y e s from hp) F' μ' H' σ' d e' g' re' xr
    · obtain ⟨k1, k2⟩ := c.stk hst
      have hK := c.K
      rw [← hK]
      refine ps_try_only k1 k2 ⟨c.gl hg, hdb, .inl (by rw [c.mg, hK]; exact hm)⟩ k (fun W' pn xe tk ho => (htbs W').2 _ (c.tr ho hhx) hf tk) (fun a oe cls d pn hz hfl => ⟨fun pins s σ H D I hh => ?_⟩)
      obtain ⟨c', rfl, hh⟩ := hh
      exact ((hts a c' d).2 _ (c.hot hz hfl) hf takes0).run pins s σ H D I hh⟩
end
end SL

set_option Elab.async false
set_option linter.all false
set_option maxRecDepth 100000
set_option maxHeartbeats 4000000
/-! SLr: the head's facts of own exceptions and classes, by a hook with one more Bool. -/
namespace SL
open PySem PySem.Spec L2
open PyProof.Rows hiding St
open He (ga ma)
inductive Fb where
  | oex (x : Str)
  | kbase (x : Str)
  | xf (x : Str)
  | ini (x : Str)
  | vals (x : Str) (kvs : List (Str × He.Dv))
  | bfn (x : Str) (id : String)
  | excc (x : Str)
  | isx (x y : Str) (b : Bool)
  | ist (n : String) (y : Str)
  | insc (x : Str)
def oexB (K : PySem.W.Frag) (C : Addr) : Bool := match K.lookup C with
  | some ⟨.type T, _, .cls cd, sl⟩ => (match cd.mro, sl.toList with
    | .ref C' :: bm, [_, _, _, _, some (.builtin n), _] => decide (T = "type") && (decide (C' = C) && (decide (n = "ValueError.__new__") && (cd.hasDict && (!cd.hasDel && PySem.HandSPX.refsVE bm))))
    | _, _ => false)
  | _ => false
def Fb.ok (K : PySem.W.Frag) : Fb → Bool
  | .oex x => oexB K (ga K x) && (He.eqO (PySem.W.findIn K (.ref (ga K x)) "__setattr__") (some (some (.builtin "object.__setattr__"))) && (decide (PySem.W.subIn K (.ref (ga K x)) (.type "BaseException") = some true) && (decide (PySem.W.typeIn K (.ref (ga K x)) = some (.type "type")) && PySem.W.keepIn K (.ref (ga K x)))))
  | .kbase x => kBaseB K (ga K x)
  | .xf x => xfB K (ga K x)
  | .ini x => He.eqO (PySem.W.findIn K (.ref (ga K x)) "__init__") (some (some (.ref (ma K (ga K x) "__init__")))) && decide (PySem.W.typeIn K (.ref (ma K (ga K x) "__init__")) = some (.type "function"))
  | .vals x kvs => He.valsB K (ga K x) kvs
  | .bfn x id => He.eqO (PySem.W.nsIn K mainGlobals x) (some (some (.builtin id)))
  | .excc x => He.eqO (PySem.W.findIn K (.ref (ga K x)) "__getattribute__") (some (some (.builtin "BaseException.__getattribute__"))) && (He.eqO (PySem.W.findIn K (.ref (ga K x)) "__getattr__") (some none) && (decide (PySem.W.subIn K (.ref (ga K x)) (.type "BaseException") = some true) && (PySem.W.hasDictIn K (ga K x) &&
    (He.eqO (PySem.W.findIn K (.ref (ga K x)) "__class__") (some (some (.builtin "object.__class__"))) && (He.eqO (PySem.W.specialIn K (.builtin "object.__class__") "__get__") (some (some (.builtin "getset_descriptor.__get__"))) && (decide (PySem.W.takesIn K (.builtin "object.__class__") = some true) && decide (PySem.W.mroIn K (ga K x) (.type "object") = some true)))))))
  | .isx x y b => decide (PySem.W.kitOne K (.ref (ga K x)) (.ref (ga K y)) = some b)
  | .ist n y => decide (PySem.W.kitOne K (.type n) (.ref (ga K y)) = some false)
  | .insc x => He.eqO (PySem.W.findIn K (.ref (ga K x)) "__class__") (some (some (.builtin "object.__class__"))) && (He.eqO (PySem.W.specialIn K (.builtin "object.__class__") "__get__") (some (some (.builtin "getset_descriptor.__get__"))) && (decide (PySem.W.takesIn K (.builtin "object.__class__") = some true) && decide (PySem.W.mroIn K (ga K x) (.type "object") = some true)))
theorem and2 {a b : Bool} (h : (a && b) = true) : a = true ∧ b = true := Bool.and_eq_true_iff.mp h
theorem oexB_ok {K : PySem.W.Frag} {C : Addr} (h : oexB K C = true) : ∃ nm q N bs bm sn sub ab col dd k0 k1 k2 k3 k5, K.lookup C = some (excClassObj nm q C N bs bm true sn sub ab col dd k0 k1 k2 k3 k5 "ValueError.__new__") ∧ PySem.HandSPX.refsVE bm = true := by
  unfold oexB at h
  split at h
  · rename_i T dd cd sl e
    obtain ⟨nm, bs, mro, ns, qn, hd, sn, sb, ab, col, dl⟩ := cd
    dsimp only at h
    split at h
    · rename_i C' bm k0 k1 k2 k3 n k5 e2
      obtain ⟨h1, h⟩ := and2 h
      obtain ⟨h2, h⟩ := and2 h
      obtain ⟨h3, h⟩ := and2 h
      obtain ⟨h4, h⟩ := and2 h
      obtain ⟨h5, h6⟩ := and2 h
      have h4 : hd = true := h4
      have h5 : dl = false := by simpa using h5
      have e3 := of_decide_eq_true h1
      have e4 := of_decide_eq_true h2
      have e5 := of_decide_eq_true h3
      subst e3 e4 e5 h4 h5
      refine ⟨nm, qn, ns, bs, bm, sn, sb, ab, col, dd, k0, k1, k2, k3, k5, ?_, h6⟩
      rw [e]
      have : sl = #[k0, k1, k2, k3, some (.builtin "ValueError.__new__"), k5] := by
        apply Array.toList_inj.mp
        rw [e2]
      rw [this]
    · cases h
  · cases h
theorem oex_ok {K : PySem.W.Frag} {x : Str} (h : (Fb.oex x).ok K = true) : OexC K (ga K x) := by
  obtain ⟨h1, h⟩ := and2 h
  obtain ⟨h2, h⟩ := and2 h
  obtain ⟨h3, h⟩ := and2 h
  obtain ⟨h4, h5⟩ := and2 h
  exact ⟨oexB_ok h1, He.eqO_ok h2, of_decide_eq_true h3, of_decide_eq_true h4, h5⟩
theorem kbase_ok {K : PySem.W.Frag} {x : Str} (h : (Fb.kbase x).ok K = true) : KBase K (ga K x) := kBaseB_ok h
theorem xf_ok {K : PySem.W.Frag} {x : Str} (h : (Fb.xf x).ok K = true) : XfC K (ga K x) := xfB_ok h
theorem ini_ok {K : PySem.W.Frag} {x : Str} (h : (Fb.ini x).ok K = true) : PySem.W.findIn K (.ref (ga K x)) "__init__" = some (some (.ref (ma K (ga K x) "__init__"))) ∧ PySem.W.typeIn K (.ref (ma K (ga K x) "__init__")) = some (.type "function") := by
  obtain ⟨h1, h2⟩ := and2 h
  exact ⟨He.eqO_ok h1, of_decide_eq_true h2⟩
theorem vals_ok {K : PySem.W.Frag} {x : Str} {kvs : List (Str × He.Dv)} (h : (Fb.vals x kvs).ok K = true) : He.valsB K (ga K x) kvs = true := h
theorem bfn_ok {K : PySem.W.Frag} {h : Heap} {mg : Str → Option Value} (X : K.In h) (G : h.Ns mainGlobals mg) {x : Str} {id : String} (c : (Fb.bfn x id).ok K = true) : mg x = some (.builtin id) := PySem.W.mg_of X G (He.eqO_ok c)
/-! ### the hook -/
abbrev AlS : Type := He.AlT × Bool
def obsS (n : Nat) (fa : List He.Fa) (fn : List He.DefD) (ts : List He.Tab) (fb : List Fb) (g : Addr → Option Obj) : AlS := (He.obsT fa fn ts (He.frG g (cStatics :: He.asD g n)), fb.all fun f => f.ok (He.frG g (cStatics :: He.asD g n)))
structure SaysS (fa : List He.Fa) (fn : List He.DefD) (ts : List He.Tab) (fb : List Fb) (w : World) (K : PySem.W.Frag) : Prop where
  t : He.SaysT fa fn ts w K
  b : (fb.all fun f => f.ok K) = true
section
variable {fa : List He.Fa} {fn : List He.DefD} {ts : List He.Tab} {fb : List Fb} {w : World} {K : PySem.W.Frag}
theorem SaysS.fbs (c : SaysS fa fn ts fb w K) (i : Nat) {f : Fb} (h : fb[i]? = some f := by rfl) : f.ok K = true :=
  List.all_eq_true.mp c.b f (List.mem_of_getElem? h)
theorem SaysS.fact (c : SaysS fa fn ts fb w K) (i : Nat) {f : He.Fa} (h : fa[i]? = some f := by rfl) : f.ok K = true := c.t.d.fact i h
theorem SaysS.def_ (c : SaysS fa fn ts fb w K) (i : Nat) {d : He.DefD} (h : fn[i]? = some d := by rfl) : ∃ fd, FunD K d.name d.qual d.params d.body d.scope (d.dvs K) (d.kws K) (He.fAd K d.at_) fd := c.t.d.def_ i h
end
def hookS (n : Nat) (fa : List He.Fa) (fn : List He.DefD) (ts : List He.Tab) (fb : List Fb) : PySem.W.Hook where
  α := AlS
  obs := fun s => obsS n fa fn ts fb s.heap.get?
  val := fun w => (He.valT fn ts w, true)
  says := fun w h => ∃ K : PySem.W.Frag, K.In h ∧ SaysS fa fn ts fb w K
  of := fun _ _ e => ⟨_, He.frG_in, ⟨congrArg (fun z : AlS => z.1) e, congrArg (fun z : AlS => z.2) e⟩⟩
  keeps := fun _ _ _ z k => let ⟨K, hK, c⟩ := z; ⟨K, PySem.W.Frag.In.keeps hK k, c⟩
theorem obsS_eq {n : Nat} {fa : List He.Fa} {fn : List He.DefD} {ts : List He.Tab} {fb : List Fb} {g : Addr → Option Obj} {s : Shared} (h : ∀ a, g a = s.heap.get? a) : obsS n fa fn ts fb g = (hookS n fa fn ts fb).obs s := by
  have e : g = s.heap.get? := funext h
  rw [e] <;> rfl
/-! ### the text of a class -/
def clsBody (s : Stmt) : List Stmt := match s with
  | .ClassDef _ _ _ b _ _ _ _ _ _ _ => b
  | _ => []
def meth (s : Stmt) (i : Nat) : Stmt := (clsBody s).getD i (.Pass ⟨0, 0, 0, 0⟩)
/-! ### a dict of the module, its keys texts, its values numbers -/
def wixOp (d : Str) (tbl : List (Str × Int)) : Op2 := fun a b st => match a, b with
  | .glo x, .str z => if x = d then (tbl.lookup z).map fun i => (.int i, st) else none
  | _, _ => none
/-- what the written part says of it -/
def WDct (K : PySem.W.Frag) (w : World) (d : Str) (tbl : List (Str × Int)) : Prop := ∀ p ∈ tbl, KDct K w (He.ga K d) p.1 (.int p.2)
theorem wdct_of {K : PySem.W.Frag} {w : World} {d : Str} {tbl : List (Str × Int)} {es : Array DictEntry} {n : Nat} (D : KDict K w (He.ga K d) es n) (h : He.valsB K (He.ga K d) (tbl.map fun p => (p.1, .int p.2)) = true) : WDct K w d tbl := by
  intro p hp
  obtain ⟨u, h1, h2⟩ := He.valsB_ok h (List.mem_map.mpr ⟨p, hp, rfl⟩)
  exact ⟨es, n, u, D.at_, D.lit, h1, h2⟩
theorem s_wix {Γ : G} {a b : Expr} {ma mb : AEnv → Store → Res A} {pos : Pos} {d : Str} {tbl : List (Str × Int)} (h : WDct Γ.K Γ.w d tbl) (ha : SE Γ a ma) (hb : SE Γ b mb) (hs : PlainIx b := by intro _ _; rfl) : SE Γ (.Subscript a b pos) (eBin (wixOp d tbl) ma mb) :=
  ⟨fun W => by
    obtain ⟨ta, sa, pa⟩ := ha.run W
    obtain ⟨tb, sb, pb⟩ := hb.run W
    have sw : SimV2 Γ.K (rIxD Γ.K Γ.w) (wixOp d tbl) := by
      intro Z F μ st st' H a b c x y Q g ra rb e k
      cases a with
      | glo z =>
        cases b with
        | str z' =>
          cases ra; cases rb
          have e : (if z = d then (tbl.lookup z').map (fun i => (A.int i, st)) else none) = some (c, st') := e
          by_cases hz : z = d
          · rw [if_pos hz] at e
            cases el : tbl.lookup z' with
            | none => rw [el] at e; cases e
            | some i =>
              rw [el] at e; cases e
              subst hz
              exact ⟨_, z', _, rfl, rfl, h _ (lookup_mem' el), k.same g (.int _)⟩
          · rw [if_neg hz] at e; cases e
        | _ => cases e
      | _ => cases e
    refine ⟨_, sim_bin sw sa sb, fun X c t => ?_⟩
    rw [← c.K, ← c.w]
    exact pe_ix ix_kdict (pa X c t) (pb X c t) hs⟩
/-! max, min of two numbers -/
def maxA : Op2 := iiOp fun i j => some (.int (if j > i then j else i))
def minA : Op2 := iiOp fun i j => some (.int (if j < i then j else i))
theorem cb_max2 : Cb (.builtin "max") (two2 maxA) := cb2 (r := fun _ xs H Q => ∃ i j, xs = [.int i, .int j] ∧ Q (.int (if j > i then j else i)) H) (fun _ _ c cm => call_max2 (c.calm cm)) fun K Z F μ st st' H a b c x y Q g ra rb e k => by
  cases a with
  | int i =>
    cases b with
    | int j => cases ra; cases rb; cases e; exact ⟨i, j, rfl, k.same g (.int _)⟩
    | _ => cases e
  | _ => cases e
theorem cb_min2 : Cb (.builtin "min") (two2 minA) := cb2 (r := fun _ xs H Q => ∃ i j, xs = [.int i, .int j] ∧ Q (.int (if j < i then j else i)) H) (fun _ _ c cm => call_min2 (c.calm cm)) fun K Z F μ st st' H a b c x y Q g ra rb e k => by
  cases a with
  | int i =>
    cases b with
    | int j => cases ra; cases rb; cases e; exact ⟨i, j, rfl, k.same g (.int _)⟩
    | _ => cases e
  | _ => cases e
end SL

set_option Elab.async false
set_option linter.all false
set_option maxRecDepth 100000
set_option maxHeartbeats 4000000
/-! SLs: words for the plain functions: exceptions, slices, sums and equality of lists of numbers. -/
namespace SL
open PySem PySem.Spec L2
open PyProof.Rows hiding St
section
variable {env : AEnv} {st : Store} {xs ys : List A}
@[simp] theorem sRaise_ap {m : AEnv → Store → Res Exc} : sRaise m env st = (m env st).toS env fun x st1 => .exc x env st1 := (rfl)
@[simp] theorem mkWhat_ap {c : Str} {m : AEnv → Store → Res A} : mkWhat c m env st = (m env st).bind fun a st1 => match a with
  | .str s => if s.length < 1000 then .ok ⟨c, ["what"], [.str s]⟩ st1 else .stuck
  | _ => .stuck := (rfl)
theorem sTryNo_ok {tbl : List (Str × Bool)} {body : MS} {ms : Addr → Str → Option Addr → MS} {r : SRes} (h : body env st = r) (hr : ∀ x e s, r ≠ .exc x e s) : sTryNo tbl body ms env st = r := by
  unfold sTryNo; rw [h]; cases r <;> first | rfl | exact absurd rfl (hr _ _ _)
theorem sTryAs_ok {tbl : List (Str × Bool)} {i : Nat} {body : MS} {ms : Addr → Str → Option Addr → MS} {r : SRes} (h : body env st = r) (hr : ∀ x e s, r ≠ .exc x e s) : sTryAs tbl i body ms env st = r := by
  unfold sTryAs; rw [h]; cases r <;> first | rfl | exact absurd rfl (hr _ _ _)
theorem sTryNo_exc {tbl : List (Str × Bool)} {body : MS} {ms : Addr → Str → Option Addr → MS} {x : Exc} {e : AEnv} {s : Store} {r : SRes} (h : body env st = .exc x e s) (ht : tbl.lookup x.c = some true) (hm : ∀ a d, noXS (ms a x.c d e s) = r) : sTryNo tbl body ms env st = r := by
  unfold sTryNo; rw [h]; dsimp only; rw [ht]; dsimp only; rw [if_pos (fun a d => by rw [hm, hm]), hm]
theorem sTryAs_exc {tbl : List (Str × Bool)} {i : Nat} {body : MS} {ms : Addr → Str → Option Addr → MS} {x : Exc} {e : AEnv} {s : Store} {r : SRes} (h : body env st = .exc x e s) (ht : tbl.lookup x.c = some true) (hm : ∀ a d, clr i (ms a x.c d (e.set i (some (.xcp a d x.c x.ns x.vs))) s) = r) : sTryAs tbl i body ms env st = r := by
  unfold sTryAs; rw [h]; dsimp only; rw [ht]; dsimp only; rw [if_pos (fun a d => by rw [hm, hm]), hm]
@[simp] theorem eXf_ap {cs : List Str} {f : Str} {a0 : Addr} {c0 : Str} {d0 : Option Addr} {m : AEnv → Store → Res A} : eXf cs f a0 c0 d0 m env st = (m env st).bind fun v st1 => match v with
  | .xcp a d c ns vs => if a = a0 ∧ c = c0 ∧ d = d0 ∧ c ∈ cs then (match (ns.zip vs).lookup f with
    | some x => .ok x st1
    | none => .stuck) else .stuck
  | _ => .stuck := (rfl)
@[simp] theorem maxA_ii {i j : Int} : maxA (.int i) (.int j) st = some (.int (if j > i then j else i), st) := (rfl)
@[simp] theorem minA_ii {i j : Int} : minA (.int i) (.int j) st = some (.int (if j < i then j else i), st) := (rfl)
@[simp] theorem wixOp_ap {d z : Str} {tbl : List (Str × Int)} : wixOp d tbl (.glo d) (.str z) st = (tbl.lookup z).map fun i => (.int i, st) := by simp [wixOp]
/-! + and slices of lists -/
theorem addOp_l (h : xs.length + ys.length ≤ sizeLine) : addOp false (.lst xs) (.lst ys) st = some (.lst (xs ++ ys), st) := by
  have e : addL false (.lst xs) (.lst ys) st = some (.lst (xs ++ ys), st) := by
    simp only [addL, lstH]
    rw [if_pos h]; rfl
  simp [addOp, addI, addS, iiOp, e]
theorem sl_take {k : Int} (h0 : 0 ≤ k) (h1 : k ≤ xs.length) : slOp false (.lst xs) none (some k) st = some (.lst (xs.take k.toNat), st) := by
  have e : cutA xs none (some k) = xs.take k.toNat := by
    obtain ⟨n, rfl⟩ := Int.eq_ofNat_of_zero_le h0
    unfold cutA
    rw [HT.sIx_none, HT.sIx_nat, List.drop_zero, Nat.sub_zero, Nat.min_eq_left (by omega)]
    simp
  show (lstR (.lst xs) st).map (fun ys => newL false (cutA ys none (some k)) st) = _
  simp [lstR, lstH, e]
theorem sl_drop {k : Int} (h0 : 0 ≤ k) (h1 : k ≤ xs.length) : slOp false (.lst xs) (some k) none st = some (.lst (xs.drop k.toNat), st) := by
  have e : cutA xs (some k) none = xs.drop k.toNat := by
    obtain ⟨n, rfl⟩ := Int.eq_ofNat_of_zero_le h0
    unfold cutA
    rw [HT.sIx_none, HT.sIx_nat, Nat.min_eq_left (by omega)]
    rw [List.take_of_length_le (by rw [List.length_drop]; omega)]
    simp
  show (lstR (.lst xs) st).map (fun ys => newL false (cutA ys (some k) none) st) = _
  simp [lstR, lstH, e]
theorem sl_mid {k j : Int} (h0 : 0 ≤ k) (h1 : k ≤ j) (h2 : j ≤ xs.length) : slOp false (.lst xs) (some k) (some j) st = some (.lst ((xs.drop k.toNat).take (j - k).toNat), st) := by
  have e : cutA xs (some k) (some j) = (xs.drop k.toNat).take (j - k).toNat := by
    obtain ⟨n, rfl⟩ := Int.eq_ofNat_of_zero_le h0
    obtain ⟨m, rfl⟩ := Int.eq_ofNat_of_zero_le (Int.le_trans h0 h1)
    unfold cutA
    rw [HT.sIx_nat, HT.sIx_nat, Nat.min_eq_left (by omega), Nat.min_eq_left (by omega)]
    congr 1
    omega
  show (lstR (.lst xs) st).map (fun ys => newL false (cutA ys (some k) (some j)) st) = _
  simp [lstR, lstH, e]
end
/-! equality of lists of numbers -/
theorem toD_ints {st : Store} (n : Nat) : ∀ l : List Int, optAll (toD st n) (l.map A.int) = some (l.map PyData.int)
  | [] => rfl
  | x :: l => by
    have e : toD st n (.int x) = some (.int x) := by cases n <;> rfl
    rw [List.map_cons, optAll, e, toD_ints n l]; rfl
theorem eqv_ints : ∀ a b : List Int, PyData.eqvAll (a.map PyData.int) (b.map PyData.int) = decide (a = b)
  | [], [] => by simp [PyData.eqvAll]
  | [], _ :: _ => by simp [PyData.eqvAll]
  | _ :: _, [] => by simp [PyData.eqvAll]
  | x :: a, y :: b => by
    simp only [List.map_cons, PyData.eqvAll, eqv_ints a b, PyData.eqv]
    by_cases h : x = y
    · subst h; simp
    · simp [h]
theorem shaped_lI (a : List Int) : SeqAt.shaped (.list (a.map PyData.int)) = true := PySem.W.shaped_ints a
theorem eqOp_lI {st : Store} {a b : List Int} : eqOp (.lst (a.map A.int)) (.lst (b.map A.int)) st = some (.bl (decide (a = b)), st) := by
  have e : eqD false (.lst (a.map A.int)) (.lst (b.map A.int)) st = some (.bl (decide (a = b)), st) := by
    unfold eqD
    simp only [toD, toD_ints, Option.map_some]
    rw [if_pos ⟨shaped_lI a, shaped_lI b⟩, PyData.eqv, eqv_ints]; rfl
  simp [eqOp, eqSc, e]
theorem neOp_lI {st : Store} {a b : List Int} : neOp (.lst (a.map A.int)) (.lst (b.map A.int)) st = some (.bl (!decide (a = b)), st) := by
  have e : eqD true (.lst (a.map A.int)) (.lst (b.map A.int)) st = some (.bl (!decide (a = b)), st) := by
    unfold eqD
    simp only [toD, toD_ints, Option.map_some]
    rw [if_pos ⟨shaped_lI a, shaped_lI b⟩, PyData.eqv, eqv_ints]; rfl
  simp [neOp, eqSc, e]
end SL
namespace SL
open PySem PySem.Spec L2
open PyProof.Rows hiding St
/-- a def that raises -/
theorem fnM_exc {rc : Bool} {np ns : Nat} {body : MS} {as : List A} {st : Store} {l : List C} {x : Exc} {e : AEnv} (hl : as.length = np) (hb : body (as.map some ++ List.replicate (ns - np) none) st = .exc x e (st ++ l)) (hv : belowL st.length x.vs = true) : fnM rc np ns body as st = .exc x st := by
  unfold fnM
  rw [if_pos hl, hb]
  show (if belowL st.length x.vs = true ∧ okS st.length st (st ++ l) then Res.exc x ((st ++ l).take st.length) else .stuck : Res A) = _
  rw [if_pos ⟨hv, okS_app⟩, List.take_left]
theorem fnM_exc0 {rc : Bool} {np ns : Nat} {body : MS} {as : List A} {st : Store} {x : Exc} {e : AEnv} (hl : as.length = np) (hb : body (as.map some ++ List.replicate (ns - np) none) st = .exc x e st) (hv : belowL st.length x.vs = true) : fnM rc np ns body as st = .exc x st :=
  fnM_exc (l := []) hl (by rw [List.append_nil]; exact hb) hv
@[simp] theorem eChain_ap {op op' : Op2} {ma mb mc : AEnv → Store → Res A} {env : AEnv} {st : Store} : eChain op op' ma mb mc env st = (ma env st).bind fun a st1 => (mb env st1).bind fun b st2 => (Res.of (op a b st2)).bind fun v st3 => (asB v st3).bind fun k st4 => if k then (mc env st4).bind fun c st5 => Res.of (op' b c st5) else .ok (.bl false) st4 := (rfl)
end SL

set_option Elab.async false
set_option linter.all false
set_option maxRecDepth 100000
set_option maxHeartbeats 4000000
/-! SLt: own classes: attributes, methods, instances. -/
namespace SL
open PySem PySem.Spec L2
open PyProof.Rows hiding St
section
variable {X : Cx} {CX : CXT} {k : Nat} {f C : Addr} {fd : FuncData} {ps : List Str} {sp : Sp} {E : L2.St → XK} {x m : Str} {p pos apos : Pos} {e o : Expr} {es : List Expr} {ta : TE} {t : TA}
/-! ### the calls, the exceptions let out by the slots -/
def tMethE (C : Addr) (m : Str) (sp : Sp) (E : L2.St → XK) (ta : TE) (t : TA) : TE := fun σ H Q => ta σ H fun x H1 => ∃ a dx fs, x = .ref a ∧ H1 a = some (.ins C dx fs) ∧ fs.lookup m = none ∧ t σ H1 fun vs H2 => sp (x :: vs) H2 Q (E σ)
def tMakeE (C : Addr) (sp : Sp) (E : L2.St → XK) (t : TA) : TE := fun σ H Q => t σ H fun vs H1 => ∀ x dx, H1 x = none → H1 dx = none → dx ≠ x →
  sp (.ref x :: vs) (upd (upd H1 dx (.own x)) x (.ins C dx [])) (fun v H2 => v = .non ∧ Q (.ref x) H2) (E σ)
theorem pe_methE {pl : Sem Bool} (he : PE X o ta) (c : Cls X.K C) (hm : Meth X.K C m f) (F : FnOk X.prog X.w X.K X.mg X.base CX k f fd ps sp) (hr : Room k X.A) (hb : Binds X.K fd ps []) (hx : ∀ σ, PassesAt CX X σ (E σ)) (ha : PA X (e :: es) t)
    (hst : starEach (e :: es) X.env = (false, eval e X.env) :: starEach es X.env) (hpl : (backTo pos (starEach es X.env)).any (·.1) = false)
    (ht : eval (.Call (.Attribute o m apos) (e :: es) [] pos) X.env = (do
      let ov ← eval o X.env
      standAt apos.atName
      let (f, first) ← holding [ov] (getMethod ov m pl)
      callWith pos f first (backTo pos (starEach (e :: es) X.env)) (backToKw pos (keywordEach [] X.env)))) :
    PE X (.Call (.Attribute o m apos) (e :: es) [] pos) (tMethE C m sp E ta t) := by
  refine ⟨fun pins s σ H Q I h => ?_⟩
  refine PySem.W.methodCall_KW (pl := pl) (thn (he.run pins s σ H _ I h) fun u s1 ⟨x, H1, I1, rx, a, dx, fs, ex, ea, l, q⟩ => ?_) ht
  subst ex
  obtain rfl : u = Value.ref a := rx
  refine getmeth_ok I1 ea c hm l ?_
  refine PySem.W.callWith_K (first := [.ref a]) (h₀ := X.base) I.ok.mod.kin hm.kp (thn (ha.run pos pins s1 σ H1 _ I1 q) fun us s2 ⟨vs, H2, I2, r, q2⟩ => ⟨I2.kIn, ?_⟩) hst hpl
  exact run_fnS (us := .ref a :: us) (vs := .ref a :: vs) F hr hb (hx σ) I2 (.cons rfl r) q2
theorem pe_methE0 {pl : Sem Bool} (he : PE X o ta) (c : Cls X.K C) (hm : Meth X.K C m f) (F : FnOk X.prog X.w X.K X.mg X.base CX k f fd ps sp) (hr : Room k X.A) (hb : Binds X.K fd ps []) (hx : ∀ σ, PassesAt CX X σ (E σ))
    (ht : eval (.Call (.Attribute o m apos) [] [] pos) X.env = (do
      let ov ← eval o X.env
      standAt apos.atName
      let (f, first) ← holding [ov] (getMethod ov m pl)
      callWith pos f first (backTo pos (starEach [] X.env)) (backToKw pos (keywordEach [] X.env)))) :
    PE X (.Call (.Attribute o m apos) [] [] pos) (tMethE C m sp E ta tNil) := by
  refine ⟨fun pins s σ H Q I h => ?_⟩
  refine PySem.W.methodCall_KW (pl := pl) (thn (he.run pins s σ H _ I h) fun u s1 ⟨x, H1, I1, rx, a, dx, fs, ex, ea, l, q⟩ => ?_) ht
  subst ex
  obtain rfl : u = Value.ref a := rx
  refine getmeth_ok I1 ea c hm l ?_
  exact PySem.W.callWith_K0 (first := [.ref a]) I1.kIn hm.kp (run_fnS (us := [.ref a]) (vs := [.ref a]) F hr hb (hx σ) I1 (.cons rfl .nil) q)
theorem pe_makeE (M : Mk X.K C f) (F : FnOk X.prog X.w X.K X.mg X.base CX k f fd ps sp) (hr : Room (k + 1) X.A) (hg : Gl X x) (hm : X.mg x = some (.ref C)) (hb : Binds X.K fd ps []) (hx : ∀ σ, PassesAt CX X σ (E σ))
    (ha : PA X (e :: es) t) (hdb : (x == ("__debug__" : Str)) = false) (he : starEach (e :: es) X.env = (false, eval e X.env) :: starEach es X.env) (hpl : (backTo pos (starEach es X.env)).any (·.1) = false) :
    PE X (.Call (.Name x p) (e :: es) [] pos) (tMakeE C sp E t) := by
  refine ⟨fun pins s σ H Q I h => ?_⟩
  refine wpAny_Call_Name_kw (ld_glob I hg hm ?_ hdb)
  refine PySem.W.callWith_K (h₀ := X.base) I.ok.mod.kin M.kp (thn (ha.run pos pins s σ H _ I h) fun us s1 ⟨vs, H1, I1, r, q⟩ => ⟨I1.kIn, ?_⟩) he hpl
  have hq := q (s1.heap.objs.size + 1) s1.heap.objs.size (I1.hok.fresh (Nat.le_succ _)) (I1.hok.fresh (Nat.le_refl _)) (Nat.ne_of_lt (Nat.lt_succ_self _))
  have I2 := Inv.made (C := C) I1
  have r2 : Vals (V.ref (s1.heap.objs.size + 1) :: vs) (Value.ref (s1.heap.objs.size + 1) :: us) := .cons rfl r
  have hl : (Value.ref (s1.heap.objs.size + 1) :: us ++ []).length = ps.length := by
    rw [List.append_nil]
    have e := r2.length
    rw [F.len _ _ _ _ hq] at e
    exact e.symm
  have b := hb _ (Value.ref (s1.heap.objs.size + 1) :: us) I2.kIn hl
  rw [List.append_nil] at b
  refine wpAny_call (make_map (f := f) I1.kIn M.makes M.init (beq_iff_eq.mp M.fn) (codeAny_mono (F.run _ X.stack _ _ ⟨Value.ref (s1.heap.objs.size + 1) :: us, []⟩ (Value.ref (s1.heap.objs.size + 1) :: us) _ _ (E σ) (hr.make C us [])
    (I2.env0.make C us []) b r2 hq) fun r s' hq' => ?_))
  cases r with
  | error e => exact hx σ pins _ _ e s' I2 hq'
  | ok fl =>
    cases fl with
    | ret u =>
      obtain ⟨v, H', I3, rv, ev, q3⟩ := I2.after hq'
      subst ev
      exact ⟨rv, ⟨V.ref (s1.heap.objs.size + 1), H', I3, rfl, q3⟩⟩
    | next => exact False.elim hq'
    | brk => exact False.elim hq'
    | cont => exact False.elim hq'
end
/-! ### attributes -/
def insA (a : A) (st : Store) : Option (Str × List Str × List A) := match a with
  | .obj c ns xs => some (c, ns, xs)
  | .cell n => match st[n]? with
    | some (.obj c ns xs) => some (c, ns, xs)
    | _ => none
  | _ => none
theorem insA_ok {K : PySem.W.Frag} {Z F : Hp} {μ : List Addr} {st : Store} {H : Hp} {a : A} {c : Str} {ns : List Str} {xs : List A} {v : V} (g : Good K Z F μ st H) (r : Rep K F μ a v) (h : insA a st = some (c, ns, xs)) :
    ∃ (p dx : Addr) (fs : List (Str × V)), v = .ref p ∧ H p = some (.ins (He.ga K c) dx fs) ∧ fs.map (·.1) = ns ∧ Reps K F μ xs (fs.map (·.2)) := by
  cases a with
  | obj c ns xs =>
    cases h
    cases r with
    | obj h1 h2 h3 r => exact ⟨_, _, _, rfl, g.sub _ _ h1, h3, r⟩
  | cell n =>
    cases r with
    | cell hc =>
      cases e : st[n]? with
      | none => simp only [insA, e] at h; cases h
      | some cc =>
        simp only [insA, e] at h
        cases cc with
        | obj c ns xs =>
          cases h
          obtain ⟨a2, m2, _, dx, fs, h4, h7, h6, h5⟩ := g.cell n _ e (by intro z; cases z)
          rw [hc] at m2; cases m2
          exact ⟨_, _, _, rfl, h4, h6, h5⟩
        | _ => cases h
  | _ => cases h
def fldOp (cs : List Str) (f : Str) : Op1 := fun a st => match insA a st with
  | some (c, ns, xs) => if c ∈ cs then ((ns.zip xs).lookup f).map fun v => (v, st) else none
  | none => none
section
variable {Γ : G} {fo : Str → Bool} {e o a b : Expr} {es : List Expr} {m mo ma : AEnv → Store → Res A} {ms : AEnv → Store → Res (List A)} {pos apos p : Pos}
/-- e.f -/
theorem s_fld {f : Str} (cs : List Str) (h : SE Γ e m) (hcs : ∀ c ∈ cs, Cls Γ.K (He.ga Γ.K c) ∧ NoAttr Γ.K (He.ga Γ.K c) f)
    (hb : ∀ env, attributeBase e f env (eval e env) = eval e env := by intro _; rfl) : SE Γ (.Attribute e f pos) (eUn (fldOp cs f) m) :=
  ⟨fun W => by
    obtain ⟨t, s1, p1⟩ := h.run W
    refine ⟨tFld Γ.K t f, ?_, fun X c tk => by rw [← c.K]; exact pe_fld (p1 X c tk) (hb _)⟩
    refine Sim.bind (k := fun x σ H Q => ∃ a C dx fs v, x = .ref a ∧ H a = some (.ins C dx fs) ∧ Cls Γ.K C ∧ NoAttr Γ.K C f ∧ fs.lookup f = some v ∧ Q v H) (m' := fun a env st1 => Res.of (fldOp cs f a st1)) s1 fun Z F μ st env σ H Q a x g re ra hp => ?_
    obtain ⟨c, st3, e, k⟩ := Res.post_of hp
    unfold fldOp at e
    cases ei : insA a st with
    | none => rw [ei] at e; cases e
    | some q =>
      obtain ⟨cn, ns, xs⟩ := q
      rw [ei] at e
      dsimp only at e
      split at e
      · rename_i hc
        obtain ⟨p, dx, fs, rfl, h1, h2, h3⟩ := insA_ok g ra ei
        cases el : (ns.zip xs).lookup f with
        | none => rw [el] at e; cases e
        | some w =>
          rw [el] at e; cases e
          obtain ⟨v, hv, rv⟩ := lookup_reps h2 h3 el
          exact ⟨p, _, dx, fs, v, rfl, h1, (hcs _ hc).1, (hcs _ hc).2, hv, k.now g rv⟩
      · cases e⟩
/-! ### methods -/
/-- o.m(..), o an instance of the class c -/
def eMeth (c : Str) (mn : Str) (M : List A → Store → Res A) (mo : AEnv → Store → Res A) (ms : AEnv → Store → Res (List A)) : AEnv → Store → Res A := fun env st => (mo env st).bind fun a st1 => match insA a st1 with
  | some (c', ns, xs) => if c' = c ∧ (ns.zip xs).lookup mn = none ∧ ns.length = xs.length then (ms env st1).bind fun as st2 => M (a :: as) st2 else .stuck
  | none => .stuck
theorem lookup_none {K : PySem.W.Frag} {F : Hp} {μ : List Addr} {f : Str} : ∀ {fs : List (Str × V)} {ns : List Str} {xs : List A}, fs.map (·.1) = ns → Reps K F μ xs (fs.map (·.2)) → (ns.zip xs).lookup f = none → fs.lookup f = none
  | [], ns, xs, h1, h2, h3 => rfl
  | (g, w) :: fs, ns, xs, h1, h2, h3 => by
    subst h1
    cases h2 with
    | @cons y _ ys _ r t =>
      rw [List.map_cons, List.zip_cons_cons, List.lookup_cons] at h3
      rw [List.lookup_cons]
      cases e : (f == g) with
      | true => rw [e] at h3; cases h3
      | false => rw [e] at h3; exact lookup_none rfl t h3
theorem sim_meth {K : PySem.W.Frag} {W : WX} {c mn : Str} {n : Nat} {M : List A → Store → Res A} {ta : TE} {t : TA} (ar : ∀ as st, as.length ≠ n → M as st = .stuck) (ho : Sim K Rep W ta mo) (ha : Sim K Reps W t ms) : Sim K Rep W (tMethE (He.ga K c) mn (spM K n M) (WE W) ta t) (eMeth c mn M mo ms) := by
  intro Z F μ st env σ H Q g re hp
  unfold eMeth at hp
  rw [Res.post_bind] at hp
  refine ho Z F μ st env σ H _ g re (Res.post_mono hp (fun a st1 q => ?_) fun _ _ q => q)
  intro F1 μ1 H1 x e1 g1 ra
  cases ei : insA a st1 with
  | none => rw [ei] at q; exact q.elim
  | some z =>
    obtain ⟨c', ns, xs⟩ := z
    rw [ei] at q
    dsimp only at q
    split at q
    · rename_i hc
      obtain ⟨rfl, hl, _⟩ := hc
      obtain ⟨p, dx, fs, rfl, h1, h2, h3⟩ := insA_ok g1 ra ei
      refine ⟨p, dx, fs, rfl, h1, lookup_none h2 h3 hl, ?_⟩
      rw [Res.post_bind] at q
      refine ha Z F1 μ1 st1 env σ H1 _ g1 (re.mono e1) (Res.post_mono q (fun as st2 q => ?_) fun _ _ q => q.ext e1)
      intro F2 μ2 H2 vs e2 g2 rs
      have rr : Reps K F2 μ2 (a :: as) (.ref p :: vs) := .cons (ra.mono e2) rs
      refine ⟨?_, Z, F2, μ2, st2, a :: as, g2, rr, post_ext (e1.trans e2) q⟩
      rw [← rr.length]
      by_cases h : (a :: as).length = n
      · exact h
      · rw [ar _ _ h] at q; exact q.elim
    · exact q.elim
theorem s_meth {j : Nat} {c mn : Str} {fa : Addr} {ps : List Str} {M : List A → Store → Res A} {pl : Env → Sem Bool} (F : FnS Γ.P Γ.w Γ.K Γ.mg Γ.base j fa ps M) (hj : j ≤ Γ.k) (hc : Cls Γ.K (He.ga Γ.K c)) (hm : Meth Γ.K (He.ga Γ.K c) mn fa)
    (ho : SE Γ o mo) (ha : SA Γ (e :: es) ms) (he : ∀ env, starEach (e :: es) env = (false, eval e env) :: starEach es env := by intro _; rfl)
    (hpl : ∀ env, (backTo pos (starEach es env)).any (·.1) = false := by intro _; rfl)
    (ht : ∀ env, eval (.Call (.Attribute o mn apos) (e :: es) [] pos) env = (do
      let ov ← eval o env
      standAt apos.atName
      let (f, first) ← holding [ov] (getMethod ov mn (pl env))
      callWith pos f first (backTo pos (starEach (e :: es) env)) (backToKw pos (keywordEach [] env))) := by intro _; rfl)
    (cm : Γ.calm = true := by rfl) : SE Γ (.Call (.Attribute o mn apos) (e :: es) [] pos) (eMeth c mn M mo ms) :=
  ⟨fun W => by
    obtain ⟨fd, h1, h2⟩ := F.ex
    obtain ⟨to, so, po⟩ := ho.run W
    obtain ⟨ta, sa, pa⟩ := ha.run W
    refine ⟨_, sim_meth (c := c) F.ar so sa, fun X cx t => ?_⟩
    have h1' : FnOk X.prog X.w X.K X.mg X.base (L2.CX X.prog X.w) j fa fd ps (spM Γ.K ps.length M) := by
      rw [cx.prog, cx.w, cx.K, cx.mg, cx.base]; exact h1
    exact pe_methE (po X cx t) (by rw [cx.K]; exact hc) (by rw [cx.K]; exact hm) h1' ((cx.room cm).mono hj) (by rw [cx.K]; exact h2) (fun σ => passAt t σ) (pa X cx t) (he _) (hpl _) (ht _)⟩
theorem sim_aNil {K : PySem.W.Frag} {W : WX} : Sim K Reps W tNil aNil := fun Z F μ st env σ H Q g re hp => (show Kont K Z Reps F μ Q [] st from hp).now g .nil
theorem s_meth0 {j : Nat} {c mn : Str} {fa : Addr} {ps : List Str} {M : List A → Store → Res A} {pl : Env → Sem Bool} (F : FnS Γ.P Γ.w Γ.K Γ.mg Γ.base j fa ps M) (hj : j ≤ Γ.k) (hc : Cls Γ.K (He.ga Γ.K c)) (hm : Meth Γ.K (He.ga Γ.K c) mn fa)
    (ho : SE Γ o mo)
    (ht : ∀ env, eval (.Call (.Attribute o mn apos) [] [] pos) env = (do
      let ov ← eval o env
      standAt apos.atName
      let (f, first) ← holding [ov] (getMethod ov mn (pl env))
      callWith pos f first (backTo pos (starEach [] env)) (backToKw pos (keywordEach [] env))) := by intro _; rfl)
    (cm : Γ.calm = true := by rfl) : SE Γ (.Call (.Attribute o mn apos) [] [] pos) (eMeth c mn M mo aNil) :=
  ⟨fun W => by
    obtain ⟨fd, h1, h2⟩ := F.ex
    obtain ⟨to, so, po⟩ := ho.run W
    refine ⟨_, sim_meth (c := c) F.ar so sim_aNil, fun X cx t => ?_⟩
    have h1' : FnOk X.prog X.w X.K X.mg X.base (L2.CX X.prog X.w) j fa fd ps (spM Γ.K ps.length M) := by
      rw [cx.prog, cx.w, cx.K, cx.mg, cx.base]; exact h1
    exact pe_methE0 (po X cx t) (by rw [cx.K]; exact hc) (by rw [cx.K]; exact hm) h1' ((cx.room cm).mono hj) (by rw [cx.K]; exact h2) (fun σ => passAt t σ) (ht _)⟩
/-! ### C(..): an instance that stays as its __init__ left it -/
noncomputable def mkIns (c : Str) (M : List A → Store → Res A) : List A → Store → Res A := fun as st => match M (.cell st.length :: as) (st ++ [.obj c [] []]) with
  | .ok .non st2 => (match st2[st.length]? with
    | some (.obj c' ns xs) => if c' = c ∧ belowL st.length xs = true ∧ okS st.length st st2 then .ok (.obj c ns xs) (st2.take st.length) else .stuck
    | _ => .stuck)
  | .exc x st2 => if belowL st.length x.vs = true ∧ okS st.length st st2 then .exc x (st2.take st.length) else .stuck
  | _ => .stuck
noncomputable def eMake (c : Str) (M : List A → Store → Res A) (ms : AEnv → Store → Res (List A)) : AEnv → Store → Res A := fun env st => (ms env st).bind fun as st1 => mkIns c M as st1
theorem sim_make {K : PySem.W.Frag} {W : WX} {c : Str} {n : Nat} {M : List A → Store → Res A} {t : TA} (ar : ∀ as st, as.length ≠ n → M as st = .stuck) (ha : Sim K Reps W t ms) : Sim K Rep W (tMakeE (He.ga K c) (spM K n M) (WE W) t) (eMake c M ms) := by
  intro Z F μ st env σ H Q g re hp
  unfold eMake at hp
  rw [Res.post_bind] at hp
  refine ha Z F μ st env σ H _ g re (Res.post_mono hp (fun as st1 q => ?_) fun _ _ q => q)
  intro F1 μ1 H1 vs e1 g1 rs x dx hx hdx hne
  obtain ⟨g2, e2⟩ := g1.known (p := dx) (o := .own x) hdx
  have hx2 : upd H1 dx (.own x) x = none := by rw [upd_ne (fun z => hne z.symm)]; exact hx
  have hcr : CRep K (upd F1 dx (.own x)) μ1 (upd (upd H1 dx (.own x)) x (.ins (He.ga K c) dx [])) (.obj c [] []) x := ⟨dx, [], upd_same, by rw [upd_ne hne, upd_same], rfl, .nil⟩
  obtain ⟨g3, e3⟩ := g2.push (p := x) (o := .ins (He.ga K c) dx []) (c := .obj c [] []) hx2 hcr
  have hlen : μ1.length = st1.length := g1.len
  have hxn : (μ1 ++ [x])[st1.length]? = some x := by rw [← hlen, List.getElem?_append_right (Nat.le_refl _), Nat.sub_self]; rfl
  have rr : Reps K (upd F1 dx (.own x)) (μ1 ++ [x]) (.cell st1.length :: as) (.ref x :: vs) := .cons (.cell hxn) (rs.mono (e2.trans e3))
  have e13 : Ext F (upd F1 dx (.own x)) μ (μ1 ++ [x]) := e1.trans (e2.trans e3)
  have e03 : Ext F1 (upd F1 dx (.own x)) μ1 (μ1 ++ [x]) := e2.trans e3
  unfold mkIns at q
  refine ⟨?_, Z, _, _, _, _, g3, rr, ?_⟩
  · rw [← rr.length]
    by_cases h : (A.cell st1.length :: as).length = n
    · exact h
    · rw [ar _ _ h] at q; exact q.elim
  · generalize M (.cell st1.length :: as) (st1 ++ [.obj c [] []]) = r at q ⊢
    cases r with
    | stuck => exact q.elim
    | exc y st2 =>
      intro F' μ' H' d e' g' xr
      dsimp only at q
      split at q
      · rename_i hb
        have eA : Ext F1 F' μ1 μ' := e03.trans e'
        have hm := pre_take eA
        have gt := g'.trunc (okS_bel g1 hb.2)
        rw [← g1.len, hm] at gt
        refine (show KX K Z F μ σ W y (st2.take st1.length) from q) F' μ1 H' d (e1.trans ⟨eA.f, fun _ _ z => z⟩) (by rw [← g1.len]; exact gt) ?_
        rcases xr with xr | ⟨dd, fs, h1, h2, h3, h4⟩
        · exact .inl xr
        · refine .inr ⟨dd, fs, h1, h2, h3, ?_⟩
          have := h4.cut hb.1
          rw [← g1.len, hm] at this
          exact this
      · exact q.elim
    | ok b st2 =>
      intro F' μ' H' bv e' g' rb
      cases b with
      | non =>
        cases rb
        refine ⟨rfl, ?_⟩
        dsimp only at q
        cases ec : st2[st1.length]? with
        | none => rw [ec] at q; exact q.elim
        | some cc =>
          rw [ec] at q
          cases cc with
          | obj c' ns xs =>
            dsimp only at q
            split at q
            · rename_i hb
              obtain ⟨rfl, hbx, hok⟩ := hb
              have hx' : μ'[st1.length]? = some x := e'.m _ _ hxn
              have eA : Ext F1 F' μ1 μ' := e03.trans e'
              have hm := pre_take eA
              obtain ⟨a2, m2, ⟨hF, hZ⟩, dx', fs, h4, h7, h6, h5⟩ := g'.cell st1.length _ ec (by intro z; cases z)
              rw [hx'] at m2; cases m2
              obtain ⟨gk, xk⟩ := g'.know (o := .ins (He.ga K c') dx' fs) ec (by intro z; cases z) hx' h4
              have hzd : Z dx' = none := by
                cases ez : Z dx' with
                | none => rfl
                | some u =>
                  have c1 := g'.zc _ _ ez
                  have c2 := g'.zub _ _ ez
                  rw [h7] at c2; cases c2; cases c1
              have hfd : upd F' x (.ins (He.ga K c') dx' fs) dx' = none ∨ upd F' x (.ins (He.ga K c') dx' fs) dx' = some (.own x) := by
                cases ef : upd F' x (.ins (He.ga K c') dx' fs) dx' with
                | none => exact .inl rfl
                | some u => have := gk.sub _ _ ef; rw [h7] at this; exact .inr this.symm
              obtain ⟨gl, xl⟩ := gk.knowO (q := dx') (u := .own x) h7 rfl hzd hfd
              have hbel : ∀ i d, i < st1.length → (st2.set st1.length .dead)[i]? = some d → d ≠ .dead → d.bel st1.length = true := fun i d hi hd hn => by
                rw [List.getElem?_set_ne (by omega)] at hd
                exact okS_bel g1 hok i d hi hd hn
              have gt := gl.trunc hbel
              have hst : (st2.set st1.length .dead).take st1.length = st2.take st1.length := by rw [List.take_set_of_le (Nat.le_refl _)]
              rw [hst, ← g1.len, hm] at gt
              have hr := (h5.mono (xk.trans xl)).cut hbx
              rw [← g1.len, hm] at hr
              have eF : Ext F (upd (upd F' x (.ins (He.ga K c') dx' fs)) dx' (.own x)) μ μ1 := e1.trans ⟨fun a o h => xl.f _ _ (xk.f _ _ (eA.f a o h)), fun _ _ z => z⟩
              exact (show Kont K Z Rep F μ Q (.obj c' ns xs) (st2.take st1.length) from q) _ μ1 H' _ eF (by rw [← g1.len]; exact gt) (.obj (xl.f _ _ upd_same) upd_same h6 hr)
            · exact q.elim
          | _ => exact q.elim
      | _ => exact q.elim
theorem s_make {j : Nat} {x : Str} {fa : Addr} {ps : List Str} {M : List A → Store → Res A} (F : FnS Γ.P Γ.w Γ.K Γ.mg Γ.base j fa ps M) (hj : j + 1 ≤ Γ.k) (mk : Mk Γ.K (He.ga Γ.K x) fa) (hg : Γ.sc.names.lookup x = some .globalImplicit) (hm : Γ.mg x = some (.ref (He.ga Γ.K x)))
    (ha : SA Γ (e :: es) ms) (hdb : (x == ("__debug__" : Str)) = false := by decide) (he : ∀ env, starEach (e :: es) env = (false, eval e env) :: starEach es env := by intro _; rfl)
    (hpl : ∀ env, (backTo pos (starEach es env)).any (·.1) = false := by intro _; rfl) (cm : Γ.calm = true := by rfl) : SE Γ (.Call (.Name x p) (e :: es) [] pos) (eMake x M ms) :=
  ⟨fun W => by
    obtain ⟨fd, h1, h2⟩ := F.ex
    obtain ⟨ta, sa, pa⟩ := ha.run W
    refine ⟨_, sim_make (c := x) F.ar sa, fun X c t => ?_⟩
    have h1' : FnOk X.prog X.w X.K X.mg X.base (L2.CX X.prog X.w) j fa fd ps (spM Γ.K ps.length M) := by
      rw [c.prog, c.w, c.K, c.mg, c.base]; exact h1
    exact pe_makeE (C := He.ga Γ.K x) (by rw [c.K]; exact mk) h1' ((c.room cm).mono hj) (c.gl hg) (by rw [c.mg]; exact hm) (by rw [c.K]; exact h2) (fun σ => passAt t σ) (pa X c t) hdb (he _) (hpl _)⟩
/-! ### o.f = e, of an instance that is the def's own or the caller's cell -/
def putN (f : Str) (v : A) : List Str → List A → List Str × List A
  | [], _ => ([f], [v])
  | g :: ns, x :: xs => if g = f then (g :: ns, v :: xs) else (g :: (putN f v ns xs).1, x :: (putN f v ns xs).2)
  | g :: ns, [] => (g :: ns, [])
theorem putN_ok {K : PySem.W.Frag} {F : Hp} {μ : List Addr} {f : Str} {v : A} {w : V} (rv : Rep K F μ v w) : ∀ {fs : List (Str × V)} {ns : List Str} {xs : List A}, fs.map (·.1) = ns → Reps K F μ xs (fs.map (·.2)) → (putF f w fs).map (·.1) = (putN f v ns xs).1 ∧ Reps K F μ (putN f v ns xs).2 ((putF f w fs).map (·.2))
  | [], _, xs, h1, h2 => by
    subst h1; cases h2
    exact ⟨rfl, .cons rv .nil⟩
  | (g, z) :: fs, _, _, h1, h2 => by
    subst h1
    cases h2 with
    | @cons y _ ys _ r t =>
      rw [List.map_cons]
      by_cases e : g = f
      · simp only [putN, putF, if_pos e]
        exact ⟨rfl, .cons rv t⟩
      · simp only [putN, putF, if_neg e]
        obtain ⟨h3, h4⟩ := putN_ok rv (fs := fs) rfl t
        exact ⟨by rw [List.map_cons, h3], .cons r h4⟩
def fldSet (cs : List Str) (f : Str) (o v : A) (st : Store) : Option Store := match o with
  | .cell n => (match st[n]? with
    | some (.obj c ns xs) => if c ∈ cs ∧ xs.length < 1000 then some (st.set n (.obj c (putN f v ns xs).1 (putN f v ns xs).2)) else none
    | _ => none)
  | _ => none
def sFldM (cs : List Str) (f : Str) (m mo : AEnv → Store → Res A) : MS := fun env st => (m env st).toS env fun v st1 => (mo env st1).toS env fun o st2 => match fldSet cs f o v st2 with
  | some st3 => .nx env st3
  | none => .stuck
theorem st_fldA {f : Str} {pos' : Pos} (cs : List Str) (h : SE Γ e m) (ho : SE Γ o mo) (hcs : ∀ c ∈ cs, Cls Γ.K (He.ga Γ.K c) ∧ NoAttr Γ.K (He.ga Γ.K c) f)
    (hs : ∀ env, swapsWith e (some (.Attribute o f pos')) pos.line env = pure false := by intro _; rfl) : SS Γ fo (.Assign [.Attribute o f pos'] e pos) (sFldM cs f m mo) :=
  ⟨fun W => by
    obtain ⟨t, s1, p1⟩ := h.run W
    obtain ⟨t2, s2, p2⟩ := ho.run W
    refine ⟨sFld Γ.K t2 t f, ?_, fun X c hf k => by rw [← c.K]; exact ps_fld (p2 X c k) (p1 X c k) (hs _)⟩
    intro Z F μ st env σ H D g re hp
    unfold sFldM at hp
    rw [Res.post_toS] at hp
    refine s1 Z F μ st env σ H _ g re (Res.post_mono hp (fun v st1 q => ?_) fun x st1 q F1 μ1 H1 d e1 g1 x1 => q F1 μ1 H1 σ d e1 g1 (re.mono e1) x1)
    intro F1 μ1 H1 vv e1 g1 rv
    rw [Res.post_toS] at q
    refine s2 Z F1 μ1 st1 env σ H1 _ g1 (re.mono e1) (Res.post_mono q (fun o st2 q => ?_) fun x st2 q F2 μ2 H2 d e2 g2 x1 => q F2 μ2 H2 σ d (e1.trans e2) g2 (re.mono (e1.trans e2)) x1)
    intro F2 μ2 H2 ov e2 g2 ro
    unfold fldSet at q
    cases o with
    | cell n =>
      cases ro with
      | cell hn =>
        rename_i ad
        dsimp only at q
        cases ec : st2[n]? with
        | none => rw [ec] at q; exact q.elim
        | some cc =>
          rw [ec] at q
          cases cc with
          | obj c ns xs =>
            dsimp only at q
            by_cases hc : c ∈ cs ∧ xs.length < 1000
            · rw [if_pos hc] at q
              obtain ⟨a2, m2, _, dx, fs, h4, h7, h6, h5⟩ := g2.cell n _ ec (by intro z; cases z)
              rw [hn] at m2; cases m2
              obtain ⟨k1, k2⟩ := putN_ok (f := f) (rv.mono e2) h6 h5
              have hl : fs.length < 1000 := by have := h5.length; rw [List.length_map] at this; omega
              refine ⟨ad, He.ga Γ.K c, dx, fs, rfl, h4, (hcs c hc.1).1, (hcs c hc.1).2, hl, ?_⟩
              have hda : dx ≠ ad := fun z => by subst z; rw [h4] at h7; cases h7
              have gw := g2.write (c := .obj c (putN f v ns xs).1 (putN f v ns xs).2) (o := .ins (He.ga Γ.K c) dx (putF f vv fs)) ec (by intro z; cases z) hn ⟨dx, putF f vv fs, upd_same, by rw [upd_ne hda]; exact h7, k1, k2⟩
              exact KN.now ((show KN Γ.K Z F μ D.nx env _ from q).ext (e1.trans e2)) gw (re.mono (e1.trans e2))
            · rw [if_neg hc] at q; exact q.elim
          | _ => exact q.elim
    | _ => exact q.elim⟩
end
end SL

set_option Elab.async false
set_option linter.all false
set_option maxRecDepth 100000
set_option maxHeartbeats 4000000
/-! SLu: try with several clauses, each with a name or without; xs[::-1]; len within a suite. -/
namespace SL
open PySem PySem.Spec L2
open PyProof.Rows hiding St
/-! ### several clauses -/
abbrev Cls3 := Value × Option Nat × (Addr → Value → Option Addr → TS)
/-- the ends behind a suite: the name goes -/
def unE : Option Nat → Ends → Ends
  | none, D => D
  | some i, D => { nx := fun σ H => D.nx (σ.set i none) H, rt := D.rt, bk := fun σ H => D.bk (σ.set i none) H, ct := fun σ H => D.ct (σ.set i none) H }
def putE : Option Nat → Addr → L2.St → L2.St
  | none, _, σ => σ
  | some i, a, σ => σ.set i (some (.ref a))
def wCl (K : PySem.W.Frag) (Wo : WX) (D : Ends) : List Cls3 → WX
  | [] => Wo
  | (c, oi, ts) :: r => fun cls d σ H => ∃ b, PySem.W.exmOne K cls c = some b ∧ (b = true → ∀ a, H a = none → ts a cls d (unE oi D) (putE oi a σ) H) ∧ (b = false → wCl K Wo D r cls d σ H)
inductive HdN (X : Cx) : List ExceptHandler → List Cls3 → Prop
  | nil : HdN X [] []
  | as {x n : Str} {c : Value} {i : Nat} {ts : Addr → Value → Option Addr → TS} {b₀ : Stmt} {su : List Stmt} {np q : Pos} {hds : List ExceptHandler} {l : List Cls3} (hi : X.N[i]? = some n) (hln : X.env.kindOf n = some .local) (hc : Names X x c)
      (hsu : ∀ (a : Addr) (oe : Obj) (cls : Value) (d : Option Addr) (pn : List (Addr × Obj)), Zc cls d oe → (∃ vs, oe.data = .fields vs) → PSs (X.suite a ((a, oe) :: pn)) (b₀ :: su) (ts a cls d)) (r : HdN X hds l) :
      HdN X (.ExceptHandler (some (.Name x np)) (some n) (b₀ :: su) q :: hds) ((c, some i, ts) :: l)
  | no {x : Str} {c : Value} {ts : Addr → Value → Option Addr → TS} {b₀ : Stmt} {su : List Stmt} {np q : Pos} {hds : List ExceptHandler} {l : List Cls3} (hc : Names X x c)
      (hsu : ∀ (a : Addr) (oe : Obj) (cls : Value) (d : Option Addr) (pn : List (Addr × Obj)), Zc cls d oe → (∃ vs, oe.data = .fields vs) → PSs (X.suite a ((a, oe) :: pn)) (b₀ :: su) (ts a cls d)) (r : HdN X hds l) :
      HdN X (.ExceptHandler (some (.Name x np)) none (b₀ :: su) q :: hds) ((c, none, ts) :: l)
theorem ps_tryN {X : Cx} {body : List Stmt} {h₀ : ExceptHandler} {hds : List ExceptHandler} {l : List Cls3} {pos : Pos} {tb : WX → TS} {Wo : WX} (hs : X.stack = X.env :: X.outer) (hf : X.env.frame = some X.env.locals) (hN : X.N.Nodup) (tk : Takes X Wo)
    (hb : ∀ (W : WX) (pn : List (Addr × Obj)) (xe : Value → Shared → Prop), Takes (X.tr pn xe) W → PassesOwn (model X.prog X.w) X.A X.env xe → PSs (X.tr pn xe) body (tb W))
    (hh : HdN X (h₀ :: hds) l) : PS X (.Try body (h₀ :: hds) [] [] pos) (fun D σ H => tb (wCl X.K Wo D l) D σ H) := by
  refine ⟨fun pins s σ H D I hw => ?_⟩
  have ok := I.ok
  have fr : X.A.frames = some (X.env :: X.outer) := ok.frames.trans (congrArg some hs)
  refine wpAny_Try_except (wpAny_mono ((hb _ (X.pn ++ pins) (fun e s₁ => wpAny (model X.prog X.w) X.A (noteFrame e X.env) (fun _ s₂ => wpAny (model X.prog X.w) X.A (setFlight e none) (fun _ s₃ =>
    wpAny (model X.prog X.w) X.A (handleBy e X.env (h₀ :: hds)) (SP X pins D) X.xe s₃) X.xe s₂) X.xe s₁) (fun u s' z => ?_) PassesOwn.looking).run [] s σ H D (I.toTry _) hw) (fun f s1 z => ?_) (fun _ _ z => z))
  · obtain ⟨a, B, sI, pins', σ', H', cls, d, rfl, J0, nb, up, sky, na, os, ag, w⟩ := z
    have J := J0.ofTry ok
    rw [hs] at sky
    show wpAny (model X.prog X.w) X.A (noteFrame (.ref a) X.env) _ _ _
    refine Sky.land Zc.steady fr hf sky fun h3 fl3 up3 => ?_
    have J3 : Inv X pins σ' H' { s' with heap := h3 } := J.landed nb fl3.1 (up.trans up3) os ag
    obtain ⟨o3, vs3, e3, z3, d3⟩ := fl3.there
    have nfr : a ∉ frs (X.env :: X.outer) := fun hm => by
      obtain ⟨_, o', e', hnf⟩ := fl3.2.2.1.mem hm
      rw [e3] at e'; cases e'
      exact hnf _ d3
    have nL : a ≠ X.env.locals := fun z => nfr (List.mem_filterMap.mpr ⟨X.env, List.mem_cons_self, by rw [hf, z]⟩)
    have nF : a ∉ X.fs := fun hm => by
      obtain ⟨e, he, q⟩ := List.mem_filterMap.mp hm
      exact nfr (List.mem_filterMap.mpr ⟨e, List.mem_cons_of_mem _ he, q⟩)
    have S3 := J3.suite e3 d3 na nL nF
    have isA : PySem.W.Looks (model X.prog X.w) h3 (typeOf (.ref a)) cls := fun A Q E s k q => wpAny_typeOf_ref (k _ _ e3) (by rw [z3.1]; exact q)
    have named : ∀ {x : Str} {c : Value} {np : Pos} {Q E : Value → Shared → Prop}, Names X x c → Q c { s' with heap := h3 } → wpAny (model X.prog X.w) (X.A.mark (some (.ref a))) (eval (.Name x np) X.env) Q E { s' with heap := h3 } := fun {x c np Q E} hc q => by
      obtain ⟨hg, hd, hm | ⟨hm, hv, hn⟩⟩ := hc
      · exact ld_glob (X := X.suite a ((a, o3) :: (X.pn ++ pins))) S3 hg hm q hd
      · exact ld_blt (X := X.suite a ((a, o3) :: (X.pn ++ pins))) S3 hg hm hv q hn hd
    have go : ∀ {hds' : List ExceptHandler} {l' : List Cls3}, HdN X hds' l' → wCl X.K Wo D l' cls d σ' H' → wpAny (model X.prog X.w) X.A (handleBy (.ref a) X.env hds') (SP X pins D) X.xe { s' with heap := h3 } := by
      intro hds' l' hk
      induction hk with
      | nil =>
        intro w
        refine wpAny_handleBy_nil ?_
        obtain ⟨_, _, _, oe, vs, T, oT, ts', he, hz, hd, h1, _⟩ := id fl3
        unfold PySem.passOn
        refine wpAny_bind (wpAny_field he hd h1 ?_)
        rw [if_neg (show ¬ ((Value.ref T == Value.none) = true) by simp)]
        have fin : wpAny (model X.prog X.w) X.A (setFlight (.ref a) X.env.frame) (fun _ s4 => wpAny (model X.prog X.w) X.A (throw (.ref a) : Sem Flow) (SP X pins D) X.xe s4) X.xe { s' with heap := h3 } := by
          rw [hf]
          refine HandSPX.setFlight_upZ fl3 fun h4 hh4 up4 => wpAny_throw (tk _ _ ?_)
          rw [← hs] at hh4
          exact ⟨a, B, sI, pins, σ', H', cls, d, rfl, J, nb, (up.trans up3).trans up4, .inr (.inr hh4), na, os, ag, w⟩
        first | exact wpAny_bind (wpAny_pure (wpAny_bind fin)) | exact wpAny_bind fin
      | @as x n c i ts b₀ su np q hds2 l2 hi hln hc hsu r ih =>
        intro ⟨b, hb1, hy, hno⟩
        refine wpAny_handleBy_cons (codeAny_handlers_test ?_) (by intro q; cases q)
        refine named hc ((PySem.W.exm_one (M := model X.prog X.w) J3.kIn isA hb1).here ?_)
        cases b with
        | false => exact ih (hno rfl)
        | true =>
          refine codeAny_handlers_suite_as (HandSPX.lands_againZ fl3 fun h4 fl4 up4 => ?_)
          have J4 : Inv X pins σ' H' { s' with heap := h4 } := J.landed nb fl4.1 ((up.trans up3).trans up4) os ag
          obtain ⟨o4, vs4, e4, z4, d4⟩ := fl4.there
          refine store_ok (X := X.suite a ((a, o4) :: (X.pn ++ pins))) (v := .ref a) (J4.suite e4 d4 na nL nF) hN hi (.inl hln) rfl (fun s5 S5 => ?_) (.inr hln)
          refine wpAny_mono ((hsu a o4 cls d (X.pn ++ pins) z4 ⟨_, d4⟩).run [] s5 _ H' _ S5 (hy rfl a na)) (fun f s6 hsp => ?_) (fun _ _ z => z.elim)
          have gone : ∀ {σ6 : L2.St} {H6 : Hp} {Q : Shared → Prop}, Inv (X.suite a ((a, o4) :: (X.pn ++ pins))) [] σ6 H6 s6 → (∀ s7, Inv X pins (σ6.set i none) H6 s7 → Q s7) →
              wpAny (model X.prog X.w) X.A (do bindName X.env n .none; unbindBehindTheSuite X.env n q) (fun _ s7 => Q s7) X.xe s6 := fun {σ6 H6 Q} S6 hq => gone_ok (S6.unsuite ok) hN hi hln hq
          cases f with
          | ret u => exact let ⟨v6, σ6, H6, S6, r6, q6⟩ := hsp; gone S6 fun s7 J7 => ⟨_, _, _, J7, r6, q6⟩
          | next => exact let ⟨σ6, H6, S6, q6⟩ := hsp; gone S6 fun s7 J7 => ⟨_, _, J7, q6⟩
          | brk => exact let ⟨σ6, H6, S6, q6⟩ := hsp; gone S6 fun s7 J7 => ⟨_, _, J7, q6⟩
          | cont => exact let ⟨σ6, H6, S6, q6⟩ := hsp; gone S6 fun s7 J7 => ⟨_, _, J7, q6⟩
      | @no x c ts b₀ su np q hds2 l2 hc hsu r ih =>
        intro ⟨b, hb1, hy, hno⟩
        refine wpAny_handleBy_cons (codeAny_handlers_test ?_) (by intro q; cases q)
        refine named hc ((PySem.W.exm_one (M := model X.prog X.w) J3.kIn isA hb1).here ?_)
        cases b with
        | false => exact ih (hno rfl)
        | true =>
          refine codeAny_handlers_suite (HandSPX.lands_againZ fl3 fun h4 fl4 up4 => ?_)
          have J4 : Inv X pins σ' H' { s' with heap := h4 } := J.landed nb fl4.1 ((up.trans up3).trans up4) os ag
          obtain ⟨o4, vs4, e4, z4, d4⟩ := fl4.there
          have S4 := J4.suite e4 d4 na nL nF
          refine wpAny_mono ((hsu a o4 cls d (X.pn ++ pins) z4 ⟨_, d4⟩).run [] _ _ H' _ S4 (hy rfl a na)) (fun f s6 hsp => ?_) (fun _ _ z => z.elim)
          cases f with
          | ret u => exact let ⟨v6, σ6, H6, S6, r6, q6⟩ := hsp; ⟨_, _, _, S6.unsuite ok, r6, q6⟩
          | next => exact let ⟨σ6, H6, S6, q6⟩ := hsp; ⟨_, _, S6.unsuite ok, q6⟩
          | brk => exact let ⟨σ6, H6, S6, q6⟩ := hsp; ⟨_, _, S6.unsuite ok, q6⟩
          | cont => exact let ⟨σ6, H6, S6, q6⟩ := hsp; ⟨_, _, S6.unsuite ok, q6⟩
    exact go hh w
  · cases f with
    | ret u => exact let ⟨v, σ', H', J', r, q⟩ := z; ⟨v, σ', H', J'.ofTry ok, r, q⟩
    | next => exact let ⟨σ', H', J', q⟩ := z; wpAny_execs_nil ⟨σ', H', J'.ofTry ok, q⟩
    | brk => exact let ⟨σ', H', J', q⟩ := z; ⟨σ', H', J'.ofTry ok, q⟩
    | cont => exact let ⟨σ', H', J', q⟩ := z; ⟨σ', H', J'.ofTry ok, q⟩
abbrev Cl := List (Str × Bool) × Option Nat × (Addr → Str → Option Addr → MS)
/-- the first clause that takes it -/
noncomputable def pick : List Cl → Exc → AEnv → Store → SRes
  | [], x, e, s => .exc x e s
  | (tbl, oi, ms) :: r, x, e, s => open Classical in match tbl.lookup x.c with
    | some true => (match oi with
      | some i => if ∀ a d, clr i (ms a x.c d (e.set i (some (.xcp a d x.c x.ns x.vs))) s) = clr i (ms 0 x.c none (e.set i (some (.xcp 0 none x.c x.ns x.vs))) s) then clr i (ms 0 x.c none (e.set i (some (.xcp 0 none x.c x.ns x.vs))) s) else .stuck
      | none => if ∀ a d, noXS (ms a x.c d e s) = noXS (ms 0 x.c none e s) then noXS (ms 0 x.c none e s) else .stuck)
    | some false => pick r x e s
    | none => .stuck
noncomputable def sTryM (cl : List Cl) (body : MS) : MS := fun env st => match body env st with
  | .exc x e s => pick cl x e s
  | r => r
structure SCl (Γ : G) (fo : Str → Bool) (hds : List ExceptHandler) (cl : List Cl) : Prop where
  run : ∃ l : List Cls3, (∀ (W : WX) (D : Ends) (Z F : Hp) (μ : List Addr) (st : Store) (env : AEnv) (σ : L2.St) (H : Hp) (x : Exc) (d : Option Addr), Good Γ.K Z F μ st H → REnv Γ.K F μ env σ → XRep Γ.K F μ x d → (pick cl x env st).post (KS Γ.K Z F μ D W) → wCl Γ.K W D l (.ref (He.ga Γ.K x.c)) d σ H) ∧
    ∀ X, CtxOk Γ X → (∀ x, fo x = true → X.fn x = true) → HdN X hds l
section
variable {Γ : G} {fo : Str → Bool} {x n : Str} {i : Nat} {body suite : List Stmt} {b₀ : Stmt} {np pos pos' : Pos} {m : MS} {ms : Addr → Str → Option Addr → MS} {tbl : List (Str × Bool)} {hds : List ExceptHandler} {cl : List Cl}
theorem cl_nil : SCl Γ fo [] [] := ⟨[], fun W D Z F μ st env σ H x d g re xr hp => (show KXS Γ.K Z F μ W x env st from hp) F μ H σ d Ext.refl g re xr, fun X c hf => .nil⟩
theorem cl_as (hi : Γ.N[i]? = some n) (hl : Γ.sc.names.lookup n = some .local) (hg : Γ.sc.names.lookup x = some .globalImplicit) (hm : Γ.mg x = some (.ref (He.ga Γ.K x))) (hdb : (x == ("__debug__" : Str)) = false)
    (htb : ∀ p ∈ tbl, PySem.W.exmOne Γ.K (.ref (He.ga Γ.K p.1)) (.ref (He.ga Γ.K x)) = some p.2) (hsu : ∀ a c d, SB (Γ.hot a c d) fo (b₀ :: suite) (ms a c d)) (hr : SCl Γ fo hds cl) : SCl Γ fo (.ExceptHandler (some (.Name x np)) (some n) (b₀ :: suite) pos' :: hds) ((tbl, some i, ms) :: cl) := by
  classical
  obtain ⟨l, r1, r2⟩ := hr.run
  let ts : Addr → Value → Option Addr → TS := fun a cls d D σ H => ∃ c, cls = .ref (He.ga Γ.K c) ∧ Classical.choose ((hsu a c d).run W0) D σ H
  have hts : ∀ a c d, SimS Γ.K W0 (Classical.choose ((hsu a c d).run W0)) (ms a c d) ∧ ∀ X, CtxOk (Γ.hot a c d) X → (∀ x, fo x = true → X.fn x = true) → Takes X W0 → PSs X (b₀ :: suite) (Classical.choose ((hsu a c d).run W0)) := fun a c d => Classical.choose_spec ((hsu a c d).run W0)
  refine ⟨(.ref (He.ga Γ.K x), some i, ts) :: l, fun W D Z F μ st env σ H y d g re xr hp => ?_, fun X c hf => ?_⟩
  · unfold pick at hp
    cases hlk : tbl.lookup y.c with
    | none => rw [hlk] at hp; exact hp.elim
    | some b =>
      rw [hlk] at hp
      refine ⟨b, htb _ (lookup_mem' hlk), fun hbt a hna => ?_, fun hbf => ?_⟩
      · subst hbt
        dsimp only at hp
        split at hp
        · rename_i hall
          rw [← hall a d] at hp
          refine ⟨y.c, rfl, (hts a y.c d).1 Z F μ st _ _ H _ g (re.set i (xr.xcp a)) ?_⟩
          generalize ms a y.c d (env.set i (some (.xcp a d y.c y.ns y.vs))) st = r2 at hp ⊢
          cases r2 with
          | nx e2 s2 =>
            intro F3 μ3 H3 σ3 e3 g3 re3
            exact (show KN Γ.K Z F μ D.nx (e2.set i none) s2 from hp) F3 μ3 H3 _ e3 g3 (re3.unset' i)
          | rt a s2 => exact hp
          | bk e2 s2 =>
            intro F3 μ3 H3 σ3 e3 g3 re3
            exact (show KN Γ.K Z F μ D.bk (e2.set i none) s2 from hp) F3 μ3 H3 _ e3 g3 (re3.unset' i)
          | ct e2 s2 =>
            intro F3 μ3 H3 σ3 e3 g3 re3
            exact (show KN Γ.K Z F μ D.ct (e2.set i none) s2 from hp) F3 μ3 H3 _ e3 g3 (re3.unset' i)
          | exc _ _ _ => exact hp.elim
          | stuck => exact hp.elim
        · exact hp.elim
      · subst hbf
        exact r1 W D Z F μ st env σ H y d g re xr hp
  · refine .as (c.name hi) (by unfold Env.kindOf; rw [c.sc]; exact hl) ⟨c.gl hg, hdb, .inl (by rw [c.mg]; exact hm)⟩ (fun a oe cls d pn hz hfl => ⟨fun pins s σ H D I hh => ?_⟩) (r2 X c hf)
    obtain ⟨c', rfl, hh⟩ := hh
    exact ((hts a c' d).2 _ (c.hot hz hfl) hf takes0).run pins s σ H D I hh
theorem cl_no (hg : Γ.sc.names.lookup x = some .globalImplicit) (hm : Γ.mg x = some (.ref (He.ga Γ.K x))) (hdb : (x == ("__debug__" : Str)) = false)
    (htb : ∀ p ∈ tbl, PySem.W.exmOne Γ.K (.ref (He.ga Γ.K p.1)) (.ref (He.ga Γ.K x)) = some p.2) (hsu : ∀ a c d, SB (Γ.hot a c d) fo (b₀ :: suite) (ms a c d)) (hr : SCl Γ fo hds cl) : SCl Γ fo (.ExceptHandler (some (.Name x np)) none (b₀ :: suite) pos' :: hds) ((tbl, none, ms) :: cl) := by
  classical
  obtain ⟨l, r1, r2⟩ := hr.run
  let ts : Addr → Value → Option Addr → TS := fun a cls d D σ H => ∃ c, cls = .ref (He.ga Γ.K c) ∧ Classical.choose ((hsu a c d).run W0) D σ H
  have hts : ∀ a c d, SimS Γ.K W0 (Classical.choose ((hsu a c d).run W0)) (ms a c d) ∧ ∀ X, CtxOk (Γ.hot a c d) X → (∀ x, fo x = true → X.fn x = true) → Takes X W0 → PSs X (b₀ :: suite) (Classical.choose ((hsu a c d).run W0)) := fun a c d => Classical.choose_spec ((hsu a c d).run W0)
  refine ⟨(.ref (He.ga Γ.K x), none, ts) :: l, fun W D Z F μ st env σ H y d g re xr hp => ?_, fun X c hf => ?_⟩
  · unfold pick at hp
    cases hlk : tbl.lookup y.c with
    | none => rw [hlk] at hp; exact hp.elim
    | some b =>
      rw [hlk] at hp
      refine ⟨b, htb _ (lookup_mem' hlk), fun hbt a hna => ?_, fun hbf => ?_⟩
      · subst hbt
        dsimp only at hp
        split at hp
        · rename_i hall
          rw [← hall a d] at hp
          refine ⟨y.c, rfl, (hts a y.c d).1 Z F μ st _ _ H _ g re ?_⟩
          generalize ms a y.c d env st = r2 at hp ⊢
          cases r2 with
          | exc _ _ _ => exact hp.elim
          | _ => exact hp
        · exact hp.elim
      · subst hbf
        exact r1 W D Z F μ st env σ H y d g re xr hp
  · refine .no ⟨c.gl hg, hdb, .inl (by rw [c.mg]; exact hm)⟩ (fun a oe cls d pn hz hfl => ⟨fun pins s σ H D I hh => ?_⟩) (r2 X c hf)
    obtain ⟨c', rfl, hh⟩ := hh
    exact ((hts a c' d).2 _ (c.hot hz hfl) hf takes0).run pins s σ H D I hh
theorem st_tryM {h₀ : ExceptHandler} (hb : SB Γ fo body m) (hc : SCl Γ fo (h₀ :: hds) cl) (hst : Γ.st = true := by rfl) (hhx : Γ.hx = none := by rfl) : SS Γ fo (.Try body (h₀ :: hds) [] [] pos) (sTryM cl m) :=
  ⟨fun W => by
    classical
    obtain ⟨l, r1, r2⟩ := hc.run
    let tb : WX → TS := fun W => Classical.choose (hb.run W)
    have htbs : ∀ W, SimS Γ.K W (tb W) m ∧ ∀ X, CtxOk Γ X → (∀ x, fo x = true → X.fn x = true) → Takes X W → PSs X body (tb W) := fun W => Classical.choose_spec (hb.run W)
    refine ⟨fun D σ H => tb (wCl Γ.K W D l) D σ H, fun Z F μ st env σ H D g re hp => ?_, fun X c hf k => ?_⟩
    · refine (htbs _).1 Z F μ st env σ H D g re ?_
      unfold sTryM at hp
      generalize m env st = r at hp ⊢
      cases r with
      | exc y e s =>
        intro F' μ' H' σ' d e' g' re' xr
        exact r1 W D Z F' μ' s e σ' H' y d g' re' xr (KS.ext e' hp)
      | _ => exact hp
    · obtain ⟨k1, k2⟩ := c.stk hst
      have hK := c.K
      rw [← hK]
      exact ps_tryN k1 k2 c.nd k (fun W' pn xe tk ho => (htbs W').2 _ (c.tr ho hhx) hf tk) (r2 X c hf)⟩
end
/-! ### xs[::-1] -/
def revL (mk : Bool) : Op1 := fun a st => match lstR a st with
  | some xs => some (newL mk xs.reverse st)
  | none => none
theorem Reps.rev {K : PySem.W.Frag} {F : Hp} {μ : List Addr} : ∀ {xs : List A} {vs : List V}, Reps K F μ xs vs → Reps K F μ xs.reverse vs.reverse
  | _, _, .nil => .nil
  | _, _, .cons r t => by rw [List.reverse_cons, List.reverse_cons]; exact (Reps.rev t).append (.cons r .nil)
section
variable {Γ : G} {fo : Str → Bool} {e : Expr} {es : List Expr} {m : AEnv → Store → Res A} {ms : AEnv → Store → Res (List A)} {pos p p1 p2 p3 : Pos} {k : Nat}
theorem s_rev {mk : Bool} (h : SE Γ e m) : SE Γ (.Subscript e (.Slice none none (some (.UnaryOp .USub (.Constant (.int 1) k p1) p2)) p3) pos) (eUn (revL mk) m) :=
  ⟨fun W => by
    obtain ⟨t, s1, q1⟩ := h.run W
    refine ⟨tRevL Γ.K t, ?_, fun X c tk => by rw [← c.K]; exact pe_revL (q1 X c tk)⟩
    refine Sim.bind (k := fun (x : V) σ H (Q : VK) => ∃ a xs, x = .ref a ∧ SqL Γ.K H a xs ∧ ∀ p, H p = none → Q (.ref p) (upd H p (.lst xs.reverse))) (m' := fun a env st1 => Res.of (revL mk a st1)) s1 fun Z F μ st env σ H Q a x g re ra hp => ?_
    obtain ⟨c, st3, e, k⟩ := Res.post_of hp
    unfold revL at e
    cases el : lstR a st with
    | none => rw [el] at e; cases e
    | some xs =>
      rw [el] at e
      have e2 : newL mk xs.reverse st = (c, st3) := Option.some.inj e
      obtain ⟨p, vs, rfl, h1, r1⟩ := lstR_ok g ra el
      refine ⟨p, vs, rfl, h1, fun q hq => newL_ok (mk := mk) g hq r1.rev ?_⟩
      rw [e2]; exact k⟩
/-! ### len, anywhere -/
theorem s_lenH (hg : Γ.sc.names.lookup ("len" : Str) = some .globalImplicit) (hm : Γ.mg "len" = none) (ha : SA Γ (e :: es) ms)
    (he : ∀ env, starEach (e :: es) env = (false, eval e env) :: starEach es env := by intro _; rfl) (hpl : ∀ env, (backTo pos (starEach es env)).any (·.1) = false := by intro _; rfl) : SE Γ (.Call (.Name "len" p) (e :: es) [] pos) (eCB (one1 lenA) ms) :=
  ⟨fun W => by
    obtain ⟨ta, sa, pa⟩ := ha.run W
    refine ⟨_, sim_cb (K := Γ.K) (r := fun xs H Q => ∃ x n, xs = [x] ∧ LenV Γ.K x H n ∧ Q (.int n) H) (fun Z F μ st st' H as c xs Q g ra e k => ?_) sa, fun X c t => ?_⟩
    · obtain ⟨r, h1, h2⟩ := (cb_len.ex)
      cases as with
      | nil => cases e
      | cons a as =>
        cases as with
        | cons b as => cases e
        | nil =>
          obtain ⟨x, rfl, ra1⟩ := ra.one
          have seq_len : (seqR a st).map (fun xs => (A.int xs.length, st)) = some (c, st') → ∃ x' n, [x] = [x'] ∧ LenV Γ.K x' H n ∧ Q (.int n) H := fun e => by
            cases e1 : seqR a st with
            | none => rw [e1] at e; cases e
            | some xs =>
              rw [e1] at e; cases e
              obtain ⟨p, vs, rfl, h1, r1⟩ := seqR_ok g ra1 e1
              refine ⟨_, xs.length, rfl, ?_, k.same g (.int _)⟩
              rcases h1 with h1 | h1
              · exact .inl ⟨vs, h1, r1.length⟩
              · exact .inr ⟨vs, h1, r1.length⟩
          cases a with
          | str y =>
            cases ra1
            have e : (if y.length ≤ sizeLine then some (A.int y.length, st) else none) = some (c, st') := e
            by_cases hl : y.length ≤ sizeLine
            · rw [if_pos hl] at e; cases e; exact ⟨V.str y, y.length, rfl, (show y.length ≤ sizeLine ∧ y.length = y.length from ⟨hl, rfl⟩), k.same g (.int _)⟩
            · rw [if_neg hl] at e; cases e
          | _ => exact seq_len e
    · rw [← c.K]
      exact pe_callB call_len (c.gl hg) (c.mgn hm) PySem.boot_len (pa X c t) (by decide) (by decide) (he _) (hpl _)⟩
end
/-! ### how these are computed -/
section
variable {env : AEnv} {st : Store} {m mo : AEnv → Store → Res A} {ms : AEnv → Store → Res (List A)} {cs : List Str} {f c mn : Str} {M : List A → Store → Res A}
theorem eMeth_ap : eMeth c mn M mo ms env st = (mo env st).bind fun a st1 => match insA a st1 with
  | some (c', ns, xs) => if c' = c ∧ (ns.zip xs).lookup mn = none ∧ ns.length = xs.length then (ms env st1).bind fun as st2 => M (a :: as) st2 else .stuck
  | none => .stuck := (rfl)
theorem eMake_ap : eMake c M ms env st = (ms env st).bind fun as st1 => mkIns c M as st1 := (rfl)
theorem sFldM_ap : sFldM cs f m mo env st = (m env st).toS env fun v st1 => (mo env st1).toS env fun o st2 => match fldSet cs f o v st2 with
  | some st3 => .nx env st3
  | none => .stuck := (rfl)
theorem mkIns_ok {as : List A} {ns : List Str} {xs : List A} (h : M (.cell st.length :: as) (st ++ [.obj c [] []]) = .ok .non (st ++ [.obj c ns xs])) (hb : belowL st.length xs = true) : mkIns c M as st = .ok (.obj c ns xs) st := by
  unfold mkIns
  rw [h]
  simp only [List.getElem?_append_right (Nat.le_refl _), Nat.sub_self, List.getElem?_cons_zero]
  rw [if_pos ⟨trivial, hb, okS_app⟩, List.take_left]
theorem mkIns_exc {as : List A} {x : Exc} {d : C} (h : M (.cell st.length :: as) (st ++ [.obj c [] []]) = .exc x (st ++ [d])) (hb : belowL st.length x.vs = true) : mkIns c M as st = .exc x st := by
  unfold mkIns
  rw [h]
  simp only
  rw [if_pos ⟨hb, okS_app⟩, List.take_left]
end
end SL

set_option Elab.async false
set_option linter.all false
set_option maxRecDepth 100000
set_option maxHeartbeats 4000000
/-! SLv: math.gcd; helpers for loops, comprehensions, several clauses. -/
namespace SL
open PySem PySem.Spec L2
open PyProof.Rows hiding St
def gcdA : Op2 := fun a b st => match a, b with
  | .int i, .int j => some (.int ((Nat.gcd i.natAbs j.natAbs : Nat) : Int), st)
  | _, _ => none
@[simp] theorem gcdA_ii {i j : Int} {st : Store} : gcdA (.int i) (.int j) st = some (.int ((Nat.gcd i.natAbs j.natAbs : Nat) : Int), st) := (rfl)
theorem s_gcd {Γ : G} {x : Str} {e : Expr} {es : List Expr} {ms : AEnv → Store → Res (List A)} {p pos : Pos} (hg : Γ.sc.names.lookup x = some .globalImplicit) (hm : Γ.mg x = some (.builtin "math.gcd")) (ha : SA Γ (e :: es) ms) (hdb : (x == ("__debug__" : Str)) = false := by decide)
    (he : ∀ env, starEach (e :: es) env = (false, eval e env) :: starEach es env := by intro _; rfl) (hpl : ∀ env, (backTo pos (starEach es env)).any (·.1) = false := by intro _; rfl) : SE Γ (.Call (.Name x p) (e :: es) [] pos) (eCB (two2 gcdA) ms) :=
  ⟨fun W => by
    obtain ⟨ta, sa, pa⟩ := ha.run W
    refine ⟨_, sim_cb (K := Γ.K) (r := rGcd) (fun Z F μ st st' H as c xs Q g ra e k => ?_) sa, fun X c t => ?_⟩
    · cases as with
      | nil => cases e
      | cons a as =>
        cases as with
        | nil => cases e
        | cons b as =>
          cases as with
          | cons c as => cases e
          | nil =>
            obtain ⟨x, y, rfl, ra1, rb1⟩ := ra.two
            cases a with
            | int i =>
              cases b with
              | int j => cases ra1; cases rb1; cases e; exact ⟨i, j, rfl, k.same g (.int _)⟩
              | _ => cases e
            | _ => cases e
    · exact pe_callBfun cr_gcd (c.gl hg) (by rw [c.mg]; exact hm) (pa X c t) hdb (he _) (hpl _)⟩
end SL

set_option Elab.async false
set_option linter.all false
set_option maxRecDepth 100000
set_option maxHeartbeats 4000000
/-! SLw: a, b = e1, e2 of names. -/
namespace SL
open PySem PySem.Spec L2
open PyProof.Rows hiding St
def nostar : Expr → Bool
  | .Starred .. => false
  | _ => true
def fn? (sc : Scope) : Bool := !((if sc.kind.isAnnotationScope then ScopeKind.function else sc.kind) != .function)
def swB (sc : Scope) (x y : Str) (px py : Pos) (a b : Expr) : Bool := fn? sc && (sc.names.lookup x == some .local && (sc.names.lookup y == some .local && (py.line == px.line && (px.line == px.line && (([x, y] : List Str).eraseDups.length == 2 && (nostar a && (nostar b && (!([a, b].all (foldedForSure 8)) && !([a, b].all (constantsAlone 8))))))))))
def swN (a b : Expr) : Bool := nostar a && (nostar b && [a, b].all (foldedForSure 8))
theorem star_any {a b : Expr} (ha : nostar a = true) (hb : nostar b = true) : ([a, b].any fun | .Starred .. => true | _ => false) = false := by
  cases a <;> cases b <;> first | rfl | (cases ha; done) | (cases hb; done)
theorem sw_par {Γ : G} {X : Cx} (c : CtxOk Γ X) {x y : Str} {px py pt pt2 : Pos} {a b : Expr} {kt k2} (h : swB Γ.sc x y px py a b = true) : swappedStores [.Tuple [.Name x px, .Name y py] kt pt] (.Tuple [a, b] k2 pt2) X.env = pure (some [x, y]) := by
  unfold swB fn? at h
  simp only [Bool.and_eq_true, Bool.not_eq_true'] at h
  obtain ⟨h1, h2, h3, h4, h5, h6, h7, h8, h9, h10⟩ := h
  have hs := star_any h7 h8
  simp only [swappedStores, Env.blockKind, Env.kindOf, c.sc]
  rw [h1]
  simp only [List.length_cons, List.length_nil, List.head?_cons, Option.map_some, Option.getD_some, Expr.pos, List.filterMap_cons, List.filterMap_nil, h2, h3, h4, h5, Bool.and_self, if_true, h9, h10]
  simp only [Bool.or_false, bne_self_eq_false, Bool.not_true, beq_self_eq_true, Bool.true_or, Bool.false_or]
  rw [if_neg Bool.false_ne_true]
  split
  · rename_i z
    exact absurd (hs.symm.trans z) Bool.false_ne_true
  have h6' : (([x, y] : List Str).eraseDups.length != 0 + 1 + 1) = false := by
    rw [show (([x, y] : List Str).eraseDups.length) = 2 from eq_of_beq h6]; rfl
  rw [h6']
  rfl
theorem sw_none {env : Env} {x y : Str} {px py pt pt2 : Pos} {a b : Expr} {kt k2} (h : swN a b = true) : swappedStores [.Tuple [.Name x px, .Name y py] kt pt] (.Tuple [a, b] k2 pt2) env = pure none := by
  unfold swN at h
  simp only [Bool.and_eq_true] at h
  obtain ⟨h7, h8, h9⟩ := h
  have hs := star_any h7 h8
  simp only [swappedStores]
  split
  · rfl
  · split
    · rfl
    · split
      · rfl
      · first | rfl | (rw [h9]; rfl)
end SL

set_option Elab.async false
set_option linter.all false
set_option maxRecDepth 100000
set_option maxHeartbeats 4000000
/-! SLx: dicts with keys ints and texts: displays, get; list.extend; max and min of a list. -/
namespace SL
open PySem PySem.Spec L2
open PyProof.Rows hiding St
/-! ### keys, look up, put -/
def keyA : A → Option Key
  | .int i => some (.inl i)
  | .str x => some (.inr x)
  | _ => none
theorem keyA_ok {K : PySem.W.Frag} {F : Hp} {μ : List Addr} {a : A} {v : V} {k : Key} (r : Rep K F μ a v) (h : keyA a = some k) : v = kV k := by
  cases a <;> first | (cases h; cases r; rfl) | (cases h; done)
def lkA : List Key → List A → Key → Option A
  | k' :: ks, x :: xs, k => if k' = k then some x else lkA ks xs k
  | _, _, _ => none
theorem lkA_ok {K : PySem.W.Frag} {F : Hp} {μ : List Addr} {k : Key} : ∀ {kvs : List (Key × V)} {ks : List Key} {xs : List A}, kvs.map (·.1) = ks → Reps K F μ xs (kvs.map (·.2)) →
    (∀ x, lkA ks xs k = some x → ∃ v, valV kvs k = some v ∧ Rep K F μ x v) ∧ (lkA ks xs k = none → valV kvs k = none)
  | [], ks, xs, h, r => by
    subst h
    exact ⟨fun x e => by simp [lkA] at e, fun _ => rfl⟩
  | p :: kvs, ks, xs, h, r => by
    subst h
    cases r with
    | @cons a _ as _ ra rt =>
      have ih := lkA_ok (k := k) (kvs := kvs) rfl rt
      rw [List.map_cons]
      by_cases e : p.1 = k
      · refine ⟨fun x hx => ?_, fun hx => ?_⟩
        · simp only [lkA, if_pos e] at hx; cases hx; exact ⟨p.2, valV_pos e, ra⟩
        · simp only [lkA, if_pos e] at hx; cases hx
      · simp only [lkA, if_neg e]
        rw [valV_neg e]
        exact ih
def setK (k : Key) (v : A) : List Key → List A → List A
  | k' :: ks, x :: xs => (if k' = k then v else x) :: setK k v ks xs
  | _, xs => xs
def putA (k : Key) (v : A) (ks : List Key) (xs : List A) : List Key × List A := if (ks.any fun k' => decide (k' = k)) = true then (ks, setK k v ks xs) else (ks ++ [k], xs ++ [v])
theorem putA_ok {K : PySem.W.Frag} {F : Hp} {μ : List Addr} {k : Key} {v : A} {w : V} {kvs : List (Key × V)} {ks : List Key} {xs : List A} (rv : Rep K F μ v w) (h : kvs.map (·.1) = ks) (r : Reps K F μ xs (kvs.map (·.2))) :
    (putK kvs k w).map (·.1) = (putA k v ks xs).1 ∧ Reps K F μ (putA k v ks xs).2 ((putK kvs k w).map (·.2)) := by
  subst h
  unfold putK putA
  have hany : ((kvs.map (·.1)).any fun k' => decide (k' = k)) = kvs.any fun kv => decide (kv.1 = k) := by rw [List.any_map]; rfl
  rw [hany]
  by_cases hk : (kvs.any fun kv => decide (kv.1 = k)) = true
  · rw [if_pos hk, if_pos hk]
    have go : ∀ {kvs : List (Key × V)} {xs : List A}, Reps K F μ xs (kvs.map (·.2)) → (kvs.map fun kv => if kv.1 = k then (kv.1, w) else kv).map (·.1) = kvs.map (·.1) ∧ Reps K F μ (setK k v (kvs.map (·.1)) xs) ((kvs.map fun kv => if kv.1 = k then (kv.1, w) else kv).map (·.2)) := by
      intro kvs
      induction kvs with
      | nil => intro xs r; cases r; exact ⟨rfl, .nil⟩
      | cons p kvs ih =>
        intro xs r
        cases r with
        | cons ra rt =>
          obtain ⟨h1, h2⟩ := ih rt
          simp only [List.map_cons, setK]
          by_cases e : p.1 = k
          · rw [if_pos e, if_pos e]; exact ⟨by rw [h1], .cons rv h2⟩
          · rw [if_neg e, if_neg e]; exact ⟨by rw [h1], .cons ra h2⟩
    exact go r
  · rw [if_neg hk, if_neg hk]
    rw [List.map_append, List.map_append]
    exact ⟨rfl, r.append (.cons rv .nil)⟩
def mergeA (q : List Key × List A) (more : List (Key × A)) : List Key × List A := more.foldl (fun q p => putA p.1 p.2 q.1 q.2) q
/-- a dict that is there -/
def dctR : A → Store → Option (List Key × List A)
  | .dct ks xs, _ => some (ks, xs)
  | .cell n, st => match st[n]? with
    | some (.dct ks xs) => some (ks, xs)
    | _ => none
  | _, _ => none
theorem dctR_ok {K : PySem.W.Frag} {Z F : Hp} {μ : List Addr} {st : Store} {H : Hp} {a : A} {ks : List Key} {xs : List A} {v : V} (g : Good K Z F μ st H) (r : Rep K F μ a v) (h : dctR a st = some (ks, xs)) :
    ∃ p kvs, v = .ref p ∧ H p = some (.dK kvs) ∧ kvs.map (·.1) = ks ∧ Reps K F μ xs (kvs.map (·.2)) := by
  cases a with
  | dct ks' xs' =>
    cases h
    cases r with
    | dct h1 h2 h3 => exact ⟨_, _, rfl, g.sub _ _ h1, h2, h3⟩
  | cell m =>
    cases r with
    | cell h1 =>
      have h : (match st[m]? with | some (.dct ks xs) => some (ks, xs) | _ => none) = some (ks, xs) := h
      cases e : st[m]? with
      | none => rw [e] at h; cases h
      | some c =>
        rw [e] at h
        cases c with
        | dct ys zs =>
          cases h
          obtain ⟨a, h2, h3, vs, h4, h5, h6⟩ := g.cell m _ e (by intro z; cases z)
          rw [h1] at h2; cases h2
          exact ⟨_, vs, rfl, h4, h5, h6⟩
        | _ => cases h
  | _ => cases h
/-! ### d.get(k, z) -/
def getOp (d k z : A) (st : Store) : Option (A × Store) := match dctR d st, keyA k with
  | some (ks, xs), some kk => some ((lkA ks xs kk).getD z, st)
  | _, _ => none
def eGet2 (mo me mf : AEnv → Store → Res A) : AEnv → Store → Res A := fun env st => (mo env st).bind fun d st1 => if (dctR d st1).isSome then (me env st1).bind fun k st2 => (mf env st2).bind fun z st3 => Res.of (getOp d k z st3) else .stuck
theorem sim_get2 {K : PySem.W.Frag} {W : WX} {td ty tx : TE} {mo me mf : AEnv → Store → Res A} (hd : Sim K Rep W td mo) (hy : Sim K Rep W ty me) (hx : Sim K Rep W tx mf) : Sim K Rep W (tDGet2 td ty tx) (eGet2 mo me mf) := by
  intro Z F μ st env σ H Q g re hp
  unfold eGet2 at hp
  rw [Res.post_bind] at hp
  refine hd Z F μ st env σ H _ g re (Res.post_mono hp (fun d st1 q => ?_) fun _ _ q => q)
  intro F1 μ1 H1 x e1 g1 rd
  split at q
  · rename_i hs
    cases ed : dctR d st1 with
    | none => rw [ed] at hs; cases hs
    | some kx =>
      obtain ⟨ks, xs⟩ := kx
      obtain ⟨p, kvs, rfl, h1, _, _⟩ := dctR_ok g1 rd ed
      refine ⟨p, rfl, .inl ⟨kvs, .inl h1⟩, ?_⟩
      rw [Res.post_bind] at q
      refine hy Z F1 μ1 st1 env σ H1 _ g1 (re.mono e1) (Res.post_mono q (fun k st2 q => ?_) fun _ _ q => q.ext e1)
      intro F2 μ2 H2 y e2 g2 rk
      rw [Res.post_bind] at q
      refine hx Z F2 μ2 st2 env σ H2 _ g2 (re.mono (e1.trans e2)) (Res.post_mono q (fun z st3 q => ?_) fun _ _ q => q.ext (e1.trans e2))
      intro F3 μ3 H3 zv e3 g3 rz
      obtain ⟨c, st4, e, kk⟩ := Res.post_of q
      have e13 := e2.trans e3
      unfold getOp at e
      cases ed3 : dctR d st3 with
      | none => rw [ed3] at e; cases e
      | some kx3 =>
        obtain ⟨ks3, xs3⟩ := kx3
        rw [ed3] at e
        cases ek : keyA k with
        | none => rw [ek] at e; cases e
        | some key =>
          rw [ek] at e; cases e
          obtain ⟨p3, kvs3, ep, h31, h32, h33⟩ := dctR_ok g3 (rd.mono e13) ed3
          cases ep
          rw [keyA_ok (rk.mono e3) ek]
          refine ⟨_, DGet.k h31, ?_⟩
          obtain ⟨l1, l2⟩ := lkA_ok (k := key) h32 h33
          have K4 := kk.ext (e1.trans e13)
          cases el : lkA ks3 xs3 key with
          | none => rw [el] at K4; rw [l2 el]; exact K4.now g3 rz
          | some w =>
            rw [el] at K4
            obtain ⟨v, hv, rv⟩ := l1 _ el
            rw [hv]; exact K4.now g3 rv
  · exact q.elim
section
variable {Γ : G} {e f o : Expr} {mo me mf : AEnv → Store → Res A} {apos cpos pos : Pos}
theorem s_dget2 (ho : SE Γ o mo) (he : SE Γ e me) (hf : SE Γ f mf)
    (h1 : ∀ env, attributeBase o "get" env (eval o env) = eval o env := by intro _; rfl)
    (h2 : ∀ env, ((backTo cpos (starEach [e, f] env)).all (fun x => !x.1) && (backToKw cpos (keywordEach [] env)).all (fun x => x.1.isSome)
    && decide (([e, f] : List Expr).length + ([] : List Keyword).length + (if ([] : List Keyword).isEmpty then 0 else 1) < 30)) = true := by intro _; rfl)
    (h3 : (apos.endLine == cpos.line) = true := by rfl)
    (h4 : ∀ env, backTo cpos (starEach [e, f] env) = [(false, eval e env), (false, eval f env)] := by intro _; rfl) : SE Γ (.Call (.Attribute o "get" apos) [e, f] [] cpos) (eGet2 mo me mf) :=
  ⟨fun W => by
    obtain ⟨to, so, po⟩ := ho.run W
    obtain ⟨te, s_e, p_e⟩ := he.run W
    obtain ⟨tf, s_f, p_f⟩ := hf.run W
    exact ⟨_, sim_get2 so s_e s_f, fun X c t => pe_dget2 (Nat.lt_of_le_of_lt (by omega) c.units) (po X c t) (p_e X c t) (p_f X c t) ⟨h1 _, h2 _, h3, h4 _⟩⟩⟩
end
@[simp] theorem eGet2_ap {mo me mf : AEnv → Store → Res A} {env : AEnv} {st : Store} : eGet2 mo me mf env st = (mo env st).bind fun d st1 => if (dctR d st1).isSome then (me env st1).bind fun k st2 => (mf env st2).bind fun z st3 => Res.of (getOp d k z st3) else .stuck := (rfl)
/-! ### {k: v, ..} -/
abbrev MM := (AEnv → Store → Res A) × (AEnv → Store → Res A)
def mPairs : List MM → AEnv → Store → Res (List (A × A))
  | [], _, st => .ok [] st
  | (mk, mv) :: r, env, st => (mk env st).bind fun a st1 => (mv env st1).bind fun b st2 => (mPairs r env st2).bind fun ps st3 => .ok ((a, b) :: ps) st3
def RepP : Rel (List (A × A)) (List (V × V)) := fun K F μ ps vs => Reps K F μ (ps.map (·.1)) (vs.map (·.1)) ∧ Reps K F μ (ps.map (·.2)) (vs.map (·.2))
inductive SimPs (K : PySem.W.Frag) (W : WX) : List (TE × TE) → List MM → Prop
  | nil : SimPs K W [] []
  | cons {tk tv : TE} {mk mv : AEnv → Store → Res A} {ts : List (TE × TE)} {ms : List MM} : Sim K Rep W tk mk → Sim K Rep W tv mv → SimPs K W ts ms → SimPs K W ((tk, tv) :: ts) ((mk, mv) :: ms)
theorem sim_pairs {K : PySem.W.Frag} {W : WX} : ∀ {ts : List (TE × TE)} {ms : List MM}, SimPs K W ts ms → Sim K RepP W (tPairs ts) (mPairs ms)
  | _, _, .nil => fun Z F μ st env σ H Q g re hp => (show Kont K Z RepP F μ Q [] st from hp).now g ⟨.nil, .nil⟩
  | _, _, .cons h1 h2 h3 => by
    intro Z F μ st env σ H Q g re hp
    unfold mPairs at hp
    rw [Res.post_bind] at hp
    refine h1 Z F μ st env σ H _ g re (Res.post_mono hp (fun a st1 q => ?_) fun _ _ q => q)
    intro F1 μ1 H1 x e1 g1 ra
    rw [Res.post_bind] at q
    refine h2 Z F1 μ1 st1 env σ H1 _ g1 (re.mono e1) (Res.post_mono q (fun b st2 q => ?_) fun _ _ q => q.ext e1)
    intro F2 μ2 H2 y e2 g2 rb
    rw [Res.post_bind] at q
    refine sim_pairs h3 Z F2 μ2 st2 env σ H2 _ g2 (re.mono (e1.trans e2)) (Res.post_mono q (fun ps st3 q => ?_) fun _ _ q => q.ext (e1.trans e2))
    intro F3 μ3 H3 vs e3 g3 rp
    exact (show Kont K Z RepP F μ Q ((a, b) :: ps) st3 from q).ext (e1.trans (e2.trans e3)) |>.now g3 ⟨.cons (ra.mono (e2.trans e3)) rp.1, .cons (rb.mono e3) rp.2⟩
def keysA : List (A × A) → Option (List (Key × A)) := optAll fun p => (keyA p.1).map fun k => (k, p.2)
theorem keysA_ok {K : PySem.W.Frag} {F : Hp} {μ : List Addr} : ∀ {ps : List (A × A)} {vs : List (V × V)} {kas : List (Key × A)}, RepP K F μ ps vs → keysA ps = some kas →
    ∃ kvs : List (Key × V), vs = kvs.map (fun kv => (kV kv.1, kv.2)) ∧ kvs.map (·.1) = kas.map (·.1) ∧ Reps K F μ (kas.map (·.2)) (kvs.map (·.2)) ∧ kvs.length = ps.length
  | [], [], kas, _, h => by cases h; exact ⟨[], rfl, rfl, .nil, rfl⟩
  | [], _ :: _, _, r, _ => nomatch r.1
  | _ :: _, [], _, r, _ => nomatch r.1
  | p :: ps, v :: vs, kas, r, h => by
    obtain ⟨r1, r2⟩ := r
    cases r1 with
    | cons ra rt =>
      cases r2 with
      | cons rb rs =>
        unfold keysA optAll at h
        cases ek : keyA p.1 with
        | none => rw [ek] at h; cases h
        | some k =>
          rw [ek] at h
          have h : (match keysA ps with | some r => some ((k, p.2) :: r) | none => none) = some kas := by
            unfold keysA
            cases eo : optAll (fun p : A × A => (keyA p.1).map fun k => (k, p.2)) ps with
            | none => rw [eo] at h; simpa using h
            | some r => rw [eo] at h; simpa using h
          cases er : keysA ps with
          | none => rw [er] at h; cases h
          | some r =>
            rw [er] at h; cases h
            obtain ⟨kvs, h1, h2, h3, h4⟩ := keysA_ok ⟨rt, rs⟩ er
            refine ⟨(k, v.2) :: kvs, ?_, by simp [h2], .cons rb h3, by simp [h4]⟩
            rw [List.map_cons, ← h1, ← keyA_ok ra ek]
theorem mergeA_ok {K : PySem.W.Frag} {F : Hp} {μ : List Addr} : ∀ {more : List (Key × V)} {kas : List (Key × A)} {kvs : List (Key × V)} {ks : List Key} {xs : List A}, more.map (·.1) = kas.map (·.1) → Reps K F μ (kas.map (·.2)) (more.map (·.2)) →
    kvs.map (·.1) = ks → Reps K F μ xs (kvs.map (·.2)) → (mergeK kvs more).map (·.1) = (mergeA (ks, xs) kas).1 ∧ Reps K F μ (mergeA (ks, xs) kas).2 ((mergeK kvs more).map (·.2))
  | [], [], kvs, ks, xs, _, _, h1, h2 => ⟨h1, h2⟩
  | [], _ :: _, _, _, _, h, _, _, _ => by simp at h
  | _ :: _, [], _, _, _, h, _, _, _ => by simp at h
  | (pk, pv) :: more, (qk, qv) :: kas, kvs, ks, xs, h, r, h1, h2 => by
    simp only [List.map_cons, List.cons.injEq] at h
    obtain ⟨h0, h⟩ := h
    subst h0
    rw [List.map_cons, List.map_cons] at r
    cases r with
    | cons ra rt =>
      obtain ⟨a1, a2⟩ := putA_ok (k := pk) ra h1 h2
      exact mergeA_ok (kvs := putK kvs pk pv) (ks := (putA pk qv ks xs).1) (xs := (putA pk qv ks xs).2) h rt a1 a2
theorem Good.zforget {K : PySem.W.Frag} {Z F : Hp} {μ : List Addr} {st : Store} {H : Hp} {p : Addr} {o : HO} (g : Good K (upd Z p o) F μ st H) (hz : Z p = none) : Good K Z F μ st H :=
  { zub := fun a o' q => g.zub _ _ (sub_upd hz _ _ q), zf := fun a o' q => g.zf _ _ (sub_upd hz _ _ q), zc := fun a o' q => g.zc _ _ (sub_upd hz _ _ q), sub := g.sub, len := g.len, inj := g.inj, cell := fun i c hi hc => by
      obtain ⟨a, h1, h2, h3⟩ := g.cell i c hi hc
      have ha : a ≠ p := by intro e; subst e; rw [upd_same] at h2; cases h2.2
      exact ⟨a, h1, ⟨h2.1, by have := h2.2; rw [upd_ne ha] at this; exact this⟩, h3⟩ }
def eDisp (ms : List MM) : AEnv → Store → Res A := fun env st => (mPairs ms env st).bind fun ps st1 => match keysA ps with
  | some kas => if ps.length ≤ 15 then .ok (.dct (mergeA ([], []) kas).1 (mergeA ([], []) kas).2) st1 else .stuck
  | none => .stuck
theorem sim_disp {K : PySem.W.Frag} {W : WX} {ts : List (TE × TE)} {ms : List MM} (h : SimPs K W ts ms) : Sim K Rep W (tDisp ts) (eDisp ms) := by
  intro Z F μ st env σ H Q g re hp p hn
  unfold eDisp at hp
  rw [Res.post_bind] at hp
  have gz := g.apart (p := p) (o := .dK []) hn rfl
  have hz := g.noz hn
  refine sim_pairs h (upd Z p (.dK [])) F μ st env σ (upd H p (.dK [])) _ gz re (Res.post_mono hp (fun ps st1 q => ?_) fun x st1 q => ?_)
  · intro F1 μ1 H1 vs e1 g1 rp
    refine ⟨g1.zub _ _ upd_same, ?_⟩
    cases ek : keysA ps with
    | none => rw [ek] at q; exact q.elim
    | some kas =>
      rw [ek] at q
      dsimp only at q
      split at q
      · rename_i hl
        obtain ⟨kvs, h1, h2, h3, h4⟩ := keysA_ok rp ek
        refine ⟨kvs, h1, by rw [h4]; exact hl, ?_⟩
        obtain ⟨m1, m2⟩ := mergeA_ok (kvs := []) (ks := []) (xs := []) h2 h3 rfl .nil
        have g2 := g1.zset (u := .dK (mergeK [] kvs)) rfl rfl
        obtain ⟨g3, e3⟩ := g2.zknown hz
        exact (show Kont K Z Rep F μ Q _ st1 from q) _ _ _ _ (e1.trans e3) g3 (.dct upd_same m1 (m2.mono e3))
      · exact q.elim
  · intro F1 μ1 H1 d e1 g1 xr
    exact (show KX K Z F μ σ W x st1 from q) F1 μ1 H1 d e1 (g1.zforget hz) xr
structure SPs (Γ : G) (pos : Pos) (keys : List (Option Expr)) (values : List Expr) (ms : List MM) : Prop where
  run : ∀ W : WX, ∃ trs : List (TE × TE), SimPs Γ.K W trs ms ∧ ∀ X, CtxOk Γ X → Takes X W → PPs X pos keys values trs
section
variable {Γ : G} {pos : Pos} {k v : Expr} {ks : List (Option Expr)} {vs : List Expr} {mk mv : AEnv → Store → Res A} {ms : List MM}
theorem p_nil : SPs Γ pos [] [] [] := ⟨fun W => ⟨[], .nil, fun X c t => pps_nil⟩⟩
theorem p_cons (hk : SE Γ k mk) (hv : SE Γ v mv) (hr : SPs Γ pos ks vs ms) : SPs Γ pos (some k :: ks) (v :: vs) ((mk, mv) :: ms) :=
  ⟨fun W => by
    obtain ⟨tk, s1, p1⟩ := hk.run W
    obtain ⟨tv, s2, p2⟩ := hv.run W
    obtain ⟨ts, s3, p3⟩ := hr.run W
    exact ⟨(tk, tv) :: ts, .cons s1 s2 s3, fun X c t => pps_cons (p1 X c t) (p2 X c t) (p3 X c t)⟩⟩
theorem s_disp (h : SPs Γ pos ks vs ms) (hall : ks.all (·.isSome) = true := by rfl) (hl : ks.length = vs.length := by rfl) (h0 : ks ≠ [] := by intro h; cases h) (h15 : ks.length ≤ 15 := by simp) : SE Γ (.Dict ks vs pos) (eDisp ms) :=
  ⟨fun W => by
    obtain ⟨ts, s1, p1⟩ := h.run W
    exact ⟨_, sim_disp s1, fun X c t => pe_disp (p1 X c t) hall hl h0 h15⟩⟩
end
@[simp] theorem eDisp_ap {ms : List MM} {env : AEnv} {st : Store} : eDisp ms env st = (mPairs ms env st).bind fun ps st1 => match keysA ps with
  | some kas => if ps.length ≤ 15 then .ok (.dct (mergeA ([], []) kas).1 (mergeA ([], []) kas).2) st1 else .stuck
  | none => .stuck := (rfl)
@[simp] theorem mPairs_nil {env : AEnv} {st : Store} : mPairs [] env st = .ok [] st := (rfl)
@[simp] theorem mPairs_cons {mk mv : AEnv → Store → Res A} {r : List MM} {env : AEnv} {st : Store} : mPairs ((mk, mv) :: r) env st = (mk env st).bind fun a st1 => (mv env st1).bind fun b st2 => (mPairs r env st2).bind fun ps st3 => .ok ((a, b) :: ps) st3 := (rfl)
/-! ### xs.extend(ys) -/
def extendM : A → OpN := fun a as st => match cellL a st, as with
  | some (n, xs), [y] => (match lstH y st with
    | some ys => if xs.length + ys.length ≤ sizeLine then some (.non, st.set n (.lst (xs ++ ys))) else none
    | none => none)
  | _, _ => none
theorem m_extend : Cm "list" "list.extend" extendM := ⟨⟨fun _ => rExtend, fun _ _ _ => mt_extend, fun K Z F μ st st' H a as c x xs Q g ra rs e k => by
  unfold extendM at e
  cases e1 : cellL a st with
  | none => rw [e1] at e; cases e
  | some p =>
    obtain ⟨n, ys⟩ := p
    rw [e1] at e
    cases as with
    | nil => cases e
    | cons y as =>
      cases as with
      | cons z as => cases e
      | nil =>
        obtain ⟨v, rfl, ry⟩ := rs.one
        obtain ⟨p, vs, rfl, h1, r1, hw⟩ := cellL_ok g ra e1
        have e : (match lstH y st with | some zs => if ys.length + zs.length ≤ sizeLine then some (A.non, st.set n (.lst (ys ++ zs))) else none | none => none) = some (c, st') := e
        cases e2 : lstH y st with
        | none => rw [e2] at e; cases e
        | some zs =>
          rw [e2] at e
          have e : (if ys.length + zs.length ≤ sizeLine then some (A.non, st.set n (.lst (ys ++ zs))) else none) = some (c, st') := e
          obtain ⟨q, ws, rfl, h2, r2⟩ := lstH_ok g ry e2
          by_cases hl : ys.length + zs.length ≤ sizeLine
          · rw [if_pos hl] at e; cases e
            exact ⟨p, q, vs, ws, rfl, rfl, h1, h2, by rw [← r1.length, ← r2.length]; exact hl, k.now (hw _ _ (r1.append r2)) .non⟩
          · rw [if_neg hl] at e; cases e⟩⟩
/-! ### max(xs), min(xs) -/
def maxL : List Int → Int
  | [] => 0
  | [x] => x
  | x :: y :: r => if maxL (y :: r) > x then maxL (y :: r) else x
theorem maxL_mem : ∀ {l : List Int}, l ≠ [] → maxL l ∈ l
  | [], h => absurd rfl h
  | [x], _ => by simp [maxL]
  | x :: y :: r, _ => by
    unfold maxL
    split
    · exact List.mem_cons_of_mem _ (maxL_mem (by simp))
    · exact List.mem_cons_self
theorem maxL_ge : ∀ {l : List Int} {y : Int}, y ∈ l → y ≤ maxL l
  | [], _, h => absurd h (by simp)
  | [x], y, h => by simp at h; subst h; simp [maxL]
  | x :: z :: r, y, h => by
    unfold maxL
    rcases List.mem_cons.mp h with h | h
    · split <;> omega
    · have := maxL_ge h
      split <;> omega
def minL (l : List Int) : Int := - maxL (l.map fun x => -x)
theorem minL_mem {l : List Int} (h : l ≠ []) : minL l ∈ l := by
  have := maxL_mem (l := l.map fun x => -x) (by simpa using h)
  obtain ⟨y, h1, h2⟩ := List.mem_map.mp this
  unfold minL
  rw [← h2, Int.neg_neg]; exact h1
theorem minL_le {l : List Int} {y : Int} (h : y ∈ l) : minL l ≤ y := by
  have := maxL_ge (l := l.map fun x => -x) (y := -y) (List.mem_map.mpr ⟨y, h, rfl⟩)
  unfold minL
  omega
def listOp (f : List Int → Int) : Op1 := fun a st => match lstR a st with
  | some xs => (match intsA xs with
    | some [] => none
    | some ns => some (.int (f ns), st)
    | none => none)
  | none => none
theorem listOp_ok {K : PySem.W.Frag} {Z F : Hp} {μ : List Addr} {st st' : Store} {H : Hp} {a c : A} {x : V} {f : List Int → Int} (g : Good K Z F μ st H) (ra : Rep K F μ a x) (e : listOp f a st = some (c, st')) :
    ∃ p ns, x = .ref p ∧ SqL K H p (ns.map V.int) ∧ ns ≠ [] ∧ c = .int (f ns) ∧ st' = st := by
  unfold listOp at e
  cases e1 : lstR a st with
  | none => rw [e1] at e; cases e
  | some xs =>
    rw [e1] at e
    have e : (match intsA xs with | some [] => none | some ns => some (A.int (f ns), st) | none => none) = some (c, st') := e
    cases e2 : intsA xs with
    | none => rw [e2] at e; cases e
    | some ns =>
      obtain ⟨p, vs, rfl, h1, r1⟩ := lstR_ok g ra e1
      rw [intsA_ok e2] at r1
      rw [r1.intsV] at h1
      rw [e2] at e
      cases ns with
      | nil => cases e
      | cons n ns => cases e; exact ⟨p, _, rfl, h1, by simp, rfl, rfl⟩
theorem cb_max1 : Cb (.builtin "max") (one1 (listOp maxL)) := cb1 (r := rMax) (fun _ _ c cm => cr_max (c.calm cm)) fun K Z F μ st st' H a c x Q g ra e k => by
  obtain ⟨p, ns, rfl, h1, h2, rfl, rfl⟩ := listOp_ok g ra e
  refine ⟨p, ns, rfl, h1, List.length_pos_iff.mpr h2, fun m hm hle => ?_⟩
  have e : m = maxL ns := Int.le_antisymm (maxL_ge hm) (hle _ (maxL_mem h2))
  subst e; exact k.same g (.int _)
theorem cb_min1 : Cb (.builtin "min") (one1 (listOp minL)) := cb1 (r := rMin) (fun _ _ c cm => cr_min (c.calm cm)) fun K Z F μ st st' H a c x Q g ra e k => by
  obtain ⟨p, ns, rfl, h1, h2, rfl, rfl⟩ := listOp_ok g ra e
  refine ⟨p, ns, rfl, h1, List.length_pos_iff.mpr h2, fun m hm hle => ?_⟩
  have e : m = minL ns := Int.le_antisymm (hle _ (minL_mem h2)) (minL_le hm)
  subst e; exact k.same g (.int _)
end SL

set_option Elab.async false
set_option linter.all false
set_option maxRecDepth 100000
set_option maxHeartbeats 4000000
/-! SLy: comprehensions with two sources. -/
namespace SL
open PySem PySem.Spec L2
open PyProof.Rows hiding St
open Classical in
noncomputable def lcL2 (src : Src) (all : List A) (g : MG) (mt : AEnv → Store → Res Bool) (mi1 : MI) (g1 : MG) (own1 : List Nat) (mt1 : AEnv → Store → Res Bool) (me : AEnv → Store → Res A) (env0 : AEnv) : List A → List A → Store → Res (List A)
  | [], acc, st => if srcOk src all st then .ok acc st else .stuck
  | x :: xs, acc, st => if srcOk src all st then (match g x env0 with
    | none => .stuck
    | some env1 => (noX (mt env1 st)).bind fun b st1 => if b then (noX (mi1 env1 st1)).bind fun p st2 => (lcL p.2 p.1 g1 mt1 me (wipeA env1 own1) p.1 acc st2).bind fun acc' st3 => lcL2 src all g mt mi1 g1 own1 mt1 me env0 xs acc' st3
      else lcL2 src all g mt mi1 g1 own1 mt1 me env0 xs acc st1) else .stuck
noncomputable def eLc2 (mk : Bool) (mi : MI) (g : MG) (own : List Nat) (mt : AEnv → Store → Res Bool) (mi1 : MI) (g1 : MG) (own1 : List Nat) (mt1 : AEnv → Store → Res Bool) (me : AEnv → Store → Res A) : AEnv → Store → Res A := fun env st => (mi env st).bind fun p st1 =>
  (lcL2 p.2 p.1 g mt mi1 g1 own1 mt1 me (wipeA env own) p.1 [] st1).bind fun acc st2 => .ok (newL mk acc st2).1 (newL mk acc st2).2
theorem sim_lc2 {K : PySem.W.Frag} {W : WX} {mk : Bool} {wi wi1 : TI} {tg tg1 : TG} {tt tt1 : TT} {te : TE} {mi mi1 : MI} {g g1 : MG} {own gown own1 gown1 : List Nat} {mt mt1 : AEnv → Store → Res Bool} {me : AEnv → Store → Res A} (hi : SimI K W wi mi) (hg : SimG K tg g gown) (hsub : ∀ i ∈ gown, i ∈ own)
    (ht : Sim K RepB W0 tt mt) (hi1 : SimI K W0 wi1 mi1) (hg1 : SimG K tg1 g1 gown1) (hsub1 : ∀ i ∈ gown1, i ∈ own1) (ht1 : Sim K RepB W0 tt1 mt1) (he : Sim K Rep W0 te me) : Sim K Rep W (tLc2 wi tg tt wi1 tg1 tt1 te own own1) (eLc2 mk mi g own mt mi1 g1 own1 mt1 me) := by
  intro Z F μ st env σ H Q gd re hp
  unfold eLc2 at hp
  rw [Res.post_bind] at hp
  refine hi Z F μ st env σ H _ gd re (Res.post_mono hp (fun p st1 q => ?_) fun _ _ q => q)
  obtain ⟨xs, src⟩ := p
  intro F1 μ1 H1 e1 g1' J hJ D hD
  have hZ : Z D = none := g1'.noz hD
  rw [Res.post_bind] at q
  refine ⟨fun i m H' => m = xs.length - i ∧ i ≤ xs.length ∧ ∃ F' μ' st' acc vs, Ext F1 F' μ1 μ' ∧ Good K (upd Z D (.lst vs)) F' μ' st' H' ∧ Reps K F' μ' acc vs ∧
    (lcL2 src xs g mt mi1 g1 own1 mt1 me (wipeA env own) (xs.drop i) acc st').post (fun acc' st'' => Kont K Z Rep F' μ' Q (newL mk acc' st'').1 (newL mk acc' st'').2) (fun _ _ => True), ⟨xs.length, ?_⟩, ?_⟩
  · refine ⟨rfl, Nat.zero_le _, F1, μ1, st1, [], [], Ext.refl, g1'.apart hD rfl, .nil, ?_⟩
    exact Res.post_mono q (fun acc st2 q => Kont.ext e1 q) fun _ _ _ => trivial
  · rintro i m H' ⟨rfl, hil, F', μ', st', acc, vs, e2, g2, ra, hp2⟩
    have chk : srcOk src xs st' := by
      cases ed : xs.drop i with
      | nil =>
        rw [ed] at hp2
        by_cases h : srcOk src xs st'
        · exact h
        · rw [lcL2, if_neg h] at hp2; exact hp2.elim
      | cons y ys =>
        rw [ed] at hp2
        by_cases h : srcOk src xs st'
        · exact h
        · rw [lcL2, if_neg h] at hp2; exact hp2.elim
    obtain ⟨j1, j2⟩ := hJ _ i F' μ' st' H' e2 g2 chk
    have re2 : REnv K F' μ' (wipeA env own) (wipe σ own) := (re.mono (e1.trans e2)).wipe own
    by_cases hl : i < xs.length
    · refine .inr ?_
      have ed : xs.drop i = xs[i] :: xs.drop (i + 1) := List.drop_eq_getElem_cons hl
      rw [ed, lcL2, if_pos chk] at hp2
      obtain ⟨hgo, hy⟩ := j1 xs[i] (List.getElem?_eq_getElem hl)
      cases eg : g xs[i] (wipeA env own) with
      | none => rw [eg] at hp2; exact hp2.elim
      | some env1 =>
        rw [eg] at hp2
        dsimp only at hp2
        let Nx : Hp → Prop := fun H'' => ∃ F' μ' st' acc vs, Ext F1 F' μ1 μ' ∧ Good K (upd Z D (.lst vs)) F' μ' st' H'' ∧ Reps K F' μ' acc vs ∧
          (lcL2 src xs g mt mi1 g1 own1 mt1 me (wipeA env own) (xs.drop (i + 1)) acc st').post (fun acc' st'' => Kont K Z Rep F' μ' Q (newL mk acc' st'').1 (newL mk acc' st'').2) (fun _ _ => True)
        refine ⟨hgo, Nx, fun H'' h => ⟨xs.length - (i + 1), by omega, rfl, hl, h⟩, ?_⟩
        intro x H2 yd
        obtain ⟨F2, e3, g3, rx⟩ := hy x H2 yd
        refine hg _ F2 μ' st' _ env1 _ H2 x xs[i] _ g3 (re2.mono e3) rx eg fun σ3 re3 df => ⟨?_, ?_⟩
        · rw [df.wipe hsub, wipe_wipe]
        · rw [Res.post_bind] at hp2
          refine ht _ F2 μ' st' env1 σ3 H2 _ g3 re3 (Res.post_mono (noX_post (E' := fun _ _ => False) hp2) (fun b st2 q => ?_) fun _ _ z => z.elim)
          intro F4 μ4 H4 b' e4 g4 rb
          cases (rb : b = b')
          cases b with
          | false =>
            rw [if_neg Bool.false_ne_true]
            refine ⟨F4, μ4, st2, acc, vs, e2.trans (e3.trans e4), g4, ra.mono (e3.trans e4), ?_⟩
            exact Res.post_mono (show (lcL2 src xs g mt mi1 g1 own1 mt1 me (wipeA env own) (xs.drop (i + 1)) acc st2).post _ _ from q) (fun a s q => Kont.ext (e3.trans e4) q) fun _ _ _ => trivial
          | true =>
            rw [if_pos rfl]
            have q : ((noX (mi1 env1 st2)).bind fun p st3 => (lcL p.2 p.1 g1 mt1 me (wipeA env1 own1) p.1 acc st3).bind fun acc' st4 => lcL2 src xs g mt mi1 g1 own1 mt1 me (wipeA env own) (xs.drop (i + 1)) acc' st4).post (fun acc' st'' => Kont K Z Rep F' μ' Q (newL mk acc' st'').1 (newL mk acc' st'').2) (fun _ _ => True) := q
            rw [Res.post_bind] at q
            refine hi1 _ F4 μ4 st2 env1 σ3 H4 _ g4 (re3.mono e4) (Res.post_mono (noX_post (E' := fun _ _ => False) q) (fun p1 st3 q => ?_) fun _ _ z => z.elim)
            obtain ⟨xs1, src1⟩ := p1
            intro F5 μ5 H5 e5 g5 J1 hJ1
            have e345 := e3.trans (e4.trans e5)
            refine ⟨fun j k H'' => k = xs1.length - j ∧ j ≤ xs1.length ∧ ∃ F' μ' st' acc vs, Ext F5 F' μ5 μ' ∧ Good K (upd Z D (.lst vs)) F' μ' st' H'' ∧ Reps K F' μ' acc vs ∧
              ((lcL src1 xs1 g1 mt1 me (wipeA env1 own1) (xs1.drop j) acc st').bind fun acc' st4 => lcL2 src xs g mt mi1 g1 own1 mt1 me (wipeA env own) (xs.drop (i + 1)) acc' st4).post (fun acc' st'' => Kont K Z Rep F' μ' Q (newL mk acc' st'').1 (newL mk acc' st'').2) (fun _ _ => True), ⟨xs1.length, ?_⟩, ?_⟩
            · refine ⟨rfl, Nat.zero_le _, F5, μ5, st3, acc, vs, Ext.refl, g5, ra.mono e345, ?_⟩
              exact Res.post_mono q (fun acc st2 q => Kont.ext e345 q) fun _ _ _ => trivial
            · rintro j k H6 ⟨rfl, hjl, F6, μ6, st6, acc6, vs6, e6, g6, ra6, hp6⟩
              rw [Res.post_bind] at hp6
              have chk1 : srcOk src1 xs1 st6 := by
                cases ed : xs1.drop j with
                | nil =>
                  rw [ed] at hp6
                  by_cases h : srcOk src1 xs1 st6
                  · exact h
                  · rw [lcL, if_neg h] at hp6; exact hp6.elim
                | cons y ys =>
                  rw [ed] at hp6
                  by_cases h : srcOk src1 xs1 st6
                  · exact h
                  · rw [lcL, if_neg h] at hp6; exact hp6.elim
              obtain ⟨i1, i2⟩ := hJ1 _ j F6 μ6 st6 H6 e6 g6 chk1
              have re6 : REnv K F6 μ6 (wipeA env1 own1) (wipe σ3 own1) := (re3.mono (e4.trans (e5.trans e6))).wipe own1
              by_cases hl1 : j < xs1.length
              · refine .inr ?_
                have ed1 : xs1.drop j = xs1[j] :: xs1.drop (j + 1) := List.drop_eq_getElem_cons hl1
                rw [ed1, lcL, if_pos chk1] at hp6
                obtain ⟨hgo1, hy1⟩ := i1 xs1[j] (List.getElem?_eq_getElem hl1)
                cases eg1 : g1 xs1[j] (wipeA env1 own1) with
                | none => rw [eg1] at hp6; exact hp6.elim
                | some env2 =>
                  rw [eg1] at hp6
                  dsimp only at hp6
                  let Nx1 : Hp → Prop := fun H'' => ∃ F' μ' st' acc vs, Ext F5 F' μ5 μ' ∧ Good K (upd Z D (.lst vs)) F' μ' st' H'' ∧ Reps K F' μ' acc vs ∧
                    ((lcL src1 xs1 g1 mt1 me (wipeA env1 own1) (xs1.drop (j + 1)) acc st').bind fun acc' st4 => lcL2 src xs g mt mi1 g1 own1 mt1 me (wipeA env own) (xs.drop (i + 1)) acc' st4).post (fun acc' st'' => Kont K Z Rep F' μ' Q (newL mk acc' st'').1 (newL mk acc' st'').2) (fun _ _ => True)
                  refine ⟨hgo1, Nx1, fun H'' h => ⟨xs1.length - (j + 1), by omega, rfl, hl1, h⟩, ?_⟩
                  intro x1 H7 yd1
                  obtain ⟨F7, e7, g7, rx1⟩ := hy1 x1 H7 yd1
                  refine hg1 _ F7 μ6 st6 _ env2 _ H7 x1 xs1[j] _ g7 (re6.mono e7) rx1 eg1 fun σ8 re8 df1 => ⟨?_, ?_⟩
                  · rw [df1.wipe hsub1, wipe_wipe]
                  · rw [Res.post_bind] at hp6
                    refine ht1 _ F7 μ6 st6 env2 σ8 H7 _ g7 re8 (Res.post_mono (noX_post (E' := fun _ _ => False) hp6) (fun b st9 q => ?_) fun _ _ z => z.elim)
                    intro F9 μ9 H9 b' e9 g9 rb
                    cases (rb : b = b')
                    cases b with
                    | false =>
                      rw [if_neg Bool.false_ne_true]
                      refine ⟨F9, μ9, st9, acc6, vs6, e6.trans (e7.trans e9), g9, ra6.mono (e7.trans e9), ?_⟩
                      rw [Res.post_bind]
                      refine Res.post_mono (show (lcL src1 xs1 g1 mt1 me (wipeA env1 own1) (xs1.drop (j + 1)) acc6 st9).post _ _ from q) (fun a s q => Res.post_mono q (fun a s q => Kont.ext (e7.trans e9) q) fun _ _ _ => trivial) fun _ _ _ => trivial
                    | true =>
                      rw [if_pos rfl]
                      have q : ((noX (me env2 st9)).bind fun y st3 => if acc6.length < sizeLine then lcL src1 xs1 g1 mt1 me (wipeA env1 own1) (xs1.drop (j + 1)) (acc6 ++ [y]) st3 else .stuck).post (fun acc' st4 => (lcL2 src xs g mt mi1 g1 own1 mt1 me (wipeA env own) (xs.drop (i + 1)) acc' st4).post (fun acc' st'' => Kont K Z Rep F6 μ6 Q (newL mk acc' st'').1 (newL mk acc' st'').2) (fun _ _ => True)) (fun _ _ => True) := q
                      rw [Res.post_bind] at q
                      refine he _ F9 μ9 st9 env2 σ8 H9 _ g9 (re8.mono e9) (Res.post_mono (noX_post (E' := fun _ _ => False) q) (fun y st10 q => ?_) fun _ _ z => z.elim)
                      intro F10 μ10 H10 v e10 g10 rv
                      by_cases hacc : acc6.length < sizeLine
                      · rw [if_pos hacc] at q
                        refine ⟨vs6, g10.zub _ _ upd_same, by rw [← ra6.length]; exact hacc, ?_⟩
                        have e710 := e7.trans (e9.trans e10)
                        refine ⟨F10, μ10, st10, acc6 ++ [y], vs6 ++ [v], e6.trans e710, g10.zset rfl rfl, (ra6.mono e710).append (.cons rv .nil), ?_⟩
                        rw [Res.post_bind]
                        exact Res.post_mono q (fun a s q => Res.post_mono q (fun a s q => Kont.ext e710 q) fun _ _ _ => trivial) fun _ _ _ => trivial
                      · rw [if_neg hacc] at q; exact q.elim
              · have hjl' : j = xs1.length := by omega
                subst hjl'
                refine .inl ⟨i2 (Nat.le_refl _), ?_⟩
                rw [List.drop_length, lcL, if_pos chk1] at hp6
                have hp6 : (lcL2 src xs g mt mi1 g1 own1 mt1 me (wipeA env own) (xs.drop (i + 1)) acc6 st6).post (fun acc' st'' => Kont K Z Rep F6 μ6 Q (newL mk acc' st'').1 (newL mk acc' st'').2) (fun _ _ => True) := hp6
                exact ⟨F6, μ6, st6, acc6, vs6, e2.trans (e345.trans e6), g6, ra6, hp6⟩
    · have hil' : i = xs.length := by omega
      subst hil'
      refine .inl ⟨j2 (Nat.le_refl _), ?_⟩
      rw [List.drop_length, lcL2, if_pos chk] at hp2
      have k : Kont K Z Rep F' μ' Q (newL mk acc st').1 (newL mk acc st').2 := hp2
      cases mk with
      | false =>
        obtain ⟨g3, e3⟩ := g2.zknown hZ
        exact (k.ext e3).now g3 (.lst upd_same (ra.mono e3))
      | true =>
        obtain ⟨g3, e3⟩ := g2.zpush (c := .lst acc) hZ ⟨vs, g2.zub _ _ upd_same, ra⟩
        exact (k.ext e3).now g3 (.cell (by rw [← g2.len, List.getElem?_append_right (Nat.le_refl _), Nat.sub_self]; rfl))
section
variable {Γ : G} {elt tg iter tg1 iter1 : Expr} {ifs ifs1 : List Expr} {scope : Scope} {pos : Pos} {mi mi1 : MI} {g g1 : MG} {own : List (Str × Nat)} {own1 gown gown1 : List Nat} {mt mt1 : AEnv → Store → Res Bool} {me : AEnv → Store → Res A}
theorem s_lc2 {mk : Bool} (hi : SI Γ tg iter mi) (ok : blkC Γ.N Γ.sc scope own = true) (hv : ∀ i ∈ own1, i ∈ own.map (·.2)) (hg : SG (Γ.blk scope) (blkFo scope) tg g gown) (hsub : ∀ i ∈ gown, i ∈ own.map (·.2)) (ht : STs (Γ.blk scope) ifs mt)
    (hi1 : SI (Γ.blk scope) tg1 iter1 mi1) (hg1 : SG (Γ.blk scope) (blkFo scope) tg1 g1 gown1) (hsub1 : ∀ i ∈ gown1, i ∈ own1) (ht1 : STs (Γ.blk scope) ifs1 mt1) (he : SE (Γ.blk scope) elt me)
    (hs : ∀ env x, foldedSetIterable iter env x = pure x := by intro _ _; rfl) (hs1 : ∀ env x, foldedSetIterable iter1 env x = pure x := by intro _ _; rfl) (cm : Γ.calm = true := by rfl) : SE Γ (.ListComp elt [⟨tg, iter, ifs, 0⟩, ⟨tg1, iter1, ifs1, 0⟩] scope pos) (eLc2 mk mi g (own.map (·.2)) mt mi1 g1 own1 mt1 me) :=
  ⟨fun W => by
    obtain ⟨wi, h1, h2⟩ := hi.run W
    obtain ⟨u, h3, h4⟩ := hg.run
    obtain ⟨tt, h5, h6⟩ := ht.run W0
    obtain ⟨wi1, a1, a2⟩ := hi1.run W0
    obtain ⟨u1, a3, a4⟩ := hg1.run
    obtain ⟨tt1, a5, a6⟩ := ht1.run W0
    obtain ⟨te, h7, h8⟩ := he.run W0
    refine ⟨_, sim_lc2 (mk := mk) h1 h3 hsub h5 a1 a3 hsub1 a5 h7, fun X c k => ?_⟩
    exact pe_lc2 (c.calm cm) c.nd (h2 X c k) (by rw [c.N, c.sc]; exact blkOk_by ok) hv (fun s H C cl fp => h4 _ (c.blk scope s H C cl fp) fun x h => h) (fun s H C cl fp => h6 _ (c.blk scope s H C cl fp) takes0)
      (fun s H C cl fp => a2 _ (c.blk scope s H C cl fp) takes0) (fun s H C cl fp => a4 _ (c.blk scope s H C cl fp) fun x h => h) (fun s H C cl fp => a6 _ (c.blk scope s H C cl fp) takes0) (fun s H C cl fp => h8 _ (c.blk scope s H C cl fp) takes0) (hs _) hs1⟩
end
end SL

set_option Elab.async false
set_option linter.all false
set_option maxRecDepth 100000
set_option maxHeartbeats 4000000
/-! SLz: ranges as values; in; any, sorted, index. -/
namespace SL
open PySem PySem.Spec L2
open PyProof.Rows hiding St
/-! ### ranges as values -/
theorem cr_range1 {X : Cx} : CallR X (.type "range") (fun vs H Q => ∃ j, vs = [V.int j] ∧ ∀ p, H p = none → Q (.ref p) (upd H p (.rng 0 j))) := by
  intro pins s σ H vs us Q I r h
  obtain ⟨j, rfl, q⟩ := h
  obtain ⟨u1, rfl, ri⟩ := r.one
  obtain ⟨t, rfl⟩ := ri
  refine call_range_1 ⟨.ref s.heap.objs.size, upd H s.heap.objs.size (.rng 0 j), I.laid (t' := s.toks + 1 + 1) (fun b o e => Heap.get?_push_of_some _ e) (Nat.le_refl _) ?_, rfl, q _ (I.hok.fresh (Nat.le_refl _))⟩
  exact ⟨s.toks, t, s.toks + 1, Heap.get?_push_size _ rfl⟩
def rangeA : Op1 := fun a st => match a with
  | .int j => some (.rng 0 j, st)
  | _ => none
theorem cb_range1 : Cb (.type "range") (one1 rangeA) := cb1 (r := fun _ vs H Q => ∃ j, vs = [V.int j] ∧ ∀ p, H p = none → Q (.ref p) (upd H p (.rng 0 j))) (fun _ _ _ _ => cr_range1) fun K Z F μ st st' H a c x Q g ra e k => by
  cases a with
  | int j =>
    cases ra; cases e
    refine ⟨j, rfl, fun p hp => ?_⟩
    obtain ⟨g', e'⟩ := g.known (p := p) (o := .rng 0 j) hp
    exact k _ _ _ _ e' g' (.rng upd_same)
  | _ => cases e
theorem rng_ok {K : PySem.W.Frag} {Z F : Hp} {μ : List Addr} {st : Store} {H : Hp} {lo hi : Int} {x : V} (g : Good K Z F μ st H) (r : Rep K F μ (.rng lo hi) x) : ∃ p, x = .ref p ∧ H p = some (.rng lo hi) := by
  cases r with
  | rng h => exact ⟨_, rfl, g.sub _ _ h⟩
/-- a walk over a range object -/
def iRngV (te : TE) : TI := fun σ H R => te σ H fun x H1 => ∃ a lo hi, x = .ref a ∧ H1 a = some (.rng lo hi) ∧ (-(2 ^ 62) ≤ lo ∧ lo < 2 ^ 62 ∧ -(2 ^ 62) ≤ hi ∧ hi < 2 ^ 62) ∧ R (Itr lo (hi - lo).toNat) H1
theorem pi_rngV {X : Cx} {tg e : Expr} {te : TE} (he : PE X e te) : PI X tg e (iRngV te) := by
  refine ⟨fun pins s σ H R I h => ?_⟩
  refine thn (he.run pins s σ H _ I h) fun v s1 ⟨x, H1, I1, r1, q1⟩ => ?_
  obtain ⟨a, lo, hi, e, hH, ⟨h1, h2, h3, h4⟩, q⟩ := q1
  subst e
  cases r1
  obtain ⟨t, u, w, ho⟩ := I1.hok a _ hH
  refine wpAny_pyIter_range (t := t) (u := u) (v := w) ho (small_one h1 h2 h3 h4) ?_
  refine ⟨s1.heap.objs.size, [s1.heap.objs.size], _, _, H1, rfl, I1.kept (t' := s1.toks) fun b o e => Heap.get?_push_of_some _ e, turn_range _ lo (hi - lo).toNat, ?_, fun b hb => ?_, q⟩
  · have e1 : lo + ((0 : Nat) : Int) * 1 = lo := by simp
    have e2 : (((hi - lo).toNat : Nat) : Int) - ((0 : Nat) : Int) = Builtin.Range.rangeSize lo hi 1 := by rw [rangeSize_one]; split <;> omega
    show IsRangeIter _ _ (lo + ((0 : Nat) : Int) * 1) ((((hi - lo).toNat : Nat) : Int) - ((0 : Nat) : Int)) 1
    rw [e1, e2]
    exact Heap.get?_push_size _ rfl
  · have e : b = s1.heap.objs.size := by simpa using hb
    subst e
    exact I1.fpOk (Nat.le_refl _) (I1.hok.fresh (Nat.le_refl _))
def mRngV (m : AEnv → Store → Res A) : MI := fun env st => (m env st).bind fun a st1 => match a with
  | .rng lo hi => if -(2 ^ 62) ≤ lo ∧ lo < 2 ^ 62 ∧ -(2 ^ 62) ≤ hi ∧ hi < 2 ^ 62 then .ok (rgA lo hi, none) st1 else .stuck
  | _ => .stuck
/-- its two ends -/
def eEnds (m : AEnv → Store → Res A) : AEnv → Store → Res (List A) := fun env st => (m env st).bind fun a st1 => match a with
  | .rng lo hi => .ok [.int lo, .int hi] st1
  | _ => .stuck
theorem prg_val {X : Cx} {e : Expr} {te : TE} (he : PE X e te) : PRg X e (fun σ H Q => te σ H fun x H1 => ∃ a lo hi, x = .ref a ∧ H1 a = some (.rng lo hi) ∧ Q lo hi H1) := by
  intro pins s σ H Q I h
  refine thn (he.run pins s σ H _ I h) fun v s1 ⟨x, H1, I1, r1, a, lo, hi, e, hH, q⟩ => ?_
  subst e
  cases r1
  obtain ⟨t, u, w, ho⟩ := I1.hok a _ hH
  exact ⟨a, lo, hi, t, u, w, H1, rfl, ho, I1, q⟩
section
variable {Γ : G} {tg e : Expr} {m : AEnv → Store → Res A}
theorem i_rngV (h : SE Γ e m) : SI Γ tg e (mRngV m) :=
  ⟨fun W => by
    obtain ⟨t, s, ph⟩ := h.run W
    refine ⟨iRngV t, ?_, fun X c k => pi_rngV (ph X c k)⟩
    intro Z F μ st env σ H R g re hp
    unfold mRngV at hp
    rw [Res.post_bind] at hp
    refine s Z F μ st env σ H _ g re (Res.post_mono hp (fun a st1 q => ?_) fun _ _ q => q)
    intro F1 μ1 H1 x e1 g1 ra
    split at q
    · rename_i lo hi
      split at q
      · rename_i hb
        obtain ⟨p, rfl, hH⟩ := rng_ok g1 ra
        exact ⟨p, lo, hi, rfl, hH, hb, q F1 μ1 H1 e1 g1 (Itr lo (hi - lo).toNat) itr_ok⟩
      · exact q.elim
    · exact q.elim⟩
theorem r_val (h : SE Γ e m) : SR Γ e (eEnds m) :=
  ⟨fun W => by
    obtain ⟨t, s, ph⟩ := h.run W
    refine ⟨_, fun Z F μ st env σ H Q g re hp => ?_, fun X c k => prg_val (ph X c k)⟩
    unfold eEnds at hp
    rw [Res.post_bind] at hp
    refine s Z F μ st env σ H _ g re (Res.post_mono hp (fun a st1 q => ?_) fun _ _ q => q)
    intro F1 μ1 H1 x e1 g1 ra
    split at q
    · rename_i lo hi
      obtain ⟨p, rfl, hH⟩ := rng_ok g1 ra
      obtain ⟨i, j, e, q⟩ := q F1 μ1 H1 e1 g1
      cases e
      exact ⟨p, lo, hi, rfl, hH, q⟩
    · exact q.elim⟩
end
/-! ### in, not in -/
theorem op_notin_rng {X : Cx} : OpR X (compareOp .NotIn) (fun x y H Q => ∃ i a lo hi, x = V.int i ∧ y = V.ref a ∧ H a = some (.rng lo hi) ∧ Q (.bl (!decide (lo ≤ i ∧ i < hi))) H) := by
  intro pins s σ H x y v u Q I rx ry h
  obtain ⟨i, a, lo, hi, rfl, rfl, ha, q⟩ := h
  obtain ⟨k, rfl⟩ := rx
  obtain rfl : u = Value.ref a := ry
  obtain ⟨t1, t2, t3, ho⟩ := I.hok a _ ha
  show wpAny _ _ (do return Value.bool (!(← contains (Value.ref a) (Value.int i k)))) _ _ s
  refine wpAny_bind (wpAny_contains_slot (T := "range") ⟨_, ho, rfl⟩ PySem.F.slot_range_contains (call_meets PySem.F.slot_range_contains ⟨_, ho, rfl⟩ PySem.F.entry_range_contains (PySem.F.args_range_contains_2 _ _) (q_contains a lo hi i t1 t2 t3 k)
    ⟨ho, wpAny_truthy_bool (wpAny_pure ⟨.bl _, H, I, rfl, ?_⟩)⟩))
  rw [place1]
  exact q
def inRng (neg : Bool) : Op2 := fun a b st => match a, b with
  | .int i, .rng lo hi => some (.bl (xor neg (decide (lo ≤ i ∧ i < hi))), st)
  | _, _ => none
def inDat (neg : Bool) : Op2 := fun a b st => match toD st 50 a, toD st 50 b with
  | some d, some (.list ds) => if SeqAt.shaped d = true ∧ SeqAt.shaped (.list ds) = true then some (.bl (xor neg (ds.any fun z => PyData.eqv z d)), st) else none
  | _, _ => none
def inOp (neg : Bool) : Op2 := fun a b st => (inRng neg a b st).or (inDat neg a b st)
theorem inRng_ok {K : PySem.W.Frag} {Z F : Hp} {μ : List Addr} {st st' : Store} {H : Hp} {a b c : A} {x y : V} {neg : Bool} (g : Good K Z F μ st H) (ra : Rep K F μ a x) (rb : Rep K F μ b y) (e : inRng neg a b st = some (c, st')) :
    ∃ i p lo hi, x = .int i ∧ y = .ref p ∧ H p = some (.rng lo hi) ∧ c = .bl (xor neg (decide (lo ≤ i ∧ i < hi))) ∧ st' = st := by
  unfold inRng at e
  split at e
  · rename_i i lo hi
    cases ra
    obtain ⟨p, rfl, hH⟩ := rng_ok g rb
    cases e
    exact ⟨i, p, lo, hi, rfl, rfl, hH, rfl, rfl⟩
  · cases e
theorem inDat_ok {K : PySem.W.Frag} {Z F : Hp} {μ : List Addr} {st st' : Store} {H : Hp} {a b c : A} {x y : V} {neg : Bool} (g : Good K Z F μ st H) (ra : Rep K F μ a x) (rb : Rep K F μ b y) (e : inDat neg a b st = some (c, st')) :
    ∃ d ds, Dp K H x d ∧ Dp K H y (.list ds) ∧ SeqAt.shaped d = true ∧ SeqAt.shaped (.list ds) = true ∧ c = .bl (xor neg (ds.any fun z => PyData.eqv z d)) ∧ st' = st := by
  unfold inDat at e
  split at e
  · rename_i d ds h1 h2
    split at e
    · rename_i hs
      cases e
      exact ⟨d, ds, toD_ok g _ _ _ _ h1 ra, toD_ok g _ _ _ _ h2 rb, hs.1, hs.2, rfl, rfl⟩
    · cases e
  · cases e
theorem c_in : Cop .In (inOp false) := ⟨⟨fun K x y H Q => (∃ i a lo hi, x = V.int i ∧ y = V.ref a ∧ H a = some (.rng lo hi) ∧ Q (.bl (decide (lo ≤ i ∧ i < hi))) H) ∨ rInD K x y H Q, fun Γ X c => op_in_rng.or (op_inD (Nat.lt_of_le_of_lt (by omega) c.units)), fun K => SimV2.or (r := fun x y H Q => ∃ i a lo hi, x = V.int i ∧ y = V.ref a ∧ H a = some (.rng lo hi) ∧ Q (.bl (decide (lo ≤ i ∧ i < hi))) H) (fun Z F μ st st' H a b c x y Q g ra rb e k => by
    obtain ⟨i, p, lo, hi, rfl, rfl, hH, rfl, rfl⟩ := inRng_ok g ra rb e
    rw [Bool.false_xor] at k
    exact ⟨i, p, lo, hi, rfl, rfl, hH, k.same g (.bl _)⟩) (fun Z F μ st st' H a b c x y Q g ra rb e k => by
    obtain ⟨d, ds, h1, h2, h3, h4, rfl, rfl⟩ := inDat_ok g ra rb e
    rw [Bool.false_xor] at k
    exact ⟨d, ds, h1, h2, h3, h4, k.same g (.bl _)⟩)⟩, fun b => .inl rfl⟩
theorem c_notIn : Cop .NotIn (inOp true) := ⟨⟨fun K x y H Q => (∃ i a lo hi, x = V.int i ∧ y = V.ref a ∧ H a = some (.rng lo hi) ∧ Q (.bl (!decide (lo ≤ i ∧ i < hi))) H) ∨ rNotInD K x y H Q, fun Γ X c => op_notin_rng.or (op_notInD (Nat.lt_of_le_of_lt (by omega) c.units)), fun K => SimV2.or (r := fun x y H Q => ∃ i a lo hi, x = V.int i ∧ y = V.ref a ∧ H a = some (.rng lo hi) ∧ Q (.bl (!decide (lo ≤ i ∧ i < hi))) H) (fun Z F μ st st' H a b c x y Q g ra rb e k => by
    obtain ⟨i, p, lo, hi, rfl, rfl, hH, rfl, rfl⟩ := inRng_ok g ra rb e
    rw [Bool.true_xor] at k
    exact ⟨i, p, lo, hi, rfl, rfl, hH, k.same g (.bl _)⟩) (fun Z F μ st st' H a b c x y Q g ra rb e k => by
    obtain ⟨d, ds, h1, h2, h3, h4, rfl, rfl⟩ := inDat_ok g ra rb e
    rw [Bool.true_xor] at k
    exact ⟨d, ds, h1, h2, h3, h4, k.same g (.bl _)⟩)⟩, fun b => .inr (.inl rfl)⟩
/-! ### any, sorted -/
def blsA : List A → Option (List Bool) := optAll fun a => match a with
  | .bl i => some i
  | _ => none
theorem blsA_ok {K : PySem.W.Frag} {F : Hp} {μ : List Addr} : ∀ {xs : List A} {vs : List V} {bs : List Bool}, Reps K F μ xs vs → blsA xs = some bs → vs = bs.map V.bl
  | [], _, _, .nil, h => by cases h; rfl
  | x :: xs, _, bs, .cons r t, h => by
    unfold blsA optAll at h
    cases x with
    | bl i =>
      cases r
      have h : (match blsA xs with | some r => some (i :: r) | none => none) = some bs := by
        unfold blsA
        cases eo : optAll (fun a : A => match a with | .bl i => some i | _ => none) xs with
        | none => rw [eo] at h; simpa using h
        | some r => rw [eo] at h; simpa using h
      cases e2 : blsA xs with
      | none => rw [e2] at h; cases h
      | some ms =>
        rw [e2] at h; cases h
        rw [blsA_ok t e2]; rfl
    | _ => cases h
@[simp] theorem blsA_map (bs : List Bool) : blsA (bs.map A.bl) = some bs := by
  unfold blsA
  induction bs with
  | nil => rfl
  | cons n ns ih => rw [List.map_cons]; unfold optAll; rw [ih]
def anyA : Op1 := fun a st => match lstR a st with
  | some xs => (blsA xs).map fun bs => (.bl (bs.any id), st)
  | none => none
theorem cb_any : Cb (.builtin "any") (one1 anyA) := cb1 (r := rAny) (fun _ _ c cm => cr_any (c.calm cm)) fun K Z F μ st st' H a c x Q g ra e k => by
  unfold anyA at e
  cases e1 : lstR a st with
  | none => rw [e1] at e; cases e
  | some xs =>
    rw [e1] at e
    have e : (blsA xs).map (fun bs => (A.bl (bs.any id), st)) = some (c, st') := e
    cases e2 : blsA xs with
    | none => rw [e2] at e; cases e
    | some bs =>
      rw [e2] at e; cases e
      obtain ⟨p, vs, rfl, h1, r1⟩ := lstR_ok g ra e1
      rw [blsA_ok r1 e2] at h1
      exact ⟨p, bs, rfl, h1, k.same g (.bl _)⟩
def insI (x : Int) : List Int → List Int
  | [] => [x]
  | y :: ys => if x ≤ y then x :: y :: ys else y :: insI x ys
def srtI : List Int → List Int
  | [] => []
  | x :: xs => insI x (srtI xs)
theorem insI_perm (x : Int) : ∀ l : List Int, (insI x l).Perm (x :: l)
  | [] => .refl _
  | y :: ys => by
    unfold insI
    split
    · exact .refl _
    · exact ((insI_perm x ys).cons y).trans (.swap x y ys)
theorem srtI_perm : ∀ l : List Int, (srtI l).Perm l
  | [] => .refl _
  | x :: xs => (insI_perm x (srtI xs)).trans ((srtI_perm xs).cons x)
theorem insI_sorted {x : Int} : ∀ {l : List Int}, l.Pairwise (· ≤ ·) → (insI x l).Pairwise (· ≤ ·)
  | [], _ => by simp [insI]
  | y :: ys, h => by
    unfold insI
    rw [List.pairwise_cons] at h
    split
    · rename_i hx
      rw [List.pairwise_cons]
      refine ⟨fun z hz => ?_, List.pairwise_cons.mpr h⟩
      rcases List.mem_cons.mp hz with rfl | hz
      · exact hx
      · exact Int.le_trans hx (h.1 z hz)
    · rename_i hx
      rw [List.pairwise_cons]
      refine ⟨fun z hz => ?_, insI_sorted h.2⟩
      rcases List.mem_cons.mp ((insI_perm x ys).mem_iff.mp hz) with rfl | hz
      · omega
      · exact h.1 z hz
theorem srtI_sorted : ∀ l : List Int, (srtI l).Pairwise (· ≤ ·)
  | [] => .nil
  | x :: xs => insI_sorted (srtI_sorted xs)
theorem sorted_uniq : ∀ {a b : List Int}, a.Perm b → a.Pairwise (· ≤ ·) → b.Pairwise (· ≤ ·) → a = b
  | [], b, p, _, _ => by rw [List.nil_perm.mp p]
  | x :: a, [], p, _, _ => by have := p.length_eq; simp at this
  | x :: a, y :: b, p, ha, hb => by
    rw [List.pairwise_cons] at ha hb
    have h1 : x ∈ y :: b := p.mem_iff.mp (by simp)
    have h2 : y ∈ x :: a := p.mem_iff.mpr (by simp)
    have e : x = y := by
      rcases List.mem_cons.mp h1 with e | h1
      · exact e
      · rcases List.mem_cons.mp h2 with e | h2
        · exact e.symm
        · exact Int.le_antisymm (ha.1 y h2) (hb.1 x h1)
    subst e
    rw [sorted_uniq (List.Perm.cons_inv p) ha.2 hb.2]
def sortA (mk : Bool) : Op1 := fun a st => match lstR a st with
  | some xs => (match intsA xs with
    | some ns => if ns.length < 64 then some (newL mk ((srtI ns).map A.int) st) else none
    | none => none)
  | none => none
theorem cb_sorted {mk : Bool} : Cb (.builtin "sorted") (one1 (sortA mk)) := cb1 (r := rSorted) (fun _ _ _ _ => cr_sorted) fun K Z F μ st st' H a c x Q g ra e k => by
  unfold sortA at e
  cases e1 : lstR a st with
  | none => rw [e1] at e; cases e
  | some xs =>
    rw [e1] at e
    have e : (match intsA xs with | some ns => if ns.length < 64 then some (newL mk ((srtI ns).map A.int) st) else none | none => none) = some (c, st') := e
    cases e2 : intsA xs with
    | none => rw [e2] at e; cases e
    | some ns =>
      rw [e2] at e
      have e : (if ns.length < 64 then some (newL mk ((srtI ns).map A.int) st) else none) = some (c, st') := e
      by_cases hl : ns.length < 64
      · rw [if_pos hl] at e
        have e : newL mk ((srtI ns).map A.int) st = (c, st') := Option.some.inj e
        obtain ⟨p, vs, rfl, h1, r1⟩ := lstR_ok g ra e1
        rw [intsA_ok e2] at r1
        rw [r1.intsV] at h1
        refine ⟨p, ns, rfl, h1, hl, fun ns' q hp hs hq => ?_⟩
        have en : ns' = srtI ns := sorted_uniq (hp.trans (srtI_perm ns).symm) hs (srtI_sorted ns)
        subst en
        exact newL_ok (mk := mk) g hq (Reps.ints _) (by rw [e]; exact k)
      · rw [if_neg hl] at e; cases e
/-! ### xs.index(y) -/
def idxD (d : PyData) : List PyData → Option Nat
  | [] => none
  | z :: zs => if PyData.eqv z d = true then some 0 else (idxD d zs).map (· + 1)
theorem idxD_ok {d : PyData} : ∀ {ds : List PyData} {j : Nat}, idxD d ds = some j → ∃ z, ds[j]? = some z ∧ PyData.eqv z d = true ∧ ∀ (m : Nat) (z' : PyData), m < j → ds[m]? = some z' → PyData.eqv z' d = false
  | [], j, h => by cases h
  | z :: zs, j, h => by
    unfold idxD at h
    by_cases he : PyData.eqv z d = true
    · rw [if_pos he] at h; cases h
      exact ⟨z, rfl, he, fun m _ hm => absurd hm (by omega)⟩
    · rw [if_neg he] at h
      cases e : idxD d zs with
      | none => rw [e] at h; cases h
      | some i =>
        rw [e] at h; cases h
        obtain ⟨z1, h1, h2, h3⟩ := idxD_ok e
        refine ⟨z1, by simpa using h1, h2, fun m z' hm hz => ?_⟩
        cases m with
        | zero => simp at hz; subst hz; simpa using he
        | succ m => exact h3 m z' (Nat.lt_of_succ_lt_succ hm) (by simpa using hz)
def indexM : A → OpN := fun a as st => match as with
  | [y] => (match toD st 50 a, toD st 50 y with
    | some (.list ds), some d => if SeqAt.shaped (.list ds) = true ∧ SeqAt.shaped d = true then (idxD d ds).map fun j => (.int (j : Nat), st) else none
    | _, _ => none)
  | _ => none
theorem m_index : Cm "list" "list.index" indexM := ⟨⟨rIndexD, fun Γ X c => mt_indexD (Nat.lt_of_le_of_lt (by omega) c.units), fun K Z F μ st st' H a as c x xs Q g ra rs e k => by
  unfold indexM at e
  split at e
  · rename_i y
    obtain ⟨v, rfl, ry⟩ := rs.one
    split at e
    · rename_i ds d h1 h2
      split at e
      · rename_i hs
        cases ei : idxD d ds with
        | none => rw [ei] at e; cases e
        | some j =>
          rw [ei] at e; cases e
          obtain ⟨z, z1, z2, z3⟩ := idxD_ok ei
          have dx := toD_ok g _ _ _ _ h1 ra
          cases ex : x with
          | ref p => rw [ex] at dx; exact ⟨p, v, d, ds, j, z, rfl, rfl, dx, toD_ok g _ _ _ _ h2 ry, hs.1, hs.2, z1, z2, z3, k.same g (.int _)⟩
          | _ => rw [ex] at dx; cases dx
      · cases e
    · cases e
  · cases e⟩⟩
end SL

set_option Elab.async false
set_option linter.all false
set_option maxRecDepth 100000
set_option maxHeartbeats 4000000
/-! SLza: dicts that are written, with keys ints and texts or tuples of them; isinstance of own classes. -/
namespace PySem.W
open PySem PySem.Spec PySem.Calls PyProof.Rows
section
variable {prog : Program} {w : World} {A : Around} {E : Value → Shared → Prop} {s : Shared} {K : Frag} {x D : Addr} {ox : Obj} {od : Option Obj}
theorem slz_find {C : Addr} {name : Str} {a g : Value} (hc : (clsIn K C).isSome = true) (ha : findIn K (.ref C) name = some (some a)) (hg : specialIn K a "__get__" = some (some g)) (ht : takesIn K a = some true) : findObj K C od name = some (.bind g a) := by
  obtain ⟨cd, hc⟩ := Option.isSome_iff_exists.mp hc
  unfold findObj
  rw [hc, Option.bind_some, ha, Option.bind_some]
  simp [hg, ht]
theorem slz_class {Q : Option Value → Shared → Prop} (hga : findIn K (.ref D) "__getattribute__" = some (some (.builtin "BaseException.__getattribute__"))) (hgt : findIn K (.ref D) "__getattr__" = some none) (hsub : subIn K (.ref D) (.type "BaseException") = some true)
    (hdct : hasDictIn K D = true) (ha : findIn K (.ref D) "__class__" = some (some (.builtin "object.__class__")))
    (hn : specialIn K (.builtin "object.__class__") "__get__" = some (some (.builtin "getset_descriptor.__get__"))) (htk : takesIn K (.builtin "object.__class__") = some true) (hm : mroIn K D (.type "object") = some true)
    (X : K.In s.heap) (I : InstAt s.heap x ox D od) (h : Q (some (.ref D)) { s with toks := s.toks + 1 }) : wpAny (model prog w) A (getAttr? (.ref x) "__class__") Q E s := by
  have hf : findObj K D od "__class__" = some (.bind (.builtin "getset_descriptor.__get__") (.builtin "object.__class__")) := slz_find (by obtain ⟨cd, hc, _⟩ := any_some hdct; rw [hc]; rfl) ha hn htk
  obtain ⟨hp, g, d, t, os⟩ := s
  have L0 := I.type (M := model prog w)
  have L1 := looks_findIn (M := model prog w) X hga
  have L2 := looks_findIn (M := model prog w) X hgt
  have L3 := looks_find (M := model prog w) X I hf
  have sub : Looks (model prog w) hp (isInstance (.ref x) (.type "BaseException")) true := L0.andThen (looks_subIn X hsub)
  have hx0 : (false && onTheHeap (Value.builtin "BaseException.__getattribute__")) = false := rfl
  have hx2 : (Value.builtin "BaseException.__getattribute__" == Value.builtin "object.__getattribute__") = false := by decide +kernel
  have hx1 : (onTheHeap (Value.ref D) && Value.builtin "BaseException.__getattribute__" == Value.builtin "object.__getattribute__") = false := by rw [hx2]; rfl
  unfold getAttr? getAttrBy? getAttrBy
  refine wpAny_bind (wpAny_mkText (wpAny_bind (wpAny_attempt (wpAny_holding (wpAny_bind (L0.at (wpAny_bind (L1.at ?_))))))))
  show wpAny _ _ (if (onTheHeap (Value.ref D) && Value.builtin "BaseException.__getattribute__" == Value.builtin "object.__getattribute__") = true then _ else _) _ _ _
  rw [hx1, if_neg Bool.false_ne_true]
  unfold getAttrByItsOwn hookBefore
  refine wpAny_bind ?_
  rw [if_pos (show onTheHeap (Value.ref D) = true from rfl)]
  refine L2.at ?_
  refine wpAny_bind (wpAny_attempt (wpAny_holding ?_))
  unfold callGetattribute
  rw [hx0, if_neg Bool.false_ne_true]
  unfold boundAndCalled
  rw [PySem.F.excAttr_ValueError.ga.bind (.ref x)]
  refine wpAny_bind (wpAny_pure ?_)
  show wpAny _ _ (call (.builtin "BaseException.__getattribute__") [.ref x, .str "__class__" t]) _ _ _
  refine wpAny_call (codeAny_call_builtin PySem.F.excAttr_ValueError.ga.plain PySem.F.entry_bexc_ga ?_)
  refine @check_slot (model prog w) _ _ ⟨hp, g, d, t + 1, os⟩ "BaseException.__getattribute__" "BaseException" "__getattribute__" (.ref x) [.str "__class__" t] [] _ (by decide +kernel) (by decide +kernel) sub (PySem.F.args_bexc_ga (.ref x) (.str "__class__" t)) ?_
  unfold Builtin.«object.__getattribute__»
  refine wpAny_bind (wpAny_of_eq (a := ((Value.ref x : Value), [Value.str "__class__" t])) (by first | rfl | (simp only [slotArgs]; rfl)) ?_)
  refine wpAny_bind (wpAny_pure (wpAny_bind (L0.at (wpAny_bind (L3.at ?_)))))
  show wpAny _ _ (holding [Value.builtin "object.__class__"] (call (.builtin "getset_descriptor.__get__") [.builtin "object.__class__", .ref x, .ref D]) >>= ret) _ _ _
  refine wpAny_bind (wpAny_holding (wpAny_call (class_get (s := ⟨hp, g, d, t + 1, os⟩) (ox := ox) (od := od) X I hm ?_)))
  refine wpAny_pure ?_
  show wpAny _ _ (handedOut (.ref D)) _ _ _
  rw [handedOut_of (v := .ref D) rfl]
  first
    | exact wpAny_pure (wpAny_pure h)
    | exact wpAny_pure h
    | exact wpAny_pure (wpAny_bind (wpAny_pure (wpAny_pure h)))
theorem slz_kitx (hga : findIn K (.ref D) "__getattribute__" = some (some (.builtin "BaseException.__getattribute__"))) (hgt : findIn K (.ref D) "__getattr__" = some none) (hsub : subIn K (.ref D) (.type "BaseException") = some true) (hdct : hasDictIn K D = true) (ha : findIn K (.ref D) "__class__" = some (some (.builtin "object.__class__")))
    (hn : specialIn K (.builtin "object.__class__") "__get__" = some (some (.builtin "getset_descriptor.__get__"))) (htk : takesIn K (.builtin "object.__class__") = some true) (hm : mroIn K D (.type "object") = some true) :
    KitX K (.ref x) (.ref D) (fun h => InstAt h x ox D od) where
  ty := fun _ _ _ I => I.type
  it := fun _ _ X _ => by
    obtain ⟨cdD, hcD, _⟩ := any_some hdct
    unfold clsIn at hcD
    split at hcD
    · rename_i c' d' cd' sl' ho
      intro A' Q' E' s' k q
      unfold isType loadHead
      exact wpAny_bind (wpAny_loadPart (k _ _ (X _ _ ho)) (wpAny_pure q))
    · cases hcD
  ne := (handS_kitx_exc (x := x) (ox := ox) hga hgt hsub hdct ha hn htk hm).ne
  ca := fun X I k => slz_class hga hgt hsub hdct ha hn htk hm X I k
end
end PySem.W
namespace SL
open PySem PySem.Spec L2
open PyProof.Rows hiding St
open He (ga ma)
/-! ### the head's facts -/
theorem excc_ok {K : PySem.W.Frag} {x : Str} (h : (Fb.excc x).ok K = true) : ExcC K (ga K x) := by
  obtain ⟨h1, h⟩ := and2 h
  obtain ⟨h2, h⟩ := and2 h
  obtain ⟨h3, h⟩ := and2 h
  obtain ⟨h4, h⟩ := and2 h
  obtain ⟨h5, h⟩ := and2 h
  obtain ⟨h6, h⟩ := and2 h
  obtain ⟨h7, h8⟩ := and2 h
  exact ⟨He.eqO_ok h1, He.eqO_ok h2, of_decide_eq_true h3, h4, He.eqO_ok h5, He.eqO_ok h6, of_decide_eq_true h7, of_decide_eq_true h8⟩
theorem isx_ok {K : PySem.W.Frag} {x y : Str} {b : Bool} (h : (Fb.isx x y b).ok K = true) : PySem.W.kitOne K (.ref (ga K x)) (.ref (ga K y)) = some b := of_decide_eq_true h
theorem ist_ok {K : PySem.W.Frag} {n : String} {y : Str} (h : (Fb.ist n y).ok K = true) : PySem.W.kitOne K (.type n) (.ref (ga K y)) = some false := of_decide_eq_true h
structure InsC (K : PySem.W.Frag) (C : Addr) : Prop where
  ha : PySem.W.findIn K (.ref C) "__class__" = some (some (.builtin "object.__class__"))
  hn : PySem.W.specialIn K (.builtin "object.__class__") "__get__" = some (some (.builtin "getset_descriptor.__get__"))
  ht : PySem.W.takesIn K (.builtin "object.__class__") = some true
  hm : PySem.W.mroIn K C (.type "object") = some true
theorem insc_ok {K : PySem.W.Frag} {x : Str} (h : (Fb.insc x).ok K = true) : InsC K (ga K x) := by
  obtain ⟨h1, h⟩ := and2 h
  obtain ⟨h2, h⟩ := and2 h
  obtain ⟨h3, h4⟩ := and2 h
  exact ⟨He.eqO_ok h1, He.eqO_ok h2, of_decide_eq_true h3, of_decide_eq_true h4⟩
/-! ### isinstance(x, C), C an own class -/
def isO (C : Str) : OpN := fun xs st => match xs with
  | [v, .glo D] => if D = C then (match insA v st with
    | some (c, _, _) => if c = C then some (.bl true, st) else none
    | none => (match tyName v st with
      | some n => if n ∈ ["str", "NoneType", "list", "tuple", "int", "bool", "dict"] then some (.bl false, st) else none
      | none => none)) else none
  | _ => none
theorem sim_isO {K : PySem.W.Frag} {C : Str} (hc : Cls K (ga K C)) (hi : InsC K (ga K C)) (ht : ∀ n ∈ (["str", "NoneType", "list", "tuple", "int", "bool", "dict"] : List String), PySem.W.kitOne K (.type n) (.ref (ga K C)) = some false) : SimVN K (rIsi K) (isO C) := by
  intro Z F μ st st' H as c xs Q g rs e k
  unfold isO at e
  split at e
  · rename_i v D
    obtain ⟨x, y, rfl, rx, ry⟩ := rs.two
    cases ry
    split at e
    · rename_i hD
      subst hD
      cases ei : insA v st with
      | some q =>
        obtain ⟨cn, ns, vs⟩ := q
        rw [ei] at e
        dsimp only at e
        split at e
        · rename_i hcn
          subst hcn
          cases e
          obtain ⟨p, dx, fs, rfl, h1, h2, h3⟩ := insA_ok g rx ei
          exact ⟨.ref p, .ref (ga K cn), .ref (ga K cn), .ref (ga K cn), true, rfl, .own _, .base (.ins h1 hc hi.ha hi.hn hi.ht hi.hm), by unfold PySem.W.kitOne; rw [if_pos (by simp)], k.same g (.bl _)⟩
        · cases e
      | none =>
        rw [ei] at e
        dsimp only at e
        cases en : tyName v st with
        | none => rw [en] at e; cases e
        | some n =>
          rw [en] at e
          dsimp only at e
          split at e
          · rename_i hn
            cases e
            exact ⟨x, .ref (ga K D), .type n, .ref (ga K D), false, rfl, .own _, tyName_ok g rx en, ht n hn, k.same g (.bl _)⟩
          · cases e
    · cases e
  · cases e
section
variable {Γ : G} {e : Expr} {es : List Expr} {ms : AEnv → Store → Res (List A)} {p p2 pos : Pos}
theorem s_isO {C : Str} (hc : Cls Γ.K (ga Γ.K C)) (hi : InsC Γ.K (ga Γ.K C)) (ht : ∀ n ∈ (["str", "NoneType", "list", "tuple", "int", "bool", "dict"] : List String), PySem.W.kitOne Γ.K (.type n) (.ref (ga Γ.K C)) = some false)
    (hg : Γ.sc.names.lookup ("isinstance" : Str) = some .globalImplicit) (hm : Γ.mg "isinstance" = none) (ha : SA Γ (e :: es) ms) (he : ∀ env, starEach (e :: es) env = (false, eval e env) :: starEach es env := by intro _; rfl) (hpl : ∀ env, (backTo pos (starEach es env)).any (·.1) = false := by intro _; rfl) :
    SE Γ (.Call (.Name "isinstance" p) (e :: es) [] pos) (eCB (isO C) ms) :=
  ⟨fun W => by
    obtain ⟨ta, sa, pa⟩ := ha.run W
    refine ⟨_, sim_cb (sim_isO hc hi ht) sa, fun X c t => ?_⟩
    rw [← c.K]
    exact pe_callB call_isi (c.gl hg) (c.mgn hm) PyProof.Rows.boot_isinstance (pa X c t) (he := he _) (hpl := hpl _)⟩
end
/-! ### isinstance(e, C), e the caught error -/
def rIsE2 (K : PySem.W.Frag) (D a : Addr) (d : Option Addr) : List V → Hp → VK → Prop := fun xs H Q => ∃ (c : V) (cv : Value) (b : Bool), xs = [.ref a, c] ∧ (∀ u, RelV c u → u = cv) ∧ PySem.W.kitOne K (.ref D) cv = some b ∧ (d = none ∨ ∃ dd fs, d = some dd ∧ H dd = some (.xd fs)) ∧ Q (.bl b) H
theorem call_isE2 {X : Cx} {a D : Addr} {d : Option Addr} {oe : Obj} {pn : List (Addr × Obj)} (C : ExcC X.K D) (hz : Zc (.ref D) d oe) (hf : ∃ vs, oe.data = .fields vs) : CallR (X.suite a ((a, oe) :: pn)) (.builtin "isinstance") (rIsE2 X.K D a d) := by
  intro pins s σ H xs us Q I r h
  obtain ⟨c, cv, b, rfl, hcv, e, hd, q⟩ := h
  cases r with
  | cons rx rr =>
    cases rr with
    | cons rt rr =>
      cases rr
      cases rx
      have ec := hcv _ rt
      subst ec
      obtain ⟨hget, _⟩ := I.pin (a, oe) (List.mem_append.mpr (.inl List.mem_cons_self))
      obtain ⟨vs, hv⟩ := hf
      have J : ∃ od, PySem.W.InstAt s.heap a oe D od := by
        obtain ⟨oc, odd, oda, osl⟩ := oe
        obtain ⟨h1, h2⟩ := hz
        dsimp only at h1 h2 hv
        subst h1 h2 hv
        rcases hd with rfl | ⟨dd, fs, rfl, hdd⟩
        · exact ⟨none, hget, rfl, rfl, trivial⟩
        · obtain ⟨mA, ⟨o, es, ep, ho, _⟩, _⟩ := I.hok dd _ hdd
          exact ⟨some o, hget, rfl, rfl, ho⟩
      obtain ⟨od, J⟩ := J
      exact PySem.W.kia_one (PySem.W.slz_kitx C.hg C.hk C.hs C.hd C.ha C.hn C.ht C.hm) I.kIn J e (fun z => nomatch z) fun tk => ⟨.bl b, H, I.kept (t' := tk) fun _ _ z => z, rfl, q⟩
def isX (C : Str) (tbl : List (Str × Bool)) (a0 : Addr) (c0 : Str) (d0 : Option Addr) : OpN := fun xs st => match xs with
  | [.xcp a d c _ _, .glo D] => if a = a0 ∧ c = c0 ∧ d = d0 ∧ D = C then (tbl.lookup c).map fun b => (.bl b, st) else none
  | _ => none
section
variable {Γ : G} {e : Expr} {es : List Expr} {ms : AEnv → Store → Res (List A)} {p p2 pos : Pos} {a0 : Addr} {c0 : Str} {d0 : Option Addr}
theorem s_isX {C : Str} (tbl : List (Str × Bool)) (hcs : ∀ q ∈ tbl, ExcC Γ.K (ga Γ.K q.1) ∧ PySem.W.kitOne Γ.K (.ref (ga Γ.K q.1)) (.ref (ga Γ.K C)) = some q.2)
    (hg : (Γ.hot a0 c0 d0).sc.names.lookup ("isinstance" : Str) = some .globalImplicit) (hm : (Γ.hot a0 c0 d0).mg "isinstance" = none) (ha : SA (Γ.hot a0 c0 d0) (e :: es) ms) (he : ∀ env, starEach (e :: es) env = (false, eval e env) :: starEach es env := by intro _; rfl) (hpl : ∀ env, (backTo pos (starEach es env)).any (·.1) = false := by intro _; rfl) :
    SE (Γ.hot a0 c0 d0) (.Call (.Name "isinstance" p) (e :: es) [] pos) (eCB (isX C tbl a0 c0 d0) ms) :=
  ⟨fun W => by
    obtain ⟨ta, sa, pa⟩ := ha.run W
    have hs : SimVN Γ.K (fun xs H Q => ∃ q ∈ tbl, q.1 = c0 ∧ rIsE2 Γ.K (ga Γ.K c0) a0 d0 xs H Q) (isX C tbl a0 c0 d0) := by
      intro Z F μ st st' H as c xs Q g rs e k
      unfold isX at e
      split at e
      · rename_i a d cn ns vs D
        obtain ⟨x, y, rfl, rx, ry⟩ := rs.two
        cases ry
        split at e
        · rename_i hh
          obtain ⟨rfl, rfl, rfl, rfl⟩ := hh
          cases el : tbl.lookup cn with
          | none => rw [el] at e; cases e
          | some b =>
            rw [el] at e; cases e
            have hm : (cn, b) ∈ tbl := by
              have gen : ∀ (l : List (Str × Bool)), l.lookup cn = some b → (cn, b) ∈ l := by
                intro l
                induction l with
                | nil => intro h; cases h
                | cons q l ih =>
                  intro h
                  obtain ⟨q1, q2⟩ := q
                  rw [List.lookup_cons] at h
                  cases eq : (cn == q1) with
                  | true => rw [eq] at h; cases h; rw [eq_of_beq eq]; exact List.mem_cons_self
                  | false => rw [eq] at h; exact List.mem_cons_of_mem _ (ih h)
              exact gen tbl el
            refine ⟨_, hm, rfl, ?_⟩
            have hk := (hcs _ hm).2
            cases rx with
            | xcp0 => exact ⟨.ref (ga Γ.K D), .ref (ga Γ.K D), b, rfl, fun u ru => ru, hk, .inl rfl, k.same g (.bl _)⟩
            | xcpD r1 r2 r3 => exact ⟨.ref (ga Γ.K D), .ref (ga Γ.K D), b, rfl, fun u ru => ru, hk, .inr ⟨_, _, rfl, g.sub _ _ r1⟩, k.same g (.bl _)⟩
        · cases e
      · cases e
    refine ⟨_, sim_cb hs sa, fun X c t => ?_⟩
    obtain ⟨X', oe, pn, rfl, hz, hf⟩ := c.hx a0 c0 d0 rfl
    have hK : X'.K = Γ.K := c.K
    refine pe_callB ?_ (c.gl hg) (c.mgn hm) PyProof.Rows.boot_isinstance (pa _ c t) (he := he _) (hpl := hpl _)
    intro pins s σ H xs us Q I r h
    obtain ⟨q, hq, rfl, h⟩ := h
    refine call_isE2 (X := X') (D := ga Γ.K q.1) (d := d0) (by rw [hK]; exact (hcs q hq).1) hz hf pins s σ H xs us Q I r (by rw [hK]; exact h)⟩
end
end SL

set_option Elab.async false
set_option linter.all false
set_option maxRecDepth 100000
set_option maxHeartbeats 4000000
/-! SLzb: dicts of the store: {}, d[k] = v, d.get, d[k], k in d. -/
namespace SL
open PySem PySem.Spec L2
open PyProof.Rows hiding St
section
variable {κ : Type} [DecidableEq κ]
def lkG : List κ → List A → κ → Option A
  | k' :: ks, x :: xs, k => if k' = k then some x else lkG ks xs k
  | _, _, _ => none
theorem lkG_ok {K : PySem.W.Frag} {F : Hp} {μ : List Addr} {k : κ} : ∀ {kvs : List (κ × V)} {ks : List κ} {xs : List A}, kvs.map (·.1) = ks → Reps K F μ xs (kvs.map (·.2)) →
    (∀ x, lkG ks xs k = some x → ∃ v, valV kvs k = some v ∧ Rep K F μ x v) ∧ (lkG ks xs k = none → valV kvs k = none)
  | [], ks, xs, h, r => by
    subst h
    exact ⟨fun x e => by simp [lkG] at e, fun _ => rfl⟩
  | p :: kvs, ks, xs, h, r => by
    subst h
    cases r with
    | @cons a _ as _ ra rt =>
      have ih := lkG_ok (k := k) (kvs := kvs) rfl rt
      rw [List.map_cons]
      by_cases e : p.1 = k
      · refine ⟨fun x hx => ?_, fun hx => ?_⟩
        · simp only [lkG, if_pos e] at hx; cases hx; exact ⟨p.2, valV_pos e, ra⟩
        · simp only [lkG, if_pos e] at hx; cases hx
      · simp only [lkG, if_neg e]
        rw [valV_neg e]
        exact ih
def setG (k : κ) (v : A) : List κ → List A → List A
  | k' :: ks, x :: xs => (if k' = k then v else x) :: setG k v ks xs
  | _, xs => xs
def putG (k : κ) (v : A) (ks : List κ) (xs : List A) : List κ × List A := if (ks.any fun k' => decide (k' = k)) = true then (ks, setG k v ks xs) else (ks ++ [k], xs ++ [v])
theorem putG_ok {K : PySem.W.Frag} {F : Hp} {μ : List Addr} {k : κ} {v : A} {w : V} {kvs : List (κ × V)} {ks : List κ} {xs : List A} (rv : Rep K F μ v w) (h : kvs.map (·.1) = ks) (r : Reps K F μ xs (kvs.map (·.2))) :
    (putK kvs k w).map (·.1) = (putG k v ks xs).1 ∧ Reps K F μ (putG k v ks xs).2 ((putK kvs k w).map (·.2)) := by
  subst h
  unfold putK putG
  have hany : ((kvs.map (·.1)).any fun k' => decide (k' = k)) = kvs.any fun kv => decide (kv.1 = k) := by rw [List.any_map]; rfl
  rw [hany]
  by_cases hk : (kvs.any fun kv => decide (kv.1 = k)) = true
  · rw [if_pos hk, if_pos hk]
    have go : ∀ {kvs : List (κ × V)} {xs : List A}, Reps K F μ xs (kvs.map (·.2)) → (kvs.map fun kv => if kv.1 = k then (kv.1, w) else kv).map (·.1) = kvs.map (·.1) ∧ Reps K F μ (setG k v (kvs.map (·.1)) xs) ((kvs.map fun kv => if kv.1 = k then (kv.1, w) else kv).map (·.2)) := by
      intro kvs
      induction kvs with
      | nil => intro xs r; cases r; exact ⟨rfl, .nil⟩
      | cons p kvs ih =>
        intro xs r
        cases r with
        | cons ra rt =>
          obtain ⟨h1, h2⟩ := ih rt
          simp only [List.map_cons, setG]
          by_cases e : p.1 = k
          · rw [if_pos e, if_pos e]; exact ⟨by rw [h1], .cons rv h2⟩
          · rw [if_neg e, if_neg e]; exact ⟨by rw [h1], .cons ra h2⟩
    exact go r
  · rw [if_neg hk, if_neg hk]
    rw [List.map_append, List.map_append]
    exact ⟨rfl, r.append (.cons rv .nil)⟩
end
/-! ### {} -/
def eNewK : AEnv → Store → Res A := fun _ st => .ok (.cell st.length) (st ++ [.dct [] []])
def eNewT : AEnv → Store → Res A := fun _ st => .ok (.cell st.length) (st ++ [.dcT [] []])
section
variable {Γ : G} {pos : Pos}
theorem s_newK : SE Γ (.Dict [] [] pos) eNewK :=
  ⟨fun W => ⟨tDNewK, fun Z F μ st env σ H Q g re hp p hn => by
    obtain ⟨g', e⟩ := g.push (p := p) (o := .dK []) (c := .dct [] []) hn ⟨[], upd_same, rfl, .nil⟩
    exact (show Kont Γ.K Z Rep F μ Q (.cell st.length) (st ++ [.dct [] []]) from hp) _ _ _ _ e g' (.cell (by rw [← g.len, List.getElem?_append_right (Nat.le_refl _), Nat.sub_self]; rfl)), fun X c t => pe_dnewK⟩⟩
theorem s_newT : SE Γ (.Dict [] [] pos) eNewT :=
  ⟨fun W => ⟨tDNewT, fun Z F μ st env σ H Q g re hp p hn => by
    obtain ⟨g', e⟩ := g.push (p := p) (o := .dT []) (c := .dcT [] []) hn ⟨[], upd_same, rfl, .nil⟩
    exact (show Kont Γ.K Z Rep F μ Q (.cell st.length) (st ++ [.dcT [] []]) from hp) _ _ _ _ e g' (.cell (by rw [← g.len, List.getElem?_append_right (Nat.le_refl _), Nat.sub_self]; rfl)), fun X c t => pe_dnewT⟩⟩
end
@[simp] theorem eNewK_ap {env : AEnv} {st : Store} : eNewK env st = .ok (.cell st.length) (st ++ [.dct [] []]) := (rfl)
@[simp] theorem eNewT_ap {env : AEnv} {st : Store} : eNewT env st = .ok (.cell st.length) (st ++ [.dcT [] []]) := (rfl)
/-! ### keys that are tuples -/
def keysT : List A → Option (List Key) := optAll keyA
theorem keysT_ok {K : PySem.W.Frag} {F : Hp} {μ : List Addr} : ∀ {xs : List A} {vs : List V} {k : List Key}, Reps K F μ xs vs → keysT xs = some k → vs = k.map kV
  | [], _, _, .nil, h => by cases h; rfl
  | x :: xs, _, k, .cons r t, h => by
    unfold keysT optAll at h
    cases ek : keyA x with
    | none => rw [ek] at h; cases h
    | some q =>
      rw [ek] at h
      have h : (match keysT xs with | some r => some (q :: r) | none => none) = some k := by
        unfold keysT
        cases eo : optAll keyA xs with
        | none => rw [eo] at h; simpa using h
        | some r => rw [eo] at h; simpa using h
      cases e2 : keysT xs with
      | none => rw [e2] at h; cases h
      | some ms =>
        rw [e2] at h; cases h
        rw [keysT_ok t e2, keyA_ok r ek]; rfl
/-- what a dict holds at a key: the answer, if it may be asked -/
def dGetA (d k : A) (st : Store) : Option (Option A) := match d with
  | .dct ks xs => (keyA k).map fun q => lkG ks xs q
  | .cell n => (match st[n]? with
    | some (.dct ks xs) => (keyA k).map fun q => lkG ks xs q
    | some (.dcT ks xs) => (match k with
      | .tup ys => (keysT ys).map fun q => lkG ks xs q
      | _ => none)
    | _ => none)
  | _ => none
theorem dGet_some {κ : Type} {l : Option A} {o : Option V} {K : PySem.W.Frag} {F : Hp} {μ : List Addr} (h1 : ∀ x, l = some x → ∃ v, o = some v ∧ Rep K F μ x v) (h2 : l = none → o = none) : (∃ x v, l = some x ∧ o = some v ∧ Rep K F μ x v) ∨ (l = none ∧ o = none) := by
  cases l with
  | none => exact .inr ⟨rfl, h2 rfl⟩
  | some x => obtain ⟨v, h, r⟩ := h1 x rfl; exact .inl ⟨x, v, rfl, h, r⟩
theorem dGetA_ok {K : PySem.W.Frag} {Z F : Hp} {μ : List Addr} {st : Store} {H : Hp} {d k : A} {x y : V} {l : Option A} (g : Good K Z F μ st H) (rd : Rep K F μ d x) (rk : Rep K F μ k y) (h : dGetA d k st = some l) :
    ∃ p o, x = .ref p ∧ IsD H p ∧ DGet H p y o ∧ ((∃ z v, l = some z ∧ o = some v ∧ Rep K F μ z v) ∨ (l = none ∧ o = none)) := by
  cases d with
  | dct ks xs =>
    have h : (keyA k).map (fun q => lkG ks xs q) = some l := h
    cases ek : keyA k with
    | none => rw [ek] at h; cases h
    | some q =>
      rw [ek] at h; cases h
      cases rd with
      | dct h1 h2 h3 =>
        obtain ⟨a, b⟩ := lkG_ok (k := q) h2 h3
        rw [keyA_ok rk ek]
        exact ⟨_, _, rfl, .inl ⟨_, .inl (g.sub _ _ h1)⟩, DGet.k (g.sub _ _ h1), dGet_some (κ := Key) a b⟩
  | cell n =>
    cases rd with
    | cell hm =>
      unfold dGetA at h
      dsimp only at h
      cases e : st[n]? with
      | none => rw [e] at h; cases h
      | some c =>
        rw [e] at h
        cases c with
        | dct ks xs =>
          have h : (keyA k).map (fun q => lkG ks xs q) = some l := h
          obtain ⟨a2, m2, _, kvs, h4, h5, h6⟩ := g.cell n _ e (by intro z; cases z)
          rw [hm] at m2; cases m2
          cases ek : keyA k with
          | none => rw [ek] at h; cases h
          | some q =>
            rw [ek] at h; cases h
            obtain ⟨a, b⟩ := lkG_ok (k := q) h5 h6
            rw [keyA_ok rk ek]
            exact ⟨_, _, rfl, .inl ⟨_, .inl h4⟩, DGet.k h4, dGet_some (κ := Key) a b⟩
        | dcT ks xs =>
          obtain ⟨a2, m2, _, kvs, h4, h5, h6⟩ := g.cell n _ e (by intro z; cases z)
          rw [hm] at m2; cases m2
          cases k with
          | tup ys =>
            have h : (keysT ys).map (fun q => lkG ks xs q) = some l := h
            cases ek : keysT ys with
            | none => rw [ek] at h; cases h
            | some q =>
              rw [ek] at h; cases h
              cases rk with
              | tup r1 r2 =>
                obtain ⟨a, b⟩ := lkG_ok (k := q) h5 h6
                have hb := g.sub _ _ r1
                rw [keysT_ok r2 ek] at hb
                exact ⟨_, _, rfl, .inr ⟨_, .inl h4⟩, DGet.t h4 hb, dGet_some (κ := List Key) a b⟩
          | _ => cases h
        | _ => cases h
  | _ => cases h
/-- a dict is there -/
def isDA (d : A) (st : Store) : Bool := match d with
  | .dct _ _ => true
  | .cell n => (match st[n]? with
    | some (.dct _ _) => true
    | some (.dcT _ _) => true
    | _ => false)
  | _ => false
theorem isDA_ok {K : PySem.W.Frag} {Z F : Hp} {μ : List Addr} {st : Store} {H : Hp} {d : A} {x : V} (g : Good K Z F μ st H) (rd : Rep K F μ d x) (h : isDA d st = true) : ∃ p, x = .ref p ∧ IsD H p := by
  cases d with
  | dct ks xs =>
    cases rd with
    | dct h1 h2 h3 => exact ⟨_, rfl, .inl ⟨_, .inl (g.sub _ _ h1)⟩⟩
  | cell n =>
    cases rd with
    | cell hm =>
      have h : (match st[n]? with
        | some (.dct _ _) => true
        | some (.dcT _ _) => true
        | _ => false) = true := h
      cases e : st[n]? with
      | none => rw [e] at h; cases h
      | some c =>
        rw [e] at h
        cases c with
        | dct ks xs =>
          obtain ⟨a2, m2, _, kvs, h4, h5, h6⟩ := g.cell n _ e (by intro z; cases z)
          rw [hm] at m2; cases m2
          exact ⟨_, rfl, .inl ⟨_, .inl h4⟩⟩
        | dcT ks xs =>
          obtain ⟨a2, m2, _, kvs, h4, h5, h6⟩ := g.cell n _ e (by intro z; cases z)
          rw [hm] at m2; cases m2
          exact ⟨_, rfl, .inr ⟨_, .inl h4⟩⟩
        | _ => cases h
  | _ => cases h
/-! ### d.get(k, z), d.get(k) -/
def eGetD (mo me mf : AEnv → Store → Res A) : AEnv → Store → Res A := fun env st => (mo env st).bind fun d st1 => if isDA d st1 = true then (me env st1).bind fun k st2 => (mf env st2).bind fun z st3 => Res.of ((dGetA d k st3).map fun l => (l.getD z, st3)) else .stuck
def eGet1 (mo me : AEnv → Store → Res A) : AEnv → Store → Res A := fun env st => (mo env st).bind fun d st1 => if isDA d st1 = true then (me env st1).bind fun k st2 => Res.of ((dGetA d k st2).map fun l => (l.getD .non, st2)) else .stuck
theorem sim_getD {K : PySem.W.Frag} {W : WX} {td ty tx : TE} {mo me mf : AEnv → Store → Res A} (hd : Sim K Rep W td mo) (hy : Sim K Rep W ty me) (hx : Sim K Rep W tx mf) : Sim K Rep W (tDGet2 td ty tx) (eGetD mo me mf) := by
  intro Z F μ st env σ H Q g re hp
  unfold eGetD at hp
  rw [Res.post_bind] at hp
  refine hd Z F μ st env σ H _ g re (Res.post_mono hp (fun d st1 q => ?_) fun _ _ q => q)
  intro F1 μ1 H1 x e1 g1 rd
  split at q
  · rename_i hs
    obtain ⟨p, rfl, hD⟩ := isDA_ok g1 rd hs
    refine ⟨p, rfl, hD, ?_⟩
    rw [Res.post_bind] at q
    refine hy Z F1 μ1 st1 env σ H1 _ g1 (re.mono e1) (Res.post_mono q (fun k st2 q => ?_) fun _ _ q => q.ext e1)
    intro F2 μ2 H2 y e2 g2 rk
    rw [Res.post_bind] at q
    refine hx Z F2 μ2 st2 env σ H2 _ g2 (re.mono (e1.trans e2)) (Res.post_mono q (fun z st3 q => ?_) fun _ _ q => q.ext (e1.trans e2))
    intro F3 μ3 H3 zv e3 g3 rz
    obtain ⟨c, st4, e, kk⟩ := Res.post_of q
    cases el : dGetA d k st3 with
    | none => rw [el] at e; cases e
    | some l =>
      rw [el] at e; cases e
      obtain ⟨p3, o, ep, _, hg, hh⟩ := dGetA_ok g3 (rd.mono (e2.trans e3)) (rk.mono e3) el
      cases ep
      refine ⟨o, hg, ?_⟩
      have K4 := kk.ext (e1.trans (e2.trans e3))
      rcases hh with ⟨z1, v, rfl, rfl, rv⟩ | ⟨rfl, rfl⟩
      · exact K4.now g3 rv
      · exact K4.now g3 rz
  · exact q.elim
theorem sim_get1 {K : PySem.W.Frag} {W : WX} {td ty : TE} {mo me : AEnv → Store → Res A} (hd : Sim K Rep W td mo) (hy : Sim K Rep W ty me) : Sim K Rep W (tDGet1 td ty) (eGet1 mo me) := by
  intro Z F μ st env σ H Q g re hp
  unfold eGet1 at hp
  rw [Res.post_bind] at hp
  refine hd Z F μ st env σ H _ g re (Res.post_mono hp (fun d st1 q => ?_) fun _ _ q => q)
  intro F1 μ1 H1 x e1 g1 rd
  split at q
  · rename_i hs
    obtain ⟨p, rfl, hD⟩ := isDA_ok g1 rd hs
    refine ⟨p, rfl, hD, ?_⟩
    rw [Res.post_bind] at q
    refine hy Z F1 μ1 st1 env σ H1 _ g1 (re.mono e1) (Res.post_mono q (fun k st2 q => ?_) fun _ _ q => q.ext e1)
    intro F2 μ2 H2 y e2 g2 rk
    obtain ⟨c, st4, e, kk⟩ := Res.post_of q
    cases el : dGetA d k st2 with
    | none => rw [el] at e; cases e
    | some l =>
      rw [el] at e; cases e
      obtain ⟨p3, o, ep, _, hg, hh⟩ := dGetA_ok g2 (rd.mono e2) rk el
      cases ep
      refine ⟨o, hg, ?_⟩
      have K4 := kk.ext (e1.trans e2)
      rcases hh with ⟨z1, v, rfl, rfl, rv⟩ | ⟨rfl, rfl⟩
      · exact K4.now g2 rv
      · exact K4.now g2 .non
  · exact q.elim
section
variable {Γ : G} {e f o : Expr} {mo me mf : AEnv → Store → Res A} {apos cpos pos : Pos}
theorem s_getD (ho : SE Γ o mo) (he : SE Γ e me) (hf : SE Γ f mf)
    (h1 : ∀ env, attributeBase o "get" env (eval o env) = eval o env := by intro _; rfl)
    (h2 : ∀ env, ((backTo cpos (starEach [e, f] env)).all (fun x => !x.1) && (backToKw cpos (keywordEach [] env)).all (fun x => x.1.isSome)
    && decide (([e, f] : List Expr).length + ([] : List Keyword).length + (if ([] : List Keyword).isEmpty then 0 else 1) < 30)) = true := by intro _; rfl)
    (h3 : (apos.endLine == cpos.line) = true := by rfl)
    (h4 : ∀ env, backTo cpos (starEach [e, f] env) = [(false, eval e env), (false, eval f env)] := by intro _; rfl) : SE Γ (.Call (.Attribute o "get" apos) [e, f] [] cpos) (eGetD mo me mf) :=
  ⟨fun W => by
    obtain ⟨to, so, po⟩ := ho.run W
    obtain ⟨te, s_e, p_e⟩ := he.run W
    obtain ⟨tf, s_f, p_f⟩ := hf.run W
    exact ⟨_, sim_getD so s_e s_f, fun X c t => pe_dget2 (Nat.lt_of_le_of_lt (by omega) c.units) (po X c t) (p_e X c t) (p_f X c t) ⟨h1 _, h2 _, h3, h4 _⟩⟩⟩
theorem s_get1 (ho : SE Γ o mo) (he : SE Γ e me)
    (h1 : ∀ env, attributeBase o "get" env (eval o env) = eval o env := by intro _; rfl)
    (h2 : ∀ env, ((backTo cpos (starEach [e] env)).all (fun x => !x.1) && (backToKw cpos (keywordEach [] env)).all (fun x => x.1.isSome)
    && decide (([e] : List Expr).length + ([] : List Keyword).length + (if ([] : List Keyword).isEmpty then 0 else 1) < 30)) = true := by intro _; rfl)
    (h3 : (apos.endLine == cpos.line) = true := by rfl)
    (h4 : ∀ env, backTo cpos (starEach [e] env) = [(false, eval e env)] := by intro _; rfl) : SE Γ (.Call (.Attribute o "get" apos) [e] [] cpos) (eGet1 mo me) :=
  ⟨fun W => by
    obtain ⟨to, so, po⟩ := ho.run W
    obtain ⟨te, s_e, p_e⟩ := he.run W
    exact ⟨_, sim_get1 so s_e, fun X c t => pe_dget1 (Nat.lt_of_le_of_lt (by omega) c.units) (po X c t) (p_e X c t) ⟨h1 _, h2 _, h3, h4 _⟩⟩⟩
end
@[simp] theorem eGetD_ap {mo me mf : AEnv → Store → Res A} {env : AEnv} {st : Store} : eGetD mo me mf env st = (mo env st).bind fun d st1 => if isDA d st1 = true then (me env st1).bind fun k st2 => (mf env st2).bind fun z st3 => Res.of ((dGetA d k st3).map fun l => (l.getD z, st3)) else .stuck := (rfl)
@[simp] theorem eGet1_ap {mo me : AEnv → Store → Res A} {env : AEnv} {st : Store} : eGet1 mo me env st = (mo env st).bind fun d st1 => if isDA d st1 = true then (me env st1).bind fun k st2 => Res.of ((dGetA d k st2).map fun l => (l.getD .non, st2)) else .stuck := (rfl)
/-! ### d[k] = v -/
def setDict : A → A → A → Store → Option Store := fun o i v st => match o with
  | .cell n => (match st[n]? with
    | some (.dct ks vs) => (match keyA i with
      | some k => if ks.length < sizeLine then some (st.set n (.dct (putG k v ks vs).1 (putG k v ks vs).2)) else none
      | none => none)
    | some (.dcT ks vs) => (match i with
      | .tup ys => (match keysT ys with
        | some k => if ks.length < sizeLine then some (st.set n (.dcT (putG k v ks vs).1 (putG k v ks vs).2)) else none
        | none => none)
      | _ => none)
    | _ => none)
  | _ => none
theorem set_dict {X : Cx} (hu : X.A.units + 1 < cLine) : PSet X (fun x y v H Q => ∃ a H', x = .ref a ∧ DPut H a y v H' ∧ Q H') := by
  intro pins s σ H o i v ov iv u Q I ro ri rv h
  obtain ⟨a, H', rfl, g, q⟩ := h
  cases ro
  exact d_setItem hu I g ri rv fun s4 I4 => ⟨H', I4, q⟩
theorem cset_dict : Cset setDict := ⟨⟨fun _ x y v H Q => ∃ a H', x = .ref a ∧ DPut H a y v H' ∧ Q H', fun Γ X c => set_dict (Nat.lt_of_le_of_lt (by omega) c.units), fun K Z F μ st st' H o i a x y v Q g ro ri ra e k => by
  cases o with
  | cell n =>
    cases ro with
    | cell hm =>
      unfold setDict at e
      dsimp only at e
      cases ec : st[n]? with
      | none => rw [ec] at e; cases e
      | some c =>
        rw [ec] at e
        cases c with
        | dct ks vs =>
          dsimp only at e
          obtain ⟨a2, m2, _, kvs, h4, h5, h6⟩ := g.cell n _ ec (by intro z; cases z)
          rw [hm] at m2; cases m2
          cases ek : keyA i with
          | none => rw [ek] at e; cases e
          | some q =>
            rw [ek] at e
            dsimp only at e
            split at e
            · rename_i hl
              cases e
              obtain ⟨b1, b2⟩ := putG_ok (k := q) ra h5 h6
              rw [keyA_ok ri ek]
              have hl' : kvs.length < sizeLine := by rw [← List.length_map (f := fun x : Key × V => x.1), h5]; exact hl
              exact ⟨_, _, rfl, DPut.k h4 hl', k _ _ Ext.refl (g.write (o := .dK (putK kvs q v)) ec (by intro z; cases z) hm ⟨_, upd_same, b1, b2⟩)⟩
            · cases e
        | dcT ks vs =>
          dsimp only at e
          obtain ⟨a2, m2, _, kvs, h4, h5, h6⟩ := g.cell n _ ec (by intro z; cases z)
          rw [hm] at m2; cases m2
          cases i with
          | tup ys =>
            dsimp only at e
            cases ek : keysT ys with
            | none => rw [ek] at e; cases e
            | some q =>
              rw [ek] at e
              dsimp only at e
              split at e
              · rename_i hl
                cases e
                cases ri with
                | tup r1 r2 =>
                  obtain ⟨b1, b2⟩ := putG_ok (k := q) ra h5 h6
                  have hb := g.sub _ _ r1
                  rw [keysT_ok r2 ek] at hb
                  have hl' : kvs.length < sizeLine := by rw [← List.length_map (f := fun x : List Key × V => x.1), h5]; exact hl
                  exact ⟨_, _, rfl, DPut.t h4 hb hl', k _ _ Ext.refl (g.write (o := .dT (putK kvs q v)) ec (by intro z; cases z) hm ⟨_, upd_same, b1, b2⟩)⟩
              · cases e
          | _ => cases e
        | _ => cases e
  | _ => cases e⟩⟩
end SL

set_option Elab.async false
set_option linter.all false
set_option maxRecDepth 100000
set_option maxHeartbeats 4000000
/-! SLzc: words for the plain functions: loops, comprehensions, tables. -/
namespace SL
open PySem PySem.Spec L2
open PyProof.Rows hiding St
/-! ### loops, one step -/
section
variable {src : Src} {all : List A} {g : MG} {body : MS} {x a : A} {xs : List A} {env e1 e2 : AEnv} {s s2 : Store} {y : Exc}
theorem forS_nil (hs : srcOk src all s) : forL src all g body [] env s = .nx env s := by rw [forL, if_pos hs]
theorem forS_nx (hs : srcOk src all s) (hg : g x env = some e1) (hb : body e1 s = .nx e2 s2) : forL src all g body (x :: xs) env s = forL src all g body xs e2 s2 := by
  rw [forL, if_pos hs, hg]; dsimp only; rw [hb]
theorem forS_rt (hs : srcOk src all s) (hg : g x env = some e1) (hb : body e1 s = .rt a s2) : forL src all g body (x :: xs) env s = .rt a s2 := by
  rw [forL, if_pos hs, hg]; dsimp only; rw [hb]
theorem forS_exc (hs : srcOk src all s) (hg : g x env = some e1) (hb : body e1 s = .exc y e2 s2) : forL src all g body (x :: xs) env s = .exc y e2 s2 := by
  rw [forL, if_pos hs, hg]; dsimp only; rw [hb]
end
/-- a result by which a loop ends -/
def endR : SRes → Prop
  | .rt _ _ => True
  | .exc _ _ _ => True
  | _ => False
/-- a loop that ends at the first bad item -/
theorem loop_any {α : Type} {emb : α → A} {src : Src} {all : List A} {g : MG} {body : MS} {s : Store} {bad : α → Bool} (P : AEnv → Prop) (E : SRes → Prop) (hs : srcOk src all s) (hE : ∀ r, E r → endR r) : ∀ (xs : List α) (env : AEnv), P env →
    (∀ x ∈ xs, ∀ e, P e → ∃ e1, g (emb x) e = some e1 ∧ (bad x = true → E (body e1 s)) ∧ (bad x = false → ∃ e', P e' ∧ body e1 s = .nx e' s)) →
    (xs.any bad = true → E (forL src all g body (xs.map emb) env s)) ∧ (xs.any bad = false → ∃ e', P e' ∧ forL src all g body (xs.map emb) env s = .nx e' s)
  | [], env, hp, _ => ⟨fun h => by simp at h, fun _ => ⟨env, hp, by rw [List.map_nil]; exact forS_nil hs⟩⟩
  | x :: xs, env, hp, h => by
    obtain ⟨e1, h1, h2, h3⟩ := h x (by simp) env hp
    rw [List.any_cons, List.map_cons]
    cases hb : bad x with
    | true =>
      refine ⟨fun _ => ?_, fun h => by simp at h⟩
      have r := h2 hb
      cases eb : body e1 s with
      | rt a s2 => rw [forS_rt hs h1 eb]; rw [eb] at r; exact r
      | exc y e s2 => rw [forS_exc hs h1 eb]; rw [eb] at r; exact r
      | _ => rw [eb] at r; exact (hE _ r).elim
    | false =>
      obtain ⟨e', hp', hb'⟩ := h3 hb
      obtain ⟨i1, i2⟩ := loop_any P E hs hE xs e' hp' (fun y hy => h y (by simp [hy]))
      rw [Bool.false_or, forS_nx hs h1 hb']
      exact ⟨i1, i2⟩
/-! ### comprehensions -/
theorem lcSG {α : Type} {emb f : α → A} {src : Src} {all : List A} {i : Nat} {me : AEnv → Store → Res A} {env0 : AEnv} {st : Store} (hs : srcOk src all st) : ∀ (xs : List α) (acc : List A), acc.length + xs.length ≤ sizeLine → (∀ x ∈ xs, me (env0.set i (some (emb x))) st = .ok (f x) st) →
    lcL src all (gN i) tYesM me env0 (xs.map emb) acc st = .ok (acc ++ xs.map f) st
  | [], acc, _, _ => by rw [List.map_nil, lcL, if_pos hs]; simp
  | x :: xs, acc, hl, h => by
    rw [List.map_cons, lcL, if_pos hs]
    rw [List.length_cons] at hl
    simp only [gN_ap, tYesM_ap, noX, Res.bind_ok, if_true, h x (by simp)]
    rw [if_pos (by omega), lcSG hs xs (acc ++ [f x]) (by simp; omega) fun y hy => h y (by simp [hy])]
    simp
theorem lcG {α : Type} {emb f : α → A} {mi : MI} {i : Nat} {own : List Nat} {ma : AEnv → Store → Res A} {env : AEnv} {st : Store} {src : Src} {xs : List α} (hmi : mi env st = .ok (xs.map emb, src) st) (hs : srcOk src (xs.map emb) st) (hl : xs.length ≤ sizeLine)
    (h : ∀ x ∈ xs, ma ((wipeA env own).set i (some (emb x))) st = .ok (f x) st) : eLc false mi (gN i) own tYesM ma env st = .ok (.lst (xs.map f)) st := by
  rw [eLc_ap, hmi]
  simp only [Res.bind_ok]
  rw [lcSG hs xs [] (by simpa using hl) h]
  simp [newL_f]
/-- with a test -/
theorem lcSF {α : Type} {emb f : α → A} {t : α → Bool} {src : Src} {all : List A} {i : Nat} {mt : AEnv → Store → Res Bool} {me : AEnv → Store → Res A} {env0 : AEnv} {st : Store} (hs : srcOk src all st) : ∀ (xs : List α) (acc : List A), acc.length + xs.length ≤ sizeLine → (∀ x ∈ xs, mt (env0.set i (some (emb x))) st = .ok (t x) st ∧ (t x = true → me (env0.set i (some (emb x))) st = .ok (f x) st)) →
    lcL src all (gN i) mt me env0 (xs.map emb) acc st = .ok (acc ++ (xs.filter t).map f) st
  | [], acc, _, _ => by rw [List.map_nil, lcL, if_pos hs]; simp
  | x :: xs, acc, hl, h => by
    rw [List.map_cons, lcL, if_pos hs]
    rw [List.length_cons] at hl
    obtain ⟨h1, h2⟩ := h x (by simp)
    simp only [gN_ap, h1, noX, Res.bind_ok]
    cases ht : t x with
    | true =>
      simp only [if_true, h2 ht, noX, Res.bind_ok]
      rw [if_pos (by omega), lcSF hs xs (acc ++ [f x]) (by simp; omega) fun y hy => h y (by simp [hy]), List.filter_cons, if_pos ht]
      simp
    | false =>
      rw [if_neg Bool.false_ne_true, lcSF hs xs acc (by omega) fun y hy => h y (by simp [hy]), List.filter_cons, if_neg (by rw [ht]; exact Bool.false_ne_true)]
theorem lcF {α : Type} {emb f : α → A} {t : α → Bool} {mi : MI} {i : Nat} {own : List Nat} {mt : AEnv → Store → Res Bool} {ma : AEnv → Store → Res A} {env : AEnv} {st : Store} {src : Src} {xs : List α} (hmi : mi env st = .ok (xs.map emb, src) st) (hs : srcOk src (xs.map emb) st) (hl : xs.length ≤ sizeLine)
    (h : ∀ x ∈ xs, mt ((wipeA env own).set i (some (emb x))) st = .ok (t x) st ∧ (t x = true → ma ((wipeA env own).set i (some (emb x))) st = .ok (f x) st)) : eLc false mi (gN i) own mt ma env st = .ok (.lst ((xs.filter t).map f)) st := by
  rw [eLc_ap, hmi]
  simp only [Res.bind_ok]
  rw [lcSF hs xs [] (by simpa using hl) h]
  simp [newL_f]
/-! ### tables: rows as they are read -/
abbrev lL (S : List (List Int)) : A := .lst (S.map lI)
/-- rows, each with the numbers that it holds -/
structure Rw (st : Store) where
  v : A
  l : List Int
  ok : seqR v st = some (l.map A.int)
def RwL (st : Store) (wv : A) (R : List (Rw st)) : Prop := seqR wv st = some (R.map Rw.v)
def Rw.of (st : Store) (l : List Int) : Rw st := ⟨lI l, l, rfl⟩
theorem rwL_lL {st : Store} {T : List (List Int)} : RwL st (lL T) (T.map (Rw.of st)) := by
  unfold RwL
  rw [List.map_map]
  rfl
theorem rw_of_l {st : Store} {T : List (List Int)} : (T.map (Rw.of st)).map Rw.l = T := by
  rw [List.map_map]
  have : Rw.l ∘ Rw.of st = id := rfl
  rw [this, List.map_id]
theorem src_of_seq {st : Store} {wv : A} {ys : List A} (h : seqR wv st = some ys) (all : List A) : srcOk (srcOf wv ys) all st := by
  cases wv with
  | cell c =>
    show st[c]? = some (.lst ys)
    simp only [seqR, tupR, lstR, lstH, Option.none_or] at h
    cases e : st[c]? with
    | none => rw [e] at h; cases h
    | some d =>
      rw [e] at h
      cases d with
      | lst xs => simp at h; rw [h]
      | _ => simp at h
  | _ => trivial
theorem len_of_seq {st : Store} {wv : A} {ys : List A} (h : seqR wv st = some ys) : lenA wv st = some (.int ys.length, st) := by
  cases wv <;> first | (simp [seqR, tupR, lstR, lstH] at h; done) | (simp only [lenA, h]; simp; done)
section
variable {st : Store} {wv : A} {R : List (Rw st)}
theorem RwL.len (h : RwL st wv R) : lenA wv st = some (.int (R.length : Nat), st) := by
  rw [len_of_seq h, List.length_map]
theorem RwL.at (h : RwL st wv R) {k : Int} (h0 : 0 ≤ k) (h1 : k < R.length) : ∃ r, R[k.toNat]? = some r ∧ ixOp wv (.int k) st = some (r.v, st) := by
  have hk : k.toNat < R.length := by omega
  refine ⟨R[k.toNat], List.getElem?_eq_getElem hk, ixOp_at h (atI_of h0 ?_)⟩
  rw [List.getElem?_map, List.getElem?_eq_getElem hk]; rfl
theorem Rw.len (r : Rw st) : lenA r.v st = some (.int (r.l.length : Nat), st) := by
  rw [len_of_seq r.ok, List.length_map]
theorem Rw.at (r : Rw st) {k : Int} (h0 : 0 ≤ k) (h1 : k < r.l.length) : ixOp r.v (.int k) st = some (.int (r.l.getD k.toNat 0), st) := ix_ints r.ok h0 h1
end
/-! ### any, all the rest -/
theorem anyA_bls {st : Store} {bs : List Bool} : anyA (.lst (bs.map A.bl)) st = some (.bl (bs.any id), st) := by
  simp only [anyA, lstR, lstH, Option.some_or]
  rw [blsA_map]; rfl
@[simp] theorem rangeA_i {st : Store} {j : Int} : rangeA (.int j) st = some (.rng 0 j, st) := (rfl)
theorem mRngV_ap {m : AEnv → Store → Res A} {env : AEnv} {st : Store} {n : Nat} (h : m env st = .ok (.rng 0 (n : Int)) st) (hn : n < 1000000) : mRngV m env st = .ok (((List.range n).map fun i => ((i : Nat) : Int)).map A.int, none) st := by
  simp only [mRngV, h, Res.bind_ok]
  rw [if_pos ⟨by omega, by omega, by omega, by omega⟩, rgA_ints]
theorem eRgV_ap {m : AEnv → Store → Res A} {env : AEnv} {st : Store} {n : Nat} (h : m env st = .ok (.rng 0 (n : Int)) st) (hn : n < 1000000) : eRg (some false) (eEnds m) env st = .ok (lI ((List.range n).map fun i => ((i : Nat) : Int))) st := by
  simp only [eRg, eEnds, h, Res.bind_ok]
  show (if _ then _ else _) = _
  rw [if_pos ⟨by omega, by omega, by omega, by omega, by omega⟩, rgA_ints]
  rfl
theorem eRg1_ap {ms : AEnv → Store → Res (List A)} {env : AEnv} {st : Store} {n : Nat} (h : ms env st = .ok [.int (n : Int)] st) (hn : n < 1000000) : eRg (some false) ms env st = .ok (lI ((List.range n).map fun i => ((i : Nat) : Int))) st := by
  simp only [eRg, h, Res.bind_ok]
  show (if _ then _ else _) = _
  rw [if_pos ⟨by omega, by omega, by omega, by omega, by omega⟩, rgA_ints]
  rfl
theorem sortA_ints {st : Store} {l : List Int} (h : l.length < 64) : sortA false (lI l) st = some (lI (srtI l), st) := by
  simp only [sortA, lstR, lstH, Option.some_or]
  rw [intsA_map]
  show (if _ then _ else _) = _
  rw [if_pos h]; rfl
theorem inRng_i {st : Store} {neg : Bool} {i n : Int} : inOp neg (.int i) (.rng 0 n) st = some (.bl (xor neg (decide (0 ≤ i ∧ i < n))), st) := rfl
end SL

set_option Elab.async false
set_option linter.all false
set_option maxRecDepth 100000
set_option maxHeartbeats 4000000
/-! SLzd: words for the plain functions: instances, own lists of own lists. -/
namespace SL
open PySem PySem.Spec L2
open PyProof.Rows hiding St
section
variable {env : AEnv} {st : Store}
theorem insA_obj {c : Str} {ns : List Str} {xs : List A} : insA (.obj c ns xs) st = some (c, ns, xs) := rfl
theorem fldOp_obj {cs : List Str} {c f : Str} {ns : List Str} {xs : List A} {v : A} (hc : c ∈ cs) (h : (ns.zip xs).lookup f = some v) : fldOp cs f (.obj c ns xs) st = some (v, st) := by
  unfold fldOp
  rw [insA_obj]
  dsimp only
  rw [if_pos hc, h]; rfl
theorem listA_seq {mk : Bool} {v : A} {xs : List A} (h : seqR v st = some xs) : listA mk v st = some (newL mk xs st) := by unfold listA; rw [h]; rfl
theorem seqR_app {v : A} {l : List C} {ys : List A} (h : seqR v st = some ys) : seqR v (st ++ l) = some ys := by
  cases v with
  | cell c =>
    simp only [seqR, tupR, lstR, lstH, Option.none_or] at h ⊢
    cases e : st[c]? with
    | none => rw [e] at h; cases h
    | some d =>
      obtain ⟨hl, _⟩ := List.getElem?_eq_some_iff.mp e
      rw [List.getElem?_append_left hl, e]
      rw [e] at h
      exact h
  | _ => exact h
def Rw.app {st : Store} (r : Rw st) (l : List C) : Rw (st ++ l) := ⟨r.v, r.l, seqR_app r.ok⟩
theorem RwL.app {wv : A} {R : List (Rw st)} (h : RwL st wv R) (l : List C) : RwL (st ++ l) wv (R.map fun r => r.app l) := by
  unfold RwL at h ⊢
  rw [seqR_app h, List.map_map]; rfl
theorem rw_app_l {R : List (Rw st)} {l : List C} : (R.map fun r => r.app l).map Rw.l = R.map Rw.l := by rw [List.map_map]; rfl
/-! the place of a number in a list -/
def idxI (v : Int) : List Int → Option Nat
  | [] => none
  | z :: zs => if z = v then some 0 else (idxI v zs).map (· + 1)
theorem idxD_ints {v : Int} : ∀ {l : List Int}, idxD (.int v) (l.map PyData.int) = idxI v l
  | [] => rfl
  | z :: l => by
    rw [List.map_cons]
    unfold idxD idxI
    rw [idxD_ints]
    by_cases h : z = v
    · subst h; simp [PyData.eqv]
    · simp [PyData.eqv, h]
theorem idxI_nodup {v : Int} : ∀ {l : List Int} {k : Nat}, l.Nodup → l[k]? = some v → idxI v l = some k
  | [], k, _, h => by simp at h
  | z :: l, 0, _, h => by simp at h; subst h; simp [idxI]
  | z :: l, k + 1, hn, h => by
    rw [List.nodup_cons] at hn
    rw [List.getElem?_cons_succ] at h
    have hz : z ≠ v := fun e => hn.1 (by rw [e]; exact List.mem_of_getElem? h)
    unfold idxI
    rw [if_neg hz, idxI_nodup hn.2 h]; rfl
theorem indexM_ints {v : Int} {l : List Int} {k : Nat} (h : idxI v l = some k) : indexM (lI l) [.int v] st = some (.int (k : Nat), st) := by
  have e1 : toD st 50 (lI l) = some (.list (l.map PyData.int)) := by
    show (optAll (toD st 49) (l.map A.int)).map PyData.list = _
    rw [toD_ints]; rfl
  have e2 : toD st 50 (.int v) = some (.int v) := rfl
  unfold indexM
  dsimp only
  rw [e1, e2]
  dsimp only
  rw [if_pos ⟨shaped_lI l, by first | rfl | simp [SeqAt.shaped, PyData.canLay0, PyData.depth]⟩, idxD_ints, h]; rfl
/-! own lists of own lists -/
abbrev cI (l : List Int) : C := .lst (l.map A.int)
def cls (b n : Nat) : List A := (List.range n).map fun i => .cell (b + i)
theorem cls_len {b n : Nat} : (cls b n).length = n := by simp [cls]
theorem cls_get {b n k : Nat} (h : k < n) : (cls b n)[k]? = some (.cell (b + k)) := by
  unfold cls; rw [List.getElem?_map, List.getElem?_range h]; rfl
/-- the store of a table: its rows, then the list of them -/
def tabS (S : Store) (T : List (List Int)) (X : List C) : Store := S ++ T.map cI ++ .lst (cls S.length T.length) :: X
theorem tabS_len {S : Store} {T : List (List Int)} {X : List C} : (tabS S T X).length = S.length + T.length + 1 + X.length := by simp [tabS]; omega
theorem tabS_top {S : Store} {T : List (List Int)} {X : List C} : (tabS S T X)[S.length + T.length]? = some (.lst (cls S.length T.length)) := by
  unfold tabS
  rw [List.getElem?_append_right (by simp), show S.length + T.length - (S ++ T.map cI).length = 0 by simp]; rfl
theorem tabS_row {S : Store} {T : List (List Int)} {X : List C} {k : Nat} {r : List Int} (h : T[k]? = some r) : (tabS S T X)[S.length + k]? = some (cI r) := by
  obtain ⟨hk, hr⟩ := List.getElem?_eq_some_iff.mp h
  unfold tabS
  rw [List.getElem?_append_left (by simp; omega), List.getElem?_append_right (by omega), show S.length + k - S.length = k by omega, List.getElem?_map, h]; rfl
theorem tabS_low {S : Store} {T : List (List Int)} {X : List C} {c : Nat} (h : c < S.length) : (tabS S T X)[c]? = S[c]? := by
  unfold tabS
  rw [List.getElem?_append_left (by simp; omega), List.getElem?_append_left h]
theorem tabS_set {S : Store} {T : List (List Int)} {X : List C} {k : Nat} {r : List Int} (h : k < T.length) : (tabS S T X).set (S.length + k) (cI r) = tabS S (T.set k r) X := by
  unfold tabS
  rw [List.set_append_left _ _ (by simp; omega), List.set_append_right _ _ (by omega), show S.length + k - S.length = k by omega, List.length_set, List.map_set]
theorem tabS_setL {S : Store} {T : List (List Int)} {X : List C} {c : Nat} {d : C} (h : c < S.length) : (tabS S T X).set c d = tabS (S.set c d) T X := by
  unfold tabS
  rw [List.set_append_left _ _ (by simp; omega), List.set_append_left _ _ h, List.length_set]
/-- rows copied to own lists -/
theorem lcRows {i : Nat} {me : AEnv → Store → Res A} {env0 : AEnv} {T0 : List A} : ∀ (T : List (List Int)) (acc : List A) (S : Store), acc.length + T.length < sizeLine → (∀ r ∈ T, ∀ s, me (env0.set i (some (lI r))) s = .ok (.cell s.length) (s ++ [cI r])) →
    lcL none T0 (gN i) tYesM me env0 (T.map lI) acc S = .ok (acc ++ cls S.length T.length) (S ++ T.map cI)
  | [], acc, S, _, _ => by rw [List.map_nil, lcL, if_pos (show srcOk none T0 S from trivial)]; simp [cls]
  | r :: T, acc, S, hl, h => by
    rw [List.map_cons, lcL, if_pos (show srcOk none T0 S from trivial)]
    rw [List.length_cons] at hl
    simp only [gN_ap, tYesM_ap, noX, Res.bind_ok, if_true, h r (by simp)]
    rw [if_pos (by omega), lcRows T _ _ (by simp; omega) fun y hy => h y (by simp [hy])]
    congr 1
    · rw [List.append_assoc]
      congr 1
      simp only [cls, List.length_append, List.length_cons, List.length_nil, List.range_succ_eq_map, List.map_cons, List.map_map]
      simp only [Function.comp_def]
      rw [List.singleton_append]
      congr 1
      apply List.map_congr_left
      intro x _
      congr 1
      omega
    · simp
theorem lcRowsT {mi : MI} {i : Nat} {own : List Nat} {ma : AEnv → Store → Res A} {env : AEnv} {S : Store} {T : List (List Int)} (hmi : mi env S = .ok (T.map lI, none) S) (hl : T.length < 1000000)
    (h : ∀ r ∈ T, ∀ s, ma ((wipeA env own).set i (some (lI r))) s = .ok (.cell s.length) (s ++ [cI r])) : eLc true mi (gN i) own tYesM ma env S = .ok (.cell (S.length + T.length)) (tabS S T []) := by
  have hz := sizeLine_eq
  rw [eLc_ap, hmi]
  simp only [Res.bind_ok]
  rw [lcRows T [] S (by simp; omega) h]
  simp only [Res.bind_ok, newL_t, List.nil_append]
  simp [tabS]
theorem sl_takeC {c : Nat} {xs : List A} {k : Int} (h : st[c]? = some (.lst xs)) (h0 : 0 ≤ k) (h1 : k ≤ xs.length) : slOp false (.cell c) none (some k) st = some (.lst (xs.take k.toNat), st) := by
  have := sl_take (st := st) h0 h1
  have e : slOp false (.lst xs) none (some k) st = (lstR (.lst xs) st).map fun ys => newL false (cutA ys none (some k)) st := rfl
  rw [e] at this
  show (lstR (.cell c) st).map (fun ys => newL false (cutA ys none (some k)) st) = _
  rw [← this]
  simp [lstR, lstH, h]
theorem sl_dropC {c : Nat} {xs : List A} {k : Int} (h : st[c]? = some (.lst xs)) (h0 : 0 ≤ k) (h1 : k ≤ xs.length) : slOp false (.cell c) (some k) none st = some (.lst (xs.drop k.toNat), st) := by
  have := sl_drop (st := st) h0 h1
  have e : slOp false (.lst xs) (some k) none st = (lstR (.lst xs) st).map fun ys => newL false (cutA ys (some k) none) st := rfl
  rw [e] at this
  show (lstR (.cell c) st).map (fun ys => newL false (cutA ys (some k) none) st) = _
  rw [← this]
  simp [lstR, lstH, h]
/-- own lists as rows -/
def rwsT {s : Store} : (T : List (List Int)) → (b : Nat) → (∀ (k : Nat) (r : List Int), T[k]? = some r → s[b + k]? = some (cI r)) → List (Rw s)
  | [], _, _ => []
  | r :: T, b, h => ⟨.cell b, r, seqR_cell (h 0 r rfl)⟩ :: rwsT T (b + 1) (fun k r' hk => by have := h (k + 1) r' (by simpa using hk); rwa [show b + (k + 1) = b + 1 + k by omega] at this)
theorem rwsT_l {s : Store} : ∀ (T : List (List Int)) (b : Nat) (h : ∀ (k : Nat) (r : List Int), T[k]? = some r → s[b + k]? = some (cI r)), (rwsT T b h).map Rw.l = T
  | [], _, _ => rfl
  | r :: T, b, h => by rw [rwsT, List.map_cons, rwsT_l T]
theorem rwsT_v {s : Store} : ∀ (T : List (List Int)) (b : Nat) (h : ∀ (k : Nat) (r : List Int), T[k]? = some r → s[b + k]? = some (cI r)), (rwsT T b h).map Rw.v = cls b T.length
  | [], _, _ => rfl
  | r :: T, b, h => by
    rw [rwsT, List.map_cons, rwsT_v T]
    unfold cls
    rw [List.length_cons, List.range_succ_eq_map, List.map_cons, List.map_map]
    congr 1
    apply List.map_congr_left
    intro x _
    simp only [Function.comp]
    congr 1
    omega
/-! what goes out is frozen -/
theorem bel_cell_no {n c : Nat} (h : n ≤ c) : A.bel n (.cell c) = false := by simp [A.bel]; omega
theorem frz_below {n k : Nat} {y : A} {s : Store} (h : y.bel n = true) : frzA n k y s = some (y, s) := by cases k <;> (unfold frzA; rw [if_pos h])
theorem frzL_below {n k : Nat} : ∀ {ys : List A} {s : Store}, belowL n ys = true → frzL (frzA n k) ys s = some (ys, s)
  | [], s, _ => rfl
  | y :: ys, s, hb => by
    rw [belowL, Bool.and_eq_true] at hb
    unfold frzL
    rw [frz_below hb.1]
    dsimp only
    rw [frzL_below hb.2]
theorem frz_cI {n k c : Nat} {r : List Int} {s : Store} (hn : n ≤ c) (h : s[c]? = some (cI r)) : frzA n (k + 1) (.cell c) s = some (lI r, s.set c .dead) := by
  unfold frzA
  rw [if_neg (by rw [bel_cell_no hn]; decide)]
  dsimp only
  rw [h]
  dsimp only
  rw [frzL_below (bel_ints _ _)]; rfl
/-- own lists, each once -/
theorem frz_rows {n k : Nat} : ∀ (l : List (Nat × List Int)) (s : Store), (∀ p ∈ l, n ≤ p.1 ∧ s[p.1]? = some (cI p.2)) → (l.map (·.1)).Nodup →
    ∃ s', frzL (frzA n (k + 1)) (l.map fun p => .cell p.1) s = some (l.map fun p => lI p.2, s') ∧ (∀ i, i < n → s'[i]? = s[i]?) ∧ s'.length = s.length
  | [], s, _, _ => ⟨s, rfl, fun _ _ => rfl, rfl⟩
  | p :: l, s, h, hn => by
    obtain ⟨h1, h2⟩ := h p (by simp)
    rw [List.map_cons, List.nodup_cons] at hn
    obtain ⟨s', a, b, c⟩ := frz_rows l (s.set p.1 .dead) (fun q hq => by
      obtain ⟨q1, q2⟩ := h q (by simp [hq])
      refine ⟨q1, ?_⟩
      rw [List.getElem?_set_ne (fun e => hn.1 (by rw [e]; exact List.mem_map.mpr ⟨q, hq, rfl⟩)), q2]) hn.2
    refine ⟨s', ?_, fun i hi => ?_, by rw [c, List.length_set]⟩
    · rw [List.map_cons, List.map_cons]
      unfold frzL
      rw [frz_cI h1 h2]
      dsimp only
      rw [a]
    · rw [b i hi, List.getElem?_set_ne (by omega)]
/-- a new list of own lists goes out as data -/
theorem fin_rows {st s : Store} {n : Nat} (l : List (Nat × List Int)) (hn : st.length ≤ n) (h : s[n]? = some (.lst (l.map fun p => .cell p.1))) (hl : ∀ p ∈ l, st.length ≤ p.1 ∧ p.1 ≠ n ∧ s[p.1]? = some (cI p.2)) (hd : (l.map (·.1)).Nodup) (hok : okS st.length st s) :
    finA false st.length st (.cell n) s = .ok (.lst (l.map fun p => lI p.2)) (s.take st.length) := by
  obtain ⟨s', a, b, c⟩ := frz_rows (n := st.length) (k := 6) l (s.set n .dead) (fun p hp => ⟨(hl p hp).1, by rw [List.getElem?_set_ne (fun e => (hl p hp).2.1 e.symm), (hl p hp).2.2]⟩) hd
  have e : frzA st.length 8 (.cell n) s = some (.lst (l.map fun p => lI p.2), s') := by
    unfold frzA
    rw [if_neg (by rw [bel_cell_no hn]; decide)]
    dsimp only
    rw [h]
    dsimp only
    rw [a]; rfl
  have hlow : ∀ i, i < st.length → s'[i]? = s[i]? := fun i hi => by rw [b i hi, List.getElem?_set_ne (by omega)]
  unfold finA
  dsimp only
  rw [e]
  dsimp only
  have hbel : (A.lst (l.map fun p => lI p.2)).bel st.length = true := bel_lst fun x hx => by
    obtain ⟨p, _, rfl⟩ := List.mem_map.mp hx
    exact bel_lI
  rw [if_pos ⟨hbel, fun i hi => by rw [hlow i hi]; exact hok i hi⟩]
  congr 1
  apply List.ext_getElem?
  intro i
  by_cases hi : i < st.length
  · rw [List.getElem?_take_of_lt hi, List.getElem?_take_of_lt hi, hlow i hi]
  · rw [List.getElem?_eq_none (by rw [List.length_take]; omega), List.getElem?_eq_none (by rw [List.length_take]; omega)]
theorem fin_tab {st s : Store} {n b : Nat} {T : List (List Int)} (hn : st.length ≤ n) (hb0 : st.length ≤ b) (hb : n < b ∨ b + T.length ≤ n) (h : s[n]? = some (.lst (cls b T.length))) (hl : ∀ k r, T[k]? = some r → s[b + k]? = some (cI r)) (hok : okS st.length st s) :
    finA false st.length st (.cell n) s = .ok (lL T) (s.take st.length) := by
  have hq : ∀ p ∈ (List.range T.length).map fun i => (b + i, T.getD i []), st.length ≤ p.1 ∧ p.1 ≠ n ∧ s[p.1]? = some (cI p.2) := fun p hp => by
    obtain ⟨i, hi, rfl⟩ := List.mem_map.mp hp
    have hi := List.mem_range.mp hi
    refine ⟨by dsimp only; omega, by dsimp only; omega, hl i _ ?_⟩
    rw [List.getD_eq_getElem?_getD, List.getElem?_eq_getElem hi]; rfl
  have e1 : ((List.range T.length).map fun i => (b + i, T.getD i [])).map (fun p => A.cell p.1) = cls b T.length := by rw [List.map_map]; rfl
  have e2 : ((List.range T.length).map fun i => (b + i, T.getD i [])).map (fun p => lI p.2) = T.map lI := by
    rw [List.map_map]
    apply List.ext_getElem?
    intro i
    by_cases hi : i < T.length
    · rw [List.getElem?_map, List.getElem?_range hi, List.getElem?_map, List.getElem?_eq_getElem hi]
      simp [List.getD_eq_getElem?_getD, List.getElem?_eq_getElem hi]
    · rw [List.getElem?_eq_none (by simp; omega), List.getElem?_eq_none (by simp; omega)]
  have := fin_rows _ hn (by rw [e1]; exact h) hq (by
    rw [List.map_map]
    unfold List.Nodup
    rw [List.pairwise_map]
    exact List.nodup_range.imp fun h e => h (by dsimp [Function.comp] at e; omega)) hok
  rw [e2] at this
  exact this
/-- a list of own lists that is not itself a cell -/
theorem fin_rowsL {st s : Store} (l : List (Nat × List Int)) (hl : ∀ p ∈ l, st.length ≤ p.1 ∧ s[p.1]? = some (cI p.2)) (hd : (l.map (·.1)).Nodup) (hok : okS st.length st s) (hne : l ≠ []) :
    finA false st.length st (.lst (l.map fun p => .cell p.1)) s = .ok (.lst (l.map fun p => lI p.2)) (s.take st.length) := by
  obtain ⟨s', a, b, c⟩ := frz_rows (n := st.length) (k := 6) l s (fun p hp => ⟨(hl p hp).1, (hl p hp).2⟩) hd
  have e : frzA st.length 8 (.lst (l.map fun p => .cell p.1)) s = some (.lst (l.map fun p => lI p.2), s') := by
    unfold frzA
    rw [if_neg (by
      obtain ⟨p, l', rfl⟩ := List.exists_cons_of_ne_nil hne
      have := (hl p (by simp)).1
      simp [A.bel, belowL]
      omega)]
    dsimp only
    rw [a]; rfl
  unfold finA
  dsimp only
  rw [e]
  dsimp only
  have hbel : (A.lst (l.map fun p => lI p.2)).bel st.length = true := bel_lst fun x hx => by
    obtain ⟨p, _, rfl⟩ := List.mem_map.mp hx
    exact bel_lI
  rw [if_pos ⟨hbel, fun i hi => by rw [b i hi]; exact hok i hi⟩]
  congr 1
  apply List.ext_getElem?
  intro i
  by_cases hi : i < st.length
  · rw [List.getElem?_take_of_lt hi, List.getElem?_take_of_lt hi, b i hi]
  · rw [List.getElem?_eq_none (by rw [List.length_take]; omega), List.getElem?_eq_none (by rw [List.length_take]; omega)]
end
end SL

set_option Elab.async false
set_option linter.all false
set_option maxRecDepth 100000
set_option maxHeartbeats 4000000
/-! printed by gen.py from the linked text: the defs' plain functions, and that each def keeps to its own -/
namespace Gk53
open PySem PySem.Spec L2 SL
open PyProof.Rows hiding St
def top (i : Nat) : Stmt := PySem.Challenge.pw_knotwork_k53_quandle_tables.main.body.getD i (.Pass ⟨0, 0, 0, 0⟩)

abbrev s__law_deck : Stmt := top 12
abbrev s__law_take : Stmt := top 13
abbrev s__law_members : Stmt := top 19
abbrev s__law_conjugate : Stmt := top 17
abbrev s__law_conjugation : Stmt := top 18
abbrev s__law_affine : Stmt := top 16
abbrev s__law_table : Stmt := top 20
abbrev s__law_bent : Stmt := top 21
abbrev s_check_table : Stmt := top 5
abbrev s_Quandle___init__ : Stmt := meth (top 6) 0
abbrev s_affine : Stmt := top 8
abbrev s_dihedral : Stmt := top 7
abbrev s_conjugate : Stmt := top 9
abbrev s_conjugation : Stmt := top 10
abbrev s__law_why : Stmt := top 22
abbrev s__law_due : Stmt := top 15
abbrev s__law_plain : Stmt := top 14
abbrev s_Quandle_acted : Stmt := meth (top 6) 1
abbrev s_Quandle_undone : Stmt := meth (top 6) 2
abbrev s__law_is_quandle : Stmt := top 23
abbrev s__law_right : Stmt := top 24
abbrev s_law : Stmt := top 25
abbrev s_InvalidMatrix : Stmt := top 2
noncomputable def L1__law_deck : MS :=
  (sSeq (sEx (eM "list" appendM (eVar 3) (aCons (eBin modOp (eCB (one1 intA) (aCons (eVar 7) aNil)) (eC (.int 1000003))) aNil)))
  (sAsg (gN 7) (eBin fdivOp (eVar 7) (eC (.int 1000003)))))
noncomputable def L2__law_deck : MS :=
  (sSeq (sAsg (gN 4) (eBin modOp (eCB (one1 intA) (aCons (eBin (addOp false) (eBin (addOp false) (eBin (mulOp false) (eVar 4) (eC (.int 69621))) (eVar 8)) (eC (.int 1))) aNil)) (eC (.int 2147483629))))
  (sEx (eM "list" appendM (eVar 3) (aCons (eBin modOp (eCB (one1 intA) (aCons (eBin fdivOp (eVar 4) (eC (.int 5))) aNil)) (eC (.int 1000003))) aNil))))
noncomputable def L3__law_deck : MS :=
  (sSeq (sAsg (gN 6) (eC (.int 0)))
  (sSeq (sIf (tOf (eBin ltOp (eVar 5) (eCB (one1 lenA) (aCons (eVar 0) aNil)))) (sAsg (gN 6) (eBin ixOp (eVar 0) (eVar 5))) sNil)
  (sSeq (sAsg (gN 7) (eCB (one1 absA) (aCons (eVar 6) aNil)))
  (sIf (tOf (eBin geOp (eVar 7) (eBin powOp (eC (.int 10)) (eC (.int 30))))) (sFor (mRng1 (aCons (eVar 2) aNil)) (gN 8) L1__law_deck) (sSeq (sAsg (gN 4) (eBin modOp (eCB (one1 intA) (aCons (eBin (addOp false) (eBin (addOp false) (eBin (addOp false) (eBin (mulOp false) (eVar 4) (eC (.int 48271))) (eBin (mulOp false) (eC (.int 2)) (eVar 7))) (eCB (one1 intA) (aCons (eBin ltOp (eVar 6) (eC (.int 0))) aNil))) (eVar 5)) aNil)) (eC (.int 2147483647))))
  (sFor (mRng1 (aCons (eVar 2) aNil)) (gN 8) L2__law_deck))))))
noncomputable def B__law_deck : MS :=
  (sSeq (sAsg (gN 3) (eLst true aNil))
  (sSeq (sAsg (gN 4) (eBin (addOp false) (eC (.int 7)) (eCB (one1 lenA) (aCons (eVar 0) aNil))))
  (sSeq (sFor (mRng1 (aCons (eVar 1) aNil)) (gN 5) L3__law_deck)
  (sSeq (sEx (eM "list" reverseM (eVar 3) aNil))
  (sRet (eVar 3))))))
noncomputable def M__law_deck : List A → Store → Res A := fnM true 3 9 B__law_deck
noncomputable def B__law_take : MS :=
  (sSeq (sIf (tOf (eBin eqOp (eCB (one1 lenA) (aCons (eVar 0) aNil)) (eC (.int 0)))) (sRet (eC (.int 0))) sNil)
  (sRet (eBin modOp (eCB (one1 intA) (aCons (eM "list" popM (eVar 0) aNil) aNil)) (eVar 1))))
noncomputable def M__law_take : List A → Store → Res A := fnM false 2 2 B__law_take
noncomputable def B__law_members : MS :=
  (sSeq (sAsg (gN 1) (eLst false (aCons (eTup (aCons (eC (.int 0)) (aCons (eC (.int 1)) (aCons (eC (.int 2)) aNil)))) (aCons (eTup (aCons (eC (.int 0)) (aCons (eC (.int 2)) (aCons (eC (.int 1)) aNil)))) (aCons (eTup (aCons (eC (.int 1)) (aCons (eC (.int 0)) (aCons (eC (.int 2)) aNil)))) (aCons (eTup (aCons (eC (.int 1)) (aCons (eC (.int 2)) (aCons (eC (.int 0)) aNil)))) (aCons (eTup (aCons (eC (.int 2)) (aCons (eC (.int 0)) (aCons (eC (.int 1)) aNil)))) (aCons (eTup (aCons (eC (.int 2)) (aCons (eC (.int 1)) (aCons (eC (.int 0)) aNil)))) aNil))))))))
  (sSeq (sAsg (gN 2) (eLst false (aCons (eTup (aCons (eC (.int 1)) (aCons (eC (.int 0)) (aCons (eC (.int 2)) (aCons (eC (.int 3)) aNil))))) (aCons (eTup (aCons (eC (.int 2)) (aCons (eC (.int 1)) (aCons (eC (.int 0)) (aCons (eC (.int 3)) aNil))))) (aCons (eTup (aCons (eC (.int 3)) (aCons (eC (.int 1)) (aCons (eC (.int 2)) (aCons (eC (.int 0)) aNil))))) (aCons (eTup (aCons (eC (.int 0)) (aCons (eC (.int 2)) (aCons (eC (.int 1)) (aCons (eC (.int 3)) aNil))))) (aCons (eTup (aCons (eC (.int 0)) (aCons (eC (.int 3)) (aCons (eC (.int 2)) (aCons (eC (.int 1)) aNil))))) (aCons (eTup (aCons (eC (.int 0)) (aCons (eC (.int 1)) (aCons (eC (.int 3)) (aCons (eC (.int 2)) aNil))))) aNil))))))))
  (sSeq (sAsg (gN 3) (eCall M__law_take (aCons (eVar 0) (aCons (eC (.int 7)) aNil))))
  (sSeq (sAsg (gN 4) (eCall M__law_take (aCons (eVar 0) (aCons (eC (.int 6)) aNil))))
  (sSeq (sIf (tOf (eBin eqOp (eVar 3) (eC (.int 0)))) (sRet (eBin (addOp false) (eSl false (eVar 1) (oSome (eVar 4)) oNone) (eSl false (eVar 1) oNone (oSome (eVar 4))))) sNil)
  (sSeq (sIf (tOf (eBin eqOp (eVar 3) (eC (.int 1)))) (sRet (eBin (addOp false) (eSl false (eVar 2) (oSome (eVar 4)) oNone) (eSl false (eVar 2) oNone (oSome (eVar 4))))) sNil)
  (sSeq (sIf (tOf (eBin eqOp (eVar 3) (eC (.int 2)))) (sRet (eLst false (aCons (eTup (aCons (eC (.int 1)) (aCons (eC (.int 2)) (aCons (eC (.int 0)) (aCons (eC (.int 3)) aNil))))) (aCons (eTup (aCons (eC (.int 3)) (aCons (eC (.int 0)) (aCons (eC (.int 2)) (aCons (eC (.int 1)) aNil))))) (aCons (eTup (aCons (eC (.int 2)) (aCons (eC (.int 1)) (aCons (eC (.int 3)) (aCons (eC (.int 0)) aNil))))) (aCons (eTup (aCons (eC (.int 0)) (aCons (eC (.int 3)) (aCons (eC (.int 1)) (aCons (eC (.int 2)) aNil))))) aNil)))))) sNil)
  (sSeq (sIf (tOf (eBin eqOp (eVar 3) (eC (.int 3)))) (sRet (eSl false (eVar 1) oNone (oSome (eVar 4)))) sNil)
  (sSeq (sIf (tOf (eBin eqOp (eVar 3) (eC (.int 4)))) (sRet (eSl false (eVar 2) oNone (oSome (eVar 4)))) sNil)
  (sSeq (sIf (tOf (eBin eqOp (eVar 3) (eC (.int 5)))) (sRet (eLst false (aCons (eTup (aCons (eC (.int 0)) (aCons (eC (.int 1)) (aCons (eC (.int 2)) (aCons (eC (.int 3)) aNil))))) (aCons (eTup (aCons (eC (.int 1)) (aCons (eC (.int 0)) (aCons (eC (.int 3)) (aCons (eC (.int 2)) aNil))))) (aCons (eTup (aCons (eC (.int 2)) (aCons (eC (.int 3)) (aCons (eC (.int 0)) (aCons (eC (.int 1)) aNil))))) (aCons (eTup (aCons (eC (.int 3)) (aCons (eC (.int 2)) (aCons (eC (.int 1)) (aCons (eC (.int 0)) aNil))))) aNil)))))) sNil)
  (sRet (eLst false (aCons (eTup (aCons (eC (.int 1)) (aCons (eC (.int 2)) (aCons (eC (.int 3)) (aCons (eC (.int 0)) aNil))))) (aCons (eTup (aCons (eC (.int 3)) (aCons (eC (.int 0)) (aCons (eC (.int 1)) (aCons (eC (.int 2)) aNil))))) aNil))))))))))))))
noncomputable def M__law_members : List A → Store → Res A := fnM false 1 5 B__law_members
noncomputable def L1__law_conjugate : MS :=
  (sSub setL (eBin ixOp (eVar 1) (eBin ixOp (eVar 0) (eVar 3))) (eVar 2) (eBin ixOp (eVar 1) (eVar 3)))
noncomputable def B__law_conjugate : MS :=
  (sSeq (sAsg (gN 2) (eBin (mulOp true) (eLst false (aCons (eC (.int 0)) aNil)) (eCB (one1 lenA) (aCons (eVar 0) aNil))))
  (sSeq (sFor (mRng1 (aCons (eCB (one1 lenA) (aCons (eVar 0) aNil)) aNil)) (gN 3) L1__law_conjugate)
  (sRet (eCB (one1 tupleA) (aCons (eVar 2) aNil)))))
noncomputable def M__law_conjugate : List A → Store → Res A := fnM false 2 4 B__law_conjugate
noncomputable def L1__law_conjugation : MS :=
  (sSeq (sAsg (gN 5) (eCall M__law_conjugate (aCons (eVar 2) (aCons (eVar 4) aNil))))
  (sEx (eM "list" appendM (eVar 3) (aCons (eIf (tOf (eBin (inOp false) (eVar 5) (eVar 0))) (eM "list" indexM (eVar 0) (aCons (eVar 5) aNil)) (eUn negOp (eC (.int 1)))) aNil))))
noncomputable def L2__law_conjugation : MS :=
  (sSeq (sAsg (gN 3) (eLst true aNil))
  (sSeq (sFor (mSeq (eVar 0)) (gN 4) L1__law_conjugation)
  (sEx (eM "list" appendM (eVar 1) (aCons (eVar 3) aNil)))))
noncomputable def B__law_conjugation : MS :=
  (sSeq (sAsg (gN 1) (eLst true aNil))
  (sSeq (sFor (mSeq (eVar 0)) (gN 2) L2__law_conjugation)
  (sRet (eVar 1))))
noncomputable def M__law_conjugation : List A → Store → Res A := fnM false 1 6 B__law_conjugation
noncomputable def e1__law_affine : AEnv → Store → Res A :=
  (eBin modOp (eCB (one1 intA) (aCons (eBin subOp (eBin (addOp false) (eBin (mulOp false) (eVar 1) (eVar 2)) (eVar 3)) (eBin (mulOp false) (eVar 1) (eVar 3))) aNil)) (eVar 0))
noncomputable def e2__law_affine : AEnv → Store → Res A :=
  (eLc false (mRng1 (aCons (eVar 0) aNil)) (gN 3) [3] tYesM e1__law_affine)
noncomputable def B__law_affine : MS :=
  (sRet (eLc false (mRng1 (aCons (eVar 0) aNil)) (gN 2) [2] tYesM e2__law_affine))
noncomputable def M__law_affine : List A → Store → Res A := fnM false 2 4 B__law_affine
noncomputable def e1__law_table : AEnv → Store → Res A :=
  (eVar 4)
noncomputable def e2__law_table : AEnv → Store → Res A :=
  (eLc false (mRng1 (aCons (eVar 1) aNil)) (gN 5) [5] tYesM e1__law_table)
noncomputable def e3__law_table : AEnv → Store → Res A :=
  (eBin modOp (eCB (one1 intA) (aCons (eBin (addOp false) (eVar 4) (eC (.int 1))) aNil)) (eVar 1))
noncomputable def e4__law_table : AEnv → Store → Res A :=
  (eLc false (mRng1 (aCons (eVar 1) aNil)) (gN 5) [5] tYesM e3__law_table)
noncomputable def e5__law_table : AEnv → Store → Res A :=
  (eVar 5)
noncomputable def e6__law_table : AEnv → Store → Res A :=
  (eLc false (mRng1 (aCons (eVar 1) aNil)) (gN 5) [5] tYesM e5__law_table)
noncomputable def B__law_table : MS :=
  (sSeq (sAsg (gN 1) (eBin (addOp false) (eC (.int 1)) (eCall M__law_take (aCons (eVar 0) (aCons (eC (.int 9)) aNil)))))
  (sSeq (sAsg (gN 2) (eCall M__law_take (aCons (eVar 0) (aCons (eC (.int 7)) aNil))))
  (sSeq (sIf (tOf (eBin eqOp (eVar 2) (eC (.int 0)))) (sRet (eLc false (mRng1 (aCons (eVar 1) aNil)) (gN 4) [4] tYesM e2__law_table)) sNil)
  (sSeq (sIf (tOf (eBin eqOp (eVar 2) (eC (.int 1)))) (sRet (eLc false (mRng1 (aCons (eVar 1) aNil)) (gN 4) [4] tYesM e4__law_table)) sNil)
  (sSeq (sIf (tOf (eBin eqOp (eVar 2) (eC (.int 2)))) (sRet (eLc false (mRng1 (aCons (eVar 1) aNil)) (gN 4) [4] tYesM e6__law_table)) sNil)
  (sSeq (sIf (tOf (eBin eqOp (eVar 2) (eC (.int 3)))) (sSeq (sAsg (gN 3) (eCall M__law_members (aCons (eVar 0) aNil)))
  (sRet (eIf (tOf (eBin gtOp (eCB (one1 lenA) (aCons (eVar 3) aNil)) (eC (.int 0)))) (eCall M__law_conjugation (aCons (eVar 3) aNil)) (eLst false (aCons (eLst false (aCons (eC (.int 0)) aNil)) aNil))))) sNil)
  (sRet (eCall M__law_affine (aCons (eVar 1) (aCons (eBin ixOp (eLst false (aCons (eUn negOp (eC (.int 1))) (aCons (eC (.int 2)) (aCons (eC (.int 3)) (aCons (eUn negOp (eC (.int 1))) (aCons (eC (.int 1)) aNil)))))) (eCall M__law_take (aCons (eVar 0) (aCons (eC (.int 5)) aNil)))) aNil))))))))))
noncomputable def M__law_table : List A → Store → Res A := fnM false 1 6 B__law_table
noncomputable def e1__law_bent : AEnv → Store → Res A :=
  (eCB (one1 (listA true)) (aCons (eVar 9) aNil))
noncomputable def L2__law_bent : MS :=
  (sSub setL (eVar 7) (eBin ixOp (eVar 2) (eVar 7)) (eVar 6))
noncomputable def B__law_bent : MS :=
  (sSeq (sAsg (gN 2) (eLc true (mSeq (eVar 1)) (gN 9) [9] tYesM e1__law_bent))
  (sSeq (sAsg (gN 3) (eCB (one1 lenA) (aCons (eVar 2) aNil)))
  (sSeq (sAsg (gN 4) (eCall M__law_take (aCons (eVar 0) (aCons (eC (.int 8)) aNil))))
  (sSeq (sAsg (gN 5) (eCall M__law_take (aCons (eVar 0) (aCons (eVar 3) aNil))))
  (sSeq (sAsg (gN 6) (eCall M__law_take (aCons (eVar 0) (aCons (eVar 3) aNil))))
  (sSeq (sIf (tOf (eBin eqOp (eVar 4) (eC (.int 0)))) (sRet (eBin (addOp false) (eSl false (eVar 2) oNone (oSome (eVar 5))) (eSl false (eVar 2) (oSome (eBin (addOp false) (eVar 5) (eC (.int 1)))) oNone))) sNil)
  (sSeq (sIf (tOf (eBin eqOp (eVar 4) (eC (.int 1)))) (sEx (eM "list" appendM (eBin ixOp (eVar 2) (eVar 5)) (aCons (eCall M__law_take (aCons (eVar 0) (aCons (eVar 3) aNil))) aNil))) sNil)
  (sSeq (sIf (tOf (eBin eqOp (eVar 4) (eC (.int 2)))) (sEx (eM "list" popM (eBin ixOp (eVar 2) (eVar 5)) aNil)) sNil)
  (sSeq (sIf (tOf (eBin eqOp (eVar 4) (eC (.int 3)))) (sSub setL (eBin ixOp (eLst false (aCons (eVar 3) (aCons (eUn negOp (eC (.int 1))) (aCons (eBin (addOp false) (eVar 3) (eC (.int 3))) aNil)))) (eCall M__law_take (aCons (eVar 0) (aCons (eC (.int 3)) aNil)))) (eBin ixOp (eVar 2) (eVar 5)) (eVar 6)) sNil)
  (sSeq (sIf (tOf (eBin eqOp (eVar 4) (eC (.int 4)))) (sFor (mRng1 (aCons (eVar 3) aNil)) (gN 7) L2__law_bent) sNil)
  (sSeq (sIf (tOf (eBin eqOp (eVar 4) (eC (.int 5)))) (sSub setL (eCall M__law_take (aCons (eVar 0) (aCons (eVar 3) aNil))) (eBin ixOp (eVar 2) (eVar 5)) (eVar 6)) sNil)
  (sSeq (sIf (tOf (eBin eqOp (eVar 4) (eC (.int 6)))) (sSeq (sAsg (gN 8) (eCall M__law_take (aCons (eVar 0) (aCons (eVar 3) aNil))))
  (sSub2 setL (aCons (eBin ixOp (eBin ixOp (eVar 2) (eVar 8)) (eVar 6)) (aCons (eBin ixOp (eBin ixOp (eVar 2) (eVar 5)) (eVar 6)) aNil)) (eBin ixOp (eVar 2) (eVar 5)) (eVar 6) (eBin ixOp (eVar 2) (eVar 8)) (eVar 6))) sNil)
  (sRet (eVar 2))))))))))))))
noncomputable def M__law_bent : List A → Store → Res A := fnM false 2 10 B__law_bent
noncomputable def e1_check_table : AEnv → Store → Res A :=
  (eBin neOp (eCB (one1 lenA) (aCons (eVar 5) aNil)) (eCB (one1 lenA) (aCons (eVar 0) aNil)))
noncomputable def e2_check_table : AEnv → Store → Res A :=
  (eBin (inOp true) (eVar 6) (eVar 1))
noncomputable def e3_check_table : AEnv → Store → Res A :=
  (eBin neOp (eBin ixOp (eBin ixOp (eVar 0) (eVar 3)) (eVar 3)) (eVar 3))
noncomputable def e4_check_table : AEnv → Store → Res A :=
  (eBin ixOp (eBin ixOp (eVar 0) (eVar 3)) (eVar 2))
noncomputable def L5_check_table : MS :=
  (sIf (tOf (eBin neOp (eCB (one1 (sortA false)) (aCons (eLc false (mRngV (eVar 1)) (gN 3) [3] tYesM e4_check_table) aNil)) (eRg (some false) (eEnds (eVar 1))))) (sRaise (mkWhat "InvalidMatrix" (eC (.str "columns")))) sNil)
noncomputable def L6_check_table : MS :=
  (sIf (tOf (eBin neOp (eBin ixOp (eBin ixOp (eVar 0) (eBin ixOp (eBin ixOp (eVar 0) (eVar 3)) (eVar 2))) (eVar 4)) (eBin ixOp (eBin ixOp (eVar 0) (eBin ixOp (eBin ixOp (eVar 0) (eVar 3)) (eVar 4))) (eBin ixOp (eBin ixOp (eVar 0) (eVar 2)) (eVar 4))))) (sRaise (mkWhat "InvalidMatrix" (eC (.str "distributive")))) sNil)
noncomputable def L7_check_table : MS :=
  (sFor (mRngV (eVar 1)) (gN 4) L6_check_table)
noncomputable def L8_check_table : MS :=
  (sFor (mRngV (eVar 1)) (gN 2) L7_check_table)
noncomputable def B_check_table : MS :=
  (sSeq (sAsg (gN 1) (eCB (one1 rangeA) (aCons (eCB (one1 lenA) (aCons (eVar 0) aNil)) aNil)))
  (sSeq (sIf (tOrM (tOf (eBin eqOp (eCB (one1 lenA) (aCons (eVar 0) aNil)) (eC (.int 0)))) (tTru (eCB (one1 anyA) (aCons (eLc false (mSeq (eVar 0)) (gN 5) [5] tYesM e1_check_table) aNil)))) (sRaise (mkWhat "InvalidMatrix" (eC (.str "rows")))) sNil)
  (sSeq (sIf (tTru (eCB (one1 anyA) (aCons (eLc2 false (mSeq (eVar 0)) (gN 5) [5, 6] tYesM (mSeq (eVar 5)) (gN 6) [6] tYesM e2_check_table) aNil))) (sRaise (mkWhat "InvalidMatrix" (eC (.str "values")))) sNil)
  (sSeq (sIf (tTru (eCB (one1 anyA) (aCons (eLc false (mRngV (eVar 1)) (gN 3) [3] tYesM e3_check_table) aNil))) (sRaise (mkWhat "InvalidMatrix" (eC (.str "idempotent")))) sNil)
  (sSeq (sFor (mRngV (eVar 1)) (gN 2) L5_check_table)
  (sFor (mRngV (eVar 1)) (gN 3) L8_check_table))))))
noncomputable def M_check_table : List A → Store → Res A := fnM false 1 7 B_check_table
noncomputable def e1_Quandle___init__ : AEnv → Store → Res A :=
  (eCB (one1 (listA false)) (aCons (eVar 2) aNil))
noncomputable def B_Quandle___init__ : MS :=
  (sSeq (sEx (eCall M_check_table (aCons (eVar 1) aNil)))
  (sFldM ["Quandle"] "table" (eLc false (mSeq (eVar 1)) (gN 2) [2] tYesM e1_Quandle___init__) (eVar 0)))
noncomputable def M_Quandle___init__ : List A → Store → Res A := fnM false 2 3 B_Quandle___init__
noncomputable def e1_affine : AEnv → Store → Res A :=
  (eBin modOp (eBin (addOp false) (eBin (mulOp false) (eVar 1) (eVar 2)) (eBin (mulOp false) (eBin subOp (eC (.int 1)) (eVar 1)) (eVar 3))) (eVar 0))
noncomputable def e2_affine : AEnv → Store → Res A :=
  (eLc false (mRng1 (aCons (eVar 0) aNil)) (gN 3) [3] tYesM e1_affine)
noncomputable def B_affine : MS :=
  (sRet (eMake "Quandle" M_Quandle___init__ (aCons (eLc false (mRng1 (aCons (eVar 0) aNil)) (gN 2) [2] tYesM e2_affine) aNil)))
noncomputable def M_affine : List A → Store → Res A := fnM false 2 4 B_affine
noncomputable def e1_dihedral : AEnv → Store → Res A :=
  (eBin modOp (eBin subOp (eBin (mulOp false) (eC (.int 2)) (eVar 2)) (eVar 1)) (eVar 0))
noncomputable def e2_dihedral : AEnv → Store → Res A :=
  (eLc false (mRng1 (aCons (eVar 0) aNil)) (gN 2) [2] tYesM e1_dihedral)
noncomputable def B_dihedral : MS :=
  (sRet (eMake "Quandle" M_Quandle___init__ (aCons (eLc false (mRng1 (aCons (eVar 0) aNil)) (gN 1) [1] tYesM e2_dihedral) aNil)))
noncomputable def M_dihedral : List A → Store → Res A := fnM false 1 3 B_dihedral
noncomputable def L1_conjugate : MS :=
  (sSub setL (eBin ixOp (eVar 1) (eBin ixOp (eVar 0) (eVar 3))) (eVar 2) (eBin ixOp (eVar 1) (eVar 3)))
noncomputable def B_conjugate : MS :=
  (sSeq (sAsg (gN 2) (eCB (one1 (listA true)) (aCons (eVar 0) aNil)))
  (sSeq (sFor (mRng1 (aCons (eCB (one1 lenA) (aCons (eVar 0) aNil)) aNil)) (gN 3) L1_conjugate)
  (sRet (eCB (one1 tupleA) (aCons (eVar 2) aNil)))))
noncomputable def M_conjugate : List A → Store → Res A := fnM false 2 4 B_conjugate
noncomputable def L1_conjugation : MS :=
  (sSub setDict (eVar 2) (eVar 1) (eCB (one1 tupleA) (aCons (eVar 3) aNil)))
noncomputable def e2_conjugation : AEnv → Store → Res A :=
  (eGetD (eVar 1) (eCall M_conjugate (aCons (eVar 4) (aCons (eVar 5) aNil))) (eUn negOp (eC (.int 1))))
noncomputable def e3_conjugation : AEnv → Store → Res A :=
  (eLc false (mSeq (eVar 0)) (gN 5) [5] tYesM e2_conjugation)
noncomputable def B_conjugation : MS :=
  (sSeq (sAsg (gN 1) eNewT)
  (sSeq (sFor (mEnum (aCons (eVar 0) aNil)) (gT 2 (gsCons (gN 2) (gsCons (gN 3) gsNil))) L1_conjugation)
  (sRet (eMake "Quandle" M_Quandle___init__ (aCons (eLc false (mSeq (eVar 0)) (gN 4) [4] tYesM e3_conjugation) aNil)))))
noncomputable def M_conjugation : List A → Store → Res A := fnM false 1 6 B_conjugation
noncomputable def Y1__law_why : MS :=
  (sIf (tOf (eBin eqOp (eVar 1) (eC (.int 0)))) (sAsg (gN 3) (eMake "Quandle" M_Quandle___init__ (aCons (eVar 0) aNil))) (sIf (tOf (eBin eqOp (eVar 1) (eC (.int 1)))) (sAsg (gN 3) (eCall M_affine (aCons (eBin ixOp (eVar 0) (eC (.int 0))) (aCons (eBin ixOp (eVar 0) (eC (.int 1))) aNil)))) (sIf (tOf (eBin eqOp (eVar 1) (eC (.int 2)))) (sAsg (gN 3) (eCall M_dihedral (aCons (eVar 0) aNil))) (sAsg (gN 3) (eCall M_conjugation (aCons (eVar 0) aNil))))))
noncomputable def X2__law_why : Addr → Str → Option Addr → MS :=
  fun a c d => (sSeq (sIf (tAndM (tTru (eCB (isX "InvalidMatrix" [("InvalidMatrix", true)] a c d) (aCons (eVar 2) (aCons (eC (.glo "InvalidMatrix")) aNil)))) (tNotM (tTru (eCB (isX "InvalidDivision" [("InvalidMatrix", false)] a c d) (aCons (eVar 2) (aCons (eC (.glo "InvalidDivision")) aNil)))))) (sRet (eXf ["InvalidMatrix"] "what" a c d (eVar 2))) sNil)
  (sRet (eC (.str "another"))))
noncomputable def B__law_why : MS :=
  (sSeq (sTryAs [("InvalidMatrix", true)] 2 Y1__law_why X2__law_why)
  (sRet (eVar 3)))
noncomputable def M__law_why : List A → Store → Res A := fnM false 2 4 B__law_why
noncomputable def t1__law_due : AEnv → Store → Res Bool :=
  (tOf (eBin neOp (eCB (one1 lenA) (aCons (eVar 2) aNil)) (eCB (one1 lenA) (aCons (eVar 0) aNil))))
noncomputable def e2__law_due : AEnv → Store → Res A :=
  (eVar 2)
noncomputable def t3__law_due : AEnv → Store → Res Bool :=
  (tNotM (tOf (eChain leOp ltOp (eC (.int 0)) (eVar 6) (eCB (one1 lenA) (aCons (eVar 0) aNil)))))
noncomputable def e4__law_due : AEnv → Store → Res A :=
  (eVar 6)
noncomputable def L5__law_due : MS :=
  (sIf (tOf (eBin gtOp (eCB (one1 lenA) (aCons (eLc false (mSeq (eVar 2)) (gN 6) [6] t3__law_due e4__law_due) aNil)) (eC (.int 0)))) (sRet (eC (.str "values"))) sNil)
noncomputable def t6__law_due : AEnv → Store → Res Bool :=
  (tOf (eBin neOp (eBin ixOp (eBin ixOp (eVar 0) (eVar 4)) (eVar 4)) (eVar 4)))
noncomputable def e7__law_due : AEnv → Store → Res A :=
  (eVar 4)
noncomputable def e8__law_due : AEnv → Store → Res A :=
  (eBin ixOp (eBin ixOp (eVar 0) (eVar 4)) (eVar 3))
noncomputable def L9__law_due : MS :=
  (sIf (tOf (eBin neOp (eCB (one1 (sortA false)) (aCons (eLc false (mSeq (eVar 1)) (gN 4) [4] tYesM e8__law_due) aNil)) (eRg (some false) (aCons (eCB (one1 lenA) (aCons (eVar 0) aNil)) aNil)))) (sRet (eC (.str "columns"))) sNil)
noncomputable def L10__law_due : MS :=
  (sIf (tOf (eBin neOp (eBin ixOp (eBin ixOp (eVar 0) (eBin ixOp (eBin ixOp (eVar 0) (eVar 4)) (eVar 3))) (eVar 5)) (eBin ixOp (eBin ixOp (eVar 0) (eBin ixOp (eBin ixOp (eVar 0) (eVar 4)) (eVar 5))) (eBin ixOp (eBin ixOp (eVar 0) (eVar 3)) (eVar 5))))) (sRet (eC (.str "distributive"))) sNil)
noncomputable def L11__law_due : MS :=
  (sFor (mSeq (eVar 1)) (gN 5) L10__law_due)
noncomputable def L12__law_due : MS :=
  (sFor (mSeq (eVar 1)) (gN 3) L11__law_due)
noncomputable def B__law_due : MS :=
  (sSeq (sAsg (gN 1) (eRg (some false) (aCons (eCB (one1 lenA) (aCons (eVar 0) aNil)) aNil)))
  (sSeq (sIf (tOrM (tOf (eBin eqOp (eCB (one1 lenA) (aCons (eVar 0) aNil)) (eC (.int 0)))) (tOf (eBin gtOp (eCB (one1 lenA) (aCons (eLc false (mSeq (eVar 0)) (gN 2) [2] t1__law_due e2__law_due) aNil)) (eC (.int 0))))) (sRet (eC (.str "rows"))) sNil)
  (sSeq (sFor (mSeq (eVar 0)) (gN 2) L5__law_due)
  (sSeq (sIf (tOf (eBin gtOp (eCB (one1 lenA) (aCons (eLc false (mSeq (eVar 1)) (gN 4) [4] t6__law_due e7__law_due) aNil)) (eC (.int 0)))) (sRet (eC (.str "idempotent"))) sNil)
  (sSeq (sFor (mSeq (eVar 1)) (gN 3) L9__law_due)
  (sSeq (sFor (mSeq (eVar 1)) (gN 4) L12__law_due)
  (sRet (eC .non))))))))
noncomputable def M__law_due : List A → Store → Res A := fnM false 1 7 B__law_due
noncomputable def e1__law_plain (self : List A → Store → Res A) : AEnv → Store → Res A :=
  (eCall self (aCons (eVar 1) aNil))
noncomputable def B__law_plain (self : List A → Store → Res A) : MS :=
  (sSeq (sIf (tTru (eIsiT (eVar 0) (aCons (eC (.ty "tuple")) (aCons (eC (.ty "list")) aNil)))) (sRet (eBin (addOp false) (eLst false (aCons (eCB (two2 isiB) (aCons (eVar 0) (aCons (eC (.ty "list")) aNil))) aNil)) (eLc false (mSeq (eVar 0)) (gN 1) [1] tYesM (e1__law_plain self)))) sNil)
  (sSeq (sIf (tOrM (tOf (eBin (isNOp false) (eVar 0) (eC .non))) (tTru (eCB (two2 isiB) (aCons (eVar 0) (aCons (eC (.ty "bool")) aNil))))) (sRet (eBin ixOp (eLst false (aCons (eC (.str "None")) (aCons (eC (.str "False")) (aCons (eC (.str "True")) aNil)))) (eBin (addOp false) (eCB (one1 intA) (aCons (eBin (isNOp true) (eVar 0) (eC .non)) aNil)) (eCB (one1 intA) (aCons (eBin (isNOp false) (eVar 0) (eC (.bl true))) aNil))))) sNil)
  (sSeq (sIf (tTru (eIsiT (eVar 0) (aCons (eC (.ty "int")) (aCons (eC (.ty "str")) aNil)))) (sRet (eLst false (aCons (eCB (two2 isiB) (aCons (eVar 0) (aCons (eC (.ty "str")) aNil))) (aCons (eVar 0) aNil)))) sNil)
  (sRet (eC (.str "another"))))))
noncomputable def M__law_plain_ : Nat → List A → Store → Res A
  | 0 => fun _ _ => .stuck
  | n + 1 => fnM false 1 2 (B__law_plain (M__law_plain_ n))
noncomputable def M__law_plain : List A → Store → Res A := M__law_plain_ 6
noncomputable def B_Quandle_acted : MS :=
  (sRet (eBin ixOp (eBin ixOp (eUn (fldOp ["Quandle"] "table") (eVar 0)) (eVar 1)) (eVar 2)))
noncomputable def M_Quandle_acted : List A → Store → Res A := fnM false 3 3 B_Quandle_acted
noncomputable def e1_Quandle_undone : AEnv → Store → Res A :=
  (eBin ixOp (eVar 3) (eVar 2))
noncomputable def B_Quandle_undone : MS :=
  (sRet (eM "list" indexM (eLc false (mSeq (eUn (fldOp ["Quandle"] "table") (eVar 0))) (gN 3) [3] tYesM e1_Quandle_undone) (aCons (eVar 1) aNil)))
noncomputable def M_Quandle_undone : List A → Store → Res A := fnM false 3 4 B_Quandle_undone
noncomputable def L1__law_is_quandle : MS :=
  (sSeq (sIf (tOf (eBin neOp (eCall M__law_plain (aCons (eMeth "Quandle" "acted" M_Quandle_acted (eVar 0) (aCons (eVar 2) (aCons (eVar 3) aNil))) aNil)) (eCall M__law_plain (aCons (eBin ixOp (eBin ixOp (eVar 1) (eVar 2)) (eVar 3)) aNil)))) (sRet (eC (.bl false))) sNil)
  (sIf (tOf (eBin neOp (eCall M__law_plain (aCons (eMeth "Quandle" "undone" M_Quandle_undone (eVar 0) (aCons (eBin ixOp (eBin ixOp (eVar 1) (eVar 2)) (eVar 3)) (aCons (eVar 3) aNil))) aNil)) (eCall M__law_plain (aCons (eVar 2) aNil)))) (sRet (eC (.bl false))) sNil))
noncomputable def L2__law_is_quandle : MS :=
  (sFor (mRng1 (aCons (eCB (one1 lenA) (aCons (eVar 1) aNil)) aNil)) (gN 3) L1__law_is_quandle)
noncomputable def B__law_is_quandle : MS :=
  (sSeq (sIf (tOrM (tNotM (tTru (eCB (isO "Quandle") (aCons (eVar 0) (aCons (eC (.glo "Quandle")) aNil))))) (tOf (eBin neOp (eCall M__law_plain (aCons (eUn (fldOp ["Quandle"] "table") (eVar 0)) aNil)) (eCall M__law_plain (aCons (eVar 1) aNil))))) (sRet (eC (.bl false))) sNil)
  (sSeq (sFor (mRng1 (aCons (eCB (one1 lenA) (aCons (eVar 1) aNil)) aNil)) (gN 2) L2__law_is_quandle)
  (sRet (eC (.bl true)))))
noncomputable def M__law_is_quandle : List A → Store → Res A := fnM false 2 4 B__law_is_quandle
noncomputable def B__law_right : MS :=
  (sSeq (sAsg (gN 3) (eCall M__law_due (aCons (eVar 2) aNil)))
  (sSeq (sAsg (gN 4) (eCall M__law_why (aCons (eVar 0) (aCons (eVar 1) aNil))))
  (sSeq (sIf (tOf (eBin (isNOp true) (eVar 3) (eC .non))) (sRet (eBin eqOp (eVar 4) (eVar 3))) sNil)
  (sRet (eCall M__law_is_quandle (aCons (eVar 4) (aCons (eVar 2) aNil)))))))
noncomputable def M__law_right : List A → Store → Res A := fnM false 3 5 B__law_right
noncomputable def e1_law : AEnv → Store → Res A :=
  (eCB (one1 (listA true)) (aCons (eVar 9) aNil))
noncomputable def e2_law : AEnv → Store → Res A :=
  (eCB (one1 (listA false)) (aCons (eVar 9) aNil))
noncomputable def L3_law : MS :=
  (sSeq (sAsg (gN 6) (eCall M__law_table (aCons (eVar 1) aNil)))
  (sSeq (sIf (tOf (eBin eqOp (eCall M__law_take (aCons (eVar 1) (aCons (eC (.int 2)) aNil))) (eC (.int 0)))) (sAsg (gN 6) (eCall M__law_bent (aCons (eVar 1) (aCons (eVar 6) aNil)))) sNil)
  (sSeq (sAsg (gN 7) (eLc true (mSeq (eVar 6)) (gN 9) [9] tYesM e1_law))
  (sSeq (sAsg (gN 8) (eCall M__law_why (aCons (eVar 7) (aCons (eC (.int 0)) aNil))))
  (sSeq (sIf (tAndM (tOf (eBin gtOp (eCB (one1 lenA) (aCons (eVar 7) aNil)) (eC (.int 0)))) (tOf (eBin gtOp (eCB (one1 lenA) (aCons (eBin ixOp (eVar 7) (eC (.int 0))) aNil)) (eC (.int 0))))) (sSub setL (eC (.int 5)) (eBin ixOp (eVar 7) (eC (.int 0))) (eC (.int 0))) sNil)
  (sSeq (sIf (tAndM (tOf (eBin (isNOp false) (eCall M__law_due (aCons (eVar 6) aNil)) (eC .non))) (tNotM (tTru (eCall M__law_is_quandle (aCons (eVar 8) (aCons (eVar 6) aNil)))))) (sRet (eC (.bl false))) sNil)
  (sIf (tNotM (tTru (eCall M__law_right (aCons (eLc false (mSeq (eVar 6)) (gN 9) [9] tYesM e2_law) (aCons (eC (.int 0)) (aCons (eVar 6) aNil)))))) (sRet (eC (.bl false))) sNil)))))))
noncomputable def B_law : MS :=
  (sSeq (sAsg (gN 1) (eCall M__law_deck (aCons (eVar 0) (aCons (eC (.int 50)) (aCons (eC (.int 14)) aNil)))))
  (sSeq (sFor (mRng1 (aCons (eC (.int 3)) aNil)) (gN 2) L3_law)
  (sSeq (sAsg (gN 3) (eBin (addOp false) (eC (.int 1)) (eCall M__law_take (aCons (eVar 1) (aCons (eC (.int 9)) aNil)))))
  (sSeq (sAsg (gN 4) (eBin subOp (eCall M__law_take (aCons (eVar 1) (aCons (eC (.int 41)) aNil))) (eC (.int 20))))
  (sSeq (sIf (tNotM (tTru (eCall M__law_right (aCons (eTup (aCons (eVar 3) (aCons (eVar 4) aNil))) (aCons (eC (.int 1)) (aCons (eCall M__law_affine (aCons (eVar 3) (aCons (eVar 4) aNil))) aNil)))))) (sRet (eC (.bl false))) sNil)
  (sSeq (sAsg (gN 5) (eCall M__law_members (aCons (eVar 1) aNil)))
  (sSeq (sAsg (gN 6) (eCall M__law_conjugation (aCons (eVar 5) aNil)))
  (sRet (eAndV (eCall M__law_right (aCons (eVar 3) (aCons (eC (.int 2)) (aCons (eCall M__law_affine (aCons (eVar 3) (aCons (eUn negOp (eC (.int 1))) aNil))) aNil)))) (eAndV (eCall M__law_right (aCons (eVar 5) (aCons (eC (.int 3)) (aCons (eVar 6) aNil)))) (eCall M__law_right (aCons (eLst false aNil) (aCons (eC (.int 0)) (aCons (eLst false aNil) aNil))))))))))))))
noncomputable def M_law : List A → Store → Res A := fnM false 1 10 B_law
end Gk53

set_option Elab.async false
set_option linter.all false
set_option maxRecDepth 100000
set_option maxHeartbeats 4000000
namespace Gk53
open PySem PySem.Spec L2 SL
open PyProof.Rows hiding St
structure Txt (w : World) (K : PySem.W.Frag) (mg : Str → Option Value) : Prop where
  b_abs : mg "abs" = none
  b_any : mg "any" = none
  b_bool : mg "bool" = none
  b_enumerate : mg "enumerate" = none
  b_int : mg "int" = none
  b_isinstance : mg "isinstance" = none
  b_len : mg "len" = none
  b_list : mg "list" = none
  b_range : mg "range" = none
  b_sorted : mg "sorted" = none
  b_str : mg "str" = none
  b_tuple : mg "tuple" = none
  g__law_deck : mg "_law_deck" = some (.ref (He.ga K "_law_deck"))
  g__law_take : mg "_law_take" = some (.ref (He.ga K "_law_take"))
  g__law_members : mg "_law_members" = some (.ref (He.ga K "_law_members"))
  g__law_conjugate : mg "_law_conjugate" = some (.ref (He.ga K "_law_conjugate"))
  g__law_conjugation : mg "_law_conjugation" = some (.ref (He.ga K "_law_conjugation"))
  g__law_affine : mg "_law_affine" = some (.ref (He.ga K "_law_affine"))
  g__law_table : mg "_law_table" = some (.ref (He.ga K "_law_table"))
  g__law_bent : mg "_law_bent" = some (.ref (He.ga K "_law_bent"))
  g_check_table : mg "check_table" = some (.ref (He.ga K "check_table"))
  g_affine : mg "affine" = some (.ref (He.ga K "affine"))
  g_dihedral : mg "dihedral" = some (.ref (He.ga K "dihedral"))
  g_conjugate : mg "conjugate" = some (.ref (He.ga K "conjugate"))
  g_conjugation : mg "conjugation" = some (.ref (He.ga K "conjugation"))
  g__law_why : mg "_law_why" = some (.ref (He.ga K "_law_why"))
  g__law_due : mg "_law_due" = some (.ref (He.ga K "_law_due"))
  g__law_plain : mg "_law_plain" = some (.ref (He.ga K "_law_plain"))
  g__law_is_quandle : mg "_law_is_quandle" = some (.ref (He.ga K "_law_is_quandle"))
  g__law_right : mg "_law_right" = some (.ref (He.ga K "_law_right"))
  g_law : mg "law" = some (.ref (He.ga K "law"))
  cl_Quandle : Cls K (He.ga K "Quandle")
  fl_table : ∀ c ∈ (["Quandle"] : List Str), Cls K (He.ga K c) ∧ NoAttr K (He.ga K c) "table"
  me_Quandle_acted : Meth K (He.ga K "Quandle") "acted" (He.ma K (He.ga K "Quandle") "acted")
  me_Quandle_undone : Meth K (He.ga K "Quandle") "undone" (He.ma K (He.ga K "Quandle") "undone")
  mk_Quandle : Mk K (He.ga K "Quandle") (He.ma K (He.ga K "Quandle") "__init__")
  g_KnotError : mg "KnotError" = some (.ref (He.ga K "KnotError"))
  g_InvalidMatrix : mg "InvalidMatrix" = some (.ref (He.ga K "InvalidMatrix"))
  g_InvalidDivision : mg "InvalidDivision" = some (.ref (He.ga K "InvalidDivision"))
  g_Quandle : mg "Quandle" = some (.ref (He.ga K "Quandle"))
  xm_KnotError : ∀ p ∈ ([("InvalidMatrix", true)] : List (Str × Bool)), PySem.W.exmOne K (.ref (He.ga K p.1)) (.ref (He.ga K "KnotError")) = some p.2
  ix_InvalidDivision : ∀ q ∈ ([("InvalidMatrix", false)] : List (Str × Bool)), ExcC K (He.ga K q.1) ∧ PySem.W.kitOne K (.ref (He.ga K q.1)) (.ref (He.ga K "InvalidDivision")) = some q.2
  ix_InvalidMatrix : ∀ q ∈ ([("InvalidMatrix", true)] : List (Str × Bool)), ExcC K (He.ga K q.1) ∧ PySem.W.kitOne K (.ref (He.ga K q.1)) (.ref (He.ga K "InvalidMatrix")) = some q.2
  ic_Quandle : InsC K (He.ga K "Quandle")
  it_Quandle : ∀ n ∈ (["str", "NoneType", "list", "tuple", "int", "bool", "dict"] : List String), PySem.W.kitOne K (.type n) (.ref (He.ga K "Quandle")) = some false
  xf : ∀ c ∈ (["InvalidMatrix"] : List Str), XfC K (He.ga K c) ∧ PySem.W.findIn K (.ref (He.ga K c)) "what" = some none
section
variable {P : Program} {w : World} {K : PySem.W.Frag} {mg : Str → Option Value} {base : Heap}
theorem sc__law_deck : FnScope ["script", "cells", "each", "deck", "seed", "k", "cell", "rest", "at"] ["script", "cells", "each"] (defScope s__law_deck) := ⟨rfl, rfl, rfl, by decide +kernel, rfl, by decide +kernel, by decide +kernel⟩
theorem ok__law_deck (T : Txt w K mg)   {fd : FuncData} (F : FunD K "_law_deck" "_law_deck" (defArgs s__law_deck) (defBody s__law_deck) (defScope s__law_deck) [] [] (He.ga K "_law_deck") fd) : FnS P w K mg base 1 (He.ga K "_law_deck") ["script", "cells", "each"] M__law_deck :=
  fnS_of (rc := true) (N := ["script", "cells", "each", "deck", "seed", "k", "cell", "rest", "at"]) (ps := ["script", "cells", "each"]) (k := 0) (m := B__law_deck) F sc__law_deck (F.bindsN fun _ _ _ _ _ _ us hl => match us, hl with | [_, _, _], _ => rfl) (by
    refine b_cons ?_ ?_
    · refine st_set (i := 3) rfl (.inl rfl) ?_
      refine s_lst (mk := true) ?_
      exact a_nil 
    · refine b_cons ?_ ?_
      · refine st_set (i := 4) rfl (.inl rfl) ?_
        refine s_add (mk := false) ?_ ?_
        · exact s_int 
        · refine s_cb (cb_len) rfl T.b_len PySem.boot_len ?_
          refine a_cons ?_ ?_
          · exact s_var (i := 0) rfl (.inl rfl)
          · exact a_nil 
      · refine b_cons ?_ ?_
        · refine st_for (own := [5]) ?_ ?_ ?_
          · refine i_rng1 rfl T.b_range ?_
            refine a_cons ?_ ?_
            · exact s_var (i := 1) rfl (.inl rfl)
            · exact a_nil 
          · exact g_name (i := 5) rfl (.inl rfl)
          · refine b_cons ?_ ?_
            · refine st_set (i := 6) rfl (.inl rfl) ?_
              exact s_int 
            · refine b_cons ?_ ?_
              · refine st_if ?_ ?_ ?_
                · refine t_c c_lt ?_ ?_
                  · exact s_var (i := 5) rfl (.inl rfl)
                  · refine s_cb (cb_len) rfl T.b_len PySem.boot_len ?_
                    refine a_cons ?_ ?_
                    · exact s_var (i := 0) rfl (.inl rfl)
                    · exact a_nil 
                · refine b_one ?_
                  refine st_set (i := 6) rfl (.inl rfl) ?_
                  refine s_ix ?_ ?_
                  · exact s_var (i := 0) rfl (.inl rfl)
                  · exact s_var (i := 5) rfl (.inl rfl)
                · exact b_nil 
              · refine b_cons ?_ ?_
                · refine st_set (i := 7) rfl (.inl rfl) ?_
                  refine s_cb (cb_abs) rfl T.b_abs PyProof.Rows.boot_abs ?_
                  refine a_cons ?_ ?_
                  · exact s_var (i := 6) rfl (.inl rfl)
                  · exact a_nil 
                · refine b_one ?_
                  refine st_if ?_ ?_ ?_
                  · refine t_c c_ge ?_ ?_
                    · exact s_var (i := 7) rfl (.inl rfl)
                    · refine s_pow ?_ ?_
                      · exact s_int 
                      · exact s_int 
                  · refine b_one ?_
                    refine st_for (own := [8]) ?_ ?_ ?_
                    · refine i_rng1 rfl T.b_range ?_
                      refine a_cons ?_ ?_
                      · exact s_var (i := 2) rfl (.inl rfl)
                      · exact a_nil 
                    · exact g_name (i := 8) rfl (.inl rfl)
                    · refine b_cons ?_ ?_
                      · refine st_ex ?_
                        refine s_m PySem.F.plainAttrs_list PySem.F.slot_list_append PySem.F.type_list_append m_append ?_ ?_
                        · exact s_var (i := 3) rfl (.inl rfl)
                        · refine a_cons ?_ ?_
                          · refine s_mod ?_ ?_
                            · refine s_cty (cb_int) rfl T.b_int PyProof.Rows.boot_int ?_
                              refine a_cons ?_ ?_
                              · exact s_var (i := 7) rfl (.inl rfl)
                              · exact a_nil 
                            · exact s_int 
                          · exact a_nil 
                      · refine b_one ?_
                        refine st_set (i := 7) rfl (.inl rfl) ?_
                        refine s_fdiv ?_ ?_
                        · exact s_var (i := 7) rfl (.inl rfl)
                        · exact s_int 
                  · refine b_cons ?_ ?_
                    · refine st_set (i := 4) rfl (.inl rfl) ?_
                      refine s_mod ?_ ?_
                      · refine s_cty (cb_int) rfl T.b_int PyProof.Rows.boot_int ?_
                        refine a_cons ?_ ?_
                        · refine s_add (mk := false) ?_ ?_
                          · refine s_add (mk := false) ?_ ?_
                            · refine s_add (mk := false) ?_ ?_
                              · refine s_mul (mk := false) ?_ ?_
                                · exact s_var (i := 4) rfl (.inl rfl)
                                · exact s_int 
                              · refine s_mul (mk := false) ?_ ?_
                                · exact s_int 
                                · exact s_var (i := 7) rfl (.inl rfl)
                            · refine s_cty (cb_int) rfl T.b_int PyProof.Rows.boot_int ?_
                              refine a_cons ?_ ?_
                              · refine s_c c_lt ?_ ?_
                                · exact s_var (i := 6) rfl (.inl rfl)
                                · exact s_int 
                              · exact a_nil 
                          · exact s_var (i := 5) rfl (.inl rfl)
                        · exact a_nil 
                      · exact s_int 
                    · refine b_one ?_
                      refine st_for (own := [8]) ?_ ?_ ?_
                      · refine i_rng1 rfl T.b_range ?_
                        refine a_cons ?_ ?_
                        · exact s_var (i := 2) rfl (.inl rfl)
                        · exact a_nil 
                      · exact g_name (i := 8) rfl (.inl rfl)
                      · refine b_cons ?_ ?_
                        · refine st_set (i := 4) rfl (.inl rfl) ?_
                          refine s_mod ?_ ?_
                          · refine s_cty (cb_int) rfl T.b_int PyProof.Rows.boot_int ?_
                            refine a_cons ?_ ?_
                            · refine s_add (mk := false) ?_ ?_
                              · refine s_add (mk := false) ?_ ?_
                                · refine s_mul (mk := false) ?_ ?_
                                  · exact s_var (i := 4) rfl (.inl rfl)
                                  · exact s_int 
                                · exact s_var (i := 8) rfl (.inl rfl)
                              · exact s_int 
                            · exact a_nil 
                          · exact s_int 
                        · refine b_one ?_
                          refine st_ex ?_
                          refine s_m PySem.F.plainAttrs_list PySem.F.slot_list_append PySem.F.type_list_append m_append ?_ ?_
                          · exact s_var (i := 3) rfl (.inl rfl)
                          · refine a_cons ?_ ?_
                            · refine s_mod ?_ ?_
                              · refine s_cty (cb_int) rfl T.b_int PyProof.Rows.boot_int ?_
                                refine a_cons ?_ ?_
                                · refine s_fdiv ?_ ?_
                                  · exact s_var (i := 4) rfl (.inl rfl)
                                  · exact s_int 
                                · exact a_nil 
                              · exact s_int 
                            · exact a_nil 
        · refine b_cons ?_ ?_
          · refine st_ex ?_
            refine s_m0 PySem.F.plainAttrs_list PySem.F.slot_list_reverse PySem.F.type_list_reverse m_reverse ?_
            exact s_var (i := 3) rfl (.inl rfl)
          · refine b_one ?_
            refine st_ret ?_
            exact s_var (i := 3) rfl (.inl rfl)
    )
theorem sc__law_take : FnScope ["deck", "many"] ["deck", "many"] (defScope s__law_take) := ⟨rfl, rfl, rfl, by decide +kernel, rfl, by decide +kernel, by decide +kernel⟩
theorem ok__law_take (T : Txt w K mg)   {fd : FuncData} (F : FunD K "_law_take" "_law_take" (defArgs s__law_take) (defBody s__law_take) (defScope s__law_take) [] [] (He.ga K "_law_take") fd) : FnS P w K mg base 1 (He.ga K "_law_take") ["deck", "many"] M__law_take :=
  fnS_of (rc := false) (N := ["deck", "many"]) (ps := ["deck", "many"]) (k := 0) (m := B__law_take) F sc__law_take (F.bindsN fun _ _ _ _ _ _ us hl => match us, hl with | [_, _], _ => rfl) (by
    refine b_cons ?_ ?_
    · refine st_if ?_ ?_ ?_
      · refine t_c c_eq ?_ ?_
        · refine s_cb (cb_len) rfl T.b_len PySem.boot_len ?_
          refine a_cons ?_ ?_
          · exact s_var (i := 0) rfl (.inl rfl)
          · exact a_nil 
        · exact s_int 
      · refine b_one ?_
        refine st_ret ?_
        exact s_int 
      · exact b_nil 
    · refine b_one ?_
      refine st_ret ?_
      refine s_mod ?_ ?_
      · refine s_cty (cb_int) rfl T.b_int PyProof.Rows.boot_int ?_
        refine a_cons ?_ ?_
        · refine s_m0 PySem.F.plainAttrs_list PySem.F.slot_list_pop PySem.F.type_list_pop m_pop ?_
          exact s_var (i := 0) rfl (.inl rfl)
        · exact a_nil 
      · exact s_var (i := 1) rfl (.inl rfl)
    )
theorem sc__law_members : FnScope ["deck", "three", "four", "way", "start"] ["deck"] (defScope s__law_members) := ⟨rfl, rfl, rfl, by decide +kernel, rfl, by decide +kernel, by decide +kernel⟩
theorem ok__law_members (T : Txt w K mg) (F__law_take : FnS P w K mg base 1 (He.ga K "_law_take") ["deck", "many"] M__law_take)  {fd : FuncData} (F : FunD K "_law_members" "_law_members" (defArgs s__law_members) (defBody s__law_members) (defScope s__law_members) [] [] (He.ga K "_law_members") fd) : FnS P w K mg base 2 (He.ga K "_law_members") ["deck"] M__law_members :=
  fnS_of (rc := false) (N := ["deck", "three", "four", "way", "start"]) (ps := ["deck"]) (k := 1) (m := B__law_members) F sc__law_members (F.bindsN fun _ _ _ _ _ _ us hl => match us, hl with | [_], _ => rfl) (by
    refine b_cons ?_ ?_
    · refine st_set (i := 1) rfl (.inl rfl) ?_
      refine s_lst (mk := false) ?_
      refine a_cons ?_ ?_
      · refine s_tup ?_
        refine a_cons ?_ ?_
        · exact s_int 
        · refine a_cons ?_ ?_
          · exact s_int 
          · refine a_cons ?_ ?_
            · exact s_int 
            · exact a_nil 
      · refine a_cons ?_ ?_
        · refine s_tup ?_
          refine a_cons ?_ ?_
          · exact s_int 
          · refine a_cons ?_ ?_
            · exact s_int 
            · refine a_cons ?_ ?_
              · exact s_int 
              · exact a_nil 
        · refine a_cons ?_ ?_
          · refine s_tup ?_
            refine a_cons ?_ ?_
            · exact s_int 
            · refine a_cons ?_ ?_
              · exact s_int 
              · refine a_cons ?_ ?_
                · exact s_int 
                · exact a_nil 
          · refine a_cons ?_ ?_
            · refine s_tup ?_
              refine a_cons ?_ ?_
              · exact s_int 
              · refine a_cons ?_ ?_
                · exact s_int 
                · refine a_cons ?_ ?_
                  · exact s_int 
                  · exact a_nil 
            · refine a_cons ?_ ?_
              · refine s_tup ?_
                refine a_cons ?_ ?_
                · exact s_int 
                · refine a_cons ?_ ?_
                  · exact s_int 
                  · refine a_cons ?_ ?_
                    · exact s_int 
                    · exact a_nil 
              · refine a_cons ?_ ?_
                · refine s_tup ?_
                  refine a_cons ?_ ?_
                  · exact s_int 
                  · refine a_cons ?_ ?_
                    · exact s_int 
                    · refine a_cons ?_ ?_
                      · exact s_int 
                      · exact a_nil 
                · exact a_nil 
    · refine b_cons ?_ ?_
      · refine st_set (i := 2) rfl (.inl rfl) ?_
        refine s_lst (mk := false) ?_
        refine a_cons ?_ ?_
        · refine s_tup ?_
          refine a_cons ?_ ?_
          · exact s_int 
          · refine a_cons ?_ ?_
            · exact s_int 
            · refine a_cons ?_ ?_
              · exact s_int 
              · refine a_cons ?_ ?_
                · exact s_int 
                · exact a_nil 
        · refine a_cons ?_ ?_
          · refine s_tup ?_
            refine a_cons ?_ ?_
            · exact s_int 
            · refine a_cons ?_ ?_
              · exact s_int 
              · refine a_cons ?_ ?_
                · exact s_int 
                · refine a_cons ?_ ?_
                  · exact s_int 
                  · exact a_nil 
          · refine a_cons ?_ ?_
            · refine s_tup ?_
              refine a_cons ?_ ?_
              · exact s_int 
              · refine a_cons ?_ ?_
                · exact s_int 
                · refine a_cons ?_ ?_
                  · exact s_int 
                  · refine a_cons ?_ ?_
                    · exact s_int 
                    · exact a_nil 
            · refine a_cons ?_ ?_
              · refine s_tup ?_
                refine a_cons ?_ ?_
                · exact s_int 
                · refine a_cons ?_ ?_
                  · exact s_int 
                  · refine a_cons ?_ ?_
                    · exact s_int 
                    · refine a_cons ?_ ?_
                      · exact s_int 
                      · exact a_nil 
              · refine a_cons ?_ ?_
                · refine s_tup ?_
                  refine a_cons ?_ ?_
                  · exact s_int 
                  · refine a_cons ?_ ?_
                    · exact s_int 
                    · refine a_cons ?_ ?_
                      · exact s_int 
                      · refine a_cons ?_ ?_
                        · exact s_int 
                        · exact a_nil 
                · refine a_cons ?_ ?_
                  · refine s_tup ?_
                    refine a_cons ?_ ?_
                    · exact s_int 
                    · refine a_cons ?_ ?_
                      · exact s_int 
                      · refine a_cons ?_ ?_
                        · exact s_int 
                        · refine a_cons ?_ ?_
                          · exact s_int 
                          · exact a_nil 
                  · exact a_nil 
      · refine b_cons ?_ ?_
        · refine st_set (i := 3) rfl (.inl rfl) ?_
          refine s_call F__law_take (Nat.le_of_ble_eq_true rfl) rfl T.g__law_take ?_
          refine a_cons ?_ ?_
          · exact s_var (i := 0) rfl (.inl rfl)
          · refine a_cons ?_ ?_
            · exact s_int 
            · exact a_nil 
        · refine b_cons ?_ ?_
          · refine st_set (i := 4) rfl (.inl rfl) ?_
            refine s_call F__law_take (Nat.le_of_ble_eq_true rfl) rfl T.g__law_take ?_
            refine a_cons ?_ ?_
            · exact s_var (i := 0) rfl (.inl rfl)
            · refine a_cons ?_ ?_
              · exact s_int 
              · exact a_nil 
          · refine b_cons ?_ ?_
            · refine st_if ?_ ?_ ?_
              · refine t_c c_eq ?_ ?_
                · exact s_var (i := 3) rfl (.inl rfl)
                · exact s_int 
              · refine b_one ?_
                refine st_ret ?_
                refine s_add (mk := false) ?_ ?_
                · refine s_sl (mk := false) ?_ ?_ ?_
                  · exact s_var (i := 1) rfl (.inl rfl)
                  · refine o_some ?_
                    exact s_var (i := 4) rfl (.inl rfl)
                  · exact o_none 
                · refine s_sl (mk := false) ?_ ?_ ?_
                  · exact s_var (i := 1) rfl (.inl rfl)
                  · exact o_none 
                  · refine o_some ?_
                    exact s_var (i := 4) rfl (.inl rfl)
              · exact b_nil 
            · refine b_cons ?_ ?_
              · refine st_if ?_ ?_ ?_
                · refine t_c c_eq ?_ ?_
                  · exact s_var (i := 3) rfl (.inl rfl)
                  · exact s_int 
                · refine b_one ?_
                  refine st_ret ?_
                  refine s_add (mk := false) ?_ ?_
                  · refine s_sl (mk := false) ?_ ?_ ?_
                    · exact s_var (i := 2) rfl (.inl rfl)
                    · refine o_some ?_
                      exact s_var (i := 4) rfl (.inl rfl)
                    · exact o_none 
                  · refine s_sl (mk := false) ?_ ?_ ?_
                    · exact s_var (i := 2) rfl (.inl rfl)
                    · exact o_none 
                    · refine o_some ?_
                      exact s_var (i := 4) rfl (.inl rfl)
                · exact b_nil 
              · refine b_cons ?_ ?_
                · refine st_if ?_ ?_ ?_
                  · refine t_c c_eq ?_ ?_
                    · exact s_var (i := 3) rfl (.inl rfl)
                    · exact s_int 
                  · refine b_one ?_
                    refine st_ret ?_
                    refine s_lst (mk := false) ?_
                    refine a_cons ?_ ?_
                    · refine s_tup ?_
                      refine a_cons ?_ ?_
                      · exact s_int 
                      · refine a_cons ?_ ?_
                        · exact s_int 
                        · refine a_cons ?_ ?_
                          · exact s_int 
                          · refine a_cons ?_ ?_
                            · exact s_int 
                            · exact a_nil 
                    · refine a_cons ?_ ?_
                      · refine s_tup ?_
                        refine a_cons ?_ ?_
                        · exact s_int 
                        · refine a_cons ?_ ?_
                          · exact s_int 
                          · refine a_cons ?_ ?_
                            · exact s_int 
                            · refine a_cons ?_ ?_
                              · exact s_int 
                              · exact a_nil 
                      · refine a_cons ?_ ?_
                        · refine s_tup ?_
                          refine a_cons ?_ ?_
                          · exact s_int 
                          · refine a_cons ?_ ?_
                            · exact s_int 
                            · refine a_cons ?_ ?_
                              · exact s_int 
                              · refine a_cons ?_ ?_
                                · exact s_int 
                                · exact a_nil 
                        · refine a_cons ?_ ?_
                          · refine s_tup ?_
                            refine a_cons ?_ ?_
                            · exact s_int 
                            · refine a_cons ?_ ?_
                              · exact s_int 
                              · refine a_cons ?_ ?_
                                · exact s_int 
                                · refine a_cons ?_ ?_
                                  · exact s_int 
                                  · exact a_nil 
                          · exact a_nil 
                  · exact b_nil 
                · refine b_cons ?_ ?_
                  · refine st_if ?_ ?_ ?_
                    · refine t_c c_eq ?_ ?_
                      · exact s_var (i := 3) rfl (.inl rfl)
                      · exact s_int 
                    · refine b_one ?_
                      refine st_ret ?_
                      refine s_sl (mk := false) ?_ ?_ ?_
                      · exact s_var (i := 1) rfl (.inl rfl)
                      · exact o_none 
                      · refine o_some ?_
                        exact s_var (i := 4) rfl (.inl rfl)
                    · exact b_nil 
                  · refine b_cons ?_ ?_
                    · refine st_if ?_ ?_ ?_
                      · refine t_c c_eq ?_ ?_
                        · exact s_var (i := 3) rfl (.inl rfl)
                        · exact s_int 
                      · refine b_one ?_
                        refine st_ret ?_
                        refine s_sl (mk := false) ?_ ?_ ?_
                        · exact s_var (i := 2) rfl (.inl rfl)
                        · exact o_none 
                        · refine o_some ?_
                          exact s_var (i := 4) rfl (.inl rfl)
                      · exact b_nil 
                    · refine b_cons ?_ ?_
                      · refine st_if ?_ ?_ ?_
                        · refine t_c c_eq ?_ ?_
                          · exact s_var (i := 3) rfl (.inl rfl)
                          · exact s_int 
                        · refine b_one ?_
                          refine st_ret ?_
                          refine s_lst (mk := false) ?_
                          refine a_cons ?_ ?_
                          · refine s_tup ?_
                            refine a_cons ?_ ?_
                            · exact s_int 
                            · refine a_cons ?_ ?_
                              · exact s_int 
                              · refine a_cons ?_ ?_
                                · exact s_int 
                                · refine a_cons ?_ ?_
                                  · exact s_int 
                                  · exact a_nil 
                          · refine a_cons ?_ ?_
                            · refine s_tup ?_
                              refine a_cons ?_ ?_
                              · exact s_int 
                              · refine a_cons ?_ ?_
                                · exact s_int 
                                · refine a_cons ?_ ?_
                                  · exact s_int 
                                  · refine a_cons ?_ ?_
                                    · exact s_int 
                                    · exact a_nil 
                            · refine a_cons ?_ ?_
                              · refine s_tup ?_
                                refine a_cons ?_ ?_
                                · exact s_int 
                                · refine a_cons ?_ ?_
                                  · exact s_int 
                                  · refine a_cons ?_ ?_
                                    · exact s_int 
                                    · refine a_cons ?_ ?_
                                      · exact s_int 
                                      · exact a_nil 
                              · refine a_cons ?_ ?_
                                · refine s_tup ?_
                                  refine a_cons ?_ ?_
                                  · exact s_int 
                                  · refine a_cons ?_ ?_
                                    · exact s_int 
                                    · refine a_cons ?_ ?_
                                      · exact s_int 
                                      · refine a_cons ?_ ?_
                                        · exact s_int 
                                        · exact a_nil 
                                · exact a_nil 
                        · exact b_nil 
                      · refine b_one ?_
                        refine st_ret ?_
                        refine s_lst (mk := false) ?_
                        refine a_cons ?_ ?_
                        · refine s_tup ?_
                          refine a_cons ?_ ?_
                          · exact s_int 
                          · refine a_cons ?_ ?_
                            · exact s_int 
                            · refine a_cons ?_ ?_
                              · exact s_int 
                              · refine a_cons ?_ ?_
                                · exact s_int 
                                · exact a_nil 
                        · refine a_cons ?_ ?_
                          · refine s_tup ?_
                            refine a_cons ?_ ?_
                            · exact s_int 
                            · refine a_cons ?_ ?_
                              · exact s_int 
                              · refine a_cons ?_ ?_
                                · exact s_int 
                                · refine a_cons ?_ ?_
                                  · exact s_int 
                                  · exact a_nil 
                          · exact a_nil 
    )
theorem sc__law_conjugate : FnScope ["one", "two", "found", "at"] ["one", "two"] (defScope s__law_conjugate) := ⟨rfl, rfl, rfl, by decide +kernel, rfl, by decide +kernel, by decide +kernel⟩
theorem ok__law_conjugate (T : Txt w K mg)   {fd : FuncData} (F : FunD K "_law_conjugate" "_law_conjugate" (defArgs s__law_conjugate) (defBody s__law_conjugate) (defScope s__law_conjugate) [] [] (He.ga K "_law_conjugate") fd) : FnS P w K mg base 1 (He.ga K "_law_conjugate") ["one", "two"] M__law_conjugate :=
  fnS_of (rc := false) (N := ["one", "two", "found", "at"]) (ps := ["one", "two"]) (k := 0) (m := B__law_conjugate) F sc__law_conjugate (F.bindsN fun _ _ _ _ _ _ us hl => match us, hl with | [_, _], _ => rfl) (by
    refine b_cons ?_ ?_
    · refine st_set (i := 2) rfl (.inl rfl) ?_
      refine s_mul (mk := true) ?_ ?_
      · refine s_lst (mk := false) ?_
        refine a_cons ?_ ?_
        · exact s_int 
        · exact a_nil 
      · refine s_cb (cb_len) rfl T.b_len PySem.boot_len ?_
        refine a_cons ?_ ?_
        · exact s_var (i := 0) rfl (.inl rfl)
        · exact a_nil 
    · refine b_cons ?_ ?_
      · refine st_for (own := [3]) ?_ ?_ ?_
        · refine i_rng1 rfl T.b_range ?_
          refine a_cons ?_ ?_
          · refine s_cb (cb_len) rfl T.b_len PySem.boot_len ?_
            refine a_cons ?_ ?_
            · exact s_var (i := 0) rfl (.inl rfl)
            · exact a_nil 
          · exact a_nil 
        · exact g_name (i := 3) rfl (.inl rfl)
        · refine b_one ?_
          refine st_sub cset_list ?_ ?_ ?_
          · refine s_ix ?_ ?_
            · exact s_var (i := 1) rfl (.inl rfl)
            · refine s_ix ?_ ?_
              · exact s_var (i := 0) rfl (.inl rfl)
              · exact s_var (i := 3) rfl (.inl rfl)
          · exact s_var (i := 2) rfl (.inl rfl)
          · refine s_ix ?_ ?_
            · exact s_var (i := 1) rfl (.inl rfl)
            · exact s_var (i := 3) rfl (.inl rfl)
      · refine b_one ?_
        refine st_ret ?_
        refine s_cty (cb_tuple) rfl T.b_tuple PyProof.Rows.boot_tuple ?_
        refine a_cons ?_ ?_
        · exact s_var (i := 2) rfl (.inl rfl)
        · exact a_nil 
    )
theorem sc__law_conjugation : FnScope ["members", "found", "one", "row", "two", "image"] ["members"] (defScope s__law_conjugation) := ⟨rfl, rfl, rfl, by decide +kernel, rfl, by decide +kernel, by decide +kernel⟩
theorem ok__law_conjugation (T : Txt w K mg) (F__law_conjugate : FnS P w K mg base 1 (He.ga K "_law_conjugate") ["one", "two"] M__law_conjugate)  {fd : FuncData} (F : FunD K "_law_conjugation" "_law_conjugation" (defArgs s__law_conjugation) (defBody s__law_conjugation) (defScope s__law_conjugation) [] [] (He.ga K "_law_conjugation") fd) : FnS P w K mg base 2 (He.ga K "_law_conjugation") ["members"] M__law_conjugation :=
  fnS_of (rc := false) (N := ["members", "found", "one", "row", "two", "image"]) (ps := ["members"]) (k := 1) (m := B__law_conjugation) F sc__law_conjugation (F.bindsN fun _ _ _ _ _ _ us hl => match us, hl with | [_], _ => rfl) (by
    refine b_cons ?_ ?_
    · refine st_set (i := 1) rfl (.inl rfl) ?_
      refine s_lst (mk := true) ?_
      exact a_nil 
    · refine b_cons ?_ ?_
      · refine st_for (own := [2]) ?_ ?_ ?_
        · refine i_seq ?_
          exact s_var (i := 0) rfl (.inl rfl)
        · exact g_name (i := 2) rfl (.inl rfl)
        · refine b_cons ?_ ?_
          · refine st_set (i := 3) rfl (.inl rfl) ?_
            refine s_lst (mk := true) ?_
            exact a_nil 
          · refine b_cons ?_ ?_
            · refine st_for (own := [4]) ?_ ?_ ?_
              · refine i_seq ?_
                exact s_var (i := 0) rfl (.inl rfl)
              · exact g_name (i := 4) rfl (.inl rfl)
              · refine b_cons ?_ ?_
                · refine st_set (i := 5) rfl (.inl rfl) ?_
                  refine s_call F__law_conjugate (Nat.le_of_ble_eq_true rfl) rfl T.g__law_conjugate ?_
                  refine a_cons ?_ ?_
                  · exact s_var (i := 2) rfl (.inl rfl)
                  · refine a_cons ?_ ?_
                    · exact s_var (i := 4) rfl (.inl rfl)
                    · exact a_nil 
                · refine b_one ?_
                  refine st_ex ?_
                  refine s_m PySem.F.plainAttrs_list PySem.F.slot_list_append PySem.F.type_list_append m_append ?_ ?_
                  · exact s_var (i := 3) rfl (.inl rfl)
                  · refine a_cons ?_ ?_
                    · refine s_if ?_ ?_ ?_
                      · refine t_c c_in ?_ ?_
                        · exact s_var (i := 5) rfl (.inl rfl)
                        · exact s_var (i := 0) rfl (.inl rfl)
                      · refine s_m PySem.F.plainAttrs_list PySem.F.slot_list_index PySem.F.type_list_index m_index ?_ ?_
                        · exact s_var (i := 0) rfl (.inl rfl)
                        · refine a_cons ?_ ?_
                          · exact s_var (i := 5) rfl (.inl rfl)
                          · exact a_nil 
                      · refine s_neg ?_
                        exact s_int 
                    · exact a_nil 
            · refine b_one ?_
              refine st_ex ?_
              refine s_m PySem.F.plainAttrs_list PySem.F.slot_list_append PySem.F.type_list_append m_append ?_ ?_
              · exact s_var (i := 1) rfl (.inl rfl)
              · refine a_cons ?_ ?_
                · exact s_var (i := 3) rfl (.inl rfl)
                · exact a_nil 
      · refine b_one ?_
        refine st_ret ?_
        exact s_var (i := 1) rfl (.inl rfl)
    )
theorem sc__law_affine : FnScope ["size", "factor", "x", "y"] ["size", "factor"] (defScope s__law_affine) := ⟨rfl, rfl, rfl, by decide +kernel, rfl, by decide +kernel, by decide +kernel⟩
theorem ok__law_affine (T : Txt w K mg)   {fd : FuncData} (F : FunD K "_law_affine" "_law_affine" (defArgs s__law_affine) (defBody s__law_affine) (defScope s__law_affine) [] [] (He.ga K "_law_affine") fd) : FnS P w K mg base 1 (He.ga K "_law_affine") ["size", "factor"] M__law_affine :=
  fnS_of (rc := false) (N := ["size", "factor", "x", "y"]) (ps := ["size", "factor"]) (k := 0) (m := B__law_affine) F sc__law_affine (F.bindsN fun _ _ _ _ _ _ us hl => match us, hl with | [_, _], _ => rfl) (by
    refine b_one ?_
    refine st_ret ?_
    refine s_lc (mk := false) (own := [("x", 2)]) (gown := [2]) ?_ (by kernel_rfl) ?_ (by decide) ?_ ?_
    · refine i_rng1 rfl T.b_range ?_
      refine a_cons ?_ ?_
      · exact s_var (i := 0) rfl (.inr (.inl rfl))
      · exact a_nil 
    · exact g_name (i := 2) rfl (.inr rfl)
    · exact ts_nil 
    · refine s_lc (mk := false) (own := [("y", 3)]) (gown := [3]) ?_ (by kernel_rfl) ?_ (by decide) ?_ ?_
      · refine i_rng1 rfl T.b_range ?_
        refine a_cons ?_ ?_
        · exact s_var (i := 0) rfl (.inr (.inl rfl))
        · exact a_nil 
      · exact g_name (i := 3) rfl (.inl rfl)
      · exact ts_nil 
      · refine s_mod ?_ ?_
        · refine s_cty (cb_int) rfl T.b_int PyProof.Rows.boot_int ?_
          refine a_cons ?_ ?_
          · refine s_sub ?_ ?_
            · refine s_add (mk := false) ?_ ?_
              · refine s_mul (mk := false) ?_ ?_
                · exact s_var (i := 1) rfl (.inr (.inl rfl))
                · exact s_var (i := 2) rfl (.inr (.inl rfl))
              · exact s_var (i := 3) rfl (.inl rfl)
            · refine s_mul (mk := false) ?_ ?_
              · exact s_var (i := 1) rfl (.inr (.inl rfl))
              · exact s_var (i := 3) rfl (.inl rfl)
          · exact a_nil 
        · exact s_var (i := 0) rfl (.inr (.inl rfl))
    )
theorem sc__law_table : FnScope ["deck", "size", "way", "members", "x", "y"] ["deck"] (defScope s__law_table) := ⟨rfl, rfl, rfl, by decide +kernel, rfl, by decide +kernel, by decide +kernel⟩
theorem ok__law_table (T : Txt w K mg) (F__law_take : FnS P w K mg base 1 (He.ga K "_law_take") ["deck", "many"] M__law_take) (F__law_members : FnS P w K mg base 2 (He.ga K "_law_members") ["deck"] M__law_members) (F__law_conjugation : FnS P w K mg base 2 (He.ga K "_law_conjugation") ["members"] M__law_conjugation) (F__law_affine : FnS P w K mg base 1 (He.ga K "_law_affine") ["size", "factor"] M__law_affine)  {fd : FuncData} (F : FunD K "_law_table" "_law_table" (defArgs s__law_table) (defBody s__law_table) (defScope s__law_table) [] [] (He.ga K "_law_table") fd) : FnS P w K mg base 3 (He.ga K "_law_table") ["deck"] M__law_table :=
  fnS_of (rc := false) (N := ["deck", "size", "way", "members", "x", "y"]) (ps := ["deck"]) (k := 2) (m := B__law_table) F sc__law_table (F.bindsN fun _ _ _ _ _ _ us hl => match us, hl with | [_], _ => rfl) (by
    refine b_cons ?_ ?_
    · refine st_set (i := 1) rfl (.inr rfl) ?_
      refine s_add (mk := false) ?_ ?_
      · exact s_int 
      · refine s_call F__law_take (Nat.le_of_ble_eq_true rfl) rfl T.g__law_take ?_
        refine a_cons ?_ ?_
        · exact s_var (i := 0) rfl (.inl rfl)
        · refine a_cons ?_ ?_
          · exact s_int 
          · exact a_nil 
    · refine b_cons ?_ ?_
      · refine st_set (i := 2) rfl (.inl rfl) ?_
        refine s_call F__law_take (Nat.le_of_ble_eq_true rfl) rfl T.g__law_take ?_
        refine a_cons ?_ ?_
        · exact s_var (i := 0) rfl (.inl rfl)
        · refine a_cons ?_ ?_
          · exact s_int 
          · exact a_nil 
      · refine b_cons ?_ ?_
        · refine st_if ?_ ?_ ?_
          · refine t_c c_eq ?_ ?_
            · exact s_var (i := 2) rfl (.inl rfl)
            · exact s_int 
          · refine b_one ?_
            refine st_ret ?_
            refine s_lc (mk := false) (own := [("x", 4)]) (gown := [4]) ?_ (by kernel_rfl) ?_ (by decide) ?_ ?_
            · refine i_rng1 rfl T.b_range ?_
              refine a_cons ?_ ?_
              · exact s_var (i := 1) rfl (.inr (.inl rfl))
              · exact a_nil 
            · exact g_name (i := 4) rfl (.inr rfl)
            · exact ts_nil 
            · refine s_lc (mk := false) (own := [("y", 5)]) (gown := [5]) ?_ (by kernel_rfl) ?_ (by decide) ?_ ?_
              · refine i_rng1 rfl T.b_range ?_
                refine a_cons ?_ ?_
                · exact s_var (i := 1) rfl (.inr (.inl rfl))
                · exact a_nil 
              · exact g_name (i := 5) rfl (.inl rfl)
              · exact ts_nil 
              · exact s_var (i := 4) rfl (.inr (.inl rfl))
          · exact b_nil 
        · refine b_cons ?_ ?_
          · refine st_if ?_ ?_ ?_
            · refine t_c c_eq ?_ ?_
              · exact s_var (i := 2) rfl (.inl rfl)
              · exact s_int 
            · refine b_one ?_
              refine st_ret ?_
              refine s_lc (mk := false) (own := [("x", 4)]) (gown := [4]) ?_ (by kernel_rfl) ?_ (by decide) ?_ ?_
              · refine i_rng1 rfl T.b_range ?_
                refine a_cons ?_ ?_
                · exact s_var (i := 1) rfl (.inr (.inl rfl))
                · exact a_nil 
              · exact g_name (i := 4) rfl (.inr rfl)
              · exact ts_nil 
              · refine s_lc (mk := false) (own := [("y", 5)]) (gown := [5]) ?_ (by kernel_rfl) ?_ (by decide) ?_ ?_
                · refine i_rng1 rfl T.b_range ?_
                  refine a_cons ?_ ?_
                  · exact s_var (i := 1) rfl (.inr (.inl rfl))
                  · exact a_nil 
                · exact g_name (i := 5) rfl (.inl rfl)
                · exact ts_nil 
                · refine s_mod ?_ ?_
                  · refine s_cty (cb_int) rfl T.b_int PyProof.Rows.boot_int ?_
                    refine a_cons ?_ ?_
                    · refine s_add (mk := false) ?_ ?_
                      · exact s_var (i := 4) rfl (.inr (.inl rfl))
                      · exact s_int 
                    · exact a_nil 
                  · exact s_var (i := 1) rfl (.inr (.inl rfl))
            · exact b_nil 
          · refine b_cons ?_ ?_
            · refine st_if ?_ ?_ ?_
              · refine t_c c_eq ?_ ?_
                · exact s_var (i := 2) rfl (.inl rfl)
                · exact s_int 
              · refine b_one ?_
                refine st_ret ?_
                refine s_lc (mk := false) (own := [("x", 4)]) (gown := [4]) ?_ (by kernel_rfl) ?_ (by decide) ?_ ?_
                · refine i_rng1 rfl T.b_range ?_
                  refine a_cons ?_ ?_
                  · exact s_var (i := 1) rfl (.inr (.inl rfl))
                  · exact a_nil 
                · exact g_name (i := 4) rfl (.inl rfl)
                · exact ts_nil 
                · refine s_lc (mk := false) (own := [("y", 5)]) (gown := [5]) ?_ (by kernel_rfl) ?_ (by decide) ?_ ?_
                  · refine i_rng1 rfl T.b_range ?_
                    refine a_cons ?_ ?_
                    · exact s_var (i := 1) rfl (.inr (.inl rfl))
                    · exact a_nil 
                  · exact g_name (i := 5) rfl (.inl rfl)
                  · exact ts_nil 
                  · exact s_var (i := 5) rfl (.inl rfl)
              · exact b_nil 
            · refine b_cons ?_ ?_
              · refine st_if ?_ ?_ ?_
                · refine t_c c_eq ?_ ?_
                  · exact s_var (i := 2) rfl (.inl rfl)
                  · exact s_int 
                · refine b_cons ?_ ?_
                  · refine st_set (i := 3) rfl (.inl rfl) ?_
                    refine s_call F__law_members (Nat.le_of_ble_eq_true rfl) rfl T.g__law_members ?_
                    refine a_cons ?_ ?_
                    · exact s_var (i := 0) rfl (.inl rfl)
                    · exact a_nil 
                  · refine b_one ?_
                    refine st_ret ?_
                    refine s_if ?_ ?_ ?_
                    · refine t_c c_gt ?_ ?_
                      · refine s_cb (cb_len) rfl T.b_len PySem.boot_len ?_
                        refine a_cons ?_ ?_
                        · exact s_var (i := 3) rfl (.inl rfl)
                        · exact a_nil 
                      · exact s_int 
                    · refine s_call F__law_conjugation (Nat.le_of_ble_eq_true rfl) rfl T.g__law_conjugation ?_
                      refine a_cons ?_ ?_
                      · exact s_var (i := 3) rfl (.inl rfl)
                      · exact a_nil 
                    · refine s_lst (mk := false) ?_
                      refine a_cons ?_ ?_
                      · refine s_lst (mk := false) ?_
                        refine a_cons ?_ ?_
                        · exact s_int 
                        · exact a_nil 
                      · exact a_nil 
                · exact b_nil 
              · refine b_one ?_
                refine st_ret ?_
                refine s_call F__law_affine (Nat.le_of_ble_eq_true rfl) rfl T.g__law_affine ?_
                refine a_cons ?_ ?_
                · exact s_var (i := 1) rfl (.inr (.inl rfl))
                · refine a_cons ?_ ?_
                  · refine s_ix ?_ ?_
                    · refine s_lst (mk := false) ?_
                      refine a_cons ?_ ?_
                      · refine s_neg ?_
                        exact s_int 
                      · refine a_cons ?_ ?_
                        · exact s_int 
                        · refine a_cons ?_ ?_
                          · exact s_int 
                          · refine a_cons ?_ ?_
                            · refine s_neg ?_
                              exact s_int 
                            · refine a_cons ?_ ?_
                              · exact s_int 
                              · exact a_nil 
                    · refine s_call F__law_take (Nat.le_of_ble_eq_true rfl) rfl T.g__law_take ?_
                      refine a_cons ?_ ?_
                      · exact s_var (i := 0) rfl (.inl rfl)
                      · refine a_cons ?_ ?_
                        · exact s_int 
                        · exact a_nil 
                  · exact a_nil 
    )
theorem sc__law_bent : FnScope ["deck", "table", "found", "size", "way", "one", "two", "x", "other", "row"] ["deck", "table"] (defScope s__law_bent) := ⟨rfl, rfl, rfl, by decide +kernel, rfl, by decide +kernel, by decide +kernel⟩
theorem ok__law_bent (T : Txt w K mg) (F__law_take : FnS P w K mg base 1 (He.ga K "_law_take") ["deck", "many"] M__law_take)  {fd : FuncData} (F : FunD K "_law_bent" "_law_bent" (defArgs s__law_bent) (defBody s__law_bent) (defScope s__law_bent) [] [] (He.ga K "_law_bent") fd) : FnS P w K mg base 2 (He.ga K "_law_bent") ["deck", "table"] M__law_bent :=
  fnS_of (rc := false) (N := ["deck", "table", "found", "size", "way", "one", "two", "x", "other", "row"]) (ps := ["deck", "table"]) (k := 1) (m := B__law_bent) F sc__law_bent (F.bindsN fun _ _ _ _ _ _ us hl => match us, hl with | [_, _], _ => rfl) (by
    refine b_cons ?_ ?_
    · refine st_setLc (mk := true) (i := 2) (own := [("row", 9)]) (gown := [9]) rfl rfl rfl rfl (by decide +kernel) ?_ (by kernel_rfl) ?_ (by decide) ?_ ?_
      · refine i_seq ?_
        exact s_var (i := 1) rfl (.inl rfl)
      · exact g_name (i := 9) rfl (.inl rfl)
      · exact ts_nil 
      · refine s_cty (cb_list (mk := true)) rfl T.b_list PyProof.Rows.boot_list ?_
        refine a_cons ?_ ?_
        · exact s_var (i := 9) rfl (.inl rfl)
        · exact a_nil 
    · refine b_cons ?_ ?_
      · refine st_set (i := 3) rfl (.inl rfl) ?_
        refine s_cb (cb_len) rfl T.b_len PySem.boot_len ?_
        refine a_cons ?_ ?_
        · exact s_var (i := 2) rfl (.inl rfl)
        · exact a_nil 
      · refine b_cons ?_ ?_
        · refine st_set (i := 4) rfl (.inl rfl) ?_
          refine s_call F__law_take (Nat.le_of_ble_eq_true rfl) rfl T.g__law_take ?_
          refine a_cons ?_ ?_
          · exact s_var (i := 0) rfl (.inl rfl)
          · refine a_cons ?_ ?_
            · exact s_int 
            · exact a_nil 
        · refine b_cons ?_ ?_
          · refine st_set (i := 5) rfl (.inl rfl) ?_
            refine s_call F__law_take (Nat.le_of_ble_eq_true rfl) rfl T.g__law_take ?_
            refine a_cons ?_ ?_
            · exact s_var (i := 0) rfl (.inl rfl)
            · refine a_cons ?_ ?_
              · exact s_var (i := 3) rfl (.inl rfl)
              · exact a_nil 
          · refine b_cons ?_ ?_
            · refine st_set (i := 6) rfl (.inl rfl) ?_
              refine s_call F__law_take (Nat.le_of_ble_eq_true rfl) rfl T.g__law_take ?_
              refine a_cons ?_ ?_
              · exact s_var (i := 0) rfl (.inl rfl)
              · refine a_cons ?_ ?_
                · exact s_var (i := 3) rfl (.inl rfl)
                · exact a_nil 
            · refine b_cons ?_ ?_
              · refine st_if ?_ ?_ ?_
                · refine t_c c_eq ?_ ?_
                  · exact s_var (i := 4) rfl (.inl rfl)
                  · exact s_int 
                · refine b_one ?_
                  refine st_ret ?_
                  refine s_add (mk := false) ?_ ?_
                  · refine s_sl (mk := false) ?_ ?_ ?_
                    · exact s_var (i := 2) rfl (.inl rfl)
                    · exact o_none 
                    · refine o_some ?_
                      exact s_var (i := 5) rfl (.inl rfl)
                  · refine s_sl (mk := false) ?_ ?_ ?_
                    · exact s_var (i := 2) rfl (.inl rfl)
                    · refine o_some ?_
                      refine s_add (mk := false) ?_ ?_
                      · exact s_var (i := 5) rfl (.inl rfl)
                      · exact s_int 
                    · exact o_none 
                · exact b_nil 
              · refine b_cons ?_ ?_
                · refine st_if ?_ ?_ ?_
                  · refine t_c c_eq ?_ ?_
                    · exact s_var (i := 4) rfl (.inl rfl)
                    · exact s_int 
                  · refine b_one ?_
                    refine st_ex ?_
                    refine s_m PySem.F.plainAttrs_list PySem.F.slot_list_append PySem.F.type_list_append m_append ?_ ?_
                    · refine s_ix ?_ ?_
                      · exact s_var (i := 2) rfl (.inl rfl)
                      · exact s_var (i := 5) rfl (.inl rfl)
                    · refine a_cons ?_ ?_
                      · refine s_call F__law_take (Nat.le_of_ble_eq_true rfl) rfl T.g__law_take ?_
                        refine a_cons ?_ ?_
                        · exact s_var (i := 0) rfl (.inl rfl)
                        · refine a_cons ?_ ?_
                          · exact s_var (i := 3) rfl (.inl rfl)
                          · exact a_nil 
                      · exact a_nil 
                  · exact b_nil 
                · refine b_cons ?_ ?_
                  · refine st_if ?_ ?_ ?_
                    · refine t_c c_eq ?_ ?_
                      · exact s_var (i := 4) rfl (.inl rfl)
                      · exact s_int 
                    · refine b_one ?_
                      refine st_ex ?_
                      refine s_m0 PySem.F.plainAttrs_list PySem.F.slot_list_pop PySem.F.type_list_pop m_pop ?_
                      refine s_ix ?_ ?_
                      · exact s_var (i := 2) rfl (.inl rfl)
                      · exact s_var (i := 5) rfl (.inl rfl)
                    · exact b_nil 
                  · refine b_cons ?_ ?_
                    · refine st_if ?_ ?_ ?_
                      · refine t_c c_eq ?_ ?_
                        · exact s_var (i := 4) rfl (.inl rfl)
                        · exact s_int 
                      · refine b_one ?_
                        refine st_sub cset_list ?_ ?_ ?_
                        · refine s_ix ?_ ?_
                          · refine s_lst (mk := false) ?_
                            refine a_cons ?_ ?_
                            · exact s_var (i := 3) rfl (.inl rfl)
                            · refine a_cons ?_ ?_
                              · refine s_neg ?_
                                exact s_int 
                              · refine a_cons ?_ ?_
                                · refine s_add (mk := false) ?_ ?_
                                  · exact s_var (i := 3) rfl (.inl rfl)
                                  · exact s_int 
                                · exact a_nil 
                          · refine s_call F__law_take (Nat.le_of_ble_eq_true rfl) rfl T.g__law_take ?_
                            refine a_cons ?_ ?_
                            · exact s_var (i := 0) rfl (.inl rfl)
                            · refine a_cons ?_ ?_
                              · exact s_int 
                              · exact a_nil 
                        · refine s_ix ?_ ?_
                          · exact s_var (i := 2) rfl (.inl rfl)
                          · exact s_var (i := 5) rfl (.inl rfl)
                        · exact s_var (i := 6) rfl (.inl rfl)
                      · exact b_nil 
                    · refine b_cons ?_ ?_
                      · refine st_if ?_ ?_ ?_
                        · refine t_c c_eq ?_ ?_
                          · exact s_var (i := 4) rfl (.inl rfl)
                          · exact s_int 
                        · refine b_one ?_
                          refine st_for (own := [7]) ?_ ?_ ?_
                          · refine i_rng1 rfl T.b_range ?_
                            refine a_cons ?_ ?_
                            · exact s_var (i := 3) rfl (.inl rfl)
                            · exact a_nil 
                          · exact g_name (i := 7) rfl (.inl rfl)
                          · refine b_one ?_
                            refine st_sub cset_list ?_ ?_ ?_
                            · exact s_var (i := 7) rfl (.inl rfl)
                            · refine s_ix ?_ ?_
                              · exact s_var (i := 2) rfl (.inl rfl)
                              · exact s_var (i := 7) rfl (.inl rfl)
                            · exact s_var (i := 6) rfl (.inl rfl)
                        · exact b_nil 
                      · refine b_cons ?_ ?_
                        · refine st_if ?_ ?_ ?_
                          · refine t_c c_eq ?_ ?_
                            · exact s_var (i := 4) rfl (.inl rfl)
                            · exact s_int 
                          · refine b_one ?_
                            refine st_sub cset_list ?_ ?_ ?_
                            · refine s_call F__law_take (Nat.le_of_ble_eq_true rfl) rfl T.g__law_take ?_
                              refine a_cons ?_ ?_
                              · exact s_var (i := 0) rfl (.inl rfl)
                              · refine a_cons ?_ ?_
                                · exact s_var (i := 3) rfl (.inl rfl)
                                · exact a_nil 
                            · refine s_ix ?_ ?_
                              · exact s_var (i := 2) rfl (.inl rfl)
                              · exact s_var (i := 5) rfl (.inl rfl)
                            · exact s_var (i := 6) rfl (.inl rfl)
                          · exact b_nil 
                        · refine b_cons ?_ ?_
                          · refine st_if ?_ ?_ ?_
                            · refine t_c c_eq ?_ ?_
                              · exact s_var (i := 4) rfl (.inl rfl)
                              · exact s_int 
                            · refine b_cons ?_ ?_
                              · refine st_set (i := 8) rfl (.inl rfl) ?_
                                refine s_call F__law_take (Nat.le_of_ble_eq_true rfl) rfl T.g__law_take ?_
                                refine a_cons ?_ ?_
                                · exact s_var (i := 0) rfl (.inl rfl)
                                · refine a_cons ?_ ?_
                                  · exact s_var (i := 3) rfl (.inl rfl)
                                  · exact a_nil 
                              · refine b_one ?_
                                refine st_sub2 cset_list ?_ ?_ ?_ ?_ ?_
                                · refine a_cons ?_ ?_
                                  · refine s_ix ?_ ?_
                                    · refine s_ix ?_ ?_
                                      · exact s_var (i := 2) rfl (.inl rfl)
                                      · exact s_var (i := 8) rfl (.inl rfl)
                                    · exact s_var (i := 6) rfl (.inl rfl)
                                  · refine a_cons ?_ ?_
                                    · refine s_ix ?_ ?_
                                      · refine s_ix ?_ ?_
                                        · exact s_var (i := 2) rfl (.inl rfl)
                                        · exact s_var (i := 5) rfl (.inl rfl)
                                      · exact s_var (i := 6) rfl (.inl rfl)
                                    · exact a_nil 
                                · refine s_ix ?_ ?_
                                  · exact s_var (i := 2) rfl (.inl rfl)
                                  · exact s_var (i := 5) rfl (.inl rfl)
                                · exact s_var (i := 6) rfl (.inl rfl)
                                · refine s_ix ?_ ?_
                                  · exact s_var (i := 2) rfl (.inl rfl)
                                  · exact s_var (i := 8) rfl (.inl rfl)
                                · exact s_var (i := 6) rfl (.inl rfl)
                            · exact b_nil 
                          · refine b_one ?_
                            refine st_ret ?_
                            exact s_var (i := 2) rfl (.inl rfl)
    )
theorem sc_check_table : FnScope ["table", "size", "y", "x", "z", "row", "entry"] ["table"] (defScope s_check_table) := ⟨rfl, rfl, rfl, by decide +kernel, rfl, by decide +kernel, by decide +kernel⟩
theorem ok_check_table (T : Txt w K mg)  (X_InvalidMatrix : KExc P w K mg base (He.ga K "InvalidMatrix")) {fd : FuncData} (F : FunD K "check_table" "check_table" (defArgs s_check_table) (defBody s_check_table) (defScope s_check_table) [] [] (He.ga K "check_table") fd) : FnS P w K mg base 3 (He.ga K "check_table") ["table"] M_check_table :=
  fnS_of (rc := false) (N := ["table", "size", "y", "x", "z", "row", "entry"]) (ps := ["table"]) (k := 2) (m := B_check_table) F sc_check_table (F.bindsN fun _ _ _ _ _ _ us hl => match us, hl with | [_], _ => rfl) (by
    refine b_cons ?_ ?_
    · refine st_set (i := 1) rfl (.inr rfl) ?_
      refine s_cty cb_range1 rfl T.b_range PyProof.Rows.boot_range ?_
      refine a_cons ?_ ?_
      · refine s_cb (cb_len) rfl T.b_len PySem.boot_len ?_
        refine a_cons ?_ ?_
        · exact s_var (i := 0) rfl (.inr (.inl rfl))
        · exact a_nil 
      · exact a_nil 
    · refine b_cons ?_ ?_
      · refine st_if ?_ ?_ ?_
        · refine t_w ?_
          refine w_or ?_ ?_
          · refine t_c c_eq ?_ ?_
            · refine s_cb (cb_len) rfl T.b_len PySem.boot_len ?_
              refine a_cons ?_ ?_
              · exact s_var (i := 0) rfl (.inr (.inl rfl))
              · exact a_nil 
            · exact s_int 
          · refine w_or1 ?_
            refine t_tru ?_
            refine s_cb (cb_any) rfl T.b_any PyProof.Rows.boot_any ?_
            refine a_cons ?_ ?_
            · refine s_lc (mk := false) (own := [("row", 5)]) (gown := [5]) ?_ (by kernel_rfl) ?_ (by decide) ?_ ?_
              · refine i_seq ?_
                exact s_var (i := 0) rfl (.inr (.inl rfl))
              · exact g_name (i := 5) rfl (.inl rfl)
              · exact ts_nil 
              · refine s_c c_ne ?_ ?_
                · refine s_cb (cb_len) rfl T.b_len PySem.boot_len ?_
                  refine a_cons ?_ ?_
                  · exact s_var (i := 5) rfl (.inl rfl)
                  · exact a_nil 
                · refine s_cb (cb_len) rfl T.b_len PySem.boot_len ?_
                  refine a_cons ?_ ?_
                  · exact s_var (i := 0) rfl (.inr (.inl rfl))
                  · exact a_nil 
            · exact a_nil 
        · refine b_one ?_
          refine st_raise ?_
          refine mk_what X_InvalidMatrix rfl T.g_InvalidMatrix ?_ (Nat.le_of_ble_eq_true rfl)
          exact s_str 
        · exact b_nil 
      · refine b_cons ?_ ?_
        · refine st_if ?_ ?_ ?_
          · refine t_tru ?_
            refine s_cb (cb_any) rfl T.b_any PyProof.Rows.boot_any ?_
            refine a_cons ?_ ?_
            · refine s_lc2 (mk := false) (own := [("row", 5), ("entry", 6)]) (own1 := [6]) (gown := [5]) (gown1 := [6]) ?_ (by kernel_rfl) (by decide) ?_ (by decide) ?_ ?_ ?_ (by decide) ?_ ?_
              · refine i_seq ?_
                exact s_var (i := 0) rfl (.inr (.inl rfl))
              · exact g_name (i := 5) rfl (.inl rfl)
              · exact ts_nil 
              · refine i_seq ?_
                exact s_var (i := 5) rfl (.inl rfl)
              · exact g_name (i := 6) rfl (.inl rfl)
              · exact ts_nil 
              · refine s_c c_notIn ?_ ?_
                · exact s_var (i := 6) rfl (.inl rfl)
                · exact s_var (i := 1) rfl (.inr (.inl rfl))
            · exact a_nil 
          · refine b_one ?_
            refine st_raise ?_
            refine mk_what X_InvalidMatrix rfl T.g_InvalidMatrix ?_ (Nat.le_of_ble_eq_true rfl)
            exact s_str 
          · exact b_nil 
        · refine b_cons ?_ ?_
          · refine st_if ?_ ?_ ?_
            · refine t_tru ?_
              refine s_cb (cb_any) rfl T.b_any PyProof.Rows.boot_any ?_
              refine a_cons ?_ ?_
              · refine s_lc (mk := false) (own := [("x", 3)]) (gown := [3]) ?_ (by kernel_rfl) ?_ (by decide) ?_ ?_
                · refine i_rngV ?_
                  exact s_var (i := 1) rfl (.inr (.inl rfl))
                · exact g_name (i := 3) rfl (.inl rfl)
                · exact ts_nil 
                · refine s_c c_ne ?_ ?_
                  · refine s_ix ?_ ?_
                    · refine s_ix ?_ ?_
                      · exact s_var (i := 0) rfl (.inr (.inl rfl))
                      · exact s_var (i := 3) rfl (.inl rfl)
                    · exact s_var (i := 3) rfl (.inl rfl)
                  · exact s_var (i := 3) rfl (.inl rfl)
              · exact a_nil 
            · refine b_one ?_
              refine st_raise ?_
              refine mk_what X_InvalidMatrix rfl T.g_InvalidMatrix ?_ (Nat.le_of_ble_eq_true rfl)
              exact s_str 
            · exact b_nil 
          · refine b_cons ?_ ?_
            · refine st_for (own := [2]) ?_ ?_ ?_
              · refine i_rngV ?_
                exact s_var (i := 1) rfl (.inr (.inl rfl))
              · exact g_name (i := 2) rfl (.inr rfl)
              · refine b_one ?_
                refine st_if ?_ ?_ ?_
                · refine t_c c_ne ?_ ?_
                  · refine s_cb (cb_sorted (mk := false)) rfl T.b_sorted PyProof.Rows.boot_sorted ?_
                    refine a_cons ?_ ?_
                    · refine s_lc (mk := false) (own := [("x", 3)]) (gown := [3]) ?_ (by kernel_rfl) ?_ (by decide) ?_ ?_
                      · refine i_rngV ?_
                        exact s_var (i := 1) rfl (.inr (.inl rfl))
                      · exact g_name (i := 3) rfl (.inl rfl)
                      · exact ts_nil 
                      · refine s_ix ?_ ?_
                        · refine s_ix ?_ ?_
                          · exact s_var (i := 0) rfl (.inr (.inl rfl))
                          · exact s_var (i := 3) rfl (.inl rfl)
                        · exact s_var (i := 2) rfl (.inr (.inl rfl))
                    · exact a_nil 
                  · refine s_listRg (mk := false) rfl T.b_list ?_
                    refine r_val ?_
                    exact s_var (i := 1) rfl (.inr (.inl rfl))
                · refine b_one ?_
                  refine st_raise ?_
                  refine mk_what X_InvalidMatrix rfl T.g_InvalidMatrix ?_ (Nat.le_of_ble_eq_true rfl)
                  exact s_str 
                · exact b_nil 
            · refine b_one ?_
              refine st_for (own := [3]) ?_ ?_ ?_
              · refine i_rngV ?_
                exact s_var (i := 1) rfl (.inr (.inl rfl))
              · exact g_name (i := 3) rfl (.inl rfl)
              · refine b_one ?_
                refine st_for (own := [2]) ?_ ?_ ?_
                · refine i_rngV ?_
                  exact s_var (i := 1) rfl (.inr (.inl rfl))
                · exact g_name (i := 2) rfl (.inr rfl)
                · refine b_one ?_
                  refine st_for (own := [4]) ?_ ?_ ?_
                  · refine i_rngV ?_
                    exact s_var (i := 1) rfl (.inr (.inl rfl))
                  · exact g_name (i := 4) rfl (.inl rfl)
                  · refine b_one ?_
                    refine st_if ?_ ?_ ?_
                    · refine t_c c_ne ?_ ?_
                      · refine s_ix ?_ ?_
                        · refine s_ix ?_ ?_
                          · exact s_var (i := 0) rfl (.inr (.inl rfl))
                          · refine s_ix ?_ ?_
                            · refine s_ix ?_ ?_
                              · exact s_var (i := 0) rfl (.inr (.inl rfl))
                              · exact s_var (i := 3) rfl (.inl rfl)
                            · exact s_var (i := 2) rfl (.inr (.inl rfl))
                        · exact s_var (i := 4) rfl (.inl rfl)
                      · refine s_ix ?_ ?_
                        · refine s_ix ?_ ?_
                          · exact s_var (i := 0) rfl (.inr (.inl rfl))
                          · refine s_ix ?_ ?_
                            · refine s_ix ?_ ?_
                              · exact s_var (i := 0) rfl (.inr (.inl rfl))
                              · exact s_var (i := 3) rfl (.inl rfl)
                            · exact s_var (i := 4) rfl (.inl rfl)
                        · refine s_ix ?_ ?_
                          · refine s_ix ?_ ?_
                            · exact s_var (i := 0) rfl (.inr (.inl rfl))
                            · exact s_var (i := 2) rfl (.inr (.inl rfl))
                          · exact s_var (i := 4) rfl (.inl rfl)
                    · refine b_one ?_
                      refine st_raise ?_
                      refine mk_what X_InvalidMatrix rfl T.g_InvalidMatrix ?_ (Nat.le_of_ble_eq_true rfl)
                      exact s_str 
                    · exact b_nil 
    )
theorem sc_Quandle___init__ : FnScope ["self", "table", "row"] ["self", "table"] (defScope s_Quandle___init__) := ⟨rfl, rfl, rfl, by decide +kernel, rfl, by decide +kernel, by decide +kernel⟩
theorem ok_Quandle___init__ (T : Txt w K mg) (F_check_table : FnS P w K mg base 3 (He.ga K "check_table") ["table"] M_check_table)  {fd : FuncData} (F : FunD K "__init__" "Quandle.__init__" (defArgs s_Quandle___init__) (defBody s_Quandle___init__) (defScope s_Quandle___init__) [] [] (He.ma K (He.ga K "Quandle") "__init__") fd) : FnS P w K mg base 4 (He.ma K (He.ga K "Quandle") "__init__") ["self", "table"] M_Quandle___init__ :=
  fnS_of (rc := false) (N := ["self", "table", "row"]) (ps := ["self", "table"]) (k := 3) (m := B_Quandle___init__) F sc_Quandle___init__ (F.bindsN fun _ _ _ _ _ _ us hl => match us, hl with | [_, _], _ => rfl) (by
    refine b_cons ?_ ?_
    · refine st_ex ?_
      refine s_call F_check_table (Nat.le_of_ble_eq_true rfl) rfl T.g_check_table ?_
      refine a_cons ?_ ?_
      · exact s_var (i := 1) rfl (.inl rfl)
      · exact a_nil 
    · refine b_one ?_
      refine st_fldA ["Quandle"] ?_ ?_ T.fl_table
      · refine s_lc (mk := false) (own := [("row", 2)]) (gown := [2]) ?_ (by kernel_rfl) ?_ (by decide) ?_ ?_
        · refine i_seq ?_
          exact s_var (i := 1) rfl (.inl rfl)
        · exact g_name (i := 2) rfl (.inl rfl)
        · exact ts_nil 
        · refine s_cty (cb_list (mk := false)) rfl T.b_list PyProof.Rows.boot_list ?_
          refine a_cons ?_ ?_
          · exact s_var (i := 2) rfl (.inl rfl)
          · exact a_nil 
      · exact s_var (i := 0) rfl (.inl rfl)
    )
theorem sc_affine : FnScope ["size", "factor", "x", "y"] ["size", "factor"] (defScope s_affine) := ⟨rfl, rfl, rfl, by decide +kernel, rfl, by decide +kernel, by decide +kernel⟩
theorem ok_affine (T : Txt w K mg) (F_Quandle___init__ : FnS P w K mg base 4 (He.ma K (He.ga K "Quandle") "__init__") ["self", "table"] M_Quandle___init__)  {fd : FuncData} (F : FunD K "affine" "affine" (defArgs s_affine) (defBody s_affine) (defScope s_affine) [] [] (He.ga K "affine") fd) : FnS P w K mg base 6 (He.ga K "affine") ["size", "factor"] M_affine :=
  fnS_of (rc := false) (N := ["size", "factor", "x", "y"]) (ps := ["size", "factor"]) (k := 5) (m := B_affine) F sc_affine (F.bindsN fun _ _ _ _ _ _ us hl => match us, hl with | [_, _], _ => rfl) (by
    refine b_one ?_
    refine st_ret ?_
    refine s_make F_Quandle___init__ (Nat.le_of_ble_eq_true rfl) T.mk_Quandle rfl T.g_Quandle ?_
    refine a_cons ?_ ?_
    · refine s_lc (mk := false) (own := [("x", 2)]) (gown := [2]) ?_ (by kernel_rfl) ?_ (by decide) ?_ ?_
      · refine i_rng1 rfl T.b_range ?_
        refine a_cons ?_ ?_
        · exact s_var (i := 0) rfl (.inr (.inl rfl))
        · exact a_nil 
      · exact g_name (i := 2) rfl (.inr rfl)
      · exact ts_nil 
      · refine s_lc (mk := false) (own := [("y", 3)]) (gown := [3]) ?_ (by kernel_rfl) ?_ (by decide) ?_ ?_
        · refine i_rng1 rfl T.b_range ?_
          refine a_cons ?_ ?_
          · exact s_var (i := 0) rfl (.inr (.inl rfl))
          · exact a_nil 
        · exact g_name (i := 3) rfl (.inl rfl)
        · exact ts_nil 
        · refine s_mod ?_ ?_
          · refine s_add (mk := false) ?_ ?_
            · refine s_mul (mk := false) ?_ ?_
              · exact s_var (i := 1) rfl (.inr (.inl rfl))
              · exact s_var (i := 2) rfl (.inr (.inl rfl))
            · refine s_mul (mk := false) ?_ ?_
              · refine s_sub ?_ ?_
                · exact s_int 
                · exact s_var (i := 1) rfl (.inr (.inl rfl))
              · exact s_var (i := 3) rfl (.inl rfl)
          · exact s_var (i := 0) rfl (.inr (.inl rfl))
    · exact a_nil 
    )
theorem sc_dihedral : FnScope ["size", "x", "y"] ["size"] (defScope s_dihedral) := ⟨rfl, rfl, rfl, by decide +kernel, rfl, by decide +kernel, by decide +kernel⟩
theorem ok_dihedral (T : Txt w K mg) (F_Quandle___init__ : FnS P w K mg base 4 (He.ma K (He.ga K "Quandle") "__init__") ["self", "table"] M_Quandle___init__)  {fd : FuncData} (F : FunD K "dihedral" "dihedral" (defArgs s_dihedral) (defBody s_dihedral) (defScope s_dihedral) [] [] (He.ga K "dihedral") fd) : FnS P w K mg base 6 (He.ga K "dihedral") ["size"] M_dihedral :=
  fnS_of (rc := false) (N := ["size", "x", "y"]) (ps := ["size"]) (k := 5) (m := B_dihedral) F sc_dihedral (F.bindsN fun _ _ _ _ _ _ us hl => match us, hl with | [_], _ => rfl) (by
    refine b_one ?_
    refine st_ret ?_
    refine s_make F_Quandle___init__ (Nat.le_of_ble_eq_true rfl) T.mk_Quandle rfl T.g_Quandle ?_
    refine a_cons ?_ ?_
    · refine s_lc (mk := false) (own := [("x", 1)]) (gown := [1]) ?_ (by kernel_rfl) ?_ (by decide) ?_ ?_
      · refine i_rng1 rfl T.b_range ?_
        refine a_cons ?_ ?_
        · exact s_var (i := 0) rfl (.inr (.inl rfl))
        · exact a_nil 
      · exact g_name (i := 1) rfl (.inr rfl)
      · exact ts_nil 
      · refine s_lc (mk := false) (own := [("y", 2)]) (gown := [2]) ?_ (by kernel_rfl) ?_ (by decide) ?_ ?_
        · refine i_rng1 rfl T.b_range ?_
          refine a_cons ?_ ?_
          · exact s_var (i := 0) rfl (.inr (.inl rfl))
          · exact a_nil 
        · exact g_name (i := 2) rfl (.inl rfl)
        · exact ts_nil 
        · refine s_mod ?_ ?_
          · refine s_sub ?_ ?_
            · refine s_mul (mk := false) ?_ ?_
              · exact s_int 
              · exact s_var (i := 2) rfl (.inl rfl)
            · exact s_var (i := 1) rfl (.inr (.inl rfl))
          · exact s_var (i := 0) rfl (.inr (.inl rfl))
    · exact a_nil 
    )
theorem sc_conjugate : FnScope ["first", "second", "found", "at"] ["first", "second"] (defScope s_conjugate) := ⟨rfl, rfl, rfl, by decide +kernel, rfl, by decide +kernel, by decide +kernel⟩
theorem ok_conjugate (T : Txt w K mg)   {fd : FuncData} (F : FunD K "conjugate" "conjugate" (defArgs s_conjugate) (defBody s_conjugate) (defScope s_conjugate) [] [] (He.ga K "conjugate") fd) : FnS P w K mg base 1 (He.ga K "conjugate") ["first", "second"] M_conjugate :=
  fnS_of (rc := false) (N := ["first", "second", "found", "at"]) (ps := ["first", "second"]) (k := 0) (m := B_conjugate) F sc_conjugate (F.bindsN fun _ _ _ _ _ _ us hl => match us, hl with | [_, _], _ => rfl) (by
    refine b_cons ?_ ?_
    · refine st_set (i := 2) rfl (.inl rfl) ?_
      refine s_cty (cb_list (mk := true)) rfl T.b_list PyProof.Rows.boot_list ?_
      refine a_cons ?_ ?_
      · exact s_var (i := 0) rfl (.inl rfl)
      · exact a_nil 
    · refine b_cons ?_ ?_
      · refine st_for (own := [3]) ?_ ?_ ?_
        · refine i_rng1 rfl T.b_range ?_
          refine a_cons ?_ ?_
          · refine s_cb (cb_len) rfl T.b_len PySem.boot_len ?_
            refine a_cons ?_ ?_
            · exact s_var (i := 0) rfl (.inl rfl)
            · exact a_nil 
          · exact a_nil 
        · exact g_name (i := 3) rfl (.inl rfl)
        · refine b_one ?_
          refine st_sub cset_list ?_ ?_ ?_
          · refine s_ix ?_ ?_
            · exact s_var (i := 1) rfl (.inl rfl)
            · refine s_ix ?_ ?_
              · exact s_var (i := 0) rfl (.inl rfl)
              · exact s_var (i := 3) rfl (.inl rfl)
          · exact s_var (i := 2) rfl (.inl rfl)
          · refine s_ix ?_ ?_
            · exact s_var (i := 1) rfl (.inl rfl)
            · exact s_var (i := 3) rfl (.inl rfl)
      · refine b_one ?_
        refine st_ret ?_
        refine s_cty (cb_tuple) rfl T.b_tuple PyProof.Rows.boot_tuple ?_
        refine a_cons ?_ ?_
        · exact s_var (i := 2) rfl (.inl rfl)
        · exact a_nil 
    )
theorem sc_conjugation : FnScope ["permutations", "places", "at", "one", "x", "y"] ["permutations"] (defScope s_conjugation) := ⟨rfl, rfl, rfl, by decide +kernel, rfl, by decide +kernel, by decide +kernel⟩
theorem ok_conjugation (T : Txt w K mg) (F_conjugate : FnS P w K mg base 1 (He.ga K "conjugate") ["first", "second"] M_conjugate) (F_Quandle___init__ : FnS P w K mg base 4 (He.ma K (He.ga K "Quandle") "__init__") ["self", "table"] M_Quandle___init__)  {fd : FuncData} (F : FunD K "conjugation" "conjugation" (defArgs s_conjugation) (defBody s_conjugation) (defScope s_conjugation) [] [] (He.ga K "conjugation") fd) : FnS P w K mg base 6 (He.ga K "conjugation") ["permutations"] M_conjugation :=
  fnS_of (rc := false) (N := ["permutations", "places", "at", "one", "x", "y"]) (ps := ["permutations"]) (k := 5) (m := B_conjugation) F sc_conjugation (F.bindsN fun _ _ _ _ _ _ us hl => match us, hl with | [_], _ => rfl) (by
    refine b_cons ?_ ?_
    · refine st_set (i := 1) rfl (.inr rfl) ?_
      exact s_newT 
    · refine b_cons ?_ ?_
      · refine st_for (own := [2, 3]) ?_ ?_ ?_
        · refine i_enum rfl T.b_enumerate ?_
          refine a_cons ?_ ?_
          · exact s_var (i := 0) rfl (.inr (.inl rfl))
          · exact a_nil 
        · refine g_tup ?_
          refine gs_cons (own := [2]) (own' := [3]) ?_ ?_
          · exact g_name (i := 2) rfl (.inl rfl)
          · refine gs_cons (own := [3]) (own' := []) ?_ ?_
            · exact g_name (i := 3) rfl (.inl rfl)
            · exact gs_nil 
        · refine b_one ?_
          refine st_sub cset_dict ?_ ?_ ?_
          · exact s_var (i := 2) rfl (.inl rfl)
          · exact s_var (i := 1) rfl (.inr (.inl rfl))
          · refine s_cty (cb_tuple) rfl T.b_tuple PyProof.Rows.boot_tuple ?_
            refine a_cons ?_ ?_
            · exact s_var (i := 3) rfl (.inl rfl)
            · exact a_nil 
      · refine b_one ?_
        refine st_ret ?_
        refine s_make F_Quandle___init__ (Nat.le_of_ble_eq_true rfl) T.mk_Quandle rfl T.g_Quandle ?_
        refine a_cons ?_ ?_
        · refine s_lc (mk := false) (own := [("x", 4)]) (gown := [4]) ?_ (by kernel_rfl) ?_ (by decide) ?_ ?_
          · refine i_seq ?_
            exact s_var (i := 0) rfl (.inr (.inl rfl))
          · exact g_name (i := 4) rfl (.inr rfl)
          · exact ts_nil 
          · refine s_lc (mk := false) (own := [("y", 5)]) (gown := [5]) ?_ (by kernel_rfl) ?_ (by decide) ?_ ?_
            · refine i_seq ?_
              exact s_var (i := 0) rfl (.inr (.inl rfl))
            · exact g_name (i := 5) rfl (.inl rfl)
            · exact ts_nil 
            · refine s_getD ?_ ?_ ?_
              · exact s_var (i := 1) rfl (.inr (.inl rfl))
              · refine s_call F_conjugate (Nat.le_of_ble_eq_true rfl) rfl T.g_conjugate ?_
                refine a_cons ?_ ?_
                · exact s_var (i := 4) rfl (.inr (.inl rfl))
                · refine a_cons ?_ ?_
                  · exact s_var (i := 5) rfl (.inl rfl)
                  · exact a_nil 
              · refine s_neg ?_
                exact s_int 
        · exact a_nil 
    )
theorem sc__law_why : FnScope ["made", "ask", "error", "told"] ["made", "ask"] (defScope s__law_why) := ⟨rfl, rfl, rfl, by decide +kernel, rfl, by decide +kernel, by decide +kernel⟩
theorem ok__law_why (T : Txt w K mg) (F_Quandle___init__ : FnS P w K mg base 4 (He.ma K (He.ga K "Quandle") "__init__") ["self", "table"] M_Quandle___init__) (F_affine : FnS P w K mg base 6 (He.ga K "affine") ["size", "factor"] M_affine) (F_dihedral : FnS P w K mg base 6 (He.ga K "dihedral") ["size"] M_dihedral) (F_conjugation : FnS P w K mg base 6 (He.ga K "conjugation") ["permutations"] M_conjugation)  {fd : FuncData} (F : FunD K "_law_why" "_law_why" (defArgs s__law_why) (defBody s__law_why) (defScope s__law_why) [] [] (He.ga K "_law_why") fd) : FnS P w K mg base 7 (He.ga K "_law_why") ["made", "ask"] M__law_why :=
  fnS_of (rc := false) (N := ["made", "ask", "error", "told"]) (ps := ["made", "ask"]) (k := 6) (m := B__law_why) F sc__law_why (F.bindsN fun _ _ _ _ _ _ us hl => match us, hl with | [_, _], _ => rfl) (by
    refine b_cons ?_ ?_
    · refine st_tryAs (i := 2) (tbl := [("InvalidMatrix", true)]) rfl rfl rfl T.g_KnotError (by decide) T.xm_KnotError ?_ ?_
      · refine b_one ?_
        refine st_if ?_ ?_ ?_
        · refine t_c c_eq ?_ ?_
          · exact s_var (i := 1) rfl (.inl rfl)
          · exact s_int 
        · refine b_one ?_
          refine st_set (i := 3) rfl (.inl rfl) ?_
          refine s_make F_Quandle___init__ (Nat.le_of_ble_eq_true rfl) T.mk_Quandle rfl T.g_Quandle ?_
          refine a_cons ?_ ?_
          · exact s_var (i := 0) rfl (.inl rfl)
          · exact a_nil 
        · refine b_one ?_
          refine st_if ?_ ?_ ?_
          · refine t_c c_eq ?_ ?_
            · exact s_var (i := 1) rfl (.inl rfl)
            · exact s_int 
          · refine b_one ?_
            refine st_set (i := 3) rfl (.inl rfl) ?_
            refine s_call F_affine (Nat.le_of_ble_eq_true rfl) rfl T.g_affine ?_
            refine a_cons ?_ ?_
            · refine s_ix ?_ ?_
              · exact s_var (i := 0) rfl (.inl rfl)
              · exact s_int 
            · refine a_cons ?_ ?_
              · refine s_ix ?_ ?_
                · exact s_var (i := 0) rfl (.inl rfl)
                · exact s_int 
              · exact a_nil 
          · refine b_one ?_
            refine st_if ?_ ?_ ?_
            · refine t_c c_eq ?_ ?_
              · exact s_var (i := 1) rfl (.inl rfl)
              · exact s_int 
            · refine b_one ?_
              refine st_set (i := 3) rfl (.inl rfl) ?_
              refine s_call F_dihedral (Nat.le_of_ble_eq_true rfl) rfl T.g_dihedral ?_
              refine a_cons ?_ ?_
              · exact s_var (i := 0) rfl (.inl rfl)
              · exact a_nil 
            · refine b_one ?_
              refine st_set (i := 3) rfl (.inl rfl) ?_
              refine s_call F_conjugation (Nat.le_of_ble_eq_true rfl) rfl T.g_conjugation ?_
              refine a_cons ?_ ?_
              · exact s_var (i := 0) rfl (.inl rfl)
              · exact a_nil 
      · intro a c d
        refine b_cons ?_ ?_
        · refine st_if ?_ ?_ ?_
          · refine t_w ?_
            refine w_and ?_ ?_
            · refine t_tru ?_
              refine s_isX [("InvalidMatrix", true)] T.ix_InvalidMatrix rfl T.b_isinstance ?_
              refine a_cons ?_ ?_
              · exact s_var (i := 2) rfl (.inl rfl)
              · refine a_cons ?_ ?_
                · exact s_glo rfl T.g_InvalidMatrix
                · exact a_nil 
            · refine w_and1 ?_
              refine t_not ?_
              refine t_tru ?_
              refine s_isX [("InvalidMatrix", false)] T.ix_InvalidDivision rfl T.b_isinstance ?_
              refine a_cons ?_ ?_
              · exact s_var (i := 2) rfl (.inl rfl)
              · refine a_cons ?_ ?_
                · exact s_glo rfl T.g_InvalidDivision
                · exact a_nil 
          · refine b_one ?_
            refine st_ret ?_
            refine s_xf ["InvalidMatrix"] ?_ T.xf
            exact s_var (i := 2) rfl (.inl rfl)
          · exact b_nil 
        · refine b_one ?_
          refine st_ret ?_
          exact s_str 
    · refine b_one ?_
      refine st_ret ?_
      exact s_var (i := 3) rfl (.inl rfl)
    )
theorem sc__law_due : FnScope ["table", "size", "row", "y", "x", "z", "entry"] ["table"] (defScope s__law_due) := ⟨rfl, rfl, rfl, by decide +kernel, rfl, by decide +kernel, by decide +kernel⟩
theorem ok__law_due (T : Txt w K mg)   {fd : FuncData} (F : FunD K "_law_due" "_law_due" (defArgs s__law_due) (defBody s__law_due) (defScope s__law_due) [] [] (He.ga K "_law_due") fd) : FnS P w K mg base 1 (He.ga K "_law_due") ["table"] M__law_due :=
  fnS_of (rc := false) (N := ["table", "size", "row", "y", "x", "z", "entry"]) (ps := ["table"]) (k := 0) (m := B__law_due) F sc__law_due (F.bindsN fun _ _ _ _ _ _ us hl => match us, hl with | [_], _ => rfl) (by
    refine b_cons ?_ ?_
    · refine st_set (i := 1) rfl (.inl rfl) ?_
      refine s_listRg (mk := false) rfl T.b_list ?_
      refine r_1 rfl T.b_range ?_
      refine s_cb (cb_len) rfl T.b_len PySem.boot_len ?_
      refine a_cons ?_ ?_
      · exact s_var (i := 0) rfl (.inr (.inl rfl))
      · exact a_nil 
    · refine b_cons ?_ ?_
      · refine st_if ?_ ?_ ?_
        · refine t_w ?_
          refine w_or ?_ ?_
          · refine t_c c_eq ?_ ?_
            · refine s_cb (cb_len) rfl T.b_len PySem.boot_len ?_
              refine a_cons ?_ ?_
              · exact s_var (i := 0) rfl (.inr (.inl rfl))
              · exact a_nil 
            · exact s_int 
          · refine w_or1 ?_
            refine t_c c_gt ?_ ?_
            · refine s_cb (cb_len) rfl T.b_len PySem.boot_len ?_
              refine a_cons ?_ ?_
              · refine s_lc (mk := false) (own := [("row", 2)]) (gown := [2]) ?_ (by kernel_rfl) ?_ (by decide) ?_ ?_
                · refine i_seq ?_
                  exact s_var (i := 0) rfl (.inr (.inl rfl))
                · exact g_name (i := 2) rfl (.inl rfl)
                · refine ts_one ?_
                  refine t_c c_ne ?_ ?_
                  · refine s_cb (cb_len) rfl T.b_len PySem.boot_len ?_
                    refine a_cons ?_ ?_
                    · exact s_var (i := 2) rfl (.inl rfl)
                    · exact a_nil 
                  · refine s_cb (cb_len) rfl T.b_len PySem.boot_len ?_
                    refine a_cons ?_ ?_
                    · exact s_var (i := 0) rfl (.inr (.inl rfl))
                    · exact a_nil 
                · exact s_var (i := 2) rfl (.inl rfl)
              · exact a_nil 
            · exact s_int 
        · refine b_one ?_
          refine st_ret ?_
          exact s_str 
        · exact b_nil 
      · refine b_cons ?_ ?_
        · refine st_for (own := [2]) ?_ ?_ ?_
          · refine i_seq ?_
            exact s_var (i := 0) rfl (.inr (.inl rfl))
          · exact g_name (i := 2) rfl (.inl rfl)
          · refine b_one ?_
            refine st_if ?_ ?_ ?_
            · refine t_c c_gt ?_ ?_
              · refine s_cb (cb_len) rfl T.b_len PySem.boot_len ?_
                refine a_cons ?_ ?_
                · refine s_lc (mk := false) (own := [("entry", 6)]) (gown := [6]) ?_ (by kernel_rfl) ?_ (by decide) ?_ ?_
                  · refine i_seq ?_
                    exact s_var (i := 2) rfl (.inl rfl)
                  · exact g_name (i := 6) rfl (.inl rfl)
                  · refine ts_one ?_
                    refine t_not ?_
                    refine t_chain c_le c_lt ?_ ?_ ?_
                    · exact s_int 
                    · exact s_var (i := 6) rfl (.inl rfl)
                    · refine s_cb (cb_len) rfl T.b_len PySem.boot_len ?_
                      refine a_cons ?_ ?_
                      · exact s_var (i := 0) rfl (.inr (.inl rfl))
                      · exact a_nil 
                  · exact s_var (i := 6) rfl (.inl rfl)
                · exact a_nil 
              · exact s_int 
            · refine b_one ?_
              refine st_ret ?_
              exact s_str 
            · exact b_nil 
        · refine b_cons ?_ ?_
          · refine st_if ?_ ?_ ?_
            · refine t_c c_gt ?_ ?_
              · refine s_cb (cb_len) rfl T.b_len PySem.boot_len ?_
                refine a_cons ?_ ?_
                · refine s_lc (mk := false) (own := [("x", 4)]) (gown := [4]) ?_ (by kernel_rfl) ?_ (by decide) ?_ ?_
                  · refine i_seq ?_
                    exact s_var (i := 1) rfl (.inl rfl)
                  · exact g_name (i := 4) rfl (.inl rfl)
                  · refine ts_one ?_
                    refine t_c c_ne ?_ ?_
                    · refine s_ix ?_ ?_
                      · refine s_ix ?_ ?_
                        · exact s_var (i := 0) rfl (.inr (.inl rfl))
                        · exact s_var (i := 4) rfl (.inl rfl)
                      · exact s_var (i := 4) rfl (.inl rfl)
                    · exact s_var (i := 4) rfl (.inl rfl)
                  · exact s_var (i := 4) rfl (.inl rfl)
                · exact a_nil 
              · exact s_int 
            · refine b_one ?_
              refine st_ret ?_
              exact s_str 
            · exact b_nil 
          · refine b_cons ?_ ?_
            · refine st_for (own := [3]) ?_ ?_ ?_
              · refine i_seq ?_
                exact s_var (i := 1) rfl (.inl rfl)
              · exact g_name (i := 3) rfl (.inr rfl)
              · refine b_one ?_
                refine st_if ?_ ?_ ?_
                · refine t_c c_ne ?_ ?_
                  · refine s_cb (cb_sorted (mk := false)) rfl T.b_sorted PyProof.Rows.boot_sorted ?_
                    refine a_cons ?_ ?_
                    · refine s_lc (mk := false) (own := [("x", 4)]) (gown := [4]) ?_ (by kernel_rfl) ?_ (by decide) ?_ ?_
                      · refine i_seq ?_
                        exact s_var (i := 1) rfl (.inl rfl)
                      · exact g_name (i := 4) rfl (.inl rfl)
                      · exact ts_nil 
                      · refine s_ix ?_ ?_
                        · refine s_ix ?_ ?_
                          · exact s_var (i := 0) rfl (.inr (.inl rfl))
                          · exact s_var (i := 4) rfl (.inl rfl)
                        · exact s_var (i := 3) rfl (.inr (.inl rfl))
                    · exact a_nil 
                  · refine s_listRg (mk := false) rfl T.b_list ?_
                    refine r_1 rfl T.b_range ?_
                    refine s_cb (cb_len) rfl T.b_len PySem.boot_len ?_
                    refine a_cons ?_ ?_
                    · exact s_var (i := 0) rfl (.inr (.inl rfl))
                    · exact a_nil 
                · refine b_one ?_
                  refine st_ret ?_
                  exact s_str 
                · exact b_nil 
            · refine b_cons ?_ ?_
              · refine st_for (own := [4]) ?_ ?_ ?_
                · refine i_seq ?_
                  exact s_var (i := 1) rfl (.inl rfl)
                · exact g_name (i := 4) rfl (.inl rfl)
                · refine b_one ?_
                  refine st_for (own := [3]) ?_ ?_ ?_
                  · refine i_seq ?_
                    exact s_var (i := 1) rfl (.inl rfl)
                  · exact g_name (i := 3) rfl (.inr rfl)
                  · refine b_one ?_
                    refine st_for (own := [5]) ?_ ?_ ?_
                    · refine i_seq ?_
                      exact s_var (i := 1) rfl (.inl rfl)
                    · exact g_name (i := 5) rfl (.inl rfl)
                    · refine b_one ?_
                      refine st_if ?_ ?_ ?_
                      · refine t_c c_ne ?_ ?_
                        · refine s_ix ?_ ?_
                          · refine s_ix ?_ ?_
                            · exact s_var (i := 0) rfl (.inr (.inl rfl))
                            · refine s_ix ?_ ?_
                              · refine s_ix ?_ ?_
                                · exact s_var (i := 0) rfl (.inr (.inl rfl))
                                · exact s_var (i := 4) rfl (.inl rfl)
                              · exact s_var (i := 3) rfl (.inr (.inl rfl))
                          · exact s_var (i := 5) rfl (.inl rfl)
                        · refine s_ix ?_ ?_
                          · refine s_ix ?_ ?_
                            · exact s_var (i := 0) rfl (.inr (.inl rfl))
                            · refine s_ix ?_ ?_
                              · refine s_ix ?_ ?_
                                · exact s_var (i := 0) rfl (.inr (.inl rfl))
                                · exact s_var (i := 4) rfl (.inl rfl)
                              · exact s_var (i := 5) rfl (.inl rfl)
                          · refine s_ix ?_ ?_
                            · refine s_ix ?_ ?_
                              · exact s_var (i := 0) rfl (.inr (.inl rfl))
                              · exact s_var (i := 3) rfl (.inr (.inl rfl))
                            · exact s_var (i := 5) rfl (.inl rfl)
                      · refine b_one ?_
                        refine st_ret ?_
                        exact s_str 
                      · exact b_nil 
              · refine b_one ?_
                refine st_ret ?_
                exact s_non 
    )
theorem sc__law_plain : FnScope ["value", "item"] ["value"] (defScope s__law_plain) := ⟨rfl, rfl, rfl, by decide +kernel, rfl, by decide +kernel, by decide +kernel⟩
theorem ok__law_plain_ (T : Txt w K mg)   {fd : FuncData} (F : FunD K "_law_plain" "_law_plain" (defArgs s__law_plain) (defBody s__law_plain) (defScope s__law_plain) [] [] (He.ga K "_law_plain") fd) : ∀ j : Nat, FnS P w K mg base (0 + j) (He.ga K "_law_plain") ["value"] (M__law_plain_ j)
  | 0 => fnS_zero (F.bindsN fun _ _ _ _ _ _ us hl => match us, hl with | [_], _ => rfl) F.kp _
  | j + 1 =>
    have F__law_plain := ok__law_plain_ T  F j
    fnS_of (rc := false) (N := ["value", "item"]) (ps := ["value"]) (k := 0 + j) (m := B__law_plain (M__law_plain_ j)) F sc__law_plain (F.bindsN fun _ _ _ _ _ _ us hl => match us, hl with | [_], _ => rfl) (by
      refine b_cons ?_ ?_
      · refine st_if ?_ ?_ ?_
        · refine t_tru ?_
          refine s_isiT ?_ ?_ rfl T.b_isinstance
          · exact s_var (i := 0) rfl (.inl rfl)
          · refine a_cons ?_ ?_
            · exact s_ty (n := "tuple") rfl T.b_tuple PyProof.Rows.boot_tuple
            · refine a_cons ?_ ?_
              · exact s_ty (n := "list") rfl T.b_list PyProof.Rows.boot_list
              · exact a_nil 
        · refine b_one ?_
          refine st_ret ?_
          refine s_add (mk := false) ?_ ?_
          · refine s_lst (mk := false) ?_
            refine a_cons ?_ ?_
            · refine s_cb cb_isi rfl T.b_isinstance PyProof.Rows.boot_isinstance ?_
              refine a_cons ?_ ?_
              · exact s_var (i := 0) rfl (.inl rfl)
              · refine a_cons ?_ ?_
                · exact s_ty (n := "list") rfl T.b_list PyProof.Rows.boot_list
                · exact a_nil 
            · exact a_nil 
          · refine s_lc (mk := false) (own := [("item", 1)]) (gown := [1]) ?_ (by kernel_rfl) ?_ (by decide) ?_ ?_
            · refine i_seq ?_
              exact s_var (i := 0) rfl (.inl rfl)
            · exact g_name (i := 1) rfl (.inl rfl)
            · exact ts_nil 
            · refine s_call F__law_plain (Nat.le_refl _) rfl T.g__law_plain ?_
              refine a_cons ?_ ?_
              · exact s_var (i := 1) rfl (.inl rfl)
              · exact a_nil 
        · exact b_nil 
      · refine b_cons ?_ ?_
        · refine st_if ?_ ?_ ?_
          · refine t_w ?_
            refine w_or ?_ ?_
            · refine t_c c_isN ?_ ?_
              · exact s_var (i := 0) rfl (.inl rfl)
              · exact s_non 
            · refine w_or1 ?_
              refine t_tru ?_
              refine s_cb cb_isi rfl T.b_isinstance PyProof.Rows.boot_isinstance ?_
              refine a_cons ?_ ?_
              · exact s_var (i := 0) rfl (.inl rfl)
              · refine a_cons ?_ ?_
                · exact s_ty (n := "bool") rfl T.b_bool PyProof.Rows.boot_bool
                · exact a_nil 
          · refine b_one ?_
            refine st_ret ?_
            refine s_ix ?_ ?_
            · refine s_lst (mk := false) ?_
              refine a_cons ?_ ?_
              · exact s_str 
              · refine a_cons ?_ ?_
                · exact s_str 
                · refine a_cons ?_ ?_
                  · exact s_str 
                  · exact a_nil 
            · refine s_add (mk := false) ?_ ?_
              · refine s_cty (cb_int) rfl T.b_int PyProof.Rows.boot_int ?_
                refine a_cons ?_ ?_
                · refine s_c c_notN ?_ ?_
                  · exact s_var (i := 0) rfl (.inl rfl)
                  · exact s_non 
                · exact a_nil 
              · refine s_cty (cb_int) rfl T.b_int PyProof.Rows.boot_int ?_
                refine a_cons ?_ ?_
                · refine s_c c_isN ?_ ?_
                  · exact s_var (i := 0) rfl (.inl rfl)
                  · exact s_bl 
                · exact a_nil 
          · exact b_nil 
        · refine b_cons ?_ ?_
          · refine st_if ?_ ?_ ?_
            · refine t_tru ?_
              refine s_isiT ?_ ?_ rfl T.b_isinstance
              · exact s_var (i := 0) rfl (.inl rfl)
              · refine a_cons ?_ ?_
                · exact s_ty (n := "int") rfl T.b_int PyProof.Rows.boot_int
                · refine a_cons ?_ ?_
                  · exact s_ty (n := "str") rfl T.b_str PyProof.Rows.boot_str
                  · exact a_nil 
            · refine b_one ?_
              refine st_ret ?_
              refine s_lst (mk := false) ?_
              refine a_cons ?_ ?_
              · refine s_cb cb_isi rfl T.b_isinstance PyProof.Rows.boot_isinstance ?_
                refine a_cons ?_ ?_
                · exact s_var (i := 0) rfl (.inl rfl)
                · refine a_cons ?_ ?_
                  · exact s_ty (n := "str") rfl T.b_str PyProof.Rows.boot_str
                  · exact a_nil 
              · refine a_cons ?_ ?_
                · exact s_var (i := 0) rfl (.inl rfl)
                · exact a_nil 
            · exact b_nil 
          · refine b_one ?_
            refine st_ret ?_
            exact s_str 
      )
theorem ok__law_plain (T : Txt w K mg)   {fd : FuncData} (F : FunD K "_law_plain" "_law_plain" (defArgs s__law_plain) (defBody s__law_plain) (defScope s__law_plain) [] [] (He.ga K "_law_plain") fd) : FnS P w K mg base 6 (He.ga K "_law_plain") ["value"] M__law_plain := ok__law_plain_ T  F 6
theorem sc_Quandle_acted : FnScope ["self", "first", "second"] ["self", "first", "second"] (defScope s_Quandle_acted) := ⟨rfl, rfl, rfl, by decide +kernel, rfl, by decide +kernel, by decide +kernel⟩
theorem ok_Quandle_acted (T : Txt w K mg)   {fd : FuncData} (F : FunD K "acted" "Quandle.acted" (defArgs s_Quandle_acted) (defBody s_Quandle_acted) (defScope s_Quandle_acted) [] [] (He.ma K (He.ga K "Quandle") "acted") fd) : FnS P w K mg base 1 (He.ma K (He.ga K "Quandle") "acted") ["self", "first", "second"] M_Quandle_acted :=
  fnS_of (rc := false) (N := ["self", "first", "second"]) (ps := ["self", "first", "second"]) (k := 0) (m := B_Quandle_acted) F sc_Quandle_acted (F.bindsN fun _ _ _ _ _ _ us hl => match us, hl with | [_, _, _], _ => rfl) (by
    refine b_one ?_
    refine st_ret ?_
    refine s_ix ?_ ?_
    · refine s_ix ?_ ?_
      · refine s_fld ["Quandle"] ?_ T.fl_table
        exact s_var (i := 0) rfl (.inl rfl)
      · exact s_var (i := 1) rfl (.inl rfl)
    · exact s_var (i := 2) rfl (.inl rfl)
    )
theorem sc_Quandle_undone : FnScope ["self", "result", "second", "row"] ["self", "result", "second"] (defScope s_Quandle_undone) := ⟨rfl, rfl, rfl, by decide +kernel, rfl, by decide +kernel, by decide +kernel⟩
theorem ok_Quandle_undone (T : Txt w K mg)   {fd : FuncData} (F : FunD K "undone" "Quandle.undone" (defArgs s_Quandle_undone) (defBody s_Quandle_undone) (defScope s_Quandle_undone) [] [] (He.ma K (He.ga K "Quandle") "undone") fd) : FnS P w K mg base 1 (He.ma K (He.ga K "Quandle") "undone") ["self", "result", "second"] M_Quandle_undone :=
  fnS_of (rc := false) (N := ["self", "result", "second", "row"]) (ps := ["self", "result", "second"]) (k := 0) (m := B_Quandle_undone) F sc_Quandle_undone (F.bindsN fun _ _ _ _ _ _ us hl => match us, hl with | [_, _, _], _ => rfl) (by
    refine b_one ?_
    refine st_ret ?_
    refine s_m PySem.F.plainAttrs_list PySem.F.slot_list_index PySem.F.type_list_index m_index ?_ ?_
    · refine s_lc (mk := false) (own := [("row", 3)]) (gown := [3]) ?_ (by kernel_rfl) ?_ (by decide) ?_ ?_
      · refine i_seq ?_
        refine s_fld ["Quandle"] ?_ T.fl_table
        exact s_var (i := 0) rfl (.inl rfl)
      · exact g_name (i := 3) rfl (.inl rfl)
      · exact ts_nil 
      · refine s_ix ?_ ?_
        · exact s_var (i := 3) rfl (.inl rfl)
        · exact s_var (i := 2) rfl (.inr (.inl rfl))
    · refine a_cons ?_ ?_
      · exact s_var (i := 1) rfl (.inl rfl)
      · exact a_nil 
    )
theorem sc__law_is_quandle : FnScope ["told", "table", "x", "y"] ["told", "table"] (defScope s__law_is_quandle) := ⟨rfl, rfl, rfl, by decide +kernel, rfl, by decide +kernel, by decide +kernel⟩
theorem ok__law_is_quandle (T : Txt w K mg) (F__law_plain : FnS P w K mg base 6 (He.ga K "_law_plain") ["value"] M__law_plain) (F_Quandle_acted : FnS P w K mg base 1 (He.ma K (He.ga K "Quandle") "acted") ["self", "first", "second"] M_Quandle_acted) (F_Quandle_undone : FnS P w K mg base 1 (He.ma K (He.ga K "Quandle") "undone") ["self", "result", "second"] M_Quandle_undone)  {fd : FuncData} (F : FunD K "_law_is_quandle" "_law_is_quandle" (defArgs s__law_is_quandle) (defBody s__law_is_quandle) (defScope s__law_is_quandle) [] [] (He.ga K "_law_is_quandle") fd) : FnS P w K mg base 7 (He.ga K "_law_is_quandle") ["told", "table"] M__law_is_quandle :=
  fnS_of (rc := false) (N := ["told", "table", "x", "y"]) (ps := ["told", "table"]) (k := 6) (m := B__law_is_quandle) F sc__law_is_quandle (F.bindsN fun _ _ _ _ _ _ us hl => match us, hl with | [_, _], _ => rfl) (by
    refine b_cons ?_ ?_
    · refine st_if ?_ ?_ ?_
      · refine t_w ?_
        refine w_or ?_ ?_
        · refine t_not ?_
          refine t_tru ?_
          refine s_isO T.cl_Quandle T.ic_Quandle T.it_Quandle rfl T.b_isinstance ?_
          refine a_cons ?_ ?_
          · exact s_var (i := 0) rfl (.inl rfl)
          · refine a_cons ?_ ?_
            · exact s_glo rfl T.g_Quandle
            · exact a_nil 
        · refine w_or1 ?_
          refine t_c c_ne ?_ ?_
          · refine s_call F__law_plain (Nat.le_of_ble_eq_true rfl) rfl T.g__law_plain ?_
            refine a_cons ?_ ?_
            · refine s_fld ["Quandle"] ?_ T.fl_table
              exact s_var (i := 0) rfl (.inl rfl)
            · exact a_nil 
          · refine s_call F__law_plain (Nat.le_of_ble_eq_true rfl) rfl T.g__law_plain ?_
            refine a_cons ?_ ?_
            · exact s_var (i := 1) rfl (.inl rfl)
            · exact a_nil 
      · refine b_one ?_
        refine st_ret ?_
        exact s_bl 
      · exact b_nil 
    · refine b_cons ?_ ?_
      · refine st_for (own := [2]) ?_ ?_ ?_
        · refine i_rng1 rfl T.b_range ?_
          refine a_cons ?_ ?_
          · refine s_cb (cb_len) rfl T.b_len PySem.boot_len ?_
            refine a_cons ?_ ?_
            · exact s_var (i := 1) rfl (.inl rfl)
            · exact a_nil 
          · exact a_nil 
        · exact g_name (i := 2) rfl (.inl rfl)
        · refine b_one ?_
          refine st_for (own := [3]) ?_ ?_ ?_
          · refine i_rng1 rfl T.b_range ?_
            refine a_cons ?_ ?_
            · refine s_cb (cb_len) rfl T.b_len PySem.boot_len ?_
              refine a_cons ?_ ?_
              · exact s_var (i := 1) rfl (.inl rfl)
              · exact a_nil 
            · exact a_nil 
          · exact g_name (i := 3) rfl (.inl rfl)
          · refine b_cons ?_ ?_
            · refine st_if ?_ ?_ ?_
              · refine t_c c_ne ?_ ?_
                · refine s_call F__law_plain (Nat.le_of_ble_eq_true rfl) rfl T.g__law_plain ?_
                  refine a_cons ?_ ?_
                  · refine s_meth F_Quandle_acted (Nat.le_of_ble_eq_true rfl) T.cl_Quandle T.me_Quandle_acted ?_ ?_
                    · exact s_var (i := 0) rfl (.inl rfl)
                    · refine a_cons ?_ ?_
                      · exact s_var (i := 2) rfl (.inl rfl)
                      · refine a_cons ?_ ?_
                        · exact s_var (i := 3) rfl (.inl rfl)
                        · exact a_nil 
                  · exact a_nil 
                · refine s_call F__law_plain (Nat.le_of_ble_eq_true rfl) rfl T.g__law_plain ?_
                  refine a_cons ?_ ?_
                  · refine s_ix ?_ ?_
                    · refine s_ix ?_ ?_
                      · exact s_var (i := 1) rfl (.inl rfl)
                      · exact s_var (i := 2) rfl (.inl rfl)
                    · exact s_var (i := 3) rfl (.inl rfl)
                  · exact a_nil 
              · refine b_one ?_
                refine st_ret ?_
                exact s_bl 
              · exact b_nil 
            · refine b_one ?_
              refine st_if ?_ ?_ ?_
              · refine t_c c_ne ?_ ?_
                · refine s_call F__law_plain (Nat.le_of_ble_eq_true rfl) rfl T.g__law_plain ?_
                  refine a_cons ?_ ?_
                  · refine s_meth F_Quandle_undone (Nat.le_of_ble_eq_true rfl) T.cl_Quandle T.me_Quandle_undone ?_ ?_
                    · exact s_var (i := 0) rfl (.inl rfl)
                    · refine a_cons ?_ ?_
                      · refine s_ix ?_ ?_
                        · refine s_ix ?_ ?_
                          · exact s_var (i := 1) rfl (.inl rfl)
                          · exact s_var (i := 2) rfl (.inl rfl)
                        · exact s_var (i := 3) rfl (.inl rfl)
                      · refine a_cons ?_ ?_
                        · exact s_var (i := 3) rfl (.inl rfl)
                        · exact a_nil 
                  · exact a_nil 
                · refine s_call F__law_plain (Nat.le_of_ble_eq_true rfl) rfl T.g__law_plain ?_
                  refine a_cons ?_ ?_
                  · exact s_var (i := 2) rfl (.inl rfl)
                  · exact a_nil 
              · refine b_one ?_
                refine st_ret ?_
                exact s_bl 
              · exact b_nil 
      · refine b_one ?_
        refine st_ret ?_
        exact s_bl 
    )
theorem sc__law_right : FnScope ["made", "ask", "table", "due", "told"] ["made", "ask", "table"] (defScope s__law_right) := ⟨rfl, rfl, rfl, by decide +kernel, rfl, by decide +kernel, by decide +kernel⟩
theorem ok__law_right (T : Txt w K mg) (F__law_due : FnS P w K mg base 1 (He.ga K "_law_due") ["table"] M__law_due) (F__law_why : FnS P w K mg base 7 (He.ga K "_law_why") ["made", "ask"] M__law_why) (F__law_is_quandle : FnS P w K mg base 7 (He.ga K "_law_is_quandle") ["told", "table"] M__law_is_quandle)  {fd : FuncData} (F : FunD K "_law_right" "_law_right" (defArgs s__law_right) (defBody s__law_right) (defScope s__law_right) [] [] (He.ga K "_law_right") fd) : FnS P w K mg base 8 (He.ga K "_law_right") ["made", "ask", "table"] M__law_right :=
  fnS_of (rc := false) (N := ["made", "ask", "table", "due", "told"]) (ps := ["made", "ask", "table"]) (k := 7) (m := B__law_right) F sc__law_right (F.bindsN fun _ _ _ _ _ _ us hl => match us, hl with | [_, _, _], _ => rfl) (by
    refine b_cons ?_ ?_
    · refine st_set (i := 3) rfl (.inl rfl) ?_
      refine s_call F__law_due (Nat.le_of_ble_eq_true rfl) rfl T.g__law_due ?_
      refine a_cons ?_ ?_
      · exact s_var (i := 2) rfl (.inl rfl)
      · exact a_nil 
    · refine b_cons ?_ ?_
      · refine st_set (i := 4) rfl (.inl rfl) ?_
        refine s_call F__law_why (Nat.le_of_ble_eq_true rfl) rfl T.g__law_why ?_
        refine a_cons ?_ ?_
        · exact s_var (i := 0) rfl (.inl rfl)
        · refine a_cons ?_ ?_
          · exact s_var (i := 1) rfl (.inl rfl)
          · exact a_nil 
      · refine b_cons ?_ ?_
        · refine st_if ?_ ?_ ?_
          · refine t_c c_notN ?_ ?_
            · exact s_var (i := 3) rfl (.inl rfl)
            · exact s_non 
          · refine b_one ?_
            refine st_ret ?_
            refine s_c c_eq ?_ ?_
            · exact s_var (i := 4) rfl (.inl rfl)
            · exact s_var (i := 3) rfl (.inl rfl)
          · exact b_nil 
        · refine b_one ?_
          refine st_ret ?_
          refine s_call F__law_is_quandle (Nat.le_of_ble_eq_true rfl) rfl T.g__law_is_quandle ?_
          refine a_cons ?_ ?_
          · exact s_var (i := 4) rfl (.inl rfl)
          · refine a_cons ?_ ?_
            · exact s_var (i := 2) rfl (.inl rfl)
            · exact a_nil 
    )
theorem sc_law : FnScope ["script", "deck", "turn", "size", "factor", "members", "table", "handed", "told", "row"] ["script"] (defScope s_law) := ⟨rfl, rfl, rfl, by decide +kernel, rfl, by decide +kernel, by decide +kernel⟩
theorem ok_law (T : Txt w K mg) (F__law_deck : FnS P w K mg base 1 (He.ga K "_law_deck") ["script", "cells", "each"] M__law_deck) (F__law_table : FnS P w K mg base 3 (He.ga K "_law_table") ["deck"] M__law_table) (F__law_take : FnS P w K mg base 1 (He.ga K "_law_take") ["deck", "many"] M__law_take) (F__law_bent : FnS P w K mg base 2 (He.ga K "_law_bent") ["deck", "table"] M__law_bent) (F__law_why : FnS P w K mg base 7 (He.ga K "_law_why") ["made", "ask"] M__law_why) (F__law_due : FnS P w K mg base 1 (He.ga K "_law_due") ["table"] M__law_due) (F__law_is_quandle : FnS P w K mg base 7 (He.ga K "_law_is_quandle") ["told", "table"] M__law_is_quandle) (F__law_right : FnS P w K mg base 8 (He.ga K "_law_right") ["made", "ask", "table"] M__law_right) (F__law_affine : FnS P w K mg base 1 (He.ga K "_law_affine") ["size", "factor"] M__law_affine) (F__law_members : FnS P w K mg base 2 (He.ga K "_law_members") ["deck"] M__law_members) (F__law_conjugation : FnS P w K mg base 2 (He.ga K "_law_conjugation") ["members"] M__law_conjugation)  {fd : FuncData} (F : FunD K "law" "law" (defArgs s_law) (defBody s_law) (defScope s_law) [] [] (He.ga K "law") fd) : FnOk P w K mg base CX0 9 (He.ga K "law") fd ["script"] (fun vs H Q _ => spM K 1 M_law vs H Q E0) :=
  law_of (N := ["script", "deck", "turn", "size", "factor", "members", "table", "handed", "told", "row"]) (ps := ["script"]) (k := 8) (m := B_law) F sc_law (by
    refine b_cons ?_ ?_
    · refine st_set (i := 1) rfl (.inl rfl) ?_
      refine s_call F__law_deck (Nat.le_of_ble_eq_true rfl) rfl T.g__law_deck ?_
      refine a_cons ?_ ?_
      · exact s_var (i := 0) rfl (.inl rfl)
      · refine a_cons ?_ ?_
        · exact s_int 
        · refine a_cons ?_ ?_
          · exact s_int 
          · exact a_nil 
    · refine b_cons ?_ ?_
      · refine st_for (own := [2]) ?_ ?_ ?_
        · refine i_rng1 rfl T.b_range ?_
          refine a_cons ?_ ?_
          · exact s_int 
          · exact a_nil 
        · exact g_name (i := 2) rfl (.inl rfl)
        · refine b_cons ?_ ?_
          · refine st_set (i := 6) rfl (.inl rfl) ?_
            refine s_call F__law_table (Nat.le_of_ble_eq_true rfl) rfl T.g__law_table ?_
            refine a_cons ?_ ?_
            · exact s_var (i := 1) rfl (.inl rfl)
            · exact a_nil 
          · refine b_cons ?_ ?_
            · refine st_if ?_ ?_ ?_
              · refine t_c c_eq ?_ ?_
                · refine s_call F__law_take (Nat.le_of_ble_eq_true rfl) rfl T.g__law_take ?_
                  refine a_cons ?_ ?_
                  · exact s_var (i := 1) rfl (.inl rfl)
                  · refine a_cons ?_ ?_
                    · exact s_int 
                    · exact a_nil 
                · exact s_int 
              · refine b_one ?_
                refine st_set (i := 6) rfl (.inl rfl) ?_
                refine s_call F__law_bent (Nat.le_of_ble_eq_true rfl) rfl T.g__law_bent ?_
                refine a_cons ?_ ?_
                · exact s_var (i := 1) rfl (.inl rfl)
                · refine a_cons ?_ ?_
                  · exact s_var (i := 6) rfl (.inl rfl)
                  · exact a_nil 
              · exact b_nil 
            · refine b_cons ?_ ?_
              · refine st_setLc (mk := true) (i := 7) (own := [("row", 9)]) (gown := [9]) rfl rfl rfl rfl (by decide +kernel) ?_ (by kernel_rfl) ?_ (by decide) ?_ ?_
                · refine i_seq ?_
                  exact s_var (i := 6) rfl (.inl rfl)
                · exact g_name (i := 9) rfl (.inl rfl)
                · exact ts_nil 
                · refine s_cty (cb_list (mk := true)) rfl T.b_list PyProof.Rows.boot_list ?_
                  refine a_cons ?_ ?_
                  · exact s_var (i := 9) rfl (.inl rfl)
                  · exact a_nil 
              · refine b_cons ?_ ?_
                · refine st_set (i := 8) rfl (.inl rfl) ?_
                  refine s_call F__law_why (Nat.le_of_ble_eq_true rfl) rfl T.g__law_why ?_
                  refine a_cons ?_ ?_
                  · exact s_var (i := 7) rfl (.inl rfl)
                  · refine a_cons ?_ ?_
                    · exact s_int 
                    · exact a_nil 
                · refine b_cons ?_ ?_
                  · refine st_if ?_ ?_ ?_
                    · refine t_w ?_
                      refine w_and ?_ ?_
                      · refine t_c c_gt ?_ ?_
                        · refine s_cb (cb_len) rfl T.b_len PySem.boot_len ?_
                          refine a_cons ?_ ?_
                          · exact s_var (i := 7) rfl (.inl rfl)
                          · exact a_nil 
                        · exact s_int 
                      · refine w_and1 ?_
                        refine t_c c_gt ?_ ?_
                        · refine s_cb (cb_len) rfl T.b_len PySem.boot_len ?_
                          refine a_cons ?_ ?_
                          · refine s_ix ?_ ?_
                            · exact s_var (i := 7) rfl (.inl rfl)
                            · exact s_int 
                          · exact a_nil 
                        · exact s_int 
                    · refine b_one ?_
                      refine st_sub cset_list ?_ ?_ ?_
                      · exact s_int 
                      · refine s_ix ?_ ?_
                        · exact s_var (i := 7) rfl (.inl rfl)
                        · exact s_int 
                      · exact s_int 
                    · exact b_nil 
                  · refine b_cons ?_ ?_
                    · refine st_if ?_ ?_ ?_
                      · refine t_w ?_
                        refine w_and ?_ ?_
                        · refine t_c c_isN ?_ ?_
                          · refine s_call F__law_due (Nat.le_of_ble_eq_true rfl) rfl T.g__law_due ?_
                            refine a_cons ?_ ?_
                            · exact s_var (i := 6) rfl (.inl rfl)
                            · exact a_nil 
                          · exact s_non 
                        · refine w_and1 ?_
                          refine t_not ?_
                          refine t_tru ?_
                          refine s_call F__law_is_quandle (Nat.le_of_ble_eq_true rfl) rfl T.g__law_is_quandle ?_
                          refine a_cons ?_ ?_
                          · exact s_var (i := 8) rfl (.inl rfl)
                          · refine a_cons ?_ ?_
                            · exact s_var (i := 6) rfl (.inl rfl)
                            · exact a_nil 
                      · refine b_one ?_
                        refine st_ret ?_
                        exact s_bl 
                      · exact b_nil 
                    · refine b_one ?_
                      refine st_if ?_ ?_ ?_
                      · refine t_not ?_
                        refine t_tru ?_
                        refine s_call F__law_right (Nat.le_of_ble_eq_true rfl) rfl T.g__law_right ?_
                        refine a_cons ?_ ?_
                        · refine s_lc (mk := false) (own := [("row", 9)]) (gown := [9]) ?_ (by kernel_rfl) ?_ (by decide) ?_ ?_
                          · refine i_seq ?_
                            exact s_var (i := 6) rfl (.inl rfl)
                          · exact g_name (i := 9) rfl (.inl rfl)
                          · exact ts_nil 
                          · refine s_cty (cb_list (mk := false)) rfl T.b_list PyProof.Rows.boot_list ?_
                            refine a_cons ?_ ?_
                            · exact s_var (i := 9) rfl (.inl rfl)
                            · exact a_nil 
                        · refine a_cons ?_ ?_
                          · exact s_int 
                          · refine a_cons ?_ ?_
                            · exact s_var (i := 6) rfl (.inl rfl)
                            · exact a_nil 
                      · refine b_one ?_
                        refine st_ret ?_
                        exact s_bl 
                      · exact b_nil 
      · refine b_cons ?_ ?_
        · refine st_set (i := 3) rfl (.inl rfl) ?_
          refine s_add (mk := false) ?_ ?_
          · exact s_int 
          · refine s_call F__law_take (Nat.le_of_ble_eq_true rfl) rfl T.g__law_take ?_
            refine a_cons ?_ ?_
            · exact s_var (i := 1) rfl (.inl rfl)
            · refine a_cons ?_ ?_
              · exact s_int 
              · exact a_nil 
        · refine b_cons ?_ ?_
          · refine st_set (i := 4) rfl (.inl rfl) ?_
            refine s_sub ?_ ?_
            · refine s_call F__law_take (Nat.le_of_ble_eq_true rfl) rfl T.g__law_take ?_
              refine a_cons ?_ ?_
              · exact s_var (i := 1) rfl (.inl rfl)
              · refine a_cons ?_ ?_
                · exact s_int 
                · exact a_nil 
            · exact s_int 
          · refine b_cons ?_ ?_
            · refine st_if ?_ ?_ ?_
              · refine t_not ?_
                refine t_tru ?_
                refine s_call F__law_right (Nat.le_of_ble_eq_true rfl) rfl T.g__law_right ?_
                refine a_cons ?_ ?_
                · refine s_tup ?_
                  refine a_cons ?_ ?_
                  · exact s_var (i := 3) rfl (.inl rfl)
                  · refine a_cons ?_ ?_
                    · exact s_var (i := 4) rfl (.inl rfl)
                    · exact a_nil 
                · refine a_cons ?_ ?_
                  · exact s_int 
                  · refine a_cons ?_ ?_
                    · refine s_call F__law_affine (Nat.le_of_ble_eq_true rfl) rfl T.g__law_affine ?_
                      refine a_cons ?_ ?_
                      · exact s_var (i := 3) rfl (.inl rfl)
                      · refine a_cons ?_ ?_
                        · exact s_var (i := 4) rfl (.inl rfl)
                        · exact a_nil 
                    · exact a_nil 
              · refine b_one ?_
                refine st_ret ?_
                exact s_bl 
              · exact b_nil 
            · refine b_cons ?_ ?_
              · refine st_set (i := 5) rfl (.inl rfl) ?_
                refine s_call F__law_members (Nat.le_of_ble_eq_true rfl) rfl T.g__law_members ?_
                refine a_cons ?_ ?_
                · exact s_var (i := 1) rfl (.inl rfl)
                · exact a_nil 
              · refine b_cons ?_ ?_
                · refine st_set (i := 6) rfl (.inl rfl) ?_
                  refine s_call F__law_conjugation (Nat.le_of_ble_eq_true rfl) rfl T.g__law_conjugation ?_
                  refine a_cons ?_ ?_
                  · exact s_var (i := 5) rfl (.inl rfl)
                  · exact a_nil 
                · refine b_one ?_
                  refine st_ret ?_
                  refine s_and ?_ ?_
                  · refine s_call F__law_right (Nat.le_of_ble_eq_true rfl) rfl T.g__law_right ?_
                    refine a_cons ?_ ?_
                    · exact s_var (i := 3) rfl (.inl rfl)
                    · refine a_cons ?_ ?_
                      · exact s_int 
                      · refine a_cons ?_ ?_
                        · refine s_call F__law_affine (Nat.le_of_ble_eq_true rfl) rfl T.g__law_affine ?_
                          refine a_cons ?_ ?_
                          · exact s_var (i := 3) rfl (.inl rfl)
                          · refine a_cons ?_ ?_
                            · refine s_neg ?_
                              exact s_int 
                            · exact a_nil 
                        · exact a_nil 
                  · refine s_and ?_ ?_
                    · refine s_call F__law_right (Nat.le_of_ble_eq_true rfl) rfl T.g__law_right ?_
                      refine a_cons ?_ ?_
                      · exact s_var (i := 5) rfl (.inl rfl)
                      · refine a_cons ?_ ?_
                        · exact s_int 
                        · refine a_cons ?_ ?_
                          · exact s_var (i := 6) rfl (.inl rfl)
                          · exact a_nil 
                    · refine s_one ?_
                      refine s_call F__law_right (Nat.le_of_ble_eq_true rfl) rfl T.g__law_right ?_
                      refine a_cons ?_ ?_
                      · refine s_lst (mk := false) ?_
                        exact a_nil 
                      · refine a_cons ?_ ?_
                        · exact s_int 
                        · refine a_cons ?_ ?_
                          · refine s_lst (mk := false) ?_
                            exact a_nil 
                          · exact a_nil 
    )
end
end Gk53

set_option Elab.async false
set_option linter.all false
set_option maxRecDepth 100000
set_option maxHeartbeats 0
namespace Gk53
open PySem PySem.Spec L2 SL
open PyProof.Rows hiding St
def d__law_deck : He.DefD := ⟨("_law_deck", none), "_law_deck", "_law_deck", defArgs s__law_deck, defBody s__law_deck, defScope s__law_deck, [], []⟩
def d__law_take : He.DefD := ⟨("_law_take", none), "_law_take", "_law_take", defArgs s__law_take, defBody s__law_take, defScope s__law_take, [], []⟩
def d__law_members : He.DefD := ⟨("_law_members", none), "_law_members", "_law_members", defArgs s__law_members, defBody s__law_members, defScope s__law_members, [], []⟩
def d__law_conjugate : He.DefD := ⟨("_law_conjugate", none), "_law_conjugate", "_law_conjugate", defArgs s__law_conjugate, defBody s__law_conjugate, defScope s__law_conjugate, [], []⟩
def d__law_conjugation : He.DefD := ⟨("_law_conjugation", none), "_law_conjugation", "_law_conjugation", defArgs s__law_conjugation, defBody s__law_conjugation, defScope s__law_conjugation, [], []⟩
def d__law_affine : He.DefD := ⟨("_law_affine", none), "_law_affine", "_law_affine", defArgs s__law_affine, defBody s__law_affine, defScope s__law_affine, [], []⟩
def d__law_table : He.DefD := ⟨("_law_table", none), "_law_table", "_law_table", defArgs s__law_table, defBody s__law_table, defScope s__law_table, [], []⟩
def d__law_bent : He.DefD := ⟨("_law_bent", none), "_law_bent", "_law_bent", defArgs s__law_bent, defBody s__law_bent, defScope s__law_bent, [], []⟩
def d_check_table : He.DefD := ⟨("check_table", none), "check_table", "check_table", defArgs s_check_table, defBody s_check_table, defScope s_check_table, [], []⟩
def d_Quandle___init__ : He.DefD := ⟨("Quandle", some "__init__"), "__init__", "Quandle.__init__", defArgs s_Quandle___init__, defBody s_Quandle___init__, defScope s_Quandle___init__, [], []⟩
def d_affine : He.DefD := ⟨("affine", none), "affine", "affine", defArgs s_affine, defBody s_affine, defScope s_affine, [], []⟩
def d_dihedral : He.DefD := ⟨("dihedral", none), "dihedral", "dihedral", defArgs s_dihedral, defBody s_dihedral, defScope s_dihedral, [], []⟩
def d_conjugate : He.DefD := ⟨("conjugate", none), "conjugate", "conjugate", defArgs s_conjugate, defBody s_conjugate, defScope s_conjugate, [], []⟩
def d_conjugation : He.DefD := ⟨("conjugation", none), "conjugation", "conjugation", defArgs s_conjugation, defBody s_conjugation, defScope s_conjugation, [], []⟩
def d__law_why : He.DefD := ⟨("_law_why", none), "_law_why", "_law_why", defArgs s__law_why, defBody s__law_why, defScope s__law_why, [], []⟩
def d__law_due : He.DefD := ⟨("_law_due", none), "_law_due", "_law_due", defArgs s__law_due, defBody s__law_due, defScope s__law_due, [], []⟩
def d__law_plain : He.DefD := ⟨("_law_plain", none), "_law_plain", "_law_plain", defArgs s__law_plain, defBody s__law_plain, defScope s__law_plain, [], []⟩
def d_Quandle_acted : He.DefD := ⟨("Quandle", some "acted"), "acted", "Quandle.acted", defArgs s_Quandle_acted, defBody s_Quandle_acted, defScope s_Quandle_acted, [], []⟩
def d_Quandle_undone : He.DefD := ⟨("Quandle", some "undone"), "undone", "Quandle.undone", defArgs s_Quandle_undone, defBody s_Quandle_undone, defScope s_Quandle_undone, [], []⟩
def d__law_is_quandle : He.DefD := ⟨("_law_is_quandle", none), "_law_is_quandle", "_law_is_quandle", defArgs s__law_is_quandle, defBody s__law_is_quandle, defScope s__law_is_quandle, [], []⟩
def d__law_right : He.DefD := ⟨("_law_right", none), "_law_right", "_law_right", defArgs s__law_right, defBody s__law_right, defScope s__law_right, [], []⟩
def d_law : He.DefD := ⟨("law", none), "law", "law", defArgs s_law, defBody s_law, defScope s_law, [], []⟩
def d_InvalidMatrix : He.DefD := ⟨("InvalidMatrix", some "__init__"), "__init__", "InvalidMatrix.__init__", defArgs (meth s_InvalidMatrix 0), defBody (meth s_InvalidMatrix 0), defScope (meth s_InvalidMatrix 0), [], []⟩
def fnl : List He.DefD := [d__law_deck, d__law_take, d__law_members, d__law_conjugate, d__law_conjugation, d__law_affine, d__law_table, d__law_bent, d_check_table, d_Quandle___init__, d_affine, d_dihedral, d_conjugate, d_conjugation, d__law_why, d__law_due, d__law_plain, d_Quandle_acted, d_Quandle_undone, d__law_is_quandle, d__law_right, d_law, d_InvalidMatrix]
def fbl : List Fb := [.oex "InvalidMatrix", .ini "InvalidMatrix", .kbase "KnotError", .xf "InvalidMatrix", .excc "InvalidMatrix", .isx "InvalidMatrix" "InvalidDivision" false, .isx "InvalidMatrix" "InvalidMatrix" true, .insc "Quandle", .ist "str" "Quandle", .ist "NoneType" "Quandle", .ist "list" "Quandle", .ist "tuple" "Quandle", .ist "int" "Quandle", .ist "bool" "Quandle", .ist "dict" "Quandle"]
def tbl : List He.Tab := []
def fal : List He.Fa := [.free "abs", .free "any", .free "bool", .free "enumerate", .free "int", .free "isinstance", .free "len", .free "list", .free "range", .free "sorted", .free "str", .free "tuple", .glo "_law_deck", .glo "_law_take", .glo "_law_members", .glo "_law_conjugate", .glo "_law_conjugation", .glo "_law_affine", .glo "_law_table", .glo "_law_bent", .glo "check_table", .glo "affine", .glo "dihedral", .glo "conjugate", .glo "conjugation", .glo "_law_why", .glo "_law_due", .glo "_law_plain", .glo "_law_is_quandle", .glo "_law_right", .glo "law", .glo "KnotError", .glo "InvalidMatrix", .glo "InvalidDivision", .glo "Quandle", .noat "InvalidMatrix" "what", .cls "Quandle", .noat "Quandle" "table", .meth "Quandle" "acted", .meth "Quandle" "undone", .mkr "Quandle", .exm "InvalidMatrix" "KnotError" true]
abbrev R : PySem.W.OpenRow := PySem.W.OpenLaw.row PySem.Challenge.rw_knotwork_k53_quandle_tables
abbrev hk : PySem.W.Hook := hookS 5 fal fnl tbl fbl
def ob (s : PySem.W.SharedT) : AlS := obsS 5 fal fnl tbl fbl (HandSHeadRun.getT s)
theorem ob_eq (s : PySem.W.SharedT) : ob s = hk.obs s.abs := obsS_eq (HandSHeadRun.getT_eq s)
def loose : List Str := ["check_table", "dihedral", "affine", "conjugate", "conjugation", "_law_deck", "_law_take", "_law_plain", "_law_due", "_law_affine", "_law_conjugate", "_law_conjugation", "_law_members", "_law_table", "_law_bent", "_law_why", "_law_is_quandle", "_law_right", "KnotError", "InvalidMatrix", "InvalidDivision", "Quandle"]
theorem runH (w : World) : HandSHeadRun.RunEq R (PySem.W.view R.prog [25]) hk ob 4440 loose w :=
  PySem.W.byRow2 "special-get-raises" (P := fun w => HandSHeadRun.RunEq R (PySem.W.view R.prog [25]) hk ob 4440 loose w) (fun w => by
    intro os
    kernel_rfl) (fun w => by
    intro os
    kernel_rfl) w
theorem facts {P : Program} {w : World} {K : PySem.W.Frag} {h : Heap} {mg : Str → Option Value} {f : Addr} (X : K.In h) (G : h.Ns mainGlobals mg) (hfa : mg ("law" : Str) = some (.ref f)) (c : SaysS fal fnl tbl fbl w K) :
    ∃ fd : FuncData, (∀ (s : Shared) (v : Value), BindsTo s fd ⟨[v], []⟩ [("script", v)]) ∧ ∀ base : Heap, K.In base → base.Ns mainGlobals mg → FnOk P w K mg base CX0 9 f fd ["script"] (fun vs H Q _ => spM K 1 M_law vs H Q E0) := by
  have T : Txt w K mg := {
    b_abs := He.free_ok X G (c.fact 0 (f := .free "abs") rfl),
    b_any := He.free_ok X G (c.fact 1 (f := .free "any") rfl),
    b_bool := He.free_ok X G (c.fact 2 (f := .free "bool") rfl),
    b_enumerate := He.free_ok X G (c.fact 3 (f := .free "enumerate") rfl),
    b_int := He.free_ok X G (c.fact 4 (f := .free "int") rfl),
    b_isinstance := He.free_ok X G (c.fact 5 (f := .free "isinstance") rfl),
    b_len := He.free_ok X G (c.fact 6 (f := .free "len") rfl),
    b_list := He.free_ok X G (c.fact 7 (f := .free "list") rfl),
    b_range := He.free_ok X G (c.fact 8 (f := .free "range") rfl),
    b_sorted := He.free_ok X G (c.fact 9 (f := .free "sorted") rfl),
    b_str := He.free_ok X G (c.fact 10 (f := .free "str") rfl),
    b_tuple := He.free_ok X G (c.fact 11 (f := .free "tuple") rfl),
    g__law_deck := He.glo_ok X G (c.fact 12 (f := .glo "_law_deck") rfl),
    g__law_take := He.glo_ok X G (c.fact 13 (f := .glo "_law_take") rfl),
    g__law_members := He.glo_ok X G (c.fact 14 (f := .glo "_law_members") rfl),
    g__law_conjugate := He.glo_ok X G (c.fact 15 (f := .glo "_law_conjugate") rfl),
    g__law_conjugation := He.glo_ok X G (c.fact 16 (f := .glo "_law_conjugation") rfl),
    g__law_affine := He.glo_ok X G (c.fact 17 (f := .glo "_law_affine") rfl),
    g__law_table := He.glo_ok X G (c.fact 18 (f := .glo "_law_table") rfl),
    g__law_bent := He.glo_ok X G (c.fact 19 (f := .glo "_law_bent") rfl),
    g_check_table := He.glo_ok X G (c.fact 20 (f := .glo "check_table") rfl),
    g_affine := He.glo_ok X G (c.fact 21 (f := .glo "affine") rfl),
    g_dihedral := He.glo_ok X G (c.fact 22 (f := .glo "dihedral") rfl),
    g_conjugate := He.glo_ok X G (c.fact 23 (f := .glo "conjugate") rfl),
    g_conjugation := He.glo_ok X G (c.fact 24 (f := .glo "conjugation") rfl),
    g__law_why := He.glo_ok X G (c.fact 25 (f := .glo "_law_why") rfl),
    g__law_due := He.glo_ok X G (c.fact 26 (f := .glo "_law_due") rfl),
    g__law_plain := He.glo_ok X G (c.fact 27 (f := .glo "_law_plain") rfl),
    g__law_is_quandle := He.glo_ok X G (c.fact 28 (f := .glo "_law_is_quandle") rfl),
    g__law_right := He.glo_ok X G (c.fact 29 (f := .glo "_law_right") rfl),
    g_law := He.glo_ok X G (c.fact 30 (f := .glo "law") rfl),
    g_KnotError := He.glo_ok X G (c.fact 31 (f := .glo "KnotError") rfl),
    g_InvalidMatrix := He.glo_ok X G (c.fact 32 (f := .glo "InvalidMatrix") rfl),
    g_InvalidDivision := He.glo_ok X G (c.fact 33 (f := .glo "InvalidDivision") rfl),
    g_Quandle := He.glo_ok X G (c.fact 34 (f := .glo "Quandle") rfl),
    cl_Quandle := He.cls_ok (c.fact 36 (f := .cls "Quandle") rfl),
    fl_table := by
      intro p hp
      simp only [List.mem_cons, List.not_mem_nil, or_false] at hp
      subst hp
      · exact ⟨He.cls_ok (c.fact 36 (f := .cls "Quandle") rfl), He.noat_ok (c.fact 37 (f := .noat "Quandle" "table") rfl)⟩,
    me_Quandle_acted := He.meth_ok (c.fact 38 (f := .meth "Quandle" "acted") rfl),
    me_Quandle_undone := He.meth_ok (c.fact 39 (f := .meth "Quandle" "undone") rfl),
    mk_Quandle := He.mkr_ok (c.fact 40 (f := .mkr "Quandle") rfl),
    xm_KnotError := by
      intro p hp
      simp only [List.mem_cons, List.not_mem_nil, or_false] at hp
      subst hp
      · exact He.exm_ok (c.fact 41 (f := .exm "InvalidMatrix" "KnotError" true) rfl),
    ix_InvalidDivision := by
      intro p hp
      simp only [List.mem_cons, List.not_mem_nil, or_false] at hp
      subst hp
      · exact ⟨excc_ok (c.fbs 4 (f := .excc "InvalidMatrix") rfl), isx_ok (c.fbs 5 (f := .isx "InvalidMatrix" "InvalidDivision" false) rfl)⟩,
    ix_InvalidMatrix := by
      intro p hp
      simp only [List.mem_cons, List.not_mem_nil, or_false] at hp
      subst hp
      · exact ⟨excc_ok (c.fbs 4 (f := .excc "InvalidMatrix") rfl), isx_ok (c.fbs 6 (f := .isx "InvalidMatrix" "InvalidMatrix" true) rfl)⟩,
    ic_Quandle := insc_ok (c.fbs 7 (f := .insc "Quandle") rfl),
    it_Quandle := by
      intro p hp
      simp only [List.mem_cons, List.not_mem_nil, or_false] at hp
      rcases hp with rfl | rfl | rfl | rfl | rfl | rfl | rfl
      · exact ist_ok (c.fbs 8 (f := .ist "str" "Quandle") rfl)
      · exact ist_ok (c.fbs 9 (f := .ist "NoneType" "Quandle") rfl)
      · exact ist_ok (c.fbs 10 (f := .ist "list" "Quandle") rfl)
      · exact ist_ok (c.fbs 11 (f := .ist "tuple" "Quandle") rfl)
      · exact ist_ok (c.fbs 12 (f := .ist "int" "Quandle") rfl)
      · exact ist_ok (c.fbs 13 (f := .ist "bool" "Quandle") rfl)
      · exact ist_ok (c.fbs 14 (f := .ist "dict" "Quandle") rfl),
    xf := by
      intro p hp
      simp only [List.mem_cons, List.not_mem_nil, or_false] at hp
      subst hp
      · exact ⟨xf_ok (c.fbs 3 (f := .xf "InvalidMatrix") rfl), He.noat_ok (c.fact 35 (f := .noat "InvalidMatrix" "what") rfl)⟩
  }
  obtain ⟨fd__law_deck, D__law_deck⟩ := c.def_ 0 (d := d__law_deck) rfl
  obtain ⟨fd__law_take, D__law_take⟩ := c.def_ 1 (d := d__law_take) rfl
  obtain ⟨fd__law_members, D__law_members⟩ := c.def_ 2 (d := d__law_members) rfl
  obtain ⟨fd__law_conjugate, D__law_conjugate⟩ := c.def_ 3 (d := d__law_conjugate) rfl
  obtain ⟨fd__law_conjugation, D__law_conjugation⟩ := c.def_ 4 (d := d__law_conjugation) rfl
  obtain ⟨fd__law_affine, D__law_affine⟩ := c.def_ 5 (d := d__law_affine) rfl
  obtain ⟨fd__law_table, D__law_table⟩ := c.def_ 6 (d := d__law_table) rfl
  obtain ⟨fd__law_bent, D__law_bent⟩ := c.def_ 7 (d := d__law_bent) rfl
  obtain ⟨fd_check_table, D_check_table⟩ := c.def_ 8 (d := d_check_table) rfl
  obtain ⟨fd_Quandle___init__, D_Quandle___init__⟩ := c.def_ 9 (d := d_Quandle___init__) rfl
  obtain ⟨fd_affine, D_affine⟩ := c.def_ 10 (d := d_affine) rfl
  obtain ⟨fd_dihedral, D_dihedral⟩ := c.def_ 11 (d := d_dihedral) rfl
  obtain ⟨fd_conjugate, D_conjugate⟩ := c.def_ 12 (d := d_conjugate) rfl
  obtain ⟨fd_conjugation, D_conjugation⟩ := c.def_ 13 (d := d_conjugation) rfl
  obtain ⟨fd__law_why, D__law_why⟩ := c.def_ 14 (d := d__law_why) rfl
  obtain ⟨fd__law_due, D__law_due⟩ := c.def_ 15 (d := d__law_due) rfl
  obtain ⟨fd__law_plain, D__law_plain⟩ := c.def_ 16 (d := d__law_plain) rfl
  obtain ⟨fd_Quandle_acted, D_Quandle_acted⟩ := c.def_ 17 (d := d_Quandle_acted) rfl
  obtain ⟨fd_Quandle_undone, D_Quandle_undone⟩ := c.def_ 18 (d := d_Quandle_undone) rfl
  obtain ⟨fd__law_is_quandle, D__law_is_quandle⟩ := c.def_ 19 (d := d__law_is_quandle) rfl
  obtain ⟨fd__law_right, D__law_right⟩ := c.def_ 20 (d := d__law_right) rfl
  obtain ⟨fd_law, D_law⟩ := c.def_ 21 (d := d_law) rfl
  obtain ⟨fd_InvalidMatrix, D_InvalidMatrix⟩ := c.def_ 22 (d := d_InvalidMatrix) rfl
  have e := hfa.symm.trans T.g_law
  cases e
  have b := FunD.bindsA (ps := ["script"]) D_law fun _ _ _ _ _ _ us hl => match us, hl with | [_], _ => rfl
  refine ⟨fd_law, fun s v => b s [v] rfl, fun base _ _ => ?_⟩
  have X_InvalidMatrix : KExc P w K mg base (He.ga K "InvalidMatrix") := kexc_of (B := He.ga K "KnotError") (bn := "KnotError") (lit := "invalid matrix: ") D_InvalidMatrix ⟨rfl, rfl, rfl, by decide +kernel, rfl, by decide +kernel, by decide +kernel⟩ (D_InvalidMatrix.bindsN fun _ _ _ _ _ _ us hl => match us, hl with | [_, _], _ => rfl) (oex_ok (c.fbs 0 (f := .oex "InvalidMatrix") rfl)) (He.noat_ok (c.fact 35 (f := .noat "InvalidMatrix" "what") rfl)) (ini_ok (c.fbs 1 (f := .ini "InvalidMatrix") rfl)).1 (ini_ok (c.fbs 1 (f := .ini "InvalidMatrix") rfl)).2 (kbase_ok (c.fbs 2 (f := .kbase "KnotError") rfl)) T.g_KnotError rfl (.inl rfl) (.inl rfl) (by decide) (by decide)
  have F__law_deck := ok__law_deck (P := P) (w := w) (base := base) T  D__law_deck
  have F__law_take := ok__law_take (P := P) (w := w) (base := base) T  D__law_take
  have F__law_members := ok__law_members (P := P) (w := w) (base := base) T F__law_take D__law_members
  have F__law_conjugate := ok__law_conjugate (P := P) (w := w) (base := base) T  D__law_conjugate
  have F__law_conjugation := ok__law_conjugation (P := P) (w := w) (base := base) T F__law_conjugate D__law_conjugation
  have F__law_affine := ok__law_affine (P := P) (w := w) (base := base) T  D__law_affine
  have F__law_table := ok__law_table (P := P) (w := w) (base := base) T F__law_take F__law_members F__law_conjugation F__law_affine D__law_table
  have F__law_bent := ok__law_bent (P := P) (w := w) (base := base) T F__law_take D__law_bent
  have F_check_table := ok_check_table (P := P) (w := w) (base := base) T X_InvalidMatrix D_check_table
  have F_Quandle___init__ := ok_Quandle___init__ (P := P) (w := w) (base := base) T F_check_table D_Quandle___init__
  have F_affine := ok_affine (P := P) (w := w) (base := base) T F_Quandle___init__ D_affine
  have F_dihedral := ok_dihedral (P := P) (w := w) (base := base) T F_Quandle___init__ D_dihedral
  have F_conjugate := ok_conjugate (P := P) (w := w) (base := base) T  D_conjugate
  have F_conjugation := ok_conjugation (P := P) (w := w) (base := base) T F_conjugate F_Quandle___init__ D_conjugation
  have F__law_why := ok__law_why (P := P) (w := w) (base := base) T F_Quandle___init__ F_affine F_dihedral F_conjugation D__law_why
  have F__law_due := ok__law_due (P := P) (w := w) (base := base) T  D__law_due
  have F__law_plain := ok__law_plain (P := P) (w := w) (base := base) T  D__law_plain
  have F_Quandle_acted := ok_Quandle_acted (P := P) (w := w) (base := base) T  D_Quandle_acted
  have F_Quandle_undone := ok_Quandle_undone (P := P) (w := w) (base := base) T  D_Quandle_undone
  have F__law_is_quandle := ok__law_is_quandle (P := P) (w := w) (base := base) T F__law_plain F_Quandle_acted F_Quandle_undone D__law_is_quandle
  have F__law_right := ok__law_right (P := P) (w := w) (base := base) T F__law_due F__law_why F__law_is_quandle D__law_right
  exact ok_law T F__law_deck F__law_table F__law_take F__law_bent F__law_why F__law_due F__law_is_quandle F__law_right F__law_affine F__law_members F__law_conjugation D_law
theorem holds_of (hlaw : ∀ ns : List Int, ns.length ≤ 63 → ∃ st, M_law [.slst (ns.map A.int)] [] = .ok (.bl true) st) : PySem.Challenge.rw_knotwork_k53_quandle_tables.Holds := by
  open PySem.W PySem.Calls in
  w_on; o_law
  refine HandSHeadRun.head_any (r := PySem.W.OpenLaw.row PySem.Challenge.rw_knotwork_k53_quandle_tables) (q := PySem.W.view (PySem.W.OpenLaw.row PySem.Challenge.rw_knotwork_k53_quandle_tables).prog [25]) (H := hk) (ob := ob) (M := 4440) (loose := loose) (d := HandSHeadRun.topDef (PySem.W.OpenLaw.row PySem.Challenge.rw_knotwork_k53_quandle_tables).prog 25) (kwd := []) ob_eq
    (by kernel_rfl) (fun s => by kernel_rfl) runH (by kernel_rfl) (by kernel_rfl) (by kernel_rfl) (by rfl) (by first | assumption | decide +kernel) (by decide +kernel) ⟨rfl, rfl, rfl, rfl, rfl, by decide +kernel⟩ ?hw ?hc
  case hw => w_witness2
  case hc =>
    refine L2.walk_ofE (l := PySem.Challenge.rw_knotwork_k53_quandle_tables) (n := 63) (k := 9) (x := "script") (CX := L2.CX0) rfl (by decide) (by kernel_rfl) ⟨rfl, by decide, by decide⟩ ?F (fun _ _ _ _ z => z)
    intro w mg fa h Y G hmg0
    obtain ⟨K, KX, c⟩ := Y
    have hmg : mg ("law" : PySem.Str) = some (.ref fa) := by
      have e : (HandSHeadRun.topDef (PySem.W.OpenLaw.row PySem.Challenge.rw_knotwork_k53_quandle_tables).prog 25).name = ("law" : PySem.Str) := by kernel_rfl
      rw [← e]
      exact hmg0
    obtain ⟨fd, hb, hF⟩ := facts (P := (PySem.Challenge.rw_knotwork_k53_quandle_tables).prog) (w := w) KX G hmg c
    exact ⟨K, fd, fun vs H Q _ => spM K 1 M_law vs H Q E0, KX, hb, fun H a ns hl _ hS => law_sp hS (hlaw ns hl), hF⟩
end Gk53

set_option Elab.async false
set_option linter.all false
set_option maxRecDepth 100000
set_option maxHeartbeats 4000000
namespace Gk53
open PySem PySem.Spec L2 SL
open PyProof.Rows hiding St
/-! the draws -/
abbrev li (l : List Int) : C := .lst (l.map A.int)
theorem set_get {α : Type} {l : List α} {c : Nat} {x : α} (h : l[c]? = some x) : l.set c x = l := by
  apply List.ext_getElem?
  intro i
  by_cases e : c = i
  · subst e; rw [List.getElem?_set_self (List.getElem?_eq_some_iff.mp h).1, h]
  · rw [List.getElem?_set_ne e]
theorem take_spec {st : Store} {c : Nat} {ds : List Int} {n : Int} (h : st[c]? = some (li ds)) (hn : 0 < n) : ∃ d ds', 0 ≤ d ∧ d < n ∧ M__law_take [.cell c, .int n] st = .ok (.int d) (st.set c (li ds')) := by
  have hfin : ∀ (a : Int) (l : List Int), finA false st.length st (.int a) (st.set c (li l)) = .ok (.int a) (st.set c (li l)) := fun a l => by
    have := finA_set (rc := false) (st := st) (a := .int a) (l := []) (c := c) (k := li l) (by simp [A.bel]) (by intro c h; cases h) (by simp [C.bel])
    simpa using this
  rcases List.eq_nil_or_concat ds with rfl | ⟨ds0, d, rfl⟩
  · refine ⟨0, [], by omega, hn, ?_⟩
    have h' : st[c]? = some (.lst []) := h
    have e := hfin 0 []
    rw [set_get h] at e
    rw [set_get h]
    simp [M__law_take, fnM, B__law_take, lenA_cell h', fin, e]
  · have h' : st[c]? = some (.lst (ds0.map A.int ++ [.int d])) := by rw [h]; simp [li]
    refine ⟨d.fmod n, ds0, ?_, ?_, ?_⟩
    · rw [Int.fmod_eq_emod_of_nonneg _ (by omega)]; exact Int.emod_nonneg _ (by omega)
    · rw [Int.fmod_eq_emod_of_nonneg _ (by omega)]; exact Int.emod_lt_of_pos _ hn
    · have hne : ¬ ((ds0.length : Int) + 1 = 0) := by omega
      simp [M__law_take, fnM, B__law_take, lenA_cell h', popM_c h', tyVA_cell h', modOp_ii (show n ≠ 0 by omega), fin, hne, hfin]
/-- deck built: some list of ints -/
structure DeckI (ns : List Int) (cells each : Nat) (i : Nat) (e : AEnv) (s : Store) : Prop where
  ex : ∃ (seed : Int) (ds : List Int) (x5 x6 x7 x8 : Option A), e = [some (.slst (ns.map A.int)), some (.int cells), some (.int each), some (.cell 0), some (.int seed), x5, x6, x7, x8] ∧ s = [li ds] ∧ 0 ≤ seed ∧ seed < 2147483748 ∧ ds.length = i
theorem small_mul {a b : Int} (h : a.natAbs < 2 ^ 200) (h' : b.natAbs < 2 ^ 200) : CMulW a b := wide_mul h h' (by decide) (by decide) (by decide)
theorem loop1 (ns : List Int) (cells each k : Nat) (hk : k + each < sizeLine) (seed rest : Int) (ds : List Int) (hd : ds.length = k) (x5 x6 x8 : Option A) (hs0 : 0 ≤ seed) (hs1 : seed < 2147483748) :
    ∃ e s, forL none (rgA 0 each) (gN 8) L1__law_deck (rgA 0 each) [some (.slst (ns.map A.int)), some (.int cells), some (.int each), some (.cell 0), some (.int seed), x5, x6, some (.int rest), x8] [li ds] = .nx e s ∧ DeckI ns cells each (k + each) e s := by
  have h := for_inv (all := rgA 0 each) (g := gN 8) (body := L1__law_deck) (xs := rgA 0 each) (fun i e s => ∃ (r : Int) (ds : List Int) (x8 : Option A), e = [some (.slst (ns.map A.int)), some (.int cells), some (.int each), some (.cell 0), some (.int seed), x5, x6, some (.int r), x8] ∧ s = [li ds] ∧ ds.length = k + i)
    (env := [some (.slst (ns.map A.int)), some (.int cells), some (.int each), some (.cell 0), some (.int seed), x5, x6, some (.int rest), x8]) (st := [li ds]) ⟨rest, ds, x8, rfl, rfl, by omega⟩ ?_
  · obtain ⟨e, s, h1, r, ds', x8', rfl, rfl, h2⟩ := h
    rw [rgA_length] at h2
    exact ⟨_, _, h1, seed, ds', _, _, _, _, rfl, rfl, hs0, hs1, by omega⟩
  · rintro i x e s hx ⟨r, ds', x8', rfl, rfl, hl⟩
    obtain ⟨hi, rfl⟩ := rgA_get hx
    have hc : ([li ds'] : Store)[0]? = some (.lst (ds'.map A.int)) := rfl
    have hlt : (ds'.map A.int).length < sizeLine := by rw [List.length_map]; omega
    refine ⟨_, rfl, ?_⟩
    simp [L1__law_deck, tyVA_cell hc, appendM_c hc hlt, modOp_ii (show (1000003 : Int) ≠ 0 by decide), fdivOp_ii (show CDivN r 1000003 from ⟨by decide, by decide⟩)]
    exact ⟨ds' ++ [r.fmod 1000003], by simp [li], by simp; omega⟩
theorem loop2 (ns : List Int) (cells each k : Nat) (hk : k + each < sizeLine) (seed : Int) (ds : List Int) (hd : ds.length = k) (x5 x6 x7 x8 : Option A) (hs0 : 0 ≤ seed) (hs1 : seed < 2147483748) :
    ∃ e s, forL none (rgA 0 each) (gN 8) L2__law_deck (rgA 0 each) [some (.slst (ns.map A.int)), some (.int cells), some (.int each), some (.cell 0), some (.int seed), x5, x6, x7, x8] [li ds] = .nx e s ∧ DeckI ns cells each (k + each) e s := by
  have h := for_inv (all := rgA 0 each) (g := gN 8) (body := L2__law_deck) (xs := rgA 0 each) (fun i e s => DeckI ns cells each (k + i) e s)
    (env := [some (.slst (ns.map A.int)), some (.int cells), some (.int each), some (.cell 0), some (.int seed), x5, x6, x7, x8]) (st := [li ds]) ⟨seed, ds, _, _, _, _, rfl, rfl, hs0, hs1, by omega⟩ ?_
  · obtain ⟨e, s, h1, h2⟩ := h
    rw [rgA_length] at h2
    exact ⟨e, s, h1, by simpa using h2⟩
  · rintro i x e s hx ⟨seed', ds', _, _, _, _, rfl, rfl, h0, h1, hl⟩
    obtain ⟨hi, rfl⟩ := rgA_get hx
    have hc : ([li ds'] : Store)[0]? = some (.lst (ds'.map A.int)) := rfl
    have hlt : (ds'.map A.int).length < sizeLine := by rw [List.length_map]; omega
    have hmul : CMulW seed' 69621 := small_mul (by omega) (by decide)
    refine ⟨_, rfl, ?_⟩
    have hs : ∀ y : Int, 0 ≤ y.fmod 2147483629 ∧ y.fmod 2147483629 < 2147483748 := fun y => by
      rw [Int.fmod_eq_emod_of_nonneg _ (by decide)]
      have := Int.emod_lt_of_pos y (show (0 : Int) < 2147483629 by decide)
      exact ⟨Int.emod_nonneg _ (by decide), by omega⟩
    simp [L2__law_deck, tyVA_cell hc, appendM_c hc hlt, mulOp_ii hmul, modOp_ii (show (1000003 : Int) ≠ 0 by decide), modOp_ii (show (2147483629 : Int) ≠ 0 by decide), fdivOp_ii (show CDivN _ 5 from ⟨by decide, by decide⟩)]
    exact ⟨_, ds' ++ [(((seed' * 69621 + (i : Int) + 1).fmod 2147483629).fdiv 5).fmod 1000003], _, _, _, _, rfl, by simp [li], (hs _).1, (hs _).2, by simp; omega⟩
theorem key_spec {ns : List Int} {cells each i : Nat} {seed : Int} {ds : List Int} {x7 x8 : Option A} (hb : i * each + each < sizeLine) (he : -(2 ^ 62) ≤ (each : Int) ∧ (each : Int) < 2 ^ 62) (hl : ds.length = i * each) (h0 : 0 ≤ seed) (h1 : seed < 2147483748) :
    ∀ cell : Int, NxP ((sSeq (sAsg (gN 7) (eCB (one1 absA) (aCons (eVar 6) aNil)))
      (sIf (tOf (eBin geOp (eVar 7) (eBin powOp (eC (.int 10)) (eC (.int 30))))) (sFor (mRng1 (aCons (eVar 2) aNil)) (gN 8) L1__law_deck) (sSeq (sAsg (gN 4) (eBin modOp (eCB (one1 intA) (aCons (eBin (addOp false) (eBin (addOp false) (eBin (addOp false) (eBin (mulOp false) (eVar 4) (eC (.int 48271))) (eBin (mulOp false) (eC (.int 2)) (eVar 7))) (eCB (one1 intA) (aCons (eBin ltOp (eVar 6) (eC (.int 0))) aNil))) (eVar 5)) aNil)) (eC (.int 2147483647))))
      (sFor (mRng1 (aCons (eVar 2) aNil)) (gN 8) L2__law_deck)))) [some (.slst (ns.map A.int)), some (.int cells), some (.int each), some (.cell 0), some (.int seed), some (.int (i : Int)), some (.int cell), x7, x8] [li ds]) (DeckI ns cells each (i * each + each)) := by
      have hr : ∀ (e : AEnv) (s : Store), e[2]? = some (some (.int each)) → mRng1 (aCons (eVar 2) aNil) e s = .ok (rgA 0 each, none) s := fun e s he' => mRng1_ap (by simp [he']) he.1 he.2
      intro cell
      generalize hrest : (if cell < 0 then -cell else cell) = rest
      have hr0 : 0 ≤ rest := by split at hrest <;> omega
      have hpow : ((10 : Int) ^ (30 : Int).toNat) = 1000000000000000000000000000000 := by decide
      by_cases hbig : (1000000000000000000000000000000 : Int) ≤ rest
      · obtain ⟨e, s, h2, h3⟩ := loop1 ns cells each (i * each) hb seed rest ds hl (some (.int (i : Int))) (some (.int cell)) x8 h0 h1
        simp [powOp_ii (show CPow 10 30 from ⟨by decide, by decide, by decide⟩), hrest, hpow, hbig, hr, h2, h3]
      · have hm1 : CMulW seed 48271 := small_mul (by omega) (by decide)
        have hm2 : CMulW 2 rest := small_mul (by decide) (by omega)
        have hs : ∀ y : Int, 0 ≤ y.fmod 2147483647 ∧ y.fmod 2147483647 < 2147483748 := fun y => by
          rw [Int.fmod_eq_emod_of_nonneg _ (by decide)]
          have := Int.emod_lt_of_pos y (show (0 : Int) < 2147483647 by decide)
          exact ⟨Int.emod_nonneg _ (by decide), by omega⟩
        have h2 : ∀ y : Int, ∃ e s, forL none (rgA 0 each) (gN 8) L2__law_deck (rgA 0 each) [some (.slst (ns.map A.int)), some (.int cells), some (.int each), some (.cell 0), some (.int (y.fmod 2147483647)), some (.int (i : Int)), some (.int cell), some (.int rest), x8] [li ds] = .nx e s ∧ DeckI ns cells each (i * each + each) e s :=
          fun y => loop2 ns cells each (i * each) hb _ ds hl _ _ _ _ (hs y).1 (hs y).2
        simp [powOp_ii (show CPow 10 30 from ⟨by decide, by decide, by decide⟩), hrest, hpow, hbig, hr, mulOp_ii hm1, mulOp_ii hm2, modOp_ii (show (2147483647 : Int) ≠ 0 by decide)]
        obtain ⟨e, s, h3, h4⟩ := h2 (seed * 48271 + 2 * rest + (if cell < 0 then 1 else 0) + (i : Int))
        rw [h3]
        exact h4
theorem deck_spec {ns : List Int} (hns : ns.length ≤ 63) (cells each : Nat) (hk : cells * each < 100000) (hc : cells < 1000) : ∃ ds : List Int, ds.length = cells * each ∧ M__law_deck [.slst (ns.map A.int), .int cells, .int each] [] = .ok (.cell 0) [li ds] := by
  have hsz : sizeLine = 16777216 := sizeLine_eq
  have h := for_inv (all := rgA 0 cells) (g := gN 5) (body := L3__law_deck) (xs := rgA 0 cells) (fun i e s => DeckI ns cells each (i * each) e s)
    (env := [some (.slst (ns.map A.int)), some (.int cells), some (.int each), some (.cell 0), some (.int (7 + (ns.length : Int))), none, none, none, none]) (st := [li []]) ⟨_, [], _, _, _, _, rfl, rfl, by omega, by omega, by simp⟩ ?_
  · obtain ⟨e, s, h1, seed, ds, x5, x6, x7, x8, rfl, rfl, _, _, hl⟩ := h
    rw [rgA_length] at hl
    refine ⟨ds.reverse, by simpa using hl, ?_⟩
    have hc1 : -(2 ^ 62) ≤ (cells : Int) ∧ (cells : Int) < 2 ^ 62 := by omega
    have hcc : ([li ds] : Store)[0]? = some (.lst (ds.map A.int)) := rfl
    have hr : mRng1 (aCons (eVar 1) aNil) [some (.slst (ns.map A.int)), some (.int cells), some (.int each), some (.cell 0), some (.int (7 + (ns.length : Int))), none, none, none, none] [li []] = .ok (rgA 0 cells, none) [li []] :=
      mRng1_ap (by simp) hc1.1 hc1.2
    simp only [li, List.map_nil] at hr h1
    have hbody : B__law_deck [some (.slst (ns.map A.int)), some (.int cells), some (.int each), none, none, none, none, none, none] [] = .rt (.cell 0) [li ds.reverse] := by
      simp [B__law_deck, hr, h1, tyVA_cell hcc, reverseM_c hcc, li]
    exact fnM_rt rfl hbody (finA_cell (st := []) (l := [li ds.reverse]) (Nat.zero_le _) rfl rfl (bel_ints _ _))
  · rintro i x e s hx ⟨seed, ds, x5, x6, x7, x8, rfl, rfl, h0, h1, hl⟩
    obtain ⟨hi, rfl⟩ := rgA_get hx
    have hb : i * each + each < sizeLine := by
      have : i * each + each = (i + 1) * each := by rw [Nat.succ_mul]
      have h2 : (i + 1) * each ≤ cells * each := Nat.mul_le_mul_right _ (by omega)
      omega
    have he : -(2 ^ 62) ≤ (each : Int) ∧ (each : Int) < 2 ^ 62 := by
      have : each ≤ cells * each := Nat.le_mul_of_pos_left _ (by omega)
      omega
    refine ⟨_, rfl, ?_⟩
    rw [Nat.succ_mul]
    have hr : ∀ (e : AEnv) (s : Store), e[2]? = some (some (.int each)) → mRng1 (aCons (eVar 2) aNil) e s = .ok (rgA 0 each, none) s := fun e s he' => mRng1_ap (by simp [he']) he.1 he.2
    have key := key_spec hb he hl h0 h1 (ns := ns) (cells := cells) (x7 := x7) (x8 := x8)
    by_cases hlen : (i : Int) < (ns.length : Int)
    · have hv : (ns.map A.int)[i]? = some (.int (ns[i]'(by omega))) := by
        rw [List.getElem?_map, List.getElem?_eq_getElem (by omega)]; rfl
      have hix : ixOp (.slst (ns.map A.int)) (.int (i : Int)) [li ds] = some (.int (ns[i]'(by omega)), [li ds]) := ixOp_at (xs := ns.map A.int) rfl (atI_of (by omega) (by simpa using hv))
      have k := key (ns[i]'(by omega))
      simp [L3__law_deck, hlen, hix]
      simp at k
      exact k
    · have k := key 0
      simp [L3__law_deck, hlen]
      simp at k
      exact k
end Gk53

set_option Elab.async false
set_option linter.all false
set_option maxRecDepth 100000
set_option maxHeartbeats 4000000
namespace Gk53
open PySem PySem.Spec L2 SL
open PyProof.Rows hiding St
theorem sz : sizeLine = 16777216 := sizeLine_eq
theorem rng1 {ms : AEnv → Store → Res (List A)} {env : AEnv} {st : Store} {n : Nat} (hn : n < 1000000) (h : ms env st = .ok [.int (n : Int)] st) : mRng1 ms env st = .ok (((List.range n).map fun i => ((i : Nat) : Int)).map A.int, none) st := by
  rw [mRng1_ap h (by omega) (by omega), rgA_ints]
/-! plain -/
theorem plain_int {st : Store} {k : Nat} {i : Int} : M__law_plain_ (k + 1) [.int i] st = .ok (.lst [.bl false, .int i]) st := by
  have hz := sz
  have hb : B__law_plain (M__law_plain_ k) [some (.int i), none] st = .rt (.lst [.bl false, .int i]) st := by
    have h1 : isiTys "int" [.ty "tuple", .ty "list"] = some false := by decide
    have h2 : isiTys "int" [.ty "int", .ty "str"] = some true := by decide
    have h3 : isiB (.int i) (.ty "bool") st = some (.bl false, st) := by simp only [isiB, isiA, tyName]; rw [show kitB "int" "bool" = some false by decide]; rfl
    have h4 : isiB (.int i) (.ty "str") st = some (.bl false, st) := by simp only [isiB, isiA, tyName]; rw [show kitB "int" "str" = some false by decide]; rfl
    have h5 : isNOp false (.int i) .non st = some (.bl false, st) := rfl
    simp [B__law_plain, tyName, h1, h2, h3, h4, h5, hz]
  exact fnM_rt rfl hb (fin_pure0 (by simp [A.bel, belowL]) (by intro c h; cases h))
theorem plain_seq {st : Store} {k : Nat} {a : A} {xs : List A} (f : A → A) (b : Bool) (ha : (a = .tup xs ∧ b = false) ∨ (a = .lst xs ∧ b = true)) (hl : xs.length < 1000000) (hbel : ∀ x ∈ xs, (f x).bel st.length = true)
    (h : ∀ x ∈ xs, M__law_plain_ k [x] st = .ok (f x) st) : M__law_plain_ (k + 1) [a] st = .ok (.lst (.bl b :: xs.map f)) st := by
  have hz := sz
  have hsq : seqR a st = some xs ∧ srcOf a xs = none := by rcases ha with ⟨rfl, _⟩ | ⟨rfl, _⟩ <;> exact ⟨rfl, rfl⟩
  have hb : B__law_plain (M__law_plain_ k) [some a, none] st = .rt (.lst (.bl b :: xs.map f)) st := by
    have h1 : ((tyName a st).bind fun n => (isiTys n [.ty "tuple", .ty "list"]).map fun b => (A.bl b, st)) = some (.bl true, st) := by
      rcases ha with ⟨rfl, _⟩ | ⟨rfl, _⟩
      · have : isiTys "tuple" [.ty "tuple", .ty "list"] = some true := by decide
        simp [tyName, this]
      · have : isiTys "list" [.ty "tuple", .ty "list"] = some true := by decide
        simp [tyName, this]
    have h2 : isiB a (.ty "list") st = some (.bl b, st) := by
      rcases ha with ⟨rfl, rfl⟩ | ⟨rfl, rfl⟩ <;> simp only [isiB, isiA, tyName]
      · rw [show kitB "tuple" "list" = some false by decide]; rfl
      · rw [show kitB "list" "list" = some true by decide]; rfl
    have hc := lcL_map (all := xs) (g := gN 1) (me := e1__law_plain (M__law_plain_ k)) (mt := tYesM) (env0 := [some a, none]) (st := st) (fun _ => true) f xs [] (fun x hx => ⟨[some a, some x], rfl, by simp, fun _ => by simp [e1__law_plain, h x hx]⟩) (by simp; omega)
    rw [filT] at hc
    have e1 : eLc false (mSeq (eVar 0)) (gN 1) [1] tYesM (e1__law_plain (M__law_plain_ k)) [some a, none] st = .ok (.lst (xs.map f)) st := by
      simp [hsq.1, hsq.2]
      simp at hc
      rw [hc]; rfl
    have e2 : addOp false (.lst [.bl b]) (.lst (xs.map f)) st = some (.lst (.bl b :: xs.map f), st) := by
      have hq : addL false (.lst [.bl b]) (.lst (xs.map f)) st = some (.lst (.bl b :: xs.map f), st) := by
        simp only [addL, lstH]
        rw [if_pos (by simp; omega)]; rfl
      simp [addOp, addI, addS, iiOp, hq]
    have e0 : eIsiT (eVar 0) (aCons (eC (.ty "tuple")) (aCons (eC (.ty "list")) aNil)) [some a, none] st = .ok (.bl true) st := by
      simp only [eIsiT_ap, eVar_ap, List.getElem?_cons_zero, Res.bind_ok, aCons_ap, eC_ap, aNil_ap]
      rw [if_pos (by simp [hz]), h1]; rfl
    simp only [B__law_plain, sSeq_ap, sIf_ap, tTru_ap, e0, Res.bind_ok, truA_b, Res.toS_ok, if_true, sRet_ap, eBin_ap, eLst_ap, aCons_ap, eCB_ap, eVar_ap, List.getElem?_cons_zero, eC_ap, aNil_ap, two2_ap, h2, Res.of_some, List.length_cons, List.length_nil, newL_f, e1]
    rw [if_pos (by omega)]
    simp only [Res.bind_ok, e1, e2, Res.of_some, Res.toS_ok, SRes.bind_rt]
  refine fnM_rt rfl hb (fin_pure0 ?_ (by intro c h; cases h))
  simp only [A.bel, belowL, Bool.true_and]
  exact belowL_all fun x hx => by obtain ⟨y, hy, rfl⟩ := List.mem_map.mp hx; exact hbel y hy
abbrev plI : A → A := fun a => .lst [.bl false, a]
theorem plI_bel {n : Nat} {i : Int} : (plI (.int i)).bel n = true := by simp [A.bel, belowL]
theorem plI_dt {st : Store} {n : Nat} {i : Int} : Dt st (n + 1) (plI (.int i)) := dt_lst (by intro x hx; simp at hx; rcases hx with rfl | rfl <;> first | exact dt_bl | exact dt_int)
theorem plain_ti {st : Store} {k : Nat} {l : List Int} (hl : l.length < 1000000) : M__law_plain_ (k + 2) [ti l] st = .ok (.lst (.bl false :: (l.map A.int).map plI)) st :=
  plain_seq plI false (.inl ⟨rfl, rfl⟩) (by simpa using hl) (fun x hx => by obtain ⟨i, _, rfl⟩ := List.mem_map.mp hx; exact plI_bel) (fun x hx => by obtain ⟨i, _, rfl⟩ := List.mem_map.mp hx; exact plain_int)
theorem plain_lI {st : Store} {k : Nat} {l : List Int} (hl : l.length < 1000000) : M__law_plain_ (k + 2) [lI l] st = .ok (.lst (.bl true :: (l.map A.int).map plI)) st :=
  plain_seq plI true (.inr ⟨rfl, rfl⟩) (by simpa using hl) (fun x hx => by obtain ⟨i, _, rfl⟩ := List.mem_map.mp hx; exact plI_bel) (fun x hx => by obtain ⟨i, _, rfl⟩ := List.mem_map.mp hx; exact plain_int)
theorem plain_str {st : Store} {k : Nat} {x : Str} : M__law_plain_ (k + 1) [.str x] st = .ok (.lst [.bl true, .str x]) st := by
  have hz := sz
  have hb : B__law_plain (M__law_plain_ k) [some (.str x), none] st = .rt (.lst [.bl true, .str x]) st := by
    have h1 : isiTys "str" [.ty "tuple", .ty "list"] = some false := by decide
    have h2 : isiTys "str" [.ty "int", .ty "str"] = some true := by decide
    have h3 : isiB (.str x) (.ty "bool") st = some (.bl false, st) := by simp only [isiB, isiA, tyName]; rw [show kitB "str" "bool" = some false by decide]; rfl
    have h4 : isiB (.str x) (.ty "str") st = some (.bl true, st) := by simp only [isiB, isiA, tyName]; rw [show kitB "str" "str" = some true by decide]; rfl
    have h5 : isNOp false (.str x) .non st = some (.bl false, st) := rfl
    simp [B__law_plain, tyName, h1, h2, h3, h4, h5, hz]
  exact fnM_rt rfl hb (fin_pure0 (by simp [A.bel, belowL]) (by intro c h; cases h))
def blS (b : Bool) : Str := if b then "True" else "False"
theorem plain_bl {st : Store} {k : Nat} {b : Bool} : M__law_plain_ (k + 1) [.bl b] st = .ok (.str (blS b)) st := by
  have hz := sz
  have hb : B__law_plain (M__law_plain_ k) [some (.bl b), none] st = .rt (.str (blS b)) st := by
    have h1 : isiTys "bool" [.ty "tuple", .ty "list"] = some false := by decide
    have h3 : isiB (.bl b) (.ty "bool") st = some (.bl true, st) := by simp only [isiB, isiA, tyName]; rw [show kitB "bool" "bool" = some true by decide]; rfl
    have h5 : isNOp false (.bl b) .non st = some (.bl false, st) := rfl
    have h6 : isNOp true (.bl b) .non st = some (.bl true, st) := rfl
    have h7 : isNOp false (.bl b) (.bl true) st = some (.bl (decide (b = true)), st) := rfl
    have i1 := @ixOp_at st [.str "None", .str "False", .str "True"] (.lst [.str "None", .str "False", .str "True"]) 1 _ rfl (atI_of (by omega) rfl)
    have i2 := @ixOp_at st [.str "None", .str "False", .str "True"] (.lst [.str "None", .str "False", .str "True"]) 2 _ rfl (atI_of (by omega) rfl)
    cases b
    · simp [B__law_plain, tyName, h1, h3, h5, h6, h7, hz, i1, blS]
    · simp [B__law_plain, tyName, h1, h3, h5, h6, h7, hz, i2, blS]
  exact fnM_rt rfl hb (fin_pure0 (by simp [A.bel]) (by intro c h; cases h))

/-! plain data of a few levels -/
inductive PD : Nat → A → Prop
  | int (d : Nat) (i : Int) : PD d (.int i)
  | bl (d : Nat) (b : Bool) : PD d (.bl b)
  | str (d : Nat) (x : Str) (h : PyData.strOk x = true) : PD d (.str x)
  | lst (d : Nat) (xs : List A) (hl : xs.length < 1000000) (h : ∀ x ∈ xs, PD d x) : PD (d + 1) (.lst xs)
  | tup (d : Nat) (xs : List A) (hl : xs.length < 1000000) (h : ∀ x ∈ xs, PD d x) : PD (d + 1) (.tup xs)
theorem blS_dt {st : Store} {n : Nat} {b : Bool} : Dt st n (.str (blS b)) := by
  cases b
  · exact dt_str (by simp only [PyData.canLay0]; decide +kernel)
  · exact dt_str (by simp only [PyData.canLay0]; decide +kernel)
theorem plain_pd {st : Store} : ∀ (d : Nat) (a : A), PD d a → ∀ k, ∃ r, M__law_plain_ (k + d + 1) [a] st = .ok r st ∧ (r.bel st.length = true ∧ ∀ c, r ≠ .cell c) ∧ ∀ m, Dt st (m + d + 1) r := by
  have seq : ∀ (d : Nat) (xs : List A) (a : A) (b : Bool), ((a = .tup xs ∧ b = false) ∨ (a = .lst xs ∧ b = true)) → xs.length < 1000000 → (∀ x ∈ xs, ∀ k, ∃ r, M__law_plain_ (k + d + 1) [x] st = .ok r st ∧ (r.bel st.length = true ∧ ∀ c, r ≠ .cell c) ∧ ∀ m, Dt st (m + d + 1) r) →
      ∀ k, ∃ r, M__law_plain_ (k + (d + 1) + 1) [a] st = .ok r st ∧ (r.bel st.length = true ∧ ∀ c, r ≠ .cell c) ∧ ∀ m, Dt st (m + (d + 1) + 1) r := by
    intro d xs a b ha hl ih k
    classical
    let f : A → A := fun x => if hx : x ∈ xs then Classical.choose (ih x hx k) else x
    have hf : ∀ x ∈ xs, M__law_plain_ (k + d + 1) [x] st = .ok (f x) st ∧ ((f x).bel st.length = true ∧ ∀ c, f x ≠ .cell c) ∧ ∀ m, Dt st (m + d + 1) (f x) := fun x hx => by
      have : f x = Classical.choose (ih x hx k) := dif_pos hx
      rw [this]; exact Classical.choose_spec (ih x hx k)
    refine ⟨_, plain_seq f b ha hl (fun x hx => (hf x hx).2.1.1) (fun x hx => (hf x hx).1), ⟨bel_lst fun x hx => ?_, by intro c h; cases h⟩, fun m => dt_lst (n := m + d + 1) fun x hx => ?_⟩
    · rw [List.mem_cons] at hx
      rcases hx with rfl | hx
      · simp [A.bel]
      · obtain ⟨y, hy, rfl⟩ := List.mem_map.mp hx; exact (hf y hy).2.1.1
    · rw [List.mem_cons] at hx
      rcases hx with rfl | hx
      · exact dt_bl
      · obtain ⟨y, hy, rfl⟩ := List.mem_map.mp hx; exact (hf y hy).2.2 m
  intro d a h
  induction h with
  | int d i => exact fun k => ⟨_, plain_int, ⟨by simp [A.bel, belowL], by intro c h; cases h⟩, fun m => dt_lst fun x hx => by
      simp only [List.mem_cons, List.not_mem_nil, or_false] at hx
      rcases hx with rfl | rfl
      · exact dt_bl
      · exact dt_int⟩
  | bl d b => exact fun k => ⟨_, plain_bl, ⟨by simp [A.bel], by intro c h; cases h⟩, fun m => blS_dt⟩
  | str d x h => exact fun k => ⟨_, plain_str, ⟨by simp [A.bel, belowL], by intro c h; cases h⟩, fun m => dt_lst fun y hy => by
      simp only [List.mem_cons, List.not_mem_nil, or_false] at hy
      rcases hy with rfl | rfl
      · exact dt_bl
      · exact dt_str (by simp only [PyData.canLay0]; exact h)⟩
  | lst d xs hl h ih => exact seq d xs _ true (.inr ⟨rfl, rfl⟩) hl ih
  | tup d xs hl h ih => exact seq d xs _ false (.inl ⟨rfl, rfl⟩) hl ih
theorem plainQ {st : Store} {d : Nat} {a : A} (h : PD d a) (hd : d ≤ 5) : ∃ r, M__law_plain [a] st = .ok r st ∧ eqOp r r st = some (.bl true, st) ∧ neOp r r st = some (.bl false, st) ∧ r.bel st.length = true ∧ ∀ c, r ≠ .cell c := by
  obtain ⟨r, h1, hb, h3⟩ := plain_pd (st := st) d a h (5 - d)
  rw [show 5 - d + d + 1 = 6 by omega] at h1
  have h4 := h3 (49 - d)
  rw [show 49 - d + d + 1 = 50 by omega] at h4
  exact ⟨r, h1, eqOp_same h4, neOp_same h4, hb⟩
theorem pd_lI {d : Nat} {l : List Int} (h : l.length < 1000000) : PD (d + 1) (lI l) := .lst d _ (by simpa using h) fun x hx => by obtain ⟨i, _, rfl⟩ := List.mem_map.mp hx; exact .int d i
theorem pd_ti {d : Nat} {l : List Int} (h : l.length < 1000000) : PD (d + 1) (ti l) := .tup d _ (by simpa using h) fun x hx => by obtain ⟨i, _, rfl⟩ := List.mem_map.mp hx; exact .int d i
end Gk53

set_option Elab.async false
set_option linter.all false
set_option maxRecDepth 100000
set_option maxHeartbeats 4000000
namespace Gk53
open PySem PySem.Spec L2 SL
open PyProof.Rows hiding St
theorem ixs {st : Store} {k : Int} {l : List A} {v : A} (h0 : 0 ≤ k) (h : l[k.toNat]? = some v) : ixOp (.lst l) (.int k) st = some (v, st) := ixOp_at rfl (atI_of h0 h)
theorem ixt {st : Store} {k : Int} {l : List A} {v : A} (h0 : 0 ≤ k) (h : l[k.toNat]? = some v) : ixOp (.tup l) (.int k) st = some (v, st) := ixOp_at rfl (atI_of h0 h)
theorem addI_l {st : Store} {a b : List Int} (h : a.length + b.length < 1000000) : addOp false (.lst (a.map A.int)) (.lst (b.map A.int)) st = some (.lst ((a ++ b).map A.int), st) := by
  have hz := sz
  rw [addOp_l (by simp; omega), List.map_append]
theorem slt {st : Store} {w : List Int} {k : Int} (h0 : 0 ≤ k) (h1 : k ≤ w.length) : slOp false (.lst (w.map A.int)) none (some k) st = some (.lst ((w.take k.toNat).map A.int), st) := by
  rw [sl_take h0 (by simpa using h1), List.map_take]
theorem sld {st : Store} {w : List Int} {k : Int} (h0 : 0 ≤ k) (h1 : k ≤ w.length) : slOp false (.lst (w.map A.int)) (some k) none st = some (.lst ((w.drop k.toNat).map A.int), st) := by
  rw [sl_drop h0 (by simpa using h1), List.map_drop]
def ab (i : Int) : Int := if i < 0 then -i else i
theorem absA_ab {i : Int} {st : Store} : absA (.int i) st = some (.int (ab i), st) := rfl
theorem bel_str {n : Nat} {x : Str} : (A.str x).bel n = true := by simp [A.bel]
theorem tkA {st : Store} {l : List C} {c : Nat} {ds : List Int} {n : Int} (h : c < st.length) (hn : 0 < n) : ∃ d ds', 0 ≤ d ∧ d < n ∧ M__law_take [.cell c, .int n] (st.set c (li ds) ++ l) = .ok (.int d) (st.set c (li ds') ++ l) := by
  have h0 : (st.set c (li ds) ++ l)[c]? = some (li ds) := by
    rw [List.getElem?_append_left (by simpa using h), List.getElem?_set_self h]
  obtain ⟨d, ds', h1, h2, h3⟩ := take_spec h0 hn
  refine ⟨d, ds', h1, h2, ?_⟩
  rw [h3, List.set_append_left _ _ (by simpa using h), List.set_set]
theorem tk0 {st : Store} {c : Nat} {ds : List Int} {n : Int} (h : c < st.length) (hn : 0 < n) : ∃ d ds', 0 ≤ d ∧ d < n ∧ M__law_take [.cell c, .int n] (st.set c (li ds)) = .ok (.int d) (st.set c (li ds')) := by
  have := tkA (l := []) (ds := ds) h hn
  simpa using this
theorem fin_set {st : Store} {c : Nat} {ds : List Int} {a : A} {l : List C} (h : a.bel st.length = true) (hc : ∀ c, a ≠ .cell c) : finA false st.length st a (st.set c (li ds) ++ l) = .ok a (st.set c (li ds)) :=
  finA_set h hc (bel_ints _ _)
theorem fin_set0 {st : Store} {c : Nat} {ds : List Int} {a : A} (h : a.bel st.length = true) (hc : ∀ c, a ≠ .cell c) : finA false st.length st a (st.set c (li ds)) = .ok a (st.set c (li ds)) := by
  have := fin_set (l := []) (st := st) (c := c) (ds := ds) h hc
  simpa using this
theorem neg_ix {st : Store} {a : A} {w : List Int} {k : Nat} (hs : seqR a st = some (w.map A.int)) (h : k < w.length) : ixOp a (.int (-((k : Int) + 1))) st = some (.int (w.getD (w.length - 1 - k) 0), st) := by
  refine ixOp_at hs ?_
  unfold atI ixN
  rw [List.length_map, if_neg (by omega), if_pos (by omega)]
  show (w.map A.int)[_]? = _
  rw [show (-((k : Int) + 1) + (w.length : Int)).toNat = w.length - 1 - k by omega]
  exact get_getD (by omega)
theorem small_mulI {a b : Int} (h : a.natAbs < 2 ^ 20) (h' : b.natAbs < 2 ^ 20) : CMulW a b := wide_mul h h' (by decide) (by decide) (by decide)
theorem finA_lstW {st s : Store} {n : Nat} {zs : List A} (hn : st.length ≤ n) (h : s[n]? = some (.lst zs)) (hb : belowL st.length zs = true) (hok : okS st.length st s) : finA false st.length st (.cell n) s = .ok (.lst zs) (s.take st.length) := by
  have hnb : A.bel st.length (.cell n) = false := by simp [A.bel]; omega
  have e2 : ∀ (k : Nat) (ys : List A) (s : Store), belowL st.length ys = true → frzL (frzA st.length k) ys s = some (ys, s) := by
    intro k ys
    induction ys with
    | nil => intro s _; rfl
    | cons y ys ih =>
      intro s hb
      rw [belowL, Bool.and_eq_true] at hb
      unfold frzL
      have e : frzA st.length k y s = some (y, s) := by cases k <;> (unfold frzA; rw [if_pos hb.1])
      rw [e]
      dsimp only
      rw [ih s hb.2]
  have e : frzA st.length 8 (.cell n) s = some (.lst zs, s.set n .dead) := by
    unfold frzA
    rw [if_neg (by rw [hnb]; decide)]
    dsimp only
    rw [h]
    dsimp only
    rw [e2 _ _ _ hb]
    rfl
  have hok' : okS st.length st (s.set n .dead) := fun i hi => by
    rw [List.getElem?_set_ne (by omega)]; exact hok i hi
  unfold finA
  dsimp only
  rw [e]
  dsimp only
  rw [if_pos ⟨by simp only [A.bel]; exact hb, hok'⟩]
  congr 1
  rw [List.take_set_of_le (by omega)]
/-- a new list of numbers goes out, the draws having moved on -/
theorem fin_draw {st : Store} {c : Nat} {ds ds' zs : List Int} {l : List C} {n : Nat} (hn : st.length ≤ n) (h : (st.set c (li ds') ++ l)[n]? = some (li zs)) : finA false (st.set c (li ds)).length (st.set c (li ds)) (.cell n) (st.set c (li ds') ++ l) = .ok (lI zs) (st.set c (li ds')) := by
  have hok : okS (st.set c (li ds)).length (st.set c (li ds)) (st.set c (li ds') ++ l) := by
    have := okS_set (st := st.set c (li ds)) (c := c) (k := li ds') (l := l) (bel_ints _ _)
    rwa [List.set_set] at this
  rw [finA_lstW (zs := zs.map A.int) (by simpa using hn) h (bel_ints _ _) hok]
  congr 1
  have : (st.set c (li ds)).length = (st.set c (li ds')).length := by simp
  rw [this, List.take_left]
/-- a value without cells goes out, the draws having moved on -/
theorem fin_draw0 {st : Store} {c : Nat} {ds ds' : List Int} {a : A} (h : a.bel st.length = true) (hc : ∀ c, a ≠ .cell c) : finA false (st.set c (li ds)).length (st.set c (li ds)) a (st.set c (li ds')) = .ok a (st.set c (li ds')) := by
  have := finA_set (rc := false) (st := st.set c (li ds)) (a := a) (l := []) (c := c) (k := li ds') (by simpa using h) hc (bel_ints _ _)
  simpa using this
theorem rng1' {ms : AEnv → Store → Res (List A)} {env : AEnv} {st st' : Store} {n : Nat} (hn : n < 1000000) (h : ms env st = .ok [.int (n : Int)] st') : mRng1 ms env st = .ok (((List.range n).map fun i => ((i : Nat) : Int)).map A.int, none) st' := by
  simp only [mRng1, h, Res.bind_ok]; rw [if_pos ⟨by omega, by omega⟩, rgA_ints]
theorem rng_get {q i : Nat} {a : A} (h : (((List.range q).map fun i => ((i : Nat) : Int)).map A.int)[i]? = some a) : i < q ∧ a = .int (i : Int) := by
  rw [List.getElem?_map, List.getElem?_map] at h
  by_cases hj : i < q
  · rw [List.getElem?_range hj] at h; cases h; exact ⟨hj, rfl⟩
  · rw [List.getElem?_eq_none (by simp; omega)] at h; cases h
end Gk53

set_option Elab.async false
set_option linter.all false
set_option maxRecDepth 100000
set_option maxHeartbeats 4000000
/-! the tables: what is wrong with them -/
namespace Q53
open PySem PySem.Spec L2 SL
open PyProof.Rows hiding St
def gt (T : List (List Int)) (x y : Int) : Int := (T.getD x.toNat []).getD y.toNat 0
def rg (n : Nat) : List Int := (List.range n).map fun i => ((i : Nat) : Int)
def rowsB (T : List (List Int)) : Bool := decide ((T.length : Int) = 0) || (T.map fun r => !decide ((r.length : Int) = (T.length : Int))).any id
def valsB (T : List (List Int)) : Bool := (T.map fun r => r.map fun e => !decide (0 ≤ e ∧ e < (T.length : Int))).flatten.any id
def idemB (T : List (List Int)) : Bool := ((rg T.length).map fun x => !decide (gt T x x = x)).any id
def colB (T : List (List Int)) (y : Int) : Bool := !decide (srtI ((rg T.length).map fun x => gt T x y) = rg T.length)
def disB (T : List (List Int)) (x y z : Int) : Bool := !decide (gt T (gt T x y) z = gt T (gt T x z) (gt T y z))
def errT (T : List (List Int)) : Option Str :=
  if rowsB T = true then some "rows" else if valsB T = true then some "values" else if idemB T = true then some "idempotent"
  else if (rg T.length).any (colB T) = true then some "columns" else if ((rg T.length).any fun x => (rg T.length).any fun y => (rg T.length).any fun z => disB T x y z) = true then some "distributive" else none
theorem rg_mem {n : Nat} {x : Int} (h : x ∈ rg n) : 0 ≤ x ∧ x < n := by
  obtain ⟨i, hi, rfl⟩ := List.mem_map.mp h
  have := List.mem_range.mp hi
  omega
theorem rows_ok {T : List (List Int)} (h : rowsB T = false) : T ≠ [] ∧ ∀ r ∈ T, r.length = T.length := by
  unfold rowsB at h
  rw [Bool.or_eq_false_iff] at h
  obtain ⟨h1, h2⟩ := h
  have h1 := of_decide_eq_false h1
  refine ⟨fun z => h1 (by rw [z]; rfl), fun r hr => ?_⟩
  rw [List.any_eq_false] at h2
  have := h2 _ (List.mem_map.mpr ⟨r, hr, rfl⟩)
  simp at this
  omega
theorem vals_ok {T : List (List Int)} (h : valsB T = false) : ∀ r ∈ T, ∀ e ∈ r, 0 ≤ e ∧ e < T.length := by
  intro r hr e he
  unfold valsB at h
  rw [List.any_eq_false] at h
  have := h _ (List.mem_flatten.mpr ⟨_, List.mem_map.mpr ⟨r, hr, rfl⟩, List.mem_map.mpr ⟨e, he, rfl⟩⟩)
  simp at this
  omega
theorem gt_row {T : List (List Int)} {x : Int} (h0 : 0 ≤ x) (h1 : x < T.length) : ∃ r, T[x.toNat]? = some r ∧ r ∈ T := by
  have hk : x.toNat < T.length := by omega
  exact ⟨_, List.getElem?_eq_getElem hk, List.getElem_mem _⟩
theorem gt_rng {T : List (List Int)} (h1 : rowsB T = false) (h2 : valsB T = false) {x y : Int} (hx0 : 0 ≤ x) (hx : x < T.length) (hy0 : 0 ≤ y) (hy : y < T.length) : 0 ≤ gt T x y ∧ gt T x y < T.length := by
  obtain ⟨r, hr, hm⟩ := gt_row hx0 hx
  have hl := (rows_ok h1).2 r hm
  refine vals_ok h2 r hm _ ?_
  unfold gt
  rw [List.getD_eq_getElem?_getD (l := T), hr]
  show r.getD y.toNat 0 ∈ r
  rw [List.getD_eq_getElem?_getD, List.getElem?_eq_getElem (by omega)]
  exact List.getElem_mem _
end Q53
namespace Gk53
open PySem PySem.Spec L2 SL Q53
open PyProof.Rows hiding St
def exW (c m : Str) : Exc := ⟨c, ["what"], [.str m]⟩
section
variable {st : Store} {wv : A} {R : List (Rw st)} {T : List (List Int)}
theorem tab_at (h : RwL st wv R) (hT : R.map Rw.l = T) (hl : ∀ r ∈ T, r.length = T.length) {x y : Int} (hx0 : 0 ≤ x) (hx : x < T.length) (hy0 : 0 ≤ y) (hy : y < T.length) :
    ∃ v, ixOp wv (.int x) st = some (v, st) ∧ ixOp v (.int y) st = some (.int (gt T x y), st) := by
  have hRl : R.length = T.length := by rw [← hT, List.length_map]
  obtain ⟨r, hr, h1⟩ := h.at hx0 (by omega)
  have hrT : T[x.toNat]? = some r.l := by rw [← hT, List.getElem?_map, hr]; rfl
  have hrl := hl r.l (List.mem_of_getElem? hrT)
  refine ⟨r.v, h1, ?_⟩
  rw [r.at hy0 (by omega)]
  have : gt T x y = r.l.getD y.toNat 0 := by unfold gt; rw [List.getD_eq_getElem?_getD (l := T), hrT]; rfl
  rw [this]
theorem lc2_rows {src : Src} {all : List A} (hs : srcOk src all st) {w x2 x3 x4 : Option A} {n : Nat} : ∀ (R : List (Rw st)) (acc : List A), acc.length + 100 * R.length < 1000000 → (∀ r ∈ R, r.l.length ≤ 100) →
    lcL2 src all (gN 5) tYesM (mSeq (eVar 5)) (gN 6) [6] tYesM e2_check_table [w, some (.rng 0 (n : Int)), x2, x3, x4, none, none] (R.map Rw.v) acc st = .ok (acc ++ ((R.map fun r => r.l.map fun e => !decide (0 ≤ e ∧ e < (n : Int))).flatten.map A.bl)) st
  | [], acc, _, _ => by rw [List.map_nil, lcL2, if_pos hs]; simp
  | r :: R, acc, hl, h => by
    have hz := sz
    have hr := h r (by simp)
    rw [List.length_cons] at hl
    have ih := lc2_rows hs (w := w) (x2 := x2) (x3 := x3) (x4 := x4) (n := n) R (acc ++ (r.l.map fun e => !decide (0 ≤ e ∧ e < (n : Int))).map A.bl) (by simp; omega) (fun r' hr' => h r' (by simp [hr']))
    rw [List.map_cons, lcL2, if_pos hs]
    have hm : mSeq (eVar 5) [w, some (.rng 0 (n : Int)), x2, x3, x4, some r.v, none] st = .ok (r.l.map A.int, srcOf r.v (r.l.map A.int)) st := by
      simp only [mSeq_ap, eVar_ap, List.getElem?_cons_zero, List.getElem?_cons_succ, Res.bind_ok, r.ok]
    have inn := @lcSG Int A.int (fun e => .bl (!decide (0 ≤ e ∧ e < (n : Int)))) (srcOf r.v (r.l.map A.int)) (r.l.map A.int) 6 e2_check_table [w, some (.rng 0 (n : Int)), x2, x3, x4, some r.v, none] st (src_of_seq r.ok _) r.l acc (by omega) (fun e he => by
      show e2_check_table [w, some (.rng 0 (n : Int)), x2, x3, x4, some r.v, some (.int e)] st = _
      simp only [e2_check_table, eBin_ap, eVar_ap, List.getElem?_cons_zero, List.getElem?_cons_succ, Res.bind_ok, inRng_i, Bool.true_xor, Res.of_some])
    have hw : wipeA [w, some (.rng 0 (n : Int)), x2, x3, x4, some r.v, none] [6] = [w, some (.rng 0 (n : Int)), x2, x3, x4, some r.v, none] := rfl
    simp only [gN_ap, List.set_cons_succ, List.set_cons_zero, tYesM_ap, noX_ok, Res.bind_ok, if_true, hm, hw, inn]
    have e1 : (r.l.map fun e => A.bl (!decide (0 ≤ e ∧ e < (n : Int)))) = (r.l.map fun e => !decide (0 ≤ e ∧ e < (n : Int))).map A.bl := by rw [List.map_map]; rfl
    rw [e1, ih]
    simp
/-- the bools of a comprehension over a range -/
theorem lcB {mi : MI} {i : Nat} {own : List Nat} {ma : AEnv → Store → Res A} {env : AEnv} {xs : List Int} (f : Int → Bool) (hmi : mi env st = .ok (xs.map A.int, none) st) (hl : xs.length < 1000)
    (h : ∀ x ∈ xs, ma ((wipeA env own).set i (some (.int x))) st = .ok (.bl (f x)) st) : eLc false mi (gN i) own tYesM ma env st = .ok (.lst ((xs.map f).map A.bl)) st := by
  have hz := sz
  rw [lcG hmi trivial (by omega) h, List.map_map]; rfl
theorem rg_len {n : Nat} : (rg n).length = n := by unfold rg; simp
/-- sorted columns -/
theorem col_body (h : RwL st wv R) (hT : R.map Rw.l = T) (h1 : rowsB T = false) (hl64 : T.length < 64) {y : Int} (hy0 : 0 ≤ y) (hy : y < T.length) {x3 x4 x5 x6 : Option A} :
    (colB T y = true → ∃ e, L5_check_table [some wv, some (.rng 0 (T.length : Int)), some (.int y), x3, x4, x5, x6] st = .exc (exW "InvalidMatrix" "columns") e st) ∧
    (colB T y = false → L5_check_table [some wv, some (.rng 0 (T.length : Int)), some (.int y), x3, x4, x5, x6] st = .nx [some wv, some (.rng 0 (T.length : Int)), some (.int y), x3, x4, x5, x6] st) := by
  have hrl := (rows_ok h1).2
  have mi : mRngV (eVar 1) [some wv, some (.rng 0 (T.length : Int)), some (.int y), x3, x4, x5, x6] st = .ok ((rg T.length).map A.int, none) st := mRngV_ap rfl (by omega)
  have lc := @lcG Int A.int (fun x => .int (gt T x y)) (mRngV (eVar 1)) 3 [3] e4_check_table [some wv, some (.rng 0 (T.length : Int)), some (.int y), x3, x4, x5, x6] st none (rg T.length) mi trivial (by have := sz; rw [rg_len]; omega) (fun x hx => by
    obtain ⟨a, b⟩ := rg_mem hx
    obtain ⟨v, i1, i2⟩ := tab_at h hT hrl a b hy0 hy
    show e4_check_table [some wv, some (.rng 0 (T.length : Int)), some (.int y), some (.int x), x4, x5, x6] st = _
    simp only [e4_check_table, eBin_ap, eVar_ap, List.getElem?_cons_zero, List.getElem?_cons_succ, Res.bind_ok, i1, Res.of_some, i2])
  have e1 : ((rg T.length).map fun x => A.int (gt T x y)) = ((rg T.length).map fun x => gt T x y).map A.int := by rw [List.map_map]; rfl
  rw [e1] at lc
  have so := @sortA_ints st ((rg T.length).map fun x => gt T x y) (by rw [List.length_map, rg_len]; omega)
  have er : eRg (some false) (eEnds (eVar 1)) [some wv, some (.rng 0 (T.length : Int)), some (.int y), x3, x4, x5, x6] st = .ok (lI (rg T.length)) st := eRgV_ap rfl (by omega)
  have ne := @neOp_lI st (srtI ((rg T.length).map fun x => gt T x y)) (rg T.length)
  have ln : Str.length "columns" < 1000 := by decide
  constructor
  · intro hb
    have hb : (!decide (srtI ((rg T.length).map fun x => gt T x y) = rg T.length)) = true := hb
    rw [hb] at ne
    refine ⟨[some wv, some (.rng 0 (T.length : Int)), some (.int y), x3, x4, x5, x6], ?_⟩
    simp only [L5_check_table, sIf_ap, tOf_ap, eBin_ap, eCB_ap, aCons_ap, lc, Res.bind_ok, aNil_ap, one1_ap, so, Res.of_some, er, ne, asB_bl, Res.toS_ok, if_true, sRaise_ap, mkWhat_ap, eC_ap, ln, exW]
  · intro hb
    have hb : (!decide (srtI ((rg T.length).map fun x => gt T x y) = rg T.length)) = false := hb
    rw [hb] at ne
    simp only [L5_check_table, sIf_ap, tOf_ap, eBin_ap, eCB_ap, aCons_ap, lc, Res.bind_ok, aNil_ap, one1_ap, so, Res.of_some, er, ne, asB_bl, Res.toS_ok, Bool.false_eq_true, if_false, sNil_ap]
theorem dis_body (h : RwL st wv R) (hT : R.map Rw.l = T) (h1 : rowsB T = false) (h2 : valsB T = false) {x y z : Int} (hx0 : 0 ≤ x) (hx : x < T.length) (hy0 : 0 ≤ y) (hy : y < T.length) (hz0 : 0 ≤ z) (hz : z < T.length) {x1 x5 x6 : Option A} :
    (disB T x y z = true → ∃ e, L6_check_table [some wv, x1, some (.int y), some (.int x), some (.int z), x5, x6] st = .exc (exW "InvalidMatrix" "distributive") e st) ∧
    (disB T x y z = false → L6_check_table [some wv, x1, some (.int y), some (.int x), some (.int z), x5, x6] st = .nx [some wv, x1, some (.int y), some (.int x), some (.int z), x5, x6] st) := by
  have hrl := (rows_ok h1).2
  obtain ⟨v1, a1, a2⟩ := tab_at h hT hrl hx0 hx hy0 hy
  obtain ⟨b1, b2⟩ := gt_rng h1 h2 hx0 hx hy0 hy
  obtain ⟨v2, a3, a4⟩ := tab_at h hT hrl b1 b2 hz0 hz
  obtain ⟨v3, a5, a6⟩ := tab_at h hT hrl hx0 hx hz0 hz
  rw [a1] at a5; cases a5
  obtain ⟨v4, a7, a8⟩ := tab_at h hT hrl hy0 hy hz0 hz
  obtain ⟨b3, b4⟩ := gt_rng h1 h2 hx0 hx hz0 hz
  obtain ⟨b5, b6⟩ := gt_rng h1 h2 hy0 hy hz0 hz
  obtain ⟨v5, a9, a10⟩ := tab_at h hT hrl b3 b4 b5 b6
  have ln : Str.length "distributive" < 1000 := by decide
  constructor
  · intro hb
    have hb : (!decide (gt T (gt T x y) z = gt T (gt T x z) (gt T y z))) = true := hb
    refine ⟨[some wv, x1, some (.int y), some (.int x), some (.int z), x5, x6], ?_⟩
    simp only [L6_check_table, sIf_ap, tOf_ap, eBin_ap, eVar_ap, List.getElem?_cons_zero, List.getElem?_cons_succ, Res.bind_ok, a1, a2, a3, a4, a6, a7, a8, a9, a10, Res.of_some, neOp_ii, hb, asB_bl, Res.toS_ok, if_true, sRaise_ap, mkWhat_ap, eC_ap, ln, exW]
  · intro hb
    have hb : (!decide (gt T (gt T x y) z = gt T (gt T x z) (gt T y z))) = false := hb
    simp only [L6_check_table, sIf_ap, tOf_ap, eBin_ap, eVar_ap, List.getElem?_cons_zero, List.getElem?_cons_succ, Res.bind_ok, a1, a2, a3, a4, a6, a7, a8, a9, a10, Res.of_some, neOp_ii, hb, asB_bl, Res.toS_ok, Bool.false_eq_true, if_false, sNil_ap]
/-- the walk over the columns -/
theorem col_loop (h : RwL st wv R) (hT : R.map Rw.l = T) (h1 : rowsB T = false) (hl64 : T.length < 64) :
    ((rg T.length).any (colB T) = true → ∃ e, forL none ((rg T.length).map A.int) (gN 2) L5_check_table ((rg T.length).map A.int) [some wv, some (.rng 0 (T.length : Int)), none, none, none, none, none] st = .exc (exW "InvalidMatrix" "columns") e st) ∧
    ((rg T.length).any (colB T) = false → ∃ x2, forL none ((rg T.length).map A.int) (gN 2) L5_check_table ((rg T.length).map A.int) [some wv, some (.rng 0 (T.length : Int)), none, none, none, none, none] st = .nx [some wv, some (.rng 0 (T.length : Int)), x2, none, none, none, none] st) := by
  obtain ⟨a, b⟩ := loop_any (emb := A.int) (src := none) (all := (rg T.length).map A.int) (g := gN 2) (body := L5_check_table) (s := st) (bad := colB T) (fun e => ∃ x2, e = [some wv, some (.rng 0 (T.length : Int)), x2, none, none, none, none]) (fun r => ∃ e, r = .exc (exW "InvalidMatrix" "columns") e st) trivial (fun r ⟨e, he⟩ => by rw [he]; trivial)
    (rg T.length) [some wv, some (.rng 0 (T.length : Int)), none, none, none, none, none] ⟨none, rfl⟩ (fun y hy e ⟨x2, he⟩ => by
      subst he
      obtain ⟨y0, y1⟩ := rg_mem hy
      obtain ⟨c1, c2⟩ := @col_body st wv R T h hT h1 hl64 y y0 y1 none none none none
      exact ⟨_, rfl, c1, fun hb => ⟨_, ⟨some (.int y), rfl⟩, c2 hb⟩⟩)
  refine ⟨a, fun hb => ?_⟩
  obtain ⟨e', ⟨x2, rfl⟩, he⟩ := b hb
  exact ⟨x2, he⟩
theorem z_loop (h : RwL st wv R) (hT : R.map Rw.l = T) (h1 : rowsB T = false) (h2 : valsB T = false) (hl64 : T.length < 64) {x y : Int} (hx0 : 0 ≤ x) (hx : x < T.length) (hy0 : 0 ≤ y) (hy : y < T.length) {x4 : Option A} :
    ((rg T.length).any (fun z => disB T x y z) = true → ∃ e, L7_check_table [some wv, some (.rng 0 (T.length : Int)), some (.int y), some (.int x), x4, none, none] st = .exc (exW "InvalidMatrix" "distributive") e st) ∧
    ((rg T.length).any (fun z => disB T x y z) = false → ∃ y4, L7_check_table [some wv, some (.rng 0 (T.length : Int)), some (.int y), some (.int x), x4, none, none] st = .nx [some wv, some (.rng 0 (T.length : Int)), some (.int y), some (.int x), y4, none, none] st) := by
  obtain ⟨a, b⟩ := loop_any (emb := A.int) (src := none) (all := (rg T.length).map A.int) (g := gN 4) (body := L6_check_table) (s := st) (bad := fun z => disB T x y z) (fun e => ∃ x4, e = [some wv, some (.rng 0 (T.length : Int)), some (.int y), some (.int x), x4, none, none]) (fun r => ∃ e, r = .exc (exW "InvalidMatrix" "distributive") e st) trivial (fun r ⟨e, he⟩ => by rw [he]; trivial)
    (rg T.length) [some wv, some (.rng 0 (T.length : Int)), some (.int y), some (.int x), x4, none, none] ⟨x4, rfl⟩ (fun z hz e ⟨x4, he⟩ => by
      subst he
      obtain ⟨z0, z1⟩ := rg_mem hz
      obtain ⟨c1, c2⟩ := @dis_body st wv R T h hT h1 h2 x y z hx0 hx hy0 hy z0 z1 (some (.rng 0 (T.length : Int))) none none
      exact ⟨_, rfl, c1, fun hb => ⟨_, ⟨some (.int z), rfl⟩, c2 hb⟩⟩)
  have mi : mRngV (eVar 1) [some wv, some (.rng 0 (T.length : Int)), some (.int y), some (.int x), x4, none, none] st = .ok ((rg T.length).map A.int, none) st := mRngV_ap rfl (by omega)
  constructor
  · intro hb
    obtain ⟨e, he⟩ := a hb
    refine ⟨e, ?_⟩
    simp only [L7_check_table, sFor_ap, mi, Res.toS_ok, he]
  · intro hb
    obtain ⟨e', ⟨x4', rfl⟩, he⟩ := b hb
    refine ⟨x4', ?_⟩
    simp only [L7_check_table, sFor_ap, mi, Res.toS_ok, he]
theorem y_loop (h : RwL st wv R) (hT : R.map Rw.l = T) (h1 : rowsB T = false) (h2 : valsB T = false) (hl64 : T.length < 64) {x : Int} (hx0 : 0 ≤ x) (hx : x < T.length) {x2 x4 : Option A} :
    ((rg T.length).any (fun y => (rg T.length).any fun z => disB T x y z) = true → ∃ e, L8_check_table [some wv, some (.rng 0 (T.length : Int)), x2, some (.int x), x4, none, none] st = .exc (exW "InvalidMatrix" "distributive") e st) ∧
    ((rg T.length).any (fun y => (rg T.length).any fun z => disB T x y z) = false → ∃ y2 y4, L8_check_table [some wv, some (.rng 0 (T.length : Int)), x2, some (.int x), x4, none, none] st = .nx [some wv, some (.rng 0 (T.length : Int)), y2, some (.int x), y4, none, none] st) := by
  obtain ⟨a, b⟩ := loop_any (emb := A.int) (src := none) (all := (rg T.length).map A.int) (g := gN 2) (body := L7_check_table) (s := st) (bad := fun y => (rg T.length).any fun z => disB T x y z) (fun e => ∃ x2 x4, e = [some wv, some (.rng 0 (T.length : Int)), x2, some (.int x), x4, none, none]) (fun r => ∃ e, r = .exc (exW "InvalidMatrix" "distributive") e st) trivial (fun r ⟨e, he⟩ => by rw [he]; trivial)
    (rg T.length) [some wv, some (.rng 0 (T.length : Int)), x2, some (.int x), x4, none, none] ⟨x2, x4, rfl⟩ (fun y hy e ⟨x2, x4, he⟩ => by
      subst he
      obtain ⟨y0, y1⟩ := rg_mem hy
      obtain ⟨c1, c2⟩ := @z_loop st wv R T h hT h1 h2 hl64 x y hx0 hx y0 y1 x4
      exact ⟨_, rfl, c1, fun hb => by obtain ⟨x4', h4⟩ := c2 hb; exact ⟨_, ⟨some (.int y), x4', rfl⟩, h4⟩⟩)
  have mi : mRngV (eVar 1) [some wv, some (.rng 0 (T.length : Int)), x2, some (.int x), x4, none, none] st = .ok ((rg T.length).map A.int, none) st := mRngV_ap rfl (by omega)
  constructor
  · intro hb
    obtain ⟨e, he⟩ := a hb
    refine ⟨e, ?_⟩
    simp only [L8_check_table, sFor_ap, mi, Res.toS_ok, he]
  · intro hb
    obtain ⟨e', ⟨x2', x4', rfl⟩, he⟩ := b hb
    refine ⟨x2', x4', ?_⟩
    simp only [L8_check_table, sFor_ap, mi, Res.toS_ok, he]
theorem x_loop (h : RwL st wv R) (hT : R.map Rw.l = T) (h1 : rowsB T = false) (h2 : valsB T = false) (hl64 : T.length < 64) {x2 x3 : Option A} :
    ((rg T.length).any (fun x => (rg T.length).any fun y => (rg T.length).any fun z => disB T x y z) = true → ∃ e, forL none ((rg T.length).map A.int) (gN 3) L8_check_table ((rg T.length).map A.int) [some wv, some (.rng 0 (T.length : Int)), x2, x3, none, none, none] st = .exc (exW "InvalidMatrix" "distributive") e st) ∧
    ((rg T.length).any (fun x => (rg T.length).any fun y => (rg T.length).any fun z => disB T x y z) = false → ∃ e, forL none ((rg T.length).map A.int) (gN 3) L8_check_table ((rg T.length).map A.int) [some wv, some (.rng 0 (T.length : Int)), x2, x3, none, none, none] st = .nx e st) := by
  obtain ⟨a, b⟩ := loop_any (emb := A.int) (src := none) (all := (rg T.length).map A.int) (g := gN 3) (body := L8_check_table) (s := st) (bad := fun x => (rg T.length).any fun y => (rg T.length).any fun z => disB T x y z) (fun e => ∃ x2 x3 x4, e = [some wv, some (.rng 0 (T.length : Int)), x2, x3, x4, none, none]) (fun r => ∃ e, r = .exc (exW "InvalidMatrix" "distributive") e st) trivial (fun r ⟨e, he⟩ => by rw [he]; trivial)
    (rg T.length) [some wv, some (.rng 0 (T.length : Int)), x2, x3, none, none, none] ⟨x2, x3, none, rfl⟩ (fun x hx e ⟨x2, x3, x4, he⟩ => by
      subst he
      obtain ⟨x0, x1⟩ := rg_mem hx
      obtain ⟨c1, c2⟩ := @y_loop st wv R T h hT h1 h2 hl64 x x0 x1 x2 x4
      exact ⟨_, rfl, c1, fun hb => by obtain ⟨x2', x4', h4⟩ := c2 hb; exact ⟨_, ⟨x2', some (.int x), x4', rfl⟩, h4⟩⟩)
  refine ⟨a, fun hb => ?_⟩
  obtain ⟨e', _, he⟩ := b hb
  exact ⟨e', he⟩
def outC (T : List (List Int)) (st : Store) : Res A := match errT T with
  | some m => .exc (exW "InvalidMatrix" m) st
  | none => .ok .non st
theorem bel_exW {n : Nat} {c m : Str} : belowL n (exW c m).vs = true := by simp [exW, belowL, A.bel]
theorem check_sp (h : RwL st wv R) (hT : R.map Rw.l = T) (hl64 : T.length < 64) (hrl : ∀ r ∈ T, r.length ≤ 100) : M_check_table [wv] st = outC T st := by
  have hz := sz
  have hRl : R.length = T.length := by rw [← hT, List.length_map]
  have ln : lenA wv st = some (.int (T.length : Nat), st) := by rw [h.len, hRl]
  have lr : Str.length "rows" < 1000 := by decide
  have lv : Str.length "values" < 1000 := by decide
  have li' : Str.length "idempotent" < 1000 := by decide
  have m1 : mSeq (eVar 0) [some wv, some (.rng 0 (T.length : Int)), none, none, none, none, none] st = .ok (R.map Rw.v, srcOf wv (R.map Rw.v)) st := by
    simp only [mSeq_ap, eVar_ap, List.getElem?_cons_zero, Res.bind_ok]
    rw [h]
  have srcs := src_of_seq h (R.map Rw.v)
  have c1 := @lcG (Rw st) Rw.v (fun r => .bl (!decide ((r.l.length : Int) = (T.length : Int)))) (mSeq (eVar 0)) 5 [5] e1_check_table [some wv, some (.rng 0 (T.length : Int)), none, none, none, none, none] st _ R m1 srcs (by omega) (fun r hr => by
    show e1_check_table [some wv, some (.rng 0 (T.length : Int)), none, none, none, some r.v, none] st = _
    have l1 := r.len
    simp only [e1_check_table, eBin_ap, eCB_ap, aCons_ap, eVar_ap, List.getElem?_cons_zero, List.getElem?_cons_succ, aNil_ap, Res.bind_ok, one1_ap, l1, ln, Res.of_some, neOp_ii])
  have e1 : (R.map fun r => A.bl (!decide ((r.l.length : Int) = (T.length : Int)))) = ((T.map fun r => !decide ((r.length : Int) = (T.length : Int)))).map A.bl := by
    conv => rhs; rw [← hT]
    rw [List.map_map, List.map_map]
    have : T.length = R.length := hRl.symm
    simp [Function.comp_def, hT]
  rw [e1] at c1
  have a1 := @anyA_bls st (T.map fun r => !decide ((r.length : Int) = (T.length : Int)))
  have exc : ∀ (m : Str) (e : AEnv), B_check_table [some wv, none, none, none, none, none, none] st = .exc (exW "InvalidMatrix" m) e st → M_check_table [wv] st = .exc (exW "InvalidMatrix" m) st := fun m e hb => fnM_exc0 rfl (e := e) hb bel_exW
  unfold outC errT
  by_cases hB1 : rowsB T = true
  · rw [if_pos hB1]
    refine exc _ [some wv, some (.rng 0 (T.length : Int)), none, none, none, none, none] ?_
    unfold rowsB at hB1
    by_cases h0 : (T.length : Int) = 0
    · simp only [B_check_table, sSeq_ap, sAsg_ap, eCB_ap, aCons_ap, eVar_ap, List.getElem?_cons_zero, List.getElem?_cons_succ, aNil_ap, Res.bind_ok, one1_ap, ln, Res.of_some, rangeA_i, Res.toS_ok, gN_ap, List.set_cons_zero, List.set_cons_succ, SRes.bind_nx, sIf_ap, tOrM_ap, tOf_ap, eBin_ap, eC_ap, eqOp_ii, decide_eq_true h0, asB_bl, if_true, sRaise_ap, mkWhat_ap, lr, exW, SRes.bind_exc]
    · rw [decide_eq_false h0, Bool.false_or] at hB1
      rw [hB1] at a1
      simp only [B_check_table, sSeq_ap, sAsg_ap, eCB_ap, aCons_ap, eVar_ap, List.getElem?_cons_zero, List.getElem?_cons_succ, aNil_ap, Res.bind_ok, one1_ap, ln, Res.of_some, rangeA_i, Res.toS_ok, gN_ap, List.set_cons_zero, List.set_cons_succ, SRes.bind_nx, sIf_ap, tOrM_ap, tOf_ap, eBin_ap, eC_ap, eqOp_ii, decide_eq_false h0, asB_bl, Bool.false_eq_true, if_false, tTru_ap, c1, a1, truA_b, if_true, sRaise_ap, mkWhat_ap, lr, exW, SRes.bind_exc]
  · have hB1 : rowsB T = false := by simpa using hB1
    rw [if_neg (by rw [hB1]; exact Bool.false_ne_true)]
    have hsq := (rows_ok hB1).2
    have hB1' := hB1
    unfold rowsB at hB1'
    rw [Bool.or_eq_false_iff] at hB1'
    have h0 := of_decide_eq_false hB1'.1
    rw [hB1'.2] at a1
    have c2 := @lc2_rows st (srcOf wv (R.map Rw.v)) (R.map Rw.v) srcs (some wv) none none none T.length R [] (by simp; omega) (fun r hr => hrl _ (by rw [← hT]; exact List.mem_map.mpr ⟨r, hr, rfl⟩))
    have e2 : (R.map fun r => r.l.map fun e => !decide (0 ≤ e ∧ e < (T.length : Int))) = T.map fun r => r.map fun e => !decide (0 ≤ e ∧ e < (T.length : Int)) := by
      conv => rhs; rw [← hT]
      rw [List.map_map, hT]; rfl
    rw [e2, List.nil_append] at c2
    have c2' : eLc2 false (mSeq (eVar 0)) (gN 5) [5, 6] tYesM (mSeq (eVar 5)) (gN 6) [6] tYesM e2_check_table [some wv, some (.rng 0 (T.length : Int)), none, none, none, none, none] st = .ok (.lst ((T.map fun r => r.map fun e => !decide (0 ≤ e ∧ e < (T.length : Int))).flatten.map A.bl)) st := by
      unfold eLc2
      rw [m1, Res.bind_ok]
      have hw : wipeA [some wv, some (.rng 0 (T.length : Int)), none, none, none, none, none] [5, 6] = [some wv, some (.rng 0 (T.length : Int)), none, none, none, none, none] := rfl
      rw [hw, c2]; rfl
    have a2 := @anyA_bls st (T.map fun r => r.map fun e => !decide (0 ≤ e ∧ e < (T.length : Int))).flatten
    have head := fun (k : MS) (r : SRes) (hk : k [some wv, some (.rng 0 (T.length : Int)), none, none, none, none, none] st = r) => show (sSeq (sAsg (gN 1) (eCB (one1 rangeA) (aCons (eCB (one1 lenA) (aCons (eVar 0) aNil)) aNil)))
        (sSeq (sIf (tOrM (tOf (eBin eqOp (eCB (one1 lenA) (aCons (eVar 0) aNil)) (eC (.int 0)))) (tTru (eCB (one1 anyA) (aCons (eLc false (mSeq (eVar 0)) (gN 5) [5] tYesM e1_check_table) aNil)))) (sRaise (mkWhat "InvalidMatrix" (eC (.str "rows")))) sNil) k)) [some wv, none, none, none, none, none, none] st = r by
      simp only [sSeq_ap, sAsg_ap, eCB_ap, aCons_ap, eVar_ap, List.getElem?_cons_zero, List.getElem?_cons_succ, aNil_ap, Res.bind_ok, one1_ap, ln, Res.of_some, rangeA_i, Res.toS_ok, gN_ap, List.set_cons_zero, List.set_cons_succ, SRes.bind_nx, sIf_ap, tOrM_ap, tOf_ap, eBin_ap, eC_ap, eqOp_ii, decide_eq_false h0, asB_bl, Bool.false_eq_true, if_false, tTru_ap, c1, a1, truA_b, sNil_ap, hk]
    by_cases hB2 : valsB T = true
    · rw [if_pos hB2]
      refine exc _ [some wv, some (.rng 0 (T.length : Int)), none, none, none, none, none] (head _ _ ?_)
      unfold valsB at hB2
      rw [hB2] at a2
      simp only [sSeq_ap, sIf_ap, tTru_ap, eCB_ap, aCons_ap, c2', aNil_ap, Res.bind_ok, one1_ap, a2, Res.of_some, truA_b, Res.toS_ok, if_true, sRaise_ap, mkWhat_ap, eC_ap, lv, exW, SRes.bind_exc]
    · have hB2 : valsB T = false := by simpa using hB2
      rw [if_neg (by rw [hB2]; exact Bool.false_ne_true)]
      have hB2' := hB2
      unfold valsB at hB2'
      rw [hB2'] at a2
      have mi : mRngV (eVar 1) [some wv, some (.rng 0 (T.length : Int)), none, none, none, none, none] st = .ok ((rg T.length).map A.int, none) st := mRngV_ap rfl (by omega)
      have c3 := @lcB st (mRngV (eVar 1)) 3 [3] e3_check_table [some wv, some (.rng 0 (T.length : Int)), none, none, none, none, none] (rg T.length) (fun x => !decide (gt T x x = x)) mi (by rw [rg_len]; omega) (fun x hx => by
        obtain ⟨a, b⟩ := rg_mem hx
        obtain ⟨v, i1, i2⟩ := tab_at h hT hsq a b a b
        show e3_check_table [some wv, some (.rng 0 (T.length : Int)), none, some (.int x), none, none, none] st = _
        simp only [e3_check_table, eBin_ap, eVar_ap, List.getElem?_cons_zero, List.getElem?_cons_succ, Res.bind_ok, i1, Res.of_some, i2, neOp_ii])
      have a3 := @anyA_bls st ((rg T.length).map fun x => !decide (gt T x x = x))
      have head2 := fun (k : MS) (r : SRes) (hk : k [some wv, some (.rng 0 (T.length : Int)), none, none, none, none, none] st = r) => show (sSeq (sIf (tTru (eCB (one1 anyA) (aCons (eLc2 false (mSeq (eVar 0)) (gN 5) [5, 6] tYesM (mSeq (eVar 5)) (gN 6) [6] tYesM e2_check_table) aNil))) (sRaise (mkWhat "InvalidMatrix" (eC (.str "values")))) sNil) k) [some wv, some (.rng 0 (T.length : Int)), none, none, none, none, none] st = r by
        simp only [sSeq_ap, sIf_ap, tTru_ap, eCB_ap, aCons_ap, c2', aNil_ap, Res.bind_ok, one1_ap, a2, Res.of_some, truA_b, Res.toS_ok, Bool.false_eq_true, if_false, sNil_ap, SRes.bind_nx, hk]
      by_cases hB3 : idemB T = true
      · rw [if_pos hB3]
        refine exc _ [some wv, some (.rng 0 (T.length : Int)), none, none, none, none, none] (head _ _ (head2 _ _ ?_))
        unfold idemB at hB3
        rw [hB3] at a3
        simp only [sSeq_ap, sIf_ap, tTru_ap, eCB_ap, aCons_ap, c3, aNil_ap, Res.bind_ok, one1_ap, a3, Res.of_some, truA_b, Res.toS_ok, if_true, sRaise_ap, mkWhat_ap, eC_ap, li', exW, SRes.bind_exc]
      · have hB3 : idemB T = false := by simpa using hB3
        rw [if_neg (by rw [hB3]; exact Bool.false_ne_true)]
        unfold idemB at hB3
        rw [hB3] at a3
        have head3 := fun (k : MS) (r : SRes) (hk : k [some wv, some (.rng 0 (T.length : Int)), none, none, none, none, none] st = r) => show (sSeq (sIf (tTru (eCB (one1 anyA) (aCons (eLc false (mRngV (eVar 1)) (gN 3) [3] tYesM e3_check_table) aNil))) (sRaise (mkWhat "InvalidMatrix" (eC (.str "idempotent")))) sNil) k) [some wv, some (.rng 0 (T.length : Int)), none, none, none, none, none] st = r by
          simp only [sSeq_ap, sIf_ap, tTru_ap, eCB_ap, aCons_ap, c3, aNil_ap, Res.bind_ok, one1_ap, a3, Res.of_some, truA_b, Res.toS_ok, Bool.false_eq_true, if_false, sNil_ap, SRes.bind_nx, hk]
        obtain ⟨k1, k2⟩ := @col_loop st wv R T h hT hB1 hl64
        by_cases hB4 : (rg T.length).any (colB T) = true
        · rw [if_pos hB4]
          obtain ⟨e, he⟩ := k1 hB4
          refine exc _ e (head _ _ (head2 _ _ (head3 _ _ ?_)))
          simp only [sSeq_ap, sFor_ap, mi, Res.toS_ok, he, SRes.bind_exc]
        · rw [if_neg hB4]
          obtain ⟨y2, he⟩ := k2 (by simpa using hB4)
          have mi2 : mRngV (eVar 1) [some wv, some (.rng 0 (T.length : Int)), y2, none, none, none, none] st = .ok ((rg T.length).map A.int, none) st := mRngV_ap rfl (by omega)
          obtain ⟨j1, j2⟩ := @x_loop st wv R T h hT hB1 hB2 hl64 y2 none
          by_cases hB5 : ((rg T.length).any fun x => (rg T.length).any fun y => (rg T.length).any fun z => disB T x y z) = true
          · rw [if_pos hB5]
            obtain ⟨e, h5⟩ := j1 hB5
            refine exc _ e (head _ _ (head2 _ _ (head3 _ _ ?_)))
            simp only [sSeq_ap, sFor_ap, mi, mi2, Res.toS_ok, he, SRes.bind_nx, h5]
          · rw [if_neg hB5]
            obtain ⟨e, h5⟩ := j2 (by simpa using hB5)
            refine fnM_nx rfl (e := e) (st' := st) (head _ _ (head2 _ _ (head3 _ _ ?_))) (fin_pure0 (by simp [A.bel]) (by intro c h; cases h))
            simp only [sSeq_ap, sFor_ap, mi, mi2, Res.toS_ok, he, SRes.bind_nx, h5]
end
end Gk53

set_option Elab.async false
set_option linter.all false
set_option maxRecDepth 100000
set_option maxHeartbeats 4000000
namespace Gk53
open PySem PySem.Spec L2 SL Q53
open PyProof.Rows hiding St
theorem filt_any {α : Type} {t : α → Bool} : ∀ {xs : List α}, decide (((xs.filter t).length : Int) > 0) = xs.any t
  | [] => by simp
  | x :: xs => by
    rw [List.filter_cons, List.any_cons]
    cases h : t x with
    | true => simp
    | false => simpa using filt_any (t := t) (xs := xs)
theorem map_any {α : Type} {f : α → Bool} {xs : List α} : (xs.map f).any id = xs.any f := by rw [List.any_map]; rfl
theorem flat_any {α : Type} {f : α → Bool} : ∀ {xs : List (List α)}, (xs.map fun r => r.map f).flatten.any id = xs.any fun r => r.any f
  | [] => rfl
  | r :: xs => by
    rw [List.map_cons, List.flatten_cons, List.any_append, List.any_cons, map_any, flat_any]
section
variable {st : Store} {T : List (List Int)}
def dueA (T : List (List Int)) : A := match errT T with
  | some m => .str m
  | none => .non
theorem gt_at (hl : ∀ r ∈ T, r.length = T.length) {x y : Int} (hx0 : 0 ≤ x) (hx : x < T.length) (hy0 : 0 ≤ y) (hy : y < T.length) : ∃ v, ixOp (lL T) (.int x) st = some (v, st) ∧ ixOp v (.int y) st = some (.int (gt T x y), st) :=
  tab_at (R := T.map (Rw.of st)) rwL_lL rw_of_l hl hx0 hx hy0 hy
theorem val_body {r : List Int} (hl : T.length < 64) (hr : r.length ≤ 100) {x1 x3 x4 x5 x6 : Option A} :
    (r.any (fun e => !decide (0 ≤ e ∧ e < (T.length : Int))) = true → L5__law_due [some (lL T), x1, some (lI r), x3, x4, x5, x6] st = .rt (.str "values") st) ∧
    (r.any (fun e => !decide (0 ≤ e ∧ e < (T.length : Int))) = false → L5__law_due [some (lL T), x1, some (lI r), x3, x4, x5, x6] st = .nx [some (lL T), x1, some (lI r), x3, x4, x5, x6] st) := by
  have hz := sz
  have lc := @lcF Int A.int (fun e => .int e) (fun e => !decide (0 ≤ e ∧ e < (T.length : Int))) (mSeq (eVar 2)) 6 [6] t3__law_due e4__law_due [some (lL T), x1, some (lI r), x3, x4, x5, x6] st none r (by simp only [mSeq_ap, eVar_ap, List.getElem?_cons_zero, List.getElem?_cons_succ, Res.bind_ok, seqR_lst, srcOf_lst]) trivial (by omega) (fun e he => by
    show t3__law_due [some (lL T), x1, some (lI r), x3, x4, x5, some (.int e)] st = _ ∧ (_ → e4__law_due [some (lL T), x1, some (lI r), x3, x4, x5, some (.int e)] st = _)
    refine ⟨?_, fun _ => by simp only [e4__law_due, eVar_ap, List.getElem?_cons_zero, List.getElem?_cons_succ]⟩
    by_cases h0 : 0 ≤ e
    · simp only [t3__law_due, tNotM_ap, tOf_ap, eChain_ap, eC_ap, eVar_ap, eCB_ap, aCons_ap, aNil_ap, List.getElem?_cons_zero, List.getElem?_cons_succ, Res.bind_ok, leOp_ii, Res.of_some, decide_eq_true h0, asB_bl, if_true, one1_ap, lenA_lst, List.length_map, ltOp_ii]
      simp [h0]
    · simp only [t3__law_due, tNotM_ap, tOf_ap, eChain_ap, eC_ap, eVar_ap, List.getElem?_cons_zero, List.getElem?_cons_succ, Res.bind_ok, leOp_ii, Res.of_some, decide_eq_false h0, asB_bl, Bool.false_eq_true, if_false]
      simp [h0])
  have ha := @filt_any Int (fun e => !decide (0 ≤ e ∧ e < (T.length : Int))) r
  constructor <;> intro hb <;> rw [hb] at ha
  · simp only [L5__law_due, sIf_ap, tOf_ap, eBin_ap, eCB_ap, aCons_ap, lc, aNil_ap, Res.bind_ok, one1_ap, lenA_lst, List.length_map, Res.of_some, eC_ap, gtOp_ii, ha, asB_bl, Res.toS_ok, if_true, sRet_ap]
  · simp only [L5__law_due, sIf_ap, tOf_ap, eBin_ap, eCB_ap, aCons_ap, lc, aNil_ap, Res.bind_ok, one1_ap, lenA_lst, List.length_map, Res.of_some, eC_ap, gtOp_ii, ha, asB_bl, Res.toS_ok, Bool.false_eq_true, if_false, sNil_ap]
theorem colD_body (h1 : rowsB T = false) (hl64 : T.length < 64) {y : Int} (hy0 : 0 ≤ y) (hy : y < T.length) {x2 x4 x5 x6 : Option A} :
    (colB T y = true → L9__law_due [some (lL T), some (lI (rg T.length)), x2, some (.int y), x4, x5, x6] st = .rt (.str "columns") st) ∧
    (colB T y = false → L9__law_due [some (lL T), some (lI (rg T.length)), x2, some (.int y), x4, x5, x6] st = .nx [some (lL T), some (lI (rg T.length)), x2, some (.int y), x4, x5, x6] st) := by
  have hz := sz
  have hrl := (rows_ok h1).2
  have lc := @lcG Int A.int (fun x => .int (gt T x y)) (mSeq (eVar 1)) 4 [4] e8__law_due [some (lL T), some (lI (rg T.length)), x2, some (.int y), x4, x5, x6] st none (rg T.length) (by simp only [mSeq_ap, eVar_ap, List.getElem?_cons_zero, List.getElem?_cons_succ, Res.bind_ok, seqR_lst, srcOf_lst]) trivial (by rw [rg_len]; omega) (fun x hx => by
    obtain ⟨a, b⟩ := rg_mem hx
    obtain ⟨v, i1, i2⟩ := @gt_at st T hrl x y a b hy0 hy
    show e8__law_due [some (lL T), some (lI (rg T.length)), x2, some (.int y), some (.int x), x5, x6] st = _
    simp only [e8__law_due, eBin_ap, eVar_ap, List.getElem?_cons_zero, List.getElem?_cons_succ, Res.bind_ok, i1, Res.of_some, i2])
  have e1 : ((rg T.length).map fun x => A.int (gt T x y)) = ((rg T.length).map fun x => gt T x y).map A.int := by rw [List.map_map]; rfl
  rw [e1] at lc
  have so := @sortA_ints st ((rg T.length).map fun x => gt T x y) (by rw [List.length_map, rg_len]; omega)
  have er : eRg (some false) (aCons (eCB (one1 lenA) (aCons (eVar 0) aNil)) aNil) [some (lL T), some (lI (rg T.length)), x2, some (.int y), x4, x5, x6] st = .ok (lI (rg T.length)) st := eRg1_ap (by simp only [aCons_ap, eCB_ap, eVar_ap, List.getElem?_cons_zero, aNil_ap, Res.bind_ok, one1_ap, lenA_lst, List.length_map, Res.of_some]) (by omega)
  have ne := @neOp_lI st (srtI ((rg T.length).map fun x => gt T x y)) (rg T.length)
  constructor <;> intro hb
  · have hb : (!decide (srtI ((rg T.length).map fun x => gt T x y) = rg T.length)) = true := hb
    rw [hb] at ne
    simp only [L9__law_due, sIf_ap, tOf_ap, eBin_ap, eCB_ap, aCons_ap, lc, Res.bind_ok, aNil_ap, one1_ap, so, Res.of_some]
    simp only [lL] at er
    rw [er]
    simp only [Res.bind_ok, ne, Res.of_some, asB_bl, Res.toS_ok, if_true, sRet_ap, eC_ap]
  · have hb : (!decide (srtI ((rg T.length).map fun x => gt T x y) = rg T.length)) = false := hb
    rw [hb] at ne
    simp only [L9__law_due, sIf_ap, tOf_ap, eBin_ap, eCB_ap, aCons_ap, lc, Res.bind_ok, aNil_ap, one1_ap, so, Res.of_some]
    simp only [lL] at er
    rw [er]
    simp only [Res.bind_ok, ne, Res.of_some, asB_bl, Res.toS_ok, Bool.false_eq_true, if_false, sNil_ap]
theorem disD_body (h1 : rowsB T = false) (h2 : valsB T = false) {x y z : Int} (hx0 : 0 ≤ x) (hx : x < T.length) (hy0 : 0 ≤ y) (hy : y < T.length) (hz0 : 0 ≤ z) (hz : z < T.length) {x1 x2 x6 : Option A} :
    (disB T x y z = true → L10__law_due [some (lL T), x1, x2, some (.int y), some (.int x), some (.int z), x6] st = .rt (.str "distributive") st) ∧
    (disB T x y z = false → L10__law_due [some (lL T), x1, x2, some (.int y), some (.int x), some (.int z), x6] st = .nx [some (lL T), x1, x2, some (.int y), some (.int x), some (.int z), x6] st) := by
  have hrl := (rows_ok h1).2
  obtain ⟨v1, a1, a2⟩ := @gt_at st T hrl x y hx0 hx hy0 hy
  obtain ⟨b1, b2⟩ := gt_rng h1 h2 hx0 hx hy0 hy
  obtain ⟨v2, a3, a4⟩ := @gt_at st T hrl (gt T x y) z b1 b2 hz0 hz
  obtain ⟨v3, a5, a6⟩ := @gt_at st T hrl x z hx0 hx hz0 hz
  rw [a1] at a5; cases a5
  obtain ⟨v4, a7, a8⟩ := @gt_at st T hrl y z hy0 hy hz0 hz
  obtain ⟨b3, b4⟩ := gt_rng h1 h2 hx0 hx hz0 hz
  obtain ⟨b5, b6⟩ := gt_rng h1 h2 hy0 hy hz0 hz
  obtain ⟨v5, a9, a10⟩ := @gt_at st T hrl (gt T x z) (gt T y z) b3 b4 b5 b6
  constructor <;> intro hb
  · have hb : (!decide (gt T (gt T x y) z = gt T (gt T x z) (gt T y z))) = true := hb
    simp only [L10__law_due, sIf_ap, tOf_ap, eBin_ap, eVar_ap, List.getElem?_cons_zero, List.getElem?_cons_succ, Res.bind_ok, a1, a2, a3, a4, a6, a7, a8, a9, a10, Res.of_some, neOp_ii, hb, asB_bl, Res.toS_ok, if_true, sRet_ap, eC_ap]
  · have hb : (!decide (gt T (gt T x y) z = gt T (gt T x z) (gt T y z))) = false := hb
    simp only [L10__law_due, sIf_ap, tOf_ap, eBin_ap, eVar_ap, List.getElem?_cons_zero, List.getElem?_cons_succ, Res.bind_ok, a1, a2, a3, a4, a6, a7, a8, a9, a10, Res.of_some, neOp_ii, hb, asB_bl, Res.toS_ok, Bool.false_eq_true, if_false, sNil_ap]
abbrev zs (T : List (List Int)) : A := lI (rg T.length)
theorem mz {i : Nat} {env : AEnv} (h : env[i]? = some (some (zs T))) : mSeq (eVar i) env st = .ok ((rg T.length).map A.int, none) st := by
  simp only [mSeq_ap, eVar_ap, h, Res.bind_ok, seqR_lst, srcOf_lst]
theorem zD_loop (h1 : rowsB T = false) (h2 : valsB T = false) {x y : Int} (hx0 : 0 ≤ x) (hx : x < T.length) (hy0 : 0 ≤ y) (hy : y < T.length) {x2 x5 : Option A} :
    ((rg T.length).any (fun z => disB T x y z) = true → L11__law_due [some (lL T), some (zs T), x2, some (.int y), some (.int x), x5, none] st = .rt (.str "distributive") st) ∧
    ((rg T.length).any (fun z => disB T x y z) = false → ∃ y5, L11__law_due [some (lL T), some (zs T), x2, some (.int y), some (.int x), x5, none] st = .nx [some (lL T), some (zs T), x2, some (.int y), some (.int x), y5, none] st) := by
  obtain ⟨a, b⟩ := loop_any (emb := A.int) (src := none) (all := (rg T.length).map A.int) (g := gN 5) (body := L10__law_due) (s := st) (bad := fun z => disB T x y z) (fun e => ∃ x5, e = [some (lL T), some (zs T), x2, some (.int y), some (.int x), x5, none]) (fun r => r = .rt (.str "distributive") st) trivial (fun r he => by rw [he]; trivial)
    (rg T.length) [some (lL T), some (zs T), x2, some (.int y), some (.int x), x5, none] ⟨x5, rfl⟩ (fun z hz e ⟨x5, he⟩ => by
      subst he
      obtain ⟨z0, z1⟩ := rg_mem hz
      obtain ⟨c1, c2⟩ := @disD_body st T h1 h2 x y z hx0 hx hy0 hy z0 z1 (some (zs T)) x2 none
      exact ⟨_, rfl, c1, fun hb => ⟨_, ⟨some (.int z), rfl⟩, c2 hb⟩⟩)
  have mi := @mz st T 1 [some (lL T), some (zs T), x2, some (.int y), some (.int x), x5, none] rfl
  constructor
  · intro hb
    simp only [L11__law_due, sFor_ap, mi, Res.toS_ok, a hb]
  · intro hb
    obtain ⟨e', ⟨x5', rfl⟩, he⟩ := b hb
    exact ⟨x5', by simp only [L11__law_due, sFor_ap, mi, Res.toS_ok, he]⟩
theorem yD_loop (h1 : rowsB T = false) (h2 : valsB T = false) {x : Int} (hx0 : 0 ≤ x) (hx : x < T.length) {x2 x3 x5 : Option A} :
    ((rg T.length).any (fun y => (rg T.length).any fun z => disB T x y z) = true → L12__law_due [some (lL T), some (zs T), x2, x3, some (.int x), x5, none] st = .rt (.str "distributive") st) ∧
    ((rg T.length).any (fun y => (rg T.length).any fun z => disB T x y z) = false → ∃ y3 y5, L12__law_due [some (lL T), some (zs T), x2, x3, some (.int x), x5, none] st = .nx [some (lL T), some (zs T), x2, y3, some (.int x), y5, none] st) := by
  obtain ⟨a, b⟩ := loop_any (emb := A.int) (src := none) (all := (rg T.length).map A.int) (g := gN 3) (body := L11__law_due) (s := st) (bad := fun y => (rg T.length).any fun z => disB T x y z) (fun e => ∃ x3 x5, e = [some (lL T), some (zs T), x2, x3, some (.int x), x5, none]) (fun r => r = .rt (.str "distributive") st) trivial (fun r he => by rw [he]; trivial)
    (rg T.length) [some (lL T), some (zs T), x2, x3, some (.int x), x5, none] ⟨x3, x5, rfl⟩ (fun y hy e ⟨x3, x5, he⟩ => by
      subst he
      obtain ⟨y0, y1⟩ := rg_mem hy
      obtain ⟨c1, c2⟩ := @zD_loop st T h1 h2 x y hx0 hx y0 y1 x2 x5
      exact ⟨_, rfl, c1, fun hb => by obtain ⟨y5, h5⟩ := c2 hb; exact ⟨_, ⟨some (.int y), y5, rfl⟩, h5⟩⟩)
  have mi := @mz st T 1 [some (lL T), some (zs T), x2, x3, some (.int x), x5, none] rfl
  constructor
  · intro hb
    simp only [L12__law_due, sFor_ap, mi, Res.toS_ok, a hb]
  · intro hb
    obtain ⟨e', ⟨x3', x5', rfl⟩, he⟩ := b hb
    exact ⟨x3', x5', by simp only [L12__law_due, sFor_ap, mi, Res.toS_ok, he]⟩
theorem bel_due {n : Nat} : (dueA T).bel n = true := by unfold dueA; cases errT T <;> simp [A.bel]
theorem nc_due : ∀ c, dueA T ≠ .cell c := by unfold dueA; cases errT T <;> (intro c h; cases h)
theorem due_sp (hl64 : T.length < 64) (hrl : ∀ r ∈ T, r.length ≤ 100) : M__law_due [lL T] st = .ok (dueA T) st := by
  have hz := sz
  have fin : ∀ a, B__law_due [some (lL T), none, none, none, none, none, none] st = .rt a st → dueA T = a → M__law_due [lL T] st = .ok (dueA T) st := fun a hb he => by
    subst he
    exact fnM_rt rfl hb (fin_pure0 bel_due nc_due)
  have er : eRg (some false) (aCons (eCB (one1 lenA) (aCons (eVar 0) aNil)) aNil) [some (lL T), none, none, none, none, none, none] st = .ok (zs T) st := eRg1_ap (by simp only [aCons_ap, eCB_ap, eVar_ap, List.getElem?_cons_zero, aNil_ap, Res.bind_ok, one1_ap, lenA_lst, List.length_map, Res.of_some]) (by omega)
  have m0 : ∀ x2 x3 x4 x5 x6, mSeq (eVar 0) [some (lL T), some (zs T), x2, x3, x4, x5, x6] st = .ok (T.map lI, none) st := fun x2 x3 x4 x5 x6 => by
    simp only [mSeq_ap, eVar_ap, List.getElem?_cons_zero, Res.bind_ok, seqR_lst, srcOf_lst]
  have c1 := @lcF (List Int) lI lI (fun r => !decide ((r.length : Int) = (T.length : Int))) (mSeq (eVar 0)) 2 [2] t1__law_due e2__law_due [some (lL T), some (zs T), none, none, none, none, none] st none T (m0 _ _ _ _ _) trivial (by omega) (fun r hr => by
    show t1__law_due [some (lL T), some (zs T), some (lI r), none, none, none, none] st = _ ∧ (_ → e2__law_due [some (lL T), some (zs T), some (lI r), none, none, none, none] st = _)
    exact ⟨by simp only [t1__law_due, tOf_ap, eBin_ap, eCB_ap, aCons_ap, eVar_ap, List.getElem?_cons_zero, List.getElem?_cons_succ, aNil_ap, Res.bind_ok, one1_ap, lenA_lst, List.length_map, Res.of_some, neOp_ii, asB_bl], fun _ => by simp only [e2__law_due, eVar_ap, List.getElem?_cons_zero, List.getElem?_cons_succ]⟩)
  have ha1 := @filt_any (List Int) (fun r => !decide ((r.length : Int) = (T.length : Int))) T
  have hR : rowsB T = (decide ((T.length : Int) = 0) || T.any (fun r => !decide ((r.length : Int) = (T.length : Int)))) := by unfold rowsB; rw [map_any]
  by_cases hB1 : rowsB T = true
  · refine fin (.str "rows") ?_ (by unfold dueA errT; rw [if_pos hB1])
    rw [hR] at hB1
    by_cases h0 : (T.length : Int) = 0
    · simp only [B__law_due, sSeq_ap, sAsg_ap, er, Res.toS_ok, gN_ap, List.set_cons_zero, List.set_cons_succ, SRes.bind_nx, sIf_ap, tOrM_ap, tOf_ap, eBin_ap, eCB_ap, aCons_ap, eVar_ap, List.getElem?_cons_zero, aNil_ap, Res.bind_ok, one1_ap, lenA_lst, List.length_map, Res.of_some, eC_ap, eqOp_ii, decide_eq_true h0, asB_bl, if_true, sRet_ap, SRes.bind_rt]
    · rw [decide_eq_false h0, Bool.false_or] at hB1
      rw [hB1] at ha1
      simp only [B__law_due, sSeq_ap, sAsg_ap, er, Res.toS_ok, gN_ap, List.set_cons_zero, List.set_cons_succ, SRes.bind_nx, sIf_ap, tOrM_ap, tOf_ap, eBin_ap, eCB_ap, aCons_ap, eVar_ap, List.getElem?_cons_zero, aNil_ap, Res.bind_ok, one1_ap, lenA_lst, List.length_map, Res.of_some, eC_ap, eqOp_ii, decide_eq_false h0, asB_bl, Bool.false_eq_true, if_false, c1, gtOp_ii, ha1, if_true, sRet_ap, SRes.bind_rt]
  · have hB1 : rowsB T = false := by simpa using hB1
    have hB1' := hB1
    rw [hR, Bool.or_eq_false_iff] at hB1'
    have h0 := of_decide_eq_false hB1'.1
    rw [hB1'.2] at ha1
    have hsq := (rows_ok hB1).2
    have head := fun (k : MS) (r : SRes) (hk : k [some (lL T), some (zs T), none, none, none, none, none] st = r) => show (sSeq (sAsg (gN 1) (eRg (some false) (aCons (eCB (one1 lenA) (aCons (eVar 0) aNil)) aNil)))
      (sSeq (sIf (tOrM (tOf (eBin eqOp (eCB (one1 lenA) (aCons (eVar 0) aNil)) (eC (.int 0)))) (tOf (eBin gtOp (eCB (one1 lenA) (aCons (eLc false (mSeq (eVar 0)) (gN 2) [2] t1__law_due e2__law_due) aNil)) (eC (.int 0))))) (sRet (eC (.str "rows"))) sNil) k)) [some (lL T), none, none, none, none, none, none] st = r by
      simp only [sSeq_ap, sAsg_ap, er, Res.toS_ok, gN_ap, List.set_cons_zero, List.set_cons_succ, SRes.bind_nx, sIf_ap, tOrM_ap, tOf_ap, eBin_ap, eCB_ap, aCons_ap, eVar_ap, List.getElem?_cons_zero, aNil_ap, Res.bind_ok, one1_ap, lenA_lst, List.length_map, Res.of_some, eC_ap, eqOp_ii, decide_eq_false h0, asB_bl, Bool.false_eq_true, if_false, c1, gtOp_ii, ha1, sNil_ap, hk]
    have hV : valsB T = T.any fun r => r.any fun e => !decide (0 ≤ e ∧ e < (T.length : Int)) := by unfold valsB; rw [flat_any]
    obtain ⟨v1, v2⟩ := loop_any (emb := lI) (src := none) (all := T.map lI) (g := gN 2) (body := L5__law_due) (s := st) (bad := fun r => r.any fun e => !decide (0 ≤ e ∧ e < (T.length : Int))) (fun e => ∃ x2, e = [some (lL T), some (zs T), x2, none, none, none, none]) (fun r => r = .rt (.str "values") st) trivial (fun r he => by rw [he]; trivial)
      T [some (lL T), some (zs T), none, none, none, none, none] ⟨none, rfl⟩ (fun r hr e ⟨x2, he⟩ => by
        subst he
        obtain ⟨c1, c2⟩ := @val_body st T r hl64 (hrl r hr) (some (zs T)) none none none none
        exact ⟨_, rfl, c1, fun hb => ⟨_, ⟨some (lI r), rfl⟩, c2 hb⟩⟩)
    by_cases hB2 : valsB T = true
    · refine fin (.str "values") (head _ _ ?_) (by unfold dueA errT; rw [if_neg (by rw [hB1]; exact Bool.false_ne_true), if_pos hB2])
      rw [hV] at hB2
      simp only [sSeq_ap, sFor_ap, m0, Res.toS_ok, v1 hB2, SRes.bind_rt]
    · have hB2 : valsB T = false := by simpa using hB2
      obtain ⟨e', ⟨x2, rfl⟩, hv⟩ := v2 (by rw [← hV]; exact hB2)
      have c3 := @lcF Int A.int (fun x => .int x) (fun x => !decide (gt T x x = x)) (mSeq (eVar 1)) 4 [4] t6__law_due e7__law_due [some (lL T), some (zs T), x2, none, none, none, none] st none (rg T.length) (mz rfl) trivial (by rw [rg_len]; omega) (fun x hx => by
        obtain ⟨a, b⟩ := rg_mem hx
        obtain ⟨v, i1, i2⟩ := @gt_at st T hsq x x a b a b
        show t6__law_due [some (lL T), some (zs T), x2, none, some (.int x), none, none] st = _ ∧ (_ → e7__law_due [some (lL T), some (zs T), x2, none, some (.int x), none, none] st = _)
        exact ⟨by simp only [t6__law_due, tOf_ap, eBin_ap, eVar_ap, List.getElem?_cons_zero, List.getElem?_cons_succ, Res.bind_ok, i1, Res.of_some, i2, neOp_ii, asB_bl], fun _ => by simp only [e7__law_due, eVar_ap, List.getElem?_cons_zero, List.getElem?_cons_succ]⟩)
      have ha3 := @filt_any Int (fun x => !decide (gt T x x = x)) (rg T.length)
      have hI : idemB T = (rg T.length).any fun x => !decide (gt T x x = x) := by unfold idemB; rw [map_any]
      by_cases hB3 : idemB T = true
      · refine fin (.str "idempotent") (head _ _ ?_) (by unfold dueA errT; rw [if_neg (by rw [hB1]; exact Bool.false_ne_true), if_neg (by rw [hB2]; exact Bool.false_ne_true), if_pos hB3])
        rw [hI] at hB3
        rw [hB3] at ha3
        simp only [sSeq_ap, sFor_ap, m0, Res.toS_ok, hv, SRes.bind_nx, sIf_ap, tOf_ap, eBin_ap, eCB_ap, aCons_ap, c3, aNil_ap, Res.bind_ok, one1_ap, lenA_lst, List.length_map, Res.of_some, eC_ap, gtOp_ii, ha3, asB_bl, if_true, sRet_ap, SRes.bind_rt]
      · have hB3 : idemB T = false := by simpa using hB3
        have hB3' := hB3
        rw [hI] at hB3'
        rw [hB3'] at ha3
        obtain ⟨k1, k2⟩ := loop_any (emb := A.int) (src := none) (all := (rg T.length).map A.int) (g := gN 3) (body := L9__law_due) (s := st) (bad := colB T) (fun e => ∃ x3, e = [some (lL T), some (zs T), x2, x3, none, none, none]) (fun r => r = .rt (.str "columns") st) trivial (fun r he => by rw [he]; trivial)
          (rg T.length) [some (lL T), some (zs T), x2, none, none, none, none] ⟨none, rfl⟩ (fun y hy e ⟨x3, he⟩ => by
            subst he
            obtain ⟨y0, y1⟩ := rg_mem hy
            obtain ⟨c1, c2⟩ := @colD_body st T hB1 hl64 y y0 y1 x2 none none none
            exact ⟨_, rfl, c1, fun hb => ⟨_, ⟨some (.int y), rfl⟩, c2 hb⟩⟩)
        have m1 : ∀ x3 x4 x5 x6, mSeq (eVar 1) [some (lL T), some (zs T), x2, x3, x4, x5, x6] st = .ok ((rg T.length).map A.int, none) st := fun x3 x4 x5 x6 => mz rfl
        by_cases hB4 : (rg T.length).any (colB T) = true
        · refine fin (.str "columns") (head _ _ ?_) (by unfold dueA errT; rw [if_neg (by rw [hB1]; exact Bool.false_ne_true), if_neg (by rw [hB2]; exact Bool.false_ne_true), if_neg (by rw [hB3]; exact Bool.false_ne_true), if_pos hB4])
          simp only [sSeq_ap, sFor_ap, m0, Res.toS_ok, hv, SRes.bind_nx, sIf_ap, tOf_ap, eBin_ap, eCB_ap, aCons_ap, c3, aNil_ap, Res.bind_ok, one1_ap, lenA_lst, List.length_map, Res.of_some, eC_ap, gtOp_ii, ha3, asB_bl, Bool.false_eq_true, if_false, sNil_ap, m1, k1 hB4, SRes.bind_rt]
        · obtain ⟨e2, ⟨x3, rfl⟩, hk⟩ := k2 (by simpa using hB4)
          obtain ⟨j1, j2⟩ := loop_any (emb := A.int) (src := none) (all := (rg T.length).map A.int) (g := gN 4) (body := L12__law_due) (s := st) (bad := fun x => (rg T.length).any fun y => (rg T.length).any fun z => disB T x y z) (fun e => ∃ x3 x4 x5, e = [some (lL T), some (zs T), x2, x3, x4, x5, none]) (fun r => r = .rt (.str "distributive") st) trivial (fun r he => by rw [he]; trivial)
            (rg T.length) [some (lL T), some (zs T), x2, x3, none, none, none] ⟨x3, none, none, rfl⟩ (fun x hx e ⟨x3, x4, x5, he⟩ => by
              subst he
              obtain ⟨x0, x1⟩ := rg_mem hx
              obtain ⟨c1, c2⟩ := @yD_loop st T hB1 hB2 x x0 x1 x2 x3 x5
              exact ⟨_, rfl, c1, fun hb => by obtain ⟨y3, y5, h5⟩ := c2 hb; exact ⟨_, ⟨y3, some (.int x), y5, rfl⟩, h5⟩⟩)
          by_cases hB5 : ((rg T.length).any fun x => (rg T.length).any fun y => (rg T.length).any fun z => disB T x y z) = true
          · refine fin (.str "distributive") (head _ _ ?_) (by unfold dueA errT; rw [if_neg (by rw [hB1]; exact Bool.false_ne_true), if_neg (by rw [hB2]; exact Bool.false_ne_true), if_neg (by rw [hB3]; exact Bool.false_ne_true), if_neg hB4, if_pos hB5])
            simp only [sSeq_ap, sFor_ap, m0, Res.toS_ok, hv, SRes.bind_nx, sIf_ap, tOf_ap, eBin_ap, eCB_ap, aCons_ap, c3, aNil_ap, Res.bind_ok, one1_ap, lenA_lst, List.length_map, Res.of_some, eC_ap, gtOp_ii, ha3, asB_bl, Bool.false_eq_true, if_false, sNil_ap, m1, hk, j1 hB5, SRes.bind_rt]
          · obtain ⟨e3, ⟨_, _, _, rfl⟩, hj⟩ := j2 (by simpa using hB5)
            refine fin .non (head _ _ ?_) (by unfold dueA errT; rw [if_neg (by rw [hB1]; exact Bool.false_ne_true), if_neg (by rw [hB2]; exact Bool.false_ne_true), if_neg (by rw [hB3]; exact Bool.false_ne_true), if_neg hB4, if_neg hB5])
            simp only [sSeq_ap, sFor_ap, m0, Res.toS_ok, hv, SRes.bind_nx, sIf_ap, tOf_ap, eBin_ap, eCB_ap, aCons_ap, c3, aNil_ap, Res.bind_ok, one1_ap, lenA_lst, List.length_map, Res.of_some, eC_ap, gtOp_ii, ha3, asB_bl, Bool.false_eq_true, if_false, sNil_ap, m1, hk, hj, sRet_ap]
end
end Gk53

set_option Elab.async false
set_option linter.all false
set_option maxRecDepth 100000
set_option maxHeartbeats 4000000
namespace Q53
open PySem PySem.Spec L2 SL
open PyProof.Rows hiding St
/-- a column of a table in order: each number once -/
theorem col_nodup {T : List (List Int)} {y : Int} (h : colB T y = false) : ((rg T.length).map fun x => gt T x y).Nodup := by
  have h : (!decide (srtI ((rg T.length).map fun x => gt T x y) = rg T.length)) = false := h
  have e : srtI ((rg T.length).map fun x => gt T x y) = rg T.length := by simpa using h
  have hn : (rg T.length).Nodup := by
    unfold rg
    unfold List.Nodup
    rw [List.pairwise_map]
    exact List.nodup_range.imp fun h e => h (Int.ofNat.inj e)
  rw [← e] at hn
  exact (srtI_perm _).nodup_iff.mp hn
theorem err_none {T : List (List Int)} (h : errT T = none) : rowsB T = false ∧ valsB T = false ∧ idemB T = false ∧ (rg T.length).any (colB T) = false := by
  unfold errT at h
  split at h
  · cases h
  · split at h
    · cases h
    · split at h
      · cases h
      · split at h
        · cases h
        · rename_i a b c d
          exact ⟨by simpa using a, by simpa using b, by simpa using c, by simpa using d⟩
theorem rg_get {n k : Nat} (h : k < n) : (rg n)[k]? = some (k : Int) := by
  unfold rg; rw [List.getElem?_map, List.getElem?_range h]; rfl
end Q53
namespace Gk53
open PySem PySem.Spec L2 SL Q53
open PyProof.Rows hiding St
def qA (T : List (List Int)) : A := .obj "Quandle" ["table"] [lL T]
def outQ (T : List (List Int)) (st : Store) : Res A := match errT T with
  | some m => .exc (exW "InvalidMatrix" m) st
  | none => .ok (qA T) st
theorem bel_lL {n : Nat} {T : List (List Int)} : (lL T).bel n = true := bel_lst fun x hx => by
  obtain ⟨r, _, rfl⟩ := List.mem_map.mp hx
  exact bel_lI
section
variable {st : Store} {wv : A} {R : List (Rw st)} {T : List (List Int)}
theorem make_sp (h : RwL st wv R) (hT : R.map Rw.l = T) (hl64 : T.length < 64) (hrl : ∀ r ∈ T, r.length ≤ 100) : mkIns "Quandle" M_Quandle___init__ [wv] st = outQ T st := by
  have hz := sz
  have h1 := h.app [.obj "Quandle" [] []]
  have hT1 : (R.map fun r => r.app [.obj "Quandle" [] []]).map Rw.l = T := by rw [rw_app_l, hT]
  have ck := check_sp h1 hT1 hl64 hrl
  unfold outC at ck
  unfold outQ
  cases he : errT T with
  | some m =>
    rw [he] at ck
    refine mkIns_exc (fnM_exc0 rfl (e := [some (.cell st.length), some wv, none]) ?_ bel_exW) bel_exW
    show B_Quandle___init__ [some (.cell st.length), some wv, none] _ = _
    simp only [B_Quandle___init__, sSeq_ap, sAsg_ap, sEx_ap, sRet_ap, sRetN_ap, sNil_ap, sIf_ap, sFor_ap, sSub_ap, sRaise_ap, mkWhat_ap, eVar_ap, eC_ap, eBin_ap, eUn_ap, eTup_ap, eLst_ap, eCB_ap, eCall_ap, eM_ap, eIf_ap, eAndV_ap, eOrV_ap, eNotV_ap, eChain_ap, eSl_ap, oNone_ap, oSome_ap, eXf_ap, aNil_ap, aCons_ap, tOf_ap, tTru_ap, tAndM_ap, tOrM_ap, tNotM_ap, tYesM_ap, asB_bl, truA_b, Res.bind_ok, Res.bind_exc, Res.toS_ok, Res.toS_exc, Res.of_some, SRes.bind_nx, SRes.bind_rt, SRes.bind_exc, SRes.bind_ct, SRes.bind_bk, gN_ap, List.getElem?_cons_zero, List.getElem?_cons_succ, List.set_cons_zero, List.set_cons_succ, one1_ap, two2_ap, newL_f, newL_t, addOp_ii, subOp_ii, negOp_i, ltOp_ii, leOp_ii, gtOp_ii, geOp_ii, eqOp_ii, neOp_ii, eqOp_ss, neOp_ss, intA_i, intA_b, maxA_ii, minA_ii, lenA_lst, lenA_tup, lenA_slst, listA_lst, listA_tup, listA_slst, tupleA_lst, tupleA_tup, List.length_map, List.length_cons, List.length_nil, Bool.not_true, Bool.not_false, Bool.false_eq_true, if_true, if_false, Nat.zero_add, Nat.reduceAdd, mSeq_ap, seqR_lst, seqR_tup, seqR_slst, srcOf_lst, srcOf_tup, srcOf_slst, eMake_ap, eMeth_ap, insA_obj, sFldM_ap, rangeA_i, ck]
  | none =>
    rw [he] at ck
    have m1 : mSeq (eVar 1) [some (.cell st.length), some wv, none] (st ++ [.obj "Quandle" [] []]) = .ok ((R.map fun r => r.app [.obj "Quandle" [] []]).map Rw.v, srcOf wv ((R.map fun r => r.app [.obj "Quandle" [] []]).map Rw.v)) (st ++ [.obj "Quandle" [] []]) := by
      simp only [mSeq_ap, eVar_ap, List.getElem?_cons_zero, List.getElem?_cons_succ, Res.bind_ok]
      rw [h1]
    have lc := lcG (f := fun r => lI r.l) (i := 2) (own := [2]) (ma := e1_Quandle___init__) m1 (src_of_seq h1 _) (by rw [List.length_map]; have := congrArg List.length hT; rw [List.length_map] at this; omega) (fun r hr => by
      show e1_Quandle___init__ [some (.cell st.length), some wv, some r.v] _ = _
      have l1 := @listA_seq _ false r.v _ r.ok
      simp only [e1_Quandle___init__, sSeq_ap, sAsg_ap, sEx_ap, sRet_ap, sRetN_ap, sNil_ap, sIf_ap, sFor_ap, sSub_ap, sRaise_ap, mkWhat_ap, eVar_ap, eC_ap, eBin_ap, eUn_ap, eTup_ap, eLst_ap, eCB_ap, eCall_ap, eM_ap, eIf_ap, eAndV_ap, eOrV_ap, eNotV_ap, eChain_ap, eSl_ap, oNone_ap, oSome_ap, eXf_ap, aNil_ap, aCons_ap, tOf_ap, tTru_ap, tAndM_ap, tOrM_ap, tNotM_ap, tYesM_ap, asB_bl, truA_b, Res.bind_ok, Res.bind_exc, Res.toS_ok, Res.toS_exc, Res.of_some, SRes.bind_nx, SRes.bind_rt, SRes.bind_exc, SRes.bind_ct, SRes.bind_bk, gN_ap, List.getElem?_cons_zero, List.getElem?_cons_succ, List.set_cons_zero, List.set_cons_succ, one1_ap, two2_ap, newL_f, newL_t, addOp_ii, subOp_ii, negOp_i, ltOp_ii, leOp_ii, gtOp_ii, geOp_ii, eqOp_ii, neOp_ii, eqOp_ss, neOp_ss, intA_i, intA_b, maxA_ii, minA_ii, lenA_lst, lenA_tup, lenA_slst, listA_lst, listA_tup, listA_slst, tupleA_lst, tupleA_tup, List.length_map, List.length_cons, List.length_nil, Bool.not_true, Bool.not_false, Bool.false_eq_true, if_true, if_false, Nat.zero_add, Nat.reduceAdd, mSeq_ap, seqR_lst, seqR_tup, seqR_slst, srcOf_lst, srcOf_tup, srcOf_slst, eMake_ap, eMeth_ap, insA_obj, sFldM_ap, rangeA_i, l1])
    have e2 : (R.map fun r => r.app [.obj "Quandle" [] []]).map (fun r => lI r.l) = T.map lI := by rw [← hT1]; simp only [List.map_map]; rfl
    rw [e2] at lc
    have fs : fldSet ["Quandle"] "table" (.cell st.length) (lL T) (st ++ [.obj "Quandle" [] []]) = some (st ++ [.obj "Quandle" ["table"] [lL T]]) := by
      unfold fldSet
      dsimp only
      rw [get_app_len rfl]
      dsimp only
      rw [if_pos ⟨by simp, by simp⟩]
      simp [putN]
    refine mkIns_ok ?_ (by simp [belowL, bel_lL])
    refine fnM_nx rfl (e := [some (.cell st.length), some wv, none]) (st' := st ++ [.obj "Quandle" ["table"] [lL T]]) ?_ ?_
    · show B_Quandle___init__ [some (.cell st.length), some wv, none] _ = _
      simp only [B_Quandle___init__, sSeq_ap, sAsg_ap, sEx_ap, sRet_ap, sRetN_ap, sNil_ap, sIf_ap, sFor_ap, sSub_ap, sRaise_ap, mkWhat_ap, eVar_ap, eC_ap, eBin_ap, eUn_ap, eTup_ap, eLst_ap, eCB_ap, eCall_ap, eM_ap, eIf_ap, eAndV_ap, eOrV_ap, eNotV_ap, eChain_ap, eSl_ap, oNone_ap, oSome_ap, eXf_ap, aNil_ap, aCons_ap, tOf_ap, tTru_ap, tAndM_ap, tOrM_ap, tNotM_ap, tYesM_ap, asB_bl, truA_b, Res.bind_ok, Res.bind_exc, Res.toS_ok, Res.toS_exc, Res.of_some, SRes.bind_nx, SRes.bind_rt, SRes.bind_exc, SRes.bind_ct, SRes.bind_bk, gN_ap, List.getElem?_cons_zero, List.getElem?_cons_succ, List.set_cons_zero, List.set_cons_succ, one1_ap, two2_ap, newL_f, newL_t, addOp_ii, subOp_ii, negOp_i, ltOp_ii, leOp_ii, gtOp_ii, geOp_ii, eqOp_ii, neOp_ii, eqOp_ss, neOp_ss, intA_i, intA_b, maxA_ii, minA_ii, lenA_lst, lenA_tup, lenA_slst, listA_lst, listA_tup, listA_slst, tupleA_lst, tupleA_tup, List.length_map, List.length_cons, List.length_nil, Bool.not_true, Bool.not_false, Bool.false_eq_true, if_true, if_false, Nat.zero_add, Nat.reduceAdd, mSeq_ap, seqR_lst, seqR_tup, seqR_slst, srcOf_lst, srcOf_tup, srcOf_slst, eMake_ap, eMeth_ap, insA_obj, sFldM_ap, rangeA_i, ck, lc, fs]
    · have := finA_set (rc := false) (st := st ++ [.obj "Quandle" [] []]) (a := .non) (l := []) (c := st.length) (k := .obj "Quandle" ["table"] [lL T]) (by simp [A.bel]) (by intro c h; cases h) (by simp [C.bel, belowL, bel_lL])
      simpa using this
theorem acted_sp (h1 : rowsB T = false) {x y : Int} (hx0 : 0 ≤ x) (hx : x < T.length) (hy0 : 0 ≤ y) (hy : y < T.length) : M_Quandle_acted [qA T, .int x, .int y] st = .ok (.int (gt T x y)) st := by
  obtain ⟨v, i1, i2⟩ := @gt_at st T (rows_ok h1).2 x y hx0 hx hy0 hy
  have fo : fldOp ["Quandle"] "table" (qA T) st = some (lL T, st) := fldOp_obj (by simp) rfl
  refine fnM_rt rfl (a := .int (gt T x y)) (st' := st) ?_ fin_int0
  show B_Quandle_acted [some (qA T), some (.int x), some (.int y)] st = _
  simp only [B_Quandle_acted, sSeq_ap, sAsg_ap, sEx_ap, sRet_ap, sRetN_ap, sNil_ap, sIf_ap, sFor_ap, sSub_ap, sRaise_ap, mkWhat_ap, eVar_ap, eC_ap, eBin_ap, eUn_ap, eTup_ap, eLst_ap, eCB_ap, eCall_ap, eM_ap, eIf_ap, eAndV_ap, eOrV_ap, eNotV_ap, eChain_ap, eSl_ap, oNone_ap, oSome_ap, eXf_ap, aNil_ap, aCons_ap, tOf_ap, tTru_ap, tAndM_ap, tOrM_ap, tNotM_ap, tYesM_ap, asB_bl, truA_b, Res.bind_ok, Res.bind_exc, Res.toS_ok, Res.toS_exc, Res.of_some, SRes.bind_nx, SRes.bind_rt, SRes.bind_exc, SRes.bind_ct, SRes.bind_bk, gN_ap, List.getElem?_cons_zero, List.getElem?_cons_succ, List.set_cons_zero, List.set_cons_succ, one1_ap, two2_ap, newL_f, newL_t, addOp_ii, subOp_ii, negOp_i, ltOp_ii, leOp_ii, gtOp_ii, geOp_ii, eqOp_ii, neOp_ii, eqOp_ss, neOp_ss, intA_i, intA_b, maxA_ii, minA_ii, lenA_lst, lenA_tup, lenA_slst, listA_lst, listA_tup, listA_slst, tupleA_lst, tupleA_tup, List.length_map, List.length_cons, List.length_nil, Bool.not_true, Bool.not_false, Bool.false_eq_true, if_true, if_false, Nat.zero_add, Nat.reduceAdd, mSeq_ap, seqR_lst, seqR_tup, seqR_slst, srcOf_lst, srcOf_tup, srcOf_slst, eMake_ap, eMeth_ap, insA_obj, sFldM_ap, rangeA_i, fo, i1, i2]
theorem undone_sp (he : errT T = none) (hl64 : T.length < 64) {x y : Int} (hx0 : 0 ≤ x) (hx : x < T.length) (hy0 : 0 ≤ y) (hy : y < T.length) : M_Quandle_undone [qA T, .int (gt T x y), .int y] st = .ok (.int x) st := by
  have hz := sz
  obtain ⟨h1, h2, h3, h4⟩ := err_none he
  have hr := (rows_ok h1).2
  have fo : fldOp ["Quandle"] "table" (qA T) st = some (lL T, st) := fldOp_obj (by simp) rfl
  have m1 : mSeq (eUn (fldOp ["Quandle"] "table") (eVar 0)) [some (qA T), some (.int (gt T x y)), some (.int y), none] st = .ok (T.map lI, none) st := by
    simp only [sSeq_ap, sAsg_ap, sEx_ap, sRet_ap, sRetN_ap, sNil_ap, sIf_ap, sFor_ap, sSub_ap, sRaise_ap, mkWhat_ap, eVar_ap, eC_ap, eBin_ap, eUn_ap, eTup_ap, eLst_ap, eCB_ap, eCall_ap, eM_ap, eIf_ap, eAndV_ap, eOrV_ap, eNotV_ap, eChain_ap, eSl_ap, oNone_ap, oSome_ap, eXf_ap, aNil_ap, aCons_ap, tOf_ap, tTru_ap, tAndM_ap, tOrM_ap, tNotM_ap, tYesM_ap, asB_bl, truA_b, Res.bind_ok, Res.bind_exc, Res.toS_ok, Res.toS_exc, Res.of_some, SRes.bind_nx, SRes.bind_rt, SRes.bind_exc, SRes.bind_ct, SRes.bind_bk, gN_ap, List.getElem?_cons_zero, List.getElem?_cons_succ, List.set_cons_zero, List.set_cons_succ, one1_ap, two2_ap, newL_f, newL_t, addOp_ii, subOp_ii, negOp_i, ltOp_ii, leOp_ii, gtOp_ii, geOp_ii, eqOp_ii, neOp_ii, eqOp_ss, neOp_ss, intA_i, intA_b, maxA_ii, minA_ii, lenA_lst, lenA_tup, lenA_slst, listA_lst, listA_tup, listA_slst, tupleA_lst, tupleA_tup, List.length_map, List.length_cons, List.length_nil, Bool.not_true, Bool.not_false, Bool.false_eq_true, if_true, if_false, Nat.zero_add, Nat.reduceAdd, mSeq_ap, seqR_lst, seqR_tup, seqR_slst, srcOf_lst, srcOf_tup, srcOf_slst, eMake_ap, eMeth_ap, insA_obj, sFldM_ap, rangeA_i, fo]
  have lc := lcG (f := fun r : List Int => .int (r.getD y.toNat 0)) (emb := lI) (i := 3) (own := [3]) (ma := e1_Quandle_undone) m1 trivial (by omega) (fun r hrT => by
    show e1_Quandle_undone [some (qA T), some (.int (gt T x y)), some (.int y), some (lI r)] st = _
    have := hr r hrT
    have i1 := @ix_lI st r y hy0 (by omega)
    simp only [e1_Quandle_undone, sSeq_ap, sAsg_ap, sEx_ap, sRet_ap, sRetN_ap, sNil_ap, sIf_ap, sFor_ap, sSub_ap, sRaise_ap, mkWhat_ap, eVar_ap, eC_ap, eBin_ap, eUn_ap, eTup_ap, eLst_ap, eCB_ap, eCall_ap, eM_ap, eIf_ap, eAndV_ap, eOrV_ap, eNotV_ap, eChain_ap, eSl_ap, oNone_ap, oSome_ap, eXf_ap, aNil_ap, aCons_ap, tOf_ap, tTru_ap, tAndM_ap, tOrM_ap, tNotM_ap, tYesM_ap, asB_bl, truA_b, Res.bind_ok, Res.bind_exc, Res.toS_ok, Res.toS_exc, Res.of_some, SRes.bind_nx, SRes.bind_rt, SRes.bind_exc, SRes.bind_ct, SRes.bind_bk, gN_ap, List.getElem?_cons_zero, List.getElem?_cons_succ, List.set_cons_zero, List.set_cons_succ, one1_ap, two2_ap, newL_f, newL_t, addOp_ii, subOp_ii, negOp_i, ltOp_ii, leOp_ii, gtOp_ii, geOp_ii, eqOp_ii, neOp_ii, eqOp_ss, neOp_ss, intA_i, intA_b, maxA_ii, minA_ii, lenA_lst, lenA_tup, lenA_slst, listA_lst, listA_tup, listA_slst, tupleA_lst, tupleA_tup, List.length_map, List.length_cons, List.length_nil, Bool.not_true, Bool.not_false, Bool.false_eq_true, if_true, if_false, Nat.zero_add, Nat.reduceAdd, mSeq_ap, seqR_lst, seqR_tup, seqR_slst, srcOf_lst, srcOf_tup, srcOf_slst, eMake_ap, eMeth_ap, insA_obj, sFldM_ap, rangeA_i, i1])
  have e : T.map (fun r : List Int => A.int (r.getD y.toNat 0)) = ((rg T.length).map fun x => gt T x y).map A.int := by
    apply List.ext_getElem?
    intro i
    by_cases hi : i < T.length
    · rw [List.getElem?_map, List.getElem?_map, List.getElem?_map, rg_get hi, List.getElem?_eq_getElem hi]
      simp [gt, List.getD_eq_getElem?_getD, List.getElem?_eq_getElem hi]
    · rw [List.getElem?_eq_none (by simp; omega), List.getElem?_eq_none (by simp [rg_len]; omega)]
  rw [e] at lc
  have hc : colB T y = false := by
    rw [List.any_eq_false] at h4
    have := h4 y (by
      have := @rg_get T.length y.toNat (by omega)
      rw [show ((y.toNat : Nat) : Int) = y by omega] at this
      exact List.mem_of_getElem? this)
    simpa using this
  have ii : idxI (gt T x y) ((rg T.length).map fun x => gt T x y) = some x.toNat := idxI_nodup (col_nodup hc) (by
    rw [List.getElem?_map, rg_get (by omega)]
    show some (gt T ((x.toNat : Nat) : Int) y) = _
    rw [show ((x.toNat : Nat) : Int) = x by omega])
  have ix := @indexM_ints st _ _ _ ii
  rw [show ((x.toNat : Nat) : Int) = x by omega] at ix
  have tv : tyVA "list" (lI ((rg T.length).map fun x => gt T x y)) st = true := rfl
  refine fnM_rt rfl (a := .int x) (st' := st) ?_ fin_int0
  show B_Quandle_undone [some (qA T), some (.int (gt T x y)), some (.int y), none] st = _
  simp only [B_Quandle_undone, eM_ap, lc, sRet_ap, Res.bind_ok, tv, if_true, sSeq_ap, sAsg_ap, sEx_ap, sRet_ap, sRetN_ap, sNil_ap, sIf_ap, sFor_ap, sSub_ap, sRaise_ap, mkWhat_ap, eVar_ap, eC_ap, eBin_ap, eUn_ap, eTup_ap, eLst_ap, eCB_ap, eCall_ap, eM_ap, eIf_ap, eAndV_ap, eOrV_ap, eNotV_ap, eChain_ap, eSl_ap, oNone_ap, oSome_ap, eXf_ap, aNil_ap, aCons_ap, tOf_ap, tTru_ap, tAndM_ap, tOrM_ap, tNotM_ap, tYesM_ap, asB_bl, truA_b, Res.bind_ok, Res.bind_exc, Res.toS_ok, Res.toS_exc, Res.of_some, SRes.bind_nx, SRes.bind_rt, SRes.bind_exc, SRes.bind_ct, SRes.bind_bk, gN_ap, List.getElem?_cons_zero, List.getElem?_cons_succ, List.set_cons_zero, List.set_cons_succ, one1_ap, two2_ap, newL_f, newL_t, addOp_ii, subOp_ii, negOp_i, ltOp_ii, leOp_ii, gtOp_ii, geOp_ii, eqOp_ii, neOp_ii, eqOp_ss, neOp_ss, intA_i, intA_b, maxA_ii, minA_ii, lenA_lst, lenA_tup, lenA_slst, listA_lst, listA_tup, listA_slst, tupleA_lst, tupleA_tup, List.length_map, List.length_cons, List.length_nil, Bool.not_true, Bool.not_false, Bool.false_eq_true, if_true, if_false, Nat.zero_add, Nat.reduceAdd, mSeq_ap, seqR_lst, seqR_tup, seqR_slst, srcOf_lst, srcOf_tup, srcOf_slst, eMake_ap, eMeth_ap, insA_obj, sFldM_ap, rangeA_i, ix]
theorem pd_lL (hl : T.length < 1000000) (hr : ∀ r ∈ T, r.length < 1000000) : PD 2 (lL T) := .lst 1 _ (by simpa using hl) fun x hx => by
  obtain ⟨r, hrT, rfl⟩ := List.mem_map.mp hx
  exact pd_lI (hr r hrT)
/-- the told quandle is right -/
theorem isq_sp (he : errT T = none) (hl64 : T.length < 64) : M__law_is_quandle [qA T, lL T] st = .ok (.bl true) st := by
  have hz := sz
  obtain ⟨h1, h2, h3, h4⟩ := err_none he
  have hr := (rows_ok h1).2
  have fo : fldOp ["Quandle"] "table" (qA T) st = some (lL T, st) := fldOp_obj (by simp) rfl
  have io : isO "Quandle" [qA T, .glo "Quandle"] st = some (.bl true, st) := by
    unfold isO qA
    dsimp only
    rw [if_pos rfl, insA_obj]
    dsimp only
    rw [if_pos rfl]
  obtain ⟨r, q1, q2, q3, q4, q5⟩ := @plainQ st 2 (lL T) (pd_lL (by omega) fun r hrT => by have := hr r hrT; omega) (by omega)
  -- one pair
  have one : ∀ x ∈ rg T.length, ∀ y ∈ rg T.length, L1__law_is_quandle [some (qA T), some (lL T), some (.int x), some (.int y)] st = .nx [some (qA T), some (lL T), some (.int x), some (.int y)] st := by
    intro x hx y hy
    obtain ⟨x0, x1⟩ := rg_mem hx
    obtain ⟨y0, y1⟩ := rg_mem hy
    have ac := @acted_sp st T h1 x y x0 x1 y0 y1
    have un := @undone_sp st T he hl64 x y x0 x1 y0 y1
    obtain ⟨v, i1, i2⟩ := @gt_at st T hr x y x0 x1 y0 y1
    obtain ⟨p1, a1, a2, a3, _⟩ := @plainQ st 0 (.int (gt T x y)) (.int 0 _) (by omega)
    obtain ⟨p2, b1, b2, b3, _⟩ := @plainQ st 0 (.int x) (.int 0 _) (by omega)
    have lk : ∀ m : Str, m ≠ "table" → ((["table"] : List Str).zip [lL T]).lookup m = none := fun m hm => by
      rw [List.zip_cons_cons, List.lookup_cons]
      rw [show (m == ("table" : Str)) = false by simpa using hm]; rfl
    have k1 := lk "acted" (by decide)
    have k2 := lk "undone" (by decide)
    have ii : insA (qA T) st = some (("Quandle" : Str), ([("table" : Str)] : List Str), [lL T]) := rfl
    simp only [L1__law_is_quandle, sSeq_ap, sAsg_ap, sEx_ap, sRet_ap, sRetN_ap, sNil_ap, sIf_ap, sFor_ap, sSub_ap, sRaise_ap, mkWhat_ap, eVar_ap, eC_ap, eBin_ap, eUn_ap, eTup_ap, eLst_ap, eCB_ap, eCall_ap, eM_ap, eIf_ap, eAndV_ap, eOrV_ap, eNotV_ap, eChain_ap, eSl_ap, oNone_ap, oSome_ap, eXf_ap, aNil_ap, aCons_ap, tOf_ap, tTru_ap, tAndM_ap, tOrM_ap, tNotM_ap, tYesM_ap, asB_bl, truA_b, Res.bind_ok, Res.bind_exc, Res.toS_ok, Res.toS_exc, Res.of_some, SRes.bind_nx, SRes.bind_rt, SRes.bind_exc, SRes.bind_ct, SRes.bind_bk, gN_ap, List.getElem?_cons_zero, List.getElem?_cons_succ, List.set_cons_zero, List.set_cons_succ, one1_ap, two2_ap, newL_f, newL_t, addOp_ii, subOp_ii, negOp_i, ltOp_ii, leOp_ii, gtOp_ii, geOp_ii, eqOp_ii, neOp_ii, eqOp_ss, neOp_ss, intA_i, intA_b, maxA_ii, minA_ii, lenA_lst, lenA_tup, lenA_slst, listA_lst, listA_tup, listA_slst, tupleA_lst, tupleA_tup, List.length_map, List.length_cons, List.length_nil, Bool.not_true, Bool.not_false, Bool.false_eq_true, if_true, if_false, Nat.zero_add, Nat.reduceAdd, mSeq_ap, seqR_lst, seqR_tup, seqR_slst, srcOf_lst, srcOf_tup, srcOf_slst, eMake_ap, eMeth_ap, insA_obj, sFldM_ap, rangeA_i, ii, k1, k2, ac, un, i1, i2, a1, a3, b1, b3, and_self]
  have mi : ∀ x2 x3 : Option A, mRng1 (aCons (eCB (one1 lenA) (aCons (eVar 1) aNil)) aNil) [some (qA T), some (lL T), x2, x3] st = .ok ((rg T.length).map A.int, none) st := fun x2 x3 => rng1 (by omega) (by simp only [sSeq_ap, sAsg_ap, sEx_ap, sRet_ap, sRetN_ap, sNil_ap, sIf_ap, sFor_ap, sSub_ap, sRaise_ap, mkWhat_ap, eVar_ap, eC_ap, eBin_ap, eUn_ap, eTup_ap, eLst_ap, eCB_ap, eCall_ap, eM_ap, eIf_ap, eAndV_ap, eOrV_ap, eNotV_ap, eChain_ap, eSl_ap, oNone_ap, oSome_ap, eXf_ap, aNil_ap, aCons_ap, tOf_ap, tTru_ap, tAndM_ap, tOrM_ap, tNotM_ap, tYesM_ap, asB_bl, truA_b, Res.bind_ok, Res.bind_exc, Res.toS_ok, Res.toS_exc, Res.of_some, SRes.bind_nx, SRes.bind_rt, SRes.bind_exc, SRes.bind_ct, SRes.bind_bk, gN_ap, List.getElem?_cons_zero, List.getElem?_cons_succ, List.set_cons_zero, List.set_cons_succ, one1_ap, two2_ap, newL_f, newL_t, addOp_ii, subOp_ii, negOp_i, ltOp_ii, leOp_ii, gtOp_ii, geOp_ii, eqOp_ii, neOp_ii, eqOp_ss, neOp_ss, intA_i, intA_b, maxA_ii, minA_ii, lenA_lst, lenA_tup, lenA_slst, listA_lst, listA_tup, listA_slst, tupleA_lst, tupleA_tup, List.length_map, List.length_cons, List.length_nil, Bool.not_true, Bool.not_false, Bool.false_eq_true, if_true, if_false, Nat.zero_add, Nat.reduceAdd, mSeq_ap, seqR_lst, seqR_tup, seqR_slst, srcOf_lst, srcOf_tup, srcOf_slst, eMake_ap, eMeth_ap, insA_obj, sFldM_ap, rangeA_i])
  have two : ∀ x ∈ rg T.length, ∀ x3 : Option A, ∃ y3, L2__law_is_quandle [some (qA T), some (lL T), some (.int x), x3] st = .nx [some (qA T), some (lL T), some (.int x), y3] st := by
    intro x hx x3
    obtain ⟨_, k⟩ := loop_any (emb := A.int) (src := none) (all := (rg T.length).map A.int) (g := gN 3) (body := L1__law_is_quandle) (s := st) (bad := fun _ => false) (fun e => ∃ x3, e = [some (qA T), some (lL T), some (.int x), x3]) (fun _ => False) trivial (fun _ h => h.elim) (rg T.length) [some (qA T), some (lL T), some (.int x), x3] ⟨_, rfl⟩ (fun y hy e ⟨x3, he⟩ => by
      subst he
      exact ⟨_, rfl, (fun z => Bool.noConfusion z), fun _ => ⟨_, ⟨_, rfl⟩, one x hx y hy⟩⟩)
    obtain ⟨e', ⟨y3, rfl⟩, hk⟩ := k (by simp)
    exact ⟨y3, by simp only [L2__law_is_quandle, sFor_ap, mi, Res.toS_ok, hk]⟩
  obtain ⟨_, k⟩ := loop_any (emb := A.int) (src := none) (all := (rg T.length).map A.int) (g := gN 2) (body := L2__law_is_quandle) (s := st) (bad := fun _ => false) (fun e => ∃ x2 x3, e = [some (qA T), some (lL T), x2, x3]) (fun _ => False) trivial (fun _ h => h.elim) (rg T.length) [some (qA T), some (lL T), none, none] ⟨_, _, rfl⟩ (fun x hx e ⟨x2, x3, he⟩ => by
    subst he
    obtain ⟨y3, h3⟩ := two x hx x3
    exact ⟨_, rfl, (fun z => Bool.noConfusion z), fun _ => ⟨_, ⟨_, _, rfl⟩, h3⟩⟩)
  obtain ⟨e', ⟨x2, x3, rfl⟩, hk⟩ := k (by simp)
  refine fnM_rt rfl (a := .bl true) (st' := st) ?_ fin_bl0
  show B__law_is_quandle [some (qA T), some (lL T), none, none] st = _
  simp only [B__law_is_quandle, sSeq_ap, sAsg_ap, sEx_ap, sRet_ap, sRetN_ap, sNil_ap, sIf_ap, sFor_ap, sSub_ap, sRaise_ap, mkWhat_ap, eVar_ap, eC_ap, eBin_ap, eUn_ap, eTup_ap, eLst_ap, eCB_ap, eCall_ap, eM_ap, eIf_ap, eAndV_ap, eOrV_ap, eNotV_ap, eChain_ap, eSl_ap, oNone_ap, oSome_ap, eXf_ap, aNil_ap, aCons_ap, tOf_ap, tTru_ap, tAndM_ap, tOrM_ap, tNotM_ap, tYesM_ap, asB_bl, truA_b, Res.bind_ok, Res.bind_exc, Res.toS_ok, Res.toS_exc, Res.of_some, SRes.bind_nx, SRes.bind_rt, SRes.bind_exc, SRes.bind_ct, SRes.bind_bk, gN_ap, List.getElem?_cons_zero, List.getElem?_cons_succ, List.set_cons_zero, List.set_cons_succ, one1_ap, two2_ap, newL_f, newL_t, addOp_ii, subOp_ii, negOp_i, ltOp_ii, leOp_ii, gtOp_ii, geOp_ii, eqOp_ii, neOp_ii, eqOp_ss, neOp_ss, intA_i, intA_b, maxA_ii, minA_ii, lenA_lst, lenA_tup, lenA_slst, listA_lst, listA_tup, listA_slst, tupleA_lst, tupleA_tup, List.length_map, List.length_cons, List.length_nil, Bool.not_true, Bool.not_false, Bool.false_eq_true, if_true, if_false, Nat.zero_add, Nat.reduceAdd, mSeq_ap, seqR_lst, seqR_tup, seqR_slst, srcOf_lst, srcOf_tup, srcOf_slst, eMake_ap, eMeth_ap, insA_obj, sFldM_ap, rangeA_i, io, fo, q1, q3, sFor_ap, mi, hk]
end
end Gk53

set_option Elab.async false
set_option linter.all false
set_option maxRecDepth 100000
set_option maxHeartbeats 4000000
namespace Q53
open PySem PySem.Spec L2 SL
open PyProof.Rows hiding St
def affL (n : Nat) (f : Int) : List (List Int) := (rg n).map fun x => (rg n).map fun y => (f * x + y - f * y).fmod n
theorem affL_len {n : Nat} {f : Int} : (affL n f).length = n := by simp [affL, rg]
theorem affL_rows {n : Nat} {f : Int} : ∀ r ∈ affL n f, r.length = n := fun r hr => by
  obtain ⟨x, _, rfl⟩ := List.mem_map.mp hr
  simp [rg]
/-- the conjugate, item by item, begun with a list -/
def cjS (p q s : List Int) (k : Nat) : List Int := s.set (q.getD (p.getD k 0).toNat 0 |> fun _ => (q.getD k 0).toNat) (q.getD (p.getD k 0).toNat 0)
def cjF (p q s : List Int) (m : Nat) : List Int := (List.range m).foldl (cjS p q) s
theorem cjF_succ {p q s : List Int} {m : Nat} : cjF p q s (m + 1) = cjS p q (cjF p q s m) m := by unfold cjF; rw [List.range_succ, List.foldl_append]; rfl
theorem cjF_len {p q s : List Int} : ∀ m, (cjF p q s m).length = s.length
  | 0 => rfl
  | m + 1 => by rw [cjF_succ]; unfold cjS; rw [List.length_set, cjF_len m]
def idxL (q : List Int) : List (List Int) → Option Nat
  | [] => none
  | z :: zs => if z = q then some 0 else (idxL q zs).map (· + 1)
theorem idxL_some {q : List Int} : ∀ {l : List (List Int)}, (idxL q l).isSome = l.any fun z => decide (z = q)
  | [] => rfl
  | z :: l => by
    unfold idxL
    rw [List.any_cons]
    by_cases h : z = q
    · simp [h]
    · rw [if_neg h, Option.isSome_map, idxL_some]; simp [h]
def plc (q : List Int) (ms : List (List Int)) : Int := match idxL q ms with
  | some k => (k : Nat)
  | none => -1
def tabC (ms : List (List Int)) (cj : List Int → List Int → List Int) : List (List Int) := ms.map fun x => ms.map fun y => plc (cj x y) ms
def three : List (List Int) := [[0, 1, 2], [0, 2, 1], [1, 0, 2], [1, 2, 0], [2, 0, 1], [2, 1, 0]]
def four : List (List Int) := [[1, 0, 2, 3], [2, 1, 0, 3], [3, 1, 2, 0], [0, 2, 1, 3], [0, 3, 2, 1], [0, 1, 3, 2]]
def fours : List (List Int) := four ++ [[1, 2, 0, 3], [3, 0, 2, 1], [2, 1, 3, 0], [0, 3, 1, 2], [0, 1, 2, 3], [1, 0, 3, 2], [2, 3, 0, 1], [3, 2, 1, 0], [1, 2, 3, 0], [3, 0, 1, 2]]
def okM (ms : List (List Int)) : Bool := decide (ms.length ≤ 6) && decide ms.Nodup && ((ms.all fun p => decide (p ∈ three)) || (ms.all fun p => decide (p ∈ fours)))
def perm (m : Nat) (p : List Int) : Prop := p.length = m ∧ ∀ x ∈ p, 0 ≤ x ∧ x < m
theorem three_ok : ∀ p ∈ three, perm 3 p ∧ ∀ q ∈ three, cjF p q p 3 = cjF p q (List.replicate 3 0) 3 := by unfold perm; decide +kernel
theorem fours_ok : ∀ p ∈ fours, perm 4 p ∧ ∀ q ∈ fours, cjF p q p 4 = cjF p q (List.replicate 4 0) 4 := by unfold perm; decide +kernel
theorem okM_at {ms : List (List Int)} (h : okM ms = true) : ms.length ≤ 6 ∧ ms.Nodup ∧ ∃ m, m ≤ 4 ∧ ∀ p ∈ ms, perm m p ∧ ∀ q ∈ ms, cjF p q p m = cjF p q (List.replicate m 0) m := by
  unfold okM at h
  rw [Bool.and_eq_true, Bool.and_eq_true, Bool.or_eq_true] at h
  obtain ⟨⟨h1, h2⟩, h3⟩ := h
  refine ⟨of_decide_eq_true h1, of_decide_eq_true h2, ?_⟩
  rcases h3 with h3 | h3
  · rw [List.all_eq_true] at h3
    exact ⟨3, by omega, fun p hp => ⟨(three_ok p (of_decide_eq_true (h3 p hp))).1, fun q hq => (three_ok p (of_decide_eq_true (h3 p hp))).2 q (of_decide_eq_true (h3 q hq))⟩⟩
  · rw [List.all_eq_true] at h3
    exact ⟨4, by omega, fun p hp => ⟨(fours_ok p (of_decide_eq_true (h3 p hp))).1, fun q hq => (fours_ok p (of_decide_eq_true (h3 p hp))).2 q (of_decide_eq_true (h3 q hq))⟩⟩
end Q53
namespace Gk53
open PySem PySem.Spec L2 SL Q53
open PyProof.Rows hiding St
section
variable {st : Store} {T : List (List Int)}
def toldA (T : List (List Int)) : A := match errT T with
  | some m => .str m
  | none => qA T
theorem bel_qA {n : Nat} : (qA T).bel n = true := by
  have := @bel_lL n T
  simp only [qA, A.bel, belowL, Bool.and_true]
  exact this
theorem nc_qA : ∀ c, qA T ≠ .cell c := by intro c h; cases h
theorem bel_told {n : Nat} : (toldA T).bel n = true := by unfold toldA; cases errT T <;> first | exact bel_qA | simp [A.bel]
theorem nc_told : ∀ c, toldA T ≠ .cell c := by unfold toldA; cases errT T <;> (intro c h; cases h)
/-- a quandle, or the word of the refusal -/
theorem why_of {made : A} {ak : Int} (h : Y1__law_why [some made, some (.int ak), none, none] st = match errT T with
    | some m => .exc (exW "InvalidMatrix" m) [some made, some (.int ak), none, none] st
    | none => .nx [some made, some (.int ak), none, some (qA T)] st) : M__law_why [made, .int ak] st = .ok (toldA T) st := by
  refine fnM_rt rfl (a := toldA T) (st' := st) ?_ (fin_pure0 bel_told nc_told)
  show B__law_why [some made, some (.int ak), none, none] st = _
  unfold toldA
  cases he : errT T with
  | none =>
    rw [he] at h
    have t := sTryAs_ok (tbl := [("InvalidMatrix", true)]) (i := 2) (ms := X2__law_why) h (by intro x e s z; cases z)
    simp only [B__law_why, sSeq_ap, t, sSeq_ap, sAsg_ap, sEx_ap, sRet_ap, sRetN_ap, sNil_ap, sIf_ap, sFor_ap, sSub_ap, sRaise_ap, mkWhat_ap, eVar_ap, eC_ap, eBin_ap, eUn_ap, eTup_ap, eLst_ap, eCB_ap, eCall_ap, eM_ap, eIf_ap, eAndV_ap, eOrV_ap, eNotV_ap, eChain_ap, eSl_ap, oNone_ap, oSome_ap, eXf_ap, aNil_ap, aCons_ap, tOf_ap, tTru_ap, tAndM_ap, tOrM_ap, tNotM_ap, tYesM_ap, asB_bl, truA_b, Res.bind_ok, Res.bind_exc, Res.toS_ok, Res.toS_exc, Res.of_some, SRes.bind_nx, SRes.bind_rt, SRes.bind_exc, SRes.bind_ct, SRes.bind_bk, gN_ap, List.getElem?_cons_zero, List.getElem?_cons_succ, List.set_cons_zero, List.set_cons_succ, one1_ap, two2_ap, newL_f, newL_t, addOp_ii, subOp_ii, negOp_i, ltOp_ii, leOp_ii, gtOp_ii, geOp_ii, eqOp_ii, neOp_ii, eqOp_ss, neOp_ss, intA_i, intA_b, maxA_ii, minA_ii, lenA_lst, lenA_tup, lenA_slst, listA_lst, listA_tup, listA_slst, tupleA_lst, tupleA_tup, List.length_map, List.length_cons, List.length_nil, Bool.not_true, Bool.not_false, Bool.false_eq_true, if_true, if_false, Nat.zero_add, Nat.reduceAdd, mSeq_ap, seqR_lst, seqR_tup, seqR_slst, srcOf_lst, srcOf_tup, srcOf_slst, decide_true, decide_false, Int.reduceEq, Int.reduceNeg, eMake_ap, eMeth_ap, insA_obj, sFldM_ap, rangeA_i]
  | some m =>
    rw [he] at h
    have t := sTryAs_exc (tbl := [("InvalidMatrix", true)]) (i := 2) (ms := X2__law_why) (r := .rt (.str m) st) h (by rfl) (fun a d => by
      show clr 2 (X2__law_why a "InvalidMatrix" d [some made, some (.int ak), some (.xcp a d "InvalidMatrix" ["what"] [.str m]), none] st) = _
      have i1 : isX "InvalidMatrix" [("InvalidMatrix", true)] a "InvalidMatrix" d [.xcp a d "InvalidMatrix" ["what"] [.str m], .glo "InvalidMatrix"] st = some (.bl true, st) := by simp [isX]
      have i2 : isX "InvalidDivision" [("InvalidMatrix", false)] a "InvalidMatrix" d [.xcp a d "InvalidMatrix" ["what"] [.str m], .glo "InvalidDivision"] st = some (.bl false, st) := by simp [isX]
      have e3 : eXf ["InvalidMatrix"] "what" a "InvalidMatrix" d (eVar 2) [some made, some (.int ak), some (.xcp a d "InvalidMatrix" ["what"] [.str m]), none] st = .ok (.str m) st := by simp
      simp only [X2__law_why, sSeq_ap, sIf_ap, tAndM_ap, tTru_ap, eCB_ap, aCons_ap, eVar_ap, eC_ap, aNil_ap, List.getElem?_cons_zero, List.getElem?_cons_succ, Res.bind_ok, i1, i2, Res.of_some, truA_b, if_true, tNotM_ap, Bool.not_false, Res.toS_ok, sRet_ap, e3, SRes.bind_rt, clr])
    simp only [B__law_why, sSeq_ap, t, SRes.bind_rt]
theorem rowLc {mi : MI} {i n : Nat} {own : List Nat} {ma : AEnv → Store → Res A} {env : AEnv} (g : Int → Int) (hmi : mi env st = .ok ((rg n).map A.int, none) st) (hn : n < 1000) (h : ∀ x ∈ rg n, ma ((wipeA env own).set i (some (.int x))) st = .ok (.int (g x)) st) : eLc false mi (gN i) own tYesM ma env st = .ok (lI ((rg n).map g)) st := by
  have hz := sz
  rw [lcG (f := fun x => .int (g x)) hmi trivial (by rw [rg_len]; omega) h]
  show _ = Res.ok (A.lst (((rg n).map g).map A.int)) st
  rw [List.map_map]; rfl
theorem tabLc {mi : MI} {i n : Nat} {own : List Nat} {ma : AEnv → Store → Res A} {env : AEnv} (g : Int → List Int) (hmi : mi env st = .ok ((rg n).map A.int, none) st) (hn : n < 1000) (h : ∀ x ∈ rg n, ma ((wipeA env own).set i (some (.int x))) st = .ok (lI (g x)) st) : eLc false mi (gN i) own tYesM ma env st = .ok (lL ((rg n).map g)) st := by
  have hz := sz
  rw [lcG (f := fun x => lI (g x)) hmi trivial (by rw [rg_len]; omega) h]
  show _ = Res.ok (A.lst (((rg n).map g).map lI)) st
  rw [List.map_map]; rfl
theorem mr {i n : Nat} {env : AEnv} (h : env[i]? = some (some (.int (n : Int)))) (hn : n < 1000) : mRng1 (aCons (eVar i) aNil) env st = .ok ((rg n).map A.int, none) st := rng1 (by omega) (by simp only [sSeq_ap, sAsg_ap, sEx_ap, sRet_ap, sRetN_ap, sNil_ap, sIf_ap, sFor_ap, sSub_ap, sRaise_ap, mkWhat_ap, eVar_ap, eC_ap, eBin_ap, eUn_ap, eTup_ap, eLst_ap, eCB_ap, eCall_ap, eM_ap, eIf_ap, eAndV_ap, eOrV_ap, eNotV_ap, eChain_ap, eSl_ap, oNone_ap, oSome_ap, eXf_ap, aNil_ap, aCons_ap, tOf_ap, tTru_ap, tAndM_ap, tOrM_ap, tNotM_ap, tYesM_ap, asB_bl, truA_b, Res.bind_ok, Res.bind_exc, Res.toS_ok, Res.toS_exc, Res.of_some, SRes.bind_nx, SRes.bind_rt, SRes.bind_exc, SRes.bind_ct, SRes.bind_bk, gN_ap, List.getElem?_cons_zero, List.getElem?_cons_succ, List.set_cons_zero, List.set_cons_succ, one1_ap, two2_ap, newL_f, newL_t, addOp_ii, subOp_ii, negOp_i, ltOp_ii, leOp_ii, gtOp_ii, geOp_ii, eqOp_ii, neOp_ii, eqOp_ss, neOp_ss, intA_i, intA_b, maxA_ii, minA_ii, lenA_lst, lenA_tup, lenA_slst, listA_lst, listA_tup, listA_slst, tupleA_lst, tupleA_tup, List.length_map, List.length_cons, List.length_nil, Bool.not_true, Bool.not_false, Bool.false_eq_true, if_true, if_false, Nat.zero_add, Nat.reduceAdd, mSeq_ap, seqR_lst, seqR_tup, seqR_slst, srcOf_lst, srcOf_tup, srcOf_slst, decide_true, decide_false, Int.reduceEq, Int.reduceNeg, eMake_ap, eMeth_ap, insA_obj, sFldM_ap, rangeA_i, h])
theorem affineL_sp {n : Nat} {f : Int} (hn : n < 64) (h0 : 0 < n) (hf : f.natAbs < 1000) : M__law_affine [.int n, .int f] st = .ok (lL (affL n f)) st := by
  have hz := sz
  have lc := tabLc (st := st) (n := n) (i := 2) (own := [2]) (ma := e2__law_affine) (env := [some (.int n), some (.int f), none, none]) (fun x => (rg n).map fun y => (f * x + y - f * y).fmod n) (mr (i := 0) rfl (by omega)) (by omega) (fun x hx => by
    obtain ⟨x0, x1⟩ := rg_mem hx
    show e2__law_affine [some (.int n), some (.int f), some (.int x), none] st = _
    refine rowLc (st := st) (n := n) (i := 3) (own := [3]) (fun y => (f * x + y - f * y).fmod n) (mr (i := 0) rfl (by omega)) (by omega) (fun y hy => ?_)
    obtain ⟨y0, y1⟩ := rg_mem hy
    show e1__law_affine [some (.int n), some (.int f), some (.int x), some (.int y)] st = _
    simp only [e1__law_affine, sSeq_ap, sAsg_ap, sEx_ap, sRet_ap, sRetN_ap, sNil_ap, sIf_ap, sFor_ap, sSub_ap, sRaise_ap, mkWhat_ap, eVar_ap, eC_ap, eBin_ap, eUn_ap, eTup_ap, eLst_ap, eCB_ap, eCall_ap, eM_ap, eIf_ap, eAndV_ap, eOrV_ap, eNotV_ap, eChain_ap, eSl_ap, oNone_ap, oSome_ap, eXf_ap, aNil_ap, aCons_ap, tOf_ap, tTru_ap, tAndM_ap, tOrM_ap, tNotM_ap, tYesM_ap, asB_bl, truA_b, Res.bind_ok, Res.bind_exc, Res.toS_ok, Res.toS_exc, Res.of_some, SRes.bind_nx, SRes.bind_rt, SRes.bind_exc, SRes.bind_ct, SRes.bind_bk, gN_ap, List.getElem?_cons_zero, List.getElem?_cons_succ, List.set_cons_zero, List.set_cons_succ, one1_ap, two2_ap, newL_f, newL_t, addOp_ii, subOp_ii, negOp_i, ltOp_ii, leOp_ii, gtOp_ii, geOp_ii, eqOp_ii, neOp_ii, eqOp_ss, neOp_ss, intA_i, intA_b, maxA_ii, minA_ii, lenA_lst, lenA_tup, lenA_slst, listA_lst, listA_tup, listA_slst, tupleA_lst, tupleA_tup, List.length_map, List.length_cons, List.length_nil, Bool.not_true, Bool.not_false, Bool.false_eq_true, if_true, if_false, Nat.zero_add, Nat.reduceAdd, mSeq_ap, seqR_lst, seqR_tup, seqR_slst, srcOf_lst, srcOf_tup, srcOf_slst, decide_true, decide_false, Int.reduceEq, Int.reduceNeg, eMake_ap, eMeth_ap, insA_obj, sFldM_ap, rangeA_i, mulOp_ii (small_mulI (a := f) (b := x) (by omega) (by omega)), mulOp_ii (small_mulI (a := f) (b := y) (by omega) (by omega)), modOp_ii (show (n : Int) ≠ 0 by omega)])
  refine fnM_rt rfl (a := lL (affL n f)) (st' := st) ?_ (fin_pure0 bel_lL (by intro c h; cases h))
  show B__law_affine [some (.int n), some (.int f), none, none] st = _
  simp only [B__law_affine, sRet_ap, lc, Res.toS_ok]; rfl
theorem mk_of {T : List (List Int)} (hl64 : T.length < 64) (hrl : ∀ r ∈ T, r.length ≤ 100) : mkIns "Quandle" M_Quandle___init__ [lL T] st = outQ T st :=
  make_sp (R := T.map (Rw.of st)) rwL_lL rw_of_l hl64 hrl
theorem fn_outQ {np ns : Nat} {body : MS} {as : List A} (hl : as.length = np) (hb : body (as.map some ++ List.replicate (ns - np) none) st = (outQ T st).toS (as.map some ++ List.replicate (ns - np) none) fun a st1 => .rt a st1) : fnM false np ns body as st = outQ T st := by
  unfold outQ at hb ⊢
  cases he : errT T with
  | none => rw [he] at hb; exact fnM_rt hl hb (fin_pure0 bel_qA nc_qA)
  | some m => rw [he] at hb; exact fnM_exc0 hl hb bel_exW
theorem affine_sp {n : Nat} {f : Int} (hn : n < 64) (h0 : 0 < n) (hf : f.natAbs < 1000) : M_affine [.int n, .int f] st = outQ (affL n f) st := by
  have hz := sz
  have lc := tabLc (st := st) (n := n) (i := 2) (own := [2]) (ma := e2_affine) (env := [some (.int n), some (.int f), none, none]) (fun x => (rg n).map fun y => (f * x + y - f * y).fmod n) (mr (i := 0) rfl (by omega)) (by omega) (fun x hx => by
    obtain ⟨x0, x1⟩ := rg_mem hx
    show e2_affine [some (.int n), some (.int f), some (.int x), none] st = _
    refine rowLc (st := st) (n := n) (i := 3) (own := [3]) (fun y => (f * x + y - f * y).fmod n) (mr (i := 0) rfl (by omega)) (by omega) (fun y hy => ?_)
    obtain ⟨y0, y1⟩ := rg_mem hy
    show e1_affine [some (.int n), some (.int f), some (.int x), some (.int y)] st = _
    have e : f * x + (1 - f) * y = f * x + y - f * y := by rw [Int.sub_mul, Int.one_mul]; omega
    simp only [e1_affine, sSeq_ap, sAsg_ap, sEx_ap, sRet_ap, sRetN_ap, sNil_ap, sIf_ap, sFor_ap, sSub_ap, sRaise_ap, mkWhat_ap, eVar_ap, eC_ap, eBin_ap, eUn_ap, eTup_ap, eLst_ap, eCB_ap, eCall_ap, eM_ap, eIf_ap, eAndV_ap, eOrV_ap, eNotV_ap, eChain_ap, eSl_ap, oNone_ap, oSome_ap, eXf_ap, aNil_ap, aCons_ap, tOf_ap, tTru_ap, tAndM_ap, tOrM_ap, tNotM_ap, tYesM_ap, asB_bl, truA_b, Res.bind_ok, Res.bind_exc, Res.toS_ok, Res.toS_exc, Res.of_some, SRes.bind_nx, SRes.bind_rt, SRes.bind_exc, SRes.bind_ct, SRes.bind_bk, gN_ap, List.getElem?_cons_zero, List.getElem?_cons_succ, List.set_cons_zero, List.set_cons_succ, one1_ap, two2_ap, newL_f, newL_t, addOp_ii, subOp_ii, negOp_i, ltOp_ii, leOp_ii, gtOp_ii, geOp_ii, eqOp_ii, neOp_ii, eqOp_ss, neOp_ss, intA_i, intA_b, maxA_ii, minA_ii, lenA_lst, lenA_tup, lenA_slst, listA_lst, listA_tup, listA_slst, tupleA_lst, tupleA_tup, List.length_map, List.length_cons, List.length_nil, Bool.not_true, Bool.not_false, Bool.false_eq_true, if_true, if_false, Nat.zero_add, Nat.reduceAdd, mSeq_ap, seqR_lst, seqR_tup, seqR_slst, srcOf_lst, srcOf_tup, srcOf_slst, decide_true, decide_false, Int.reduceEq, Int.reduceNeg, eMake_ap, eMeth_ap, insA_obj, sFldM_ap, rangeA_i, mulOp_ii (small_mulI (a := f) (b := x) (by omega) (by omega)), mulOp_ii (small_mulI (a := 1 - f) (b := y) (by omega) (by omega)), modOp_ii (show (n : Int) ≠ 0 by omega), e])
  refine fn_outQ rfl ?_
  show B_affine [some (.int n), some (.int f), none, none] st = _
  simp only [B_affine, sRet_ap, eMake_ap, aCons_ap, lc, Res.bind_ok, aNil_ap]
  rw [show (lL (List.map (fun x => List.map (fun y => (f * x + y - f * y).fmod ↑n) (rg n)) (rg n))) = lL (affL n f) from rfl, mk_of (by rw [affL_len]; exact hn) fun r hr => by rw [affL_rows r hr]; omega]
  rfl
theorem dihedral_sp {n : Nat} (hn : n < 64) (h0 : 0 < n) : M_dihedral [.int n] st = outQ (affL n (-1)) st := by
  have hz := sz
  have lc := tabLc (st := st) (n := n) (i := 1) (own := [1]) (ma := e2_dihedral) (env := [some (.int n), none, none]) (fun x => (rg n).map fun y => (-1 * x + y - -1 * y).fmod n) (mr (i := 0) rfl (by omega)) (by omega) (fun x hx => by
    obtain ⟨x0, x1⟩ := rg_mem hx
    show e2_dihedral [some (.int n), some (.int x), none] st = _
    refine rowLc (st := st) (n := n) (i := 2) (own := [2]) (fun y => (-1 * x + y - -1 * y).fmod n) (mr (i := 0) rfl (by omega)) (by omega) (fun y hy => ?_)
    obtain ⟨y0, y1⟩ := rg_mem hy
    show e1_dihedral [some (.int n), some (.int x), some (.int y)] st = _
    have e : 2 * y - x = -1 * x + y - -1 * y := by omega
    simp only [e1_dihedral, sSeq_ap, sAsg_ap, sEx_ap, sRet_ap, sRetN_ap, sNil_ap, sIf_ap, sFor_ap, sSub_ap, sRaise_ap, mkWhat_ap, eVar_ap, eC_ap, eBin_ap, eUn_ap, eTup_ap, eLst_ap, eCB_ap, eCall_ap, eM_ap, eIf_ap, eAndV_ap, eOrV_ap, eNotV_ap, eChain_ap, eSl_ap, oNone_ap, oSome_ap, eXf_ap, aNil_ap, aCons_ap, tOf_ap, tTru_ap, tAndM_ap, tOrM_ap, tNotM_ap, tYesM_ap, asB_bl, truA_b, Res.bind_ok, Res.bind_exc, Res.toS_ok, Res.toS_exc, Res.of_some, SRes.bind_nx, SRes.bind_rt, SRes.bind_exc, SRes.bind_ct, SRes.bind_bk, gN_ap, List.getElem?_cons_zero, List.getElem?_cons_succ, List.set_cons_zero, List.set_cons_succ, one1_ap, two2_ap, newL_f, newL_t, addOp_ii, subOp_ii, negOp_i, ltOp_ii, leOp_ii, gtOp_ii, geOp_ii, eqOp_ii, neOp_ii, eqOp_ss, neOp_ss, intA_i, intA_b, maxA_ii, minA_ii, lenA_lst, lenA_tup, lenA_slst, listA_lst, listA_tup, listA_slst, tupleA_lst, tupleA_tup, List.length_map, List.length_cons, List.length_nil, Bool.not_true, Bool.not_false, Bool.false_eq_true, if_true, if_false, Nat.zero_add, Nat.reduceAdd, mSeq_ap, seqR_lst, seqR_tup, seqR_slst, srcOf_lst, srcOf_tup, srcOf_slst, decide_true, decide_false, Int.reduceEq, Int.reduceNeg, eMake_ap, eMeth_ap, insA_obj, sFldM_ap, rangeA_i, mulOp_ii (small_mulI (a := 2) (b := y) (by omega) (by omega)), modOp_ii (show (n : Int) ≠ 0 by omega), e])
  refine fn_outQ rfl ?_
  show B_dihedral [some (.int n), none, none] st = _
  simp only [B_dihedral, sRet_ap, eMake_ap, aCons_ap, lc, Res.bind_ok, aNil_ap]
  rw [show (lL (List.map (fun x => List.map (fun y => (-1 * x + y - -1 * y).fmod ↑n) (rg n)) (rg n))) = lL (affL n (-1)) from rfl, mk_of (by rw [affL_len]; exact hn) fun r hr => by rw [affL_rows r hr]; omega]
  rfl
end
end Gk53

set_option Elab.async false
set_option linter.all false
set_option maxRecDepth 100000
set_option maxHeartbeats 4000000
namespace Gk53
open PySem PySem.Spec L2 SL Q53
open PyProof.Rows hiding St
section
variable {st : Store}
theorem set_last {x y : C} : (st ++ [x]).set st.length y = st ++ [y] := by
  rw [List.set_append_right _ _ (Nat.le_refl _), Nat.sub_self]; rfl
theorem zerosL {m : Nat} (hn : m < 1000) : mulOp true (.lst [.int 0]) (.int m) st = some (.cell st.length, st ++ [li (List.replicate m (0 : Int))]) := by
  have hz := sz
  have e : mulL true (.lst [.int 0]) (.int m) st = some (.cell st.length, st ++ [li (List.replicate m (0 : Int))]) := by
    have : (List.replicate m [A.int 0]).flatten = (List.replicate m (0 : Int)).map A.int := by
      clear hn
      induction m with
      | zero => rfl
      | succ n ih => rw [List.replicate_succ, List.flatten_cons, ih, List.replicate_succ]; rfl
    simp only [mulL, lstH]
    rw [if_pos ⟨by omega, by omega, by simp; omega⟩]
    simp [this]
  simp [mulOp, e, mulI, iiOp]
theorem getD_mem {l : List Int} {k : Nat} (h : k < l.length) : l.getD k 0 ∈ l := by
  rw [List.getD_eq_getElem?_getD, List.getElem?_eq_getElem h]; exact List.getElem_mem _
/-- one item of the conjugate -/
theorem cj_body {p q s : List Int} {m k : Nat} (hp : perm m p) (hq : perm m q) (hs : s.length = m) (hk : k < m) (body : MS) (hb : body = (sSub setL (eBin ixOp (eVar 1) (eBin ixOp (eVar 0) (eVar 3))) (eVar 2) (eBin ixOp (eVar 1) (eVar 3)))) :
    body [some (ti p), some (ti q), some (.cell st.length), some (.int (k : Int))] (st ++ [li s]) = .nx [some (ti p), some (ti q), some (.cell st.length), some (.int (k : Int))] (st ++ [li (cjS p q s k)]) := by
  subst hb
  obtain ⟨hp1, hp2⟩ := hp
  obtain ⟨hq1, hq2⟩ := hq
  have b1 := hp2 _ (getD_mem (l := p) (k := k) (by omega))
  have b2 := hq2 _ (getD_mem (l := q) (k := k) (by omega))
  have i1 := @ix_ti (st ++ [li s]) p (k : Int) (by omega) (by omega)
  have i2 := @ix_ti (st ++ [li s]) q (k : Int) (by omega) (by omega)
  have i3 := @ix_ti (st ++ [li s]) q (p.getD k 0) b1.1 (by omega)
  rw [show ((k : Int)).toNat = k by omega] at i1 i2
  have hc : (st ++ [li s])[st.length]? = some (.lst (s.map A.int)) := by simp
  have se := @setL_li (st ++ [li s]) st.length s (q.getD k 0) (q.getD (p.getD k 0).toNat 0) hc b2.1 (by omega)
  have sl := @set_last st (li s) (.lst ((s.set (q.getD k 0).toNat (q.getD (p.getD k 0).toNat 0)).map A.int))
  rw [sl] at se
  simp only [sSeq_ap, sAsg_ap, sEx_ap, sRet_ap, sRetN_ap, sNil_ap, sIf_ap, sFor_ap, sSub_ap, sRaise_ap, mkWhat_ap, eVar_ap, eC_ap, eBin_ap, eUn_ap, eTup_ap, eLst_ap, eCB_ap, eCall_ap, eM_ap, eIf_ap, eAndV_ap, eOrV_ap, eNotV_ap, eChain_ap, eSl_ap, oNone_ap, oSome_ap, eXf_ap, aNil_ap, aCons_ap, tOf_ap, tTru_ap, tAndM_ap, tOrM_ap, tNotM_ap, tYesM_ap, asB_bl, truA_b, Res.bind_ok, Res.bind_exc, Res.toS_ok, Res.toS_exc, Res.of_some, SRes.bind_nx, SRes.bind_rt, SRes.bind_exc, SRes.bind_ct, SRes.bind_bk, gN_ap, List.getElem?_cons_zero, List.getElem?_cons_succ, List.set_cons_zero, List.set_cons_succ, one1_ap, two2_ap, newL_f, newL_t, addOp_ii, subOp_ii, negOp_i, ltOp_ii, leOp_ii, gtOp_ii, geOp_ii, eqOp_ii, neOp_ii, eqOp_ss, neOp_ss, intA_i, intA_b, maxA_ii, minA_ii, lenA_lst, lenA_tup, lenA_slst, listA_lst, listA_tup, listA_slst, tupleA_lst, tupleA_tup, List.length_map, List.length_cons, List.length_nil, Bool.not_true, Bool.not_false, Bool.false_eq_true, if_true, if_false, Nat.zero_add, Nat.reduceAdd, mSeq_ap, seqR_lst, seqR_tup, seqR_slst, srcOf_lst, srcOf_tup, srcOf_slst, decide_true, decide_false, Int.reduceEq, Int.reduceNeg, eMake_ap, eMeth_ap, insA_obj, sFldM_ap, rangeA_i, i1, i2, i3, se]; rfl
theorem cj_loop {p q s : List Int} {m : Nat} (hp : perm m p) (hq : perm m q) (hs : s.length = m) (hm : m < 1000) (body : MS) (hb : body = (sSub setL (eBin ixOp (eVar 1) (eBin ixOp (eVar 0) (eVar 3))) (eVar 2) (eBin ixOp (eVar 1) (eVar 3)))) :
    ∃ x3, forL none ((rg m).map A.int) (gN 3) body ((rg m).map A.int) [some (ti p), some (ti q), some (.cell st.length), none] (st ++ [li s]) = .nx [some (ti p), some (ti q), some (.cell st.length), x3] (st ++ [li (cjF p q s m)]) := by
  obtain ⟨e, s', h, x3, rfl, rfl⟩ := for_inv (all := (rg m).map A.int) (g := gN 3) (body := body) (xs := (rg m).map A.int) (fun i e s' => ∃ x3, e = [some (ti p), some (ti q), some (.cell st.length), x3] ∧ s' = st ++ [li (cjF p q s i)]) (env := [some (ti p), some (ti q), some (.cell st.length), none]) (st := st ++ [li s]) ⟨none, rfl, rfl⟩ (by
    rintro i x e s' hx ⟨x3, rfl, rfl⟩
    obtain ⟨hi, rfl⟩ := rng_get hx
    refine ⟨_, rfl, ?_⟩
    show NxP (body [some (ti p), some (ti q), some (.cell st.length), some (.int (i : Int))] _) _
    rw [cj_body hp hq (by rw [cjF_len, hs]) hi body hb]
    exact ⟨_, rfl, by rw [cjF_succ]⟩)
  rw [List.length_map, rg_len] at h
  exact ⟨x3, h⟩
theorem ti_fin {l : List C} {u : List Int} : finA false st.length st (ti u) (st ++ l) = .ok (ti u) st := fin_ti
theorem conj_sp {p q : List Int} {m : Nat} (hp : perm m p) (hq : perm m q) (hm : m < 1000) : M_conjugate [ti p, ti q] st = .ok (ti (cjF p q p m)) st := by
  have hz := sz
  obtain ⟨x3, h⟩ := @cj_loop st p q p m hp hq hp.1 hm L1_conjugate rfl
  have mi : mRng1 (aCons (eCB (one1 lenA) (aCons (eVar 0) aNil)) aNil) [some (ti p), some (ti q), some (.cell st.length), none] (st ++ [li p]) = .ok ((rg m).map A.int, none) (st ++ [li p]) := rng1 (by omega) (by simp only [sSeq_ap, sAsg_ap, sEx_ap, sRet_ap, sRetN_ap, sNil_ap, sIf_ap, sFor_ap, sSub_ap, sRaise_ap, mkWhat_ap, eVar_ap, eC_ap, eBin_ap, eUn_ap, eTup_ap, eLst_ap, eCB_ap, eCall_ap, eM_ap, eIf_ap, eAndV_ap, eOrV_ap, eNotV_ap, eChain_ap, eSl_ap, oNone_ap, oSome_ap, eXf_ap, aNil_ap, aCons_ap, tOf_ap, tTru_ap, tAndM_ap, tOrM_ap, tNotM_ap, tYesM_ap, asB_bl, truA_b, Res.bind_ok, Res.bind_exc, Res.toS_ok, Res.toS_exc, Res.of_some, SRes.bind_nx, SRes.bind_rt, SRes.bind_exc, SRes.bind_ct, SRes.bind_bk, gN_ap, List.getElem?_cons_zero, List.getElem?_cons_succ, List.set_cons_zero, List.set_cons_succ, one1_ap, two2_ap, newL_f, newL_t, addOp_ii, subOp_ii, negOp_i, ltOp_ii, leOp_ii, gtOp_ii, geOp_ii, eqOp_ii, neOp_ii, eqOp_ss, neOp_ss, intA_i, intA_b, maxA_ii, minA_ii, lenA_lst, lenA_tup, lenA_slst, listA_lst, listA_tup, listA_slst, tupleA_lst, tupleA_tup, List.length_map, List.length_cons, List.length_nil, Bool.not_true, Bool.not_false, Bool.false_eq_true, if_true, if_false, Nat.zero_add, Nat.reduceAdd, mSeq_ap, seqR_lst, seqR_tup, seqR_slst, srcOf_lst, srcOf_tup, srcOf_slst, decide_true, decide_false, Int.reduceEq, Int.reduceNeg, eMake_ap, eMeth_ap, insA_obj, sFldM_ap, rangeA_i, hp.1])
  have hc : (st ++ [li (cjF p q p m)])[st.length]? = some (.lst ((cjF p q p m).map A.int)) := by simp
  have tu := tupleA_cell hc
  refine fnM_rt rfl (a := ti (cjF p q p m)) (st' := st ++ [li (cjF p q p m)]) ?_ ti_fin
  show B_conjugate [some (ti p), some (ti q), none, none] st = _
  simp only [B_conjugate, sFor_ap, mi, h, tu, sSeq_ap, sAsg_ap, sEx_ap, sRet_ap, sRetN_ap, sNil_ap, sIf_ap, sFor_ap, sSub_ap, sRaise_ap, mkWhat_ap, eVar_ap, eC_ap, eBin_ap, eUn_ap, eTup_ap, eLst_ap, eCB_ap, eCall_ap, eM_ap, eIf_ap, eAndV_ap, eOrV_ap, eNotV_ap, eChain_ap, eSl_ap, oNone_ap, oSome_ap, eXf_ap, aNil_ap, aCons_ap, tOf_ap, tTru_ap, tAndM_ap, tOrM_ap, tNotM_ap, tYesM_ap, asB_bl, truA_b, Res.bind_ok, Res.bind_exc, Res.toS_ok, Res.toS_exc, Res.of_some, SRes.bind_nx, SRes.bind_rt, SRes.bind_exc, SRes.bind_ct, SRes.bind_bk, gN_ap, List.getElem?_cons_zero, List.getElem?_cons_succ, List.set_cons_zero, List.set_cons_succ, one1_ap, two2_ap, newL_f, newL_t, addOp_ii, subOp_ii, negOp_i, ltOp_ii, leOp_ii, gtOp_ii, geOp_ii, eqOp_ii, neOp_ii, eqOp_ss, neOp_ss, intA_i, intA_b, maxA_ii, minA_ii, lenA_lst, lenA_tup, lenA_slst, listA_lst, listA_tup, listA_slst, tupleA_lst, tupleA_tup, List.length_map, List.length_cons, List.length_nil, Bool.not_true, Bool.not_false, Bool.false_eq_true, if_true, if_false, Nat.zero_add, Nat.reduceAdd, mSeq_ap, seqR_lst, seqR_tup, seqR_slst, srcOf_lst, srcOf_tup, srcOf_slst, decide_true, decide_false, Int.reduceEq, Int.reduceNeg, eMake_ap, eMeth_ap, insA_obj, sFldM_ap, rangeA_i]
theorem lconj_sp {p q : List Int} {m : Nat} (hp : perm m p) (hq : perm m q) (hm : m < 1000) : M__law_conjugate [ti p, ti q] st = .ok (ti (cjF p q (List.replicate m 0) m)) st := by
  have hz := sz
  obtain ⟨x3, h⟩ := @cj_loop st p q (List.replicate m 0) m hp hq (by simp) hm L1__law_conjugate rfl
  have mi : mRng1 (aCons (eCB (one1 lenA) (aCons (eVar 0) aNil)) aNil) [some (ti p), some (ti q), some (.cell st.length), none] (st ++ [li (List.replicate m 0)]) = .ok ((rg m).map A.int, none) (st ++ [li (List.replicate m 0)]) := rng1 (by omega) (by simp only [sSeq_ap, sAsg_ap, sEx_ap, sRet_ap, sRetN_ap, sNil_ap, sIf_ap, sFor_ap, sSub_ap, sRaise_ap, mkWhat_ap, eVar_ap, eC_ap, eBin_ap, eUn_ap, eTup_ap, eLst_ap, eCB_ap, eCall_ap, eM_ap, eIf_ap, eAndV_ap, eOrV_ap, eNotV_ap, eChain_ap, eSl_ap, oNone_ap, oSome_ap, eXf_ap, aNil_ap, aCons_ap, tOf_ap, tTru_ap, tAndM_ap, tOrM_ap, tNotM_ap, tYesM_ap, asB_bl, truA_b, Res.bind_ok, Res.bind_exc, Res.toS_ok, Res.toS_exc, Res.of_some, SRes.bind_nx, SRes.bind_rt, SRes.bind_exc, SRes.bind_ct, SRes.bind_bk, gN_ap, List.getElem?_cons_zero, List.getElem?_cons_succ, List.set_cons_zero, List.set_cons_succ, one1_ap, two2_ap, newL_f, newL_t, addOp_ii, subOp_ii, negOp_i, ltOp_ii, leOp_ii, gtOp_ii, geOp_ii, eqOp_ii, neOp_ii, eqOp_ss, neOp_ss, intA_i, intA_b, maxA_ii, minA_ii, lenA_lst, lenA_tup, lenA_slst, listA_lst, listA_tup, listA_slst, tupleA_lst, tupleA_tup, List.length_map, List.length_cons, List.length_nil, Bool.not_true, Bool.not_false, Bool.false_eq_true, if_true, if_false, Nat.zero_add, Nat.reduceAdd, mSeq_ap, seqR_lst, seqR_tup, seqR_slst, srcOf_lst, srcOf_tup, srcOf_slst, decide_true, decide_false, Int.reduceEq, Int.reduceNeg, eMake_ap, eMeth_ap, insA_obj, sFldM_ap, rangeA_i, hp.1])
  have hc : (st ++ [li (cjF p q (List.replicate m 0) m)])[st.length]? = some (.lst ((cjF p q (List.replicate m 0) m).map A.int)) := by simp
  have tu := tupleA_cell hc
  have zl := @zerosL st m hm
  have l1 : (1 : Nat) ≤ sizeLine := by omega
  refine fnM_rt rfl (a := ti (cjF p q (List.replicate m 0) m)) (st' := st ++ [li (cjF p q (List.replicate m 0) m)]) ?_ ti_fin
  show B__law_conjugate [some (ti p), some (ti q), none, none] st = _
  simp only [B__law_conjugate, sFor_ap, mi, h, tu, sSeq_ap, sAsg_ap, sEx_ap, sRet_ap, sRetN_ap, sNil_ap, sIf_ap, sFor_ap, sSub_ap, sRaise_ap, mkWhat_ap, eVar_ap, eC_ap, eBin_ap, eUn_ap, eTup_ap, eLst_ap, eCB_ap, eCall_ap, eM_ap, eIf_ap, eAndV_ap, eOrV_ap, eNotV_ap, eChain_ap, eSl_ap, oNone_ap, oSome_ap, eXf_ap, aNil_ap, aCons_ap, tOf_ap, tTru_ap, tAndM_ap, tOrM_ap, tNotM_ap, tYesM_ap, asB_bl, truA_b, Res.bind_ok, Res.bind_exc, Res.toS_ok, Res.toS_exc, Res.of_some, SRes.bind_nx, SRes.bind_rt, SRes.bind_exc, SRes.bind_ct, SRes.bind_bk, gN_ap, List.getElem?_cons_zero, List.getElem?_cons_succ, List.set_cons_zero, List.set_cons_succ, one1_ap, two2_ap, newL_f, newL_t, addOp_ii, subOp_ii, negOp_i, ltOp_ii, leOp_ii, gtOp_ii, geOp_ii, eqOp_ii, neOp_ii, eqOp_ss, neOp_ss, intA_i, intA_b, maxA_ii, minA_ii, lenA_lst, lenA_tup, lenA_slst, listA_lst, listA_tup, listA_slst, tupleA_lst, tupleA_tup, List.length_map, List.length_cons, List.length_nil, Bool.not_true, Bool.not_false, Bool.false_eq_true, if_true, if_false, Nat.zero_add, Nat.reduceAdd, mSeq_ap, seqR_lst, seqR_tup, seqR_slst, srcOf_lst, srcOf_tup, srcOf_slst, decide_true, decide_false, Int.reduceEq, Int.reduceNeg, eMake_ap, eMeth_ap, insA_obj, sFldM_ap, rangeA_i, l1, hp.1, zl]
/-! places of tuples -/
theorem toD_ti {n : Nat} (l : List Int) : toD st (n + 1) (ti l) = some (.tuple (l.map PyData.int)) := by
  show (optAll (toD st n) (l.map A.int)).map PyData.tuple = _
  rw [toD_ints]; rfl
theorem toD_tis {n : Nat} : ∀ ms : List (List Int), optAll (toD st (n + 1)) (ms.map ti) = some (ms.map fun l => PyData.tuple (l.map PyData.int))
  | [] => rfl
  | l :: ms => by rw [List.map_cons, optAll, toD_ti, toD_tis ms]; rfl
theorem eqv_ti {a b : List Int} : PyData.eqv (.tuple (a.map PyData.int)) (.tuple (b.map PyData.int)) = decide (a = b) := by
  rw [PyData.eqv, eqv_ints]
theorem idxD_tis {q : List Int} : ∀ {ms : List (List Int)}, idxD (.tuple (q.map PyData.int)) (ms.map fun l => PyData.tuple (l.map PyData.int)) = idxL q ms
  | [] => rfl
  | z :: ms => by
    rw [List.map_cons]
    unfold idxD idxL
    rw [idxD_tis, eqv_ti]
    by_cases h : z = q <;> simp [h]
theorem shaped_of {a : A} (h : Dt st 50 a) : ∃ d, toD st 50 a = some d ∧ SeqAt.shaped d = true := by
  obtain ⟨d, h1, h2, h3⟩ := h
  refine ⟨d, h1, ?_⟩
  show (d.canLay0 && decide (d.depth ≤ 64)) = true
  rw [h2, decide_eq_true (by omega)]; rfl
theorem sh_tis {ms : List (List Int)} : SeqAt.shaped (.list (ms.map fun l => PyData.tuple (l.map PyData.int))) = true := by
  obtain ⟨d, h1, h2⟩ := @shaped_of [] (.lst (ms.map ti)) (dt_lst (n := 49) fun x hx => by
    obtain ⟨l, _, rfl⟩ := List.mem_map.mp hx
    exact dt_ti (n := 48))
  have : toD [] 50 (.lst (ms.map ti)) = some (.list (ms.map fun l => PyData.tuple (l.map PyData.int))) := by
    show (optAll (toD [] 49) (ms.map ti)).map PyData.list = _
    rw [toD_tis]; rfl
  rw [this] at h1; cases h1; exact h2
theorem sh_ti {q : List Int} : SeqAt.shaped (.tuple (q.map PyData.int)) = true := by
  obtain ⟨d, h1, h2⟩ := @shaped_of [] (ti q) (dt_ti (n := 49))
  rw [toD_ti] at h1; cases h1; exact h2
theorem in_tis {q : List Int} {ms : List (List Int)} : inOp false (ti q) (.lst (ms.map ti)) st = some (.bl (idxL q ms).isSome, st) := by
  have e1 : toD st 50 (.lst (ms.map ti)) = some (.list (ms.map fun l => PyData.tuple (l.map PyData.int))) := by
    show (optAll (toD st 49) (ms.map ti)).map PyData.list = _
    rw [toD_tis]; rfl
  have h : inDat false (ti q) (.lst (ms.map ti)) st = some (.bl (idxL q ms).isSome, st) := by
    unfold inDat
    rw [toD_ti, e1]
    dsimp only
    rw [if_pos ⟨@sh_ti q, @sh_tis ms⟩, idxL_some, List.any_map]
    simp [Function.comp_def, eqv_ti]
  unfold inOp
  rw [h]; rfl
theorem index_tis {q : List Int} {ms : List (List Int)} {k : Nat} (hk : idxL q ms = some k) : indexM (.lst (ms.map ti)) [ti q] st = some (.int (k : Nat), st) := by
  have e1 : toD st 50 (.lst (ms.map ti)) = some (.list (ms.map fun l => PyData.tuple (l.map PyData.int))) := by
    show (optAll (toD st 49) (ms.map ti)).map PyData.list = _
    rw [toD_tis]; rfl
  unfold indexM
  dsimp only
  rw [toD_ti, e1]
  dsimp only
  rw [if_pos ⟨@sh_tis ms, @sh_ti q⟩, idxD_tis, hk]; rfl
/-! the law's table -/
theorem lrow_loop {ms : List (List Int)} {m : Nat} {x : List Int} (hm : m < 1000) (hl : ms.length < 1000) (hp : ∀ p ∈ ms, perm m p) (hx : perm m x) : ∀ (ys : List (List Int)) (acc : List Int) (x4 x5 : Option A) (o : A) (b : Nat) (S : Store), (∀ y ∈ ys, y ∈ ms) → acc.length + ys.length < 1000 → S.length = b →
    ∃ y4 y5, forL none (ms.map ti) (gN 4) L1__law_conjugation (ys.map ti) [some (.lst (ms.map ti)), some o, some (ti x), some (.cell b), x4, x5] (S ++ [li acc]) =
      .nx [some (.lst (ms.map ti)), some o, some (ti x), some (.cell b), y4, y5] (S ++ [li (acc ++ ys.map fun y => plc (cjF x y (List.replicate m 0) m) ms)])
  | [], acc, x4, x5, o, b, S, _, _, hb => ⟨x4, x5, by rw [List.map_nil, forS_nil (src := none) trivial]; simp⟩
  | y :: ys, acc, x4, x5, o, b, S, hy, hl2, hb => by
    have hz := sz
    subst hb
    rw [List.length_cons] at hl2
    have lc := @lconj_sp (S ++ [li acc]) x y m hx (hp y (hy y (by simp))) hm
    have ii := @in_tis (S ++ [li acc]) (cjF x y (List.replicate m 0) m) ms
    have hc : (S ++ [li acc])[S.length]? = some (.lst (acc.map A.int)) := by simp
    have tv := tyVA_cell hc
    have tv2 : ∀ s, tyVA "list" (.lst (ms.map ti)) s = true := fun _ => rfl
    have ap := fun v => @appendM_li (S ++ [li acc]) S.length acc v hc (by omega)
    have sl := fun v => @set_last S (li acc) (.lst ((acc ++ [v]).map A.int))
    have hb : L1__law_conjugation [some (.lst (ms.map ti)), some o, some (ti x), some (.cell S.length), some (ti y), x5] (S ++ [li acc]) = .nx [some (.lst (ms.map ti)), some o, some (ti x), some (.cell S.length), some (ti y), some (ti (cjF x y (List.replicate m 0) m))] (S ++ [li (acc ++ [plc (cjF x y (List.replicate m 0) m) ms])]) := by
      unfold plc
      cases hk : idxL (cjF x y (List.replicate m 0) m) ms with
      | none =>
        rw [hk] at ii
        simp only [L1__law_conjugation, sSeq_ap, sAsg_ap, sEx_ap, sRet_ap, sRetN_ap, sNil_ap, sIf_ap, sFor_ap, sSub_ap, sRaise_ap, mkWhat_ap, eVar_ap, eC_ap, eBin_ap, eUn_ap, eTup_ap, eLst_ap, eCB_ap, eCall_ap, eM_ap, eIf_ap, eAndV_ap, eOrV_ap, eNotV_ap, eChain_ap, eSl_ap, oNone_ap, oSome_ap, eXf_ap, aNil_ap, aCons_ap, tOf_ap, tTru_ap, tAndM_ap, tOrM_ap, tNotM_ap, tYesM_ap, asB_bl, truA_b, Res.bind_ok, Res.bind_exc, Res.toS_ok, Res.toS_exc, Res.of_some, SRes.bind_nx, SRes.bind_rt, SRes.bind_exc, SRes.bind_ct, SRes.bind_bk, gN_ap, List.getElem?_cons_zero, List.getElem?_cons_succ, List.set_cons_zero, List.set_cons_succ, one1_ap, two2_ap, newL_f, newL_t, addOp_ii, subOp_ii, negOp_i, ltOp_ii, leOp_ii, gtOp_ii, geOp_ii, eqOp_ii, neOp_ii, eqOp_ss, neOp_ss, intA_i, intA_b, maxA_ii, minA_ii, lenA_lst, lenA_tup, lenA_slst, listA_lst, listA_tup, listA_slst, tupleA_lst, tupleA_tup, List.length_map, List.length_cons, List.length_nil, Bool.not_true, Bool.not_false, Bool.false_eq_true, if_true, if_false, Nat.zero_add, Nat.reduceAdd, mSeq_ap, seqR_lst, seqR_tup, seqR_slst, srcOf_lst, srcOf_tup, srcOf_slst, decide_true, decide_false, Int.reduceEq, Int.reduceNeg, eMake_ap, eMeth_ap, insA_obj, sFldM_ap, rangeA_i, lc, ii, tv, Option.isSome_none, ap, sl]
      | some k =>
        rw [hk] at ii
        have ix := @index_tis (S ++ [li acc]) _ _ _ hk
        simp only [L1__law_conjugation, sSeq_ap, sAsg_ap, sEx_ap, sRet_ap, sRetN_ap, sNil_ap, sIf_ap, sFor_ap, sSub_ap, sRaise_ap, mkWhat_ap, eVar_ap, eC_ap, eBin_ap, eUn_ap, eTup_ap, eLst_ap, eCB_ap, eCall_ap, eM_ap, eIf_ap, eAndV_ap, eOrV_ap, eNotV_ap, eChain_ap, eSl_ap, oNone_ap, oSome_ap, eXf_ap, aNil_ap, aCons_ap, tOf_ap, tTru_ap, tAndM_ap, tOrM_ap, tNotM_ap, tYesM_ap, asB_bl, truA_b, Res.bind_ok, Res.bind_exc, Res.toS_ok, Res.toS_exc, Res.of_some, SRes.bind_nx, SRes.bind_rt, SRes.bind_exc, SRes.bind_ct, SRes.bind_bk, gN_ap, List.getElem?_cons_zero, List.getElem?_cons_succ, List.set_cons_zero, List.set_cons_succ, one1_ap, two2_ap, newL_f, newL_t, addOp_ii, subOp_ii, negOp_i, ltOp_ii, leOp_ii, gtOp_ii, geOp_ii, eqOp_ii, neOp_ii, eqOp_ss, neOp_ss, intA_i, intA_b, maxA_ii, minA_ii, lenA_lst, lenA_tup, lenA_slst, listA_lst, listA_tup, listA_slst, tupleA_lst, tupleA_tup, List.length_map, List.length_cons, List.length_nil, Bool.not_true, Bool.not_false, Bool.false_eq_true, if_true, if_false, Nat.zero_add, Nat.reduceAdd, mSeq_ap, seqR_lst, seqR_tup, seqR_slst, srcOf_lst, srcOf_tup, srcOf_slst, decide_true, decide_false, Int.reduceEq, Int.reduceNeg, eMake_ap, eMeth_ap, insA_obj, sFldM_ap, rangeA_i, lc, ii, tv, tv2, Option.isSome_some, ix, ap, sl]
    obtain ⟨y4, y5, h⟩ := lrow_loop hm hl hp hx ys (acc ++ [plc (cjF x y (List.replicate m 0) m) ms]) (some (ti y)) (some (ti (cjF x y (List.replicate m 0) m))) o S.length S (fun z hz => hy z (by simp [hz])) (by simp; omega) rfl
    refine ⟨y4, y5, ?_⟩
    rw [List.map_cons, forS_nx (src := none) (g := gN 4) (x := ti y) trivial (by rfl) hb, h]
    simp
theorem ltab_loop {ms : List (List Int)} {m : Nat} (hm : m < 1000) (hl : ms.length < 500) (hp : ∀ p ∈ ms, perm m p) : ∀ (xs B : List (List Int)) (x2 x3 x4 x5 : Option A), (∀ x ∈ xs, x ∈ ms) → B.length + xs.length < 500 →
    ∃ y2 y3 y4 y5, forL none (ms.map ti) (gN 2) L2__law_conjugation (xs.map ti) [some (.lst (ms.map ti)), some (.cell st.length), x2, x3, x4, x5] (st ++ .lst (cls (st.length + 1) B.length) :: B.map li) =
      .nx [some (.lst (ms.map ti)), some (.cell st.length), y2, y3, y4, y5] (st ++ .lst (cls (st.length + 1) (B ++ xs.map fun x => ms.map fun y => plc (cjF x y (List.replicate m 0) m) ms).length) :: (B ++ xs.map fun x => ms.map fun y => plc (cjF x y (List.replicate m 0) m) ms).map li)
  | [], B, x2, x3, x4, x5, _, _ => ⟨x2, x3, x4, x5, by rw [List.map_nil, forS_nil (src := none) trivial]; simp⟩
  | x :: xs, B, x2, x3, x4, x5, hx, hl2 => by
    have hz := sz
    rw [List.length_cons] at hl2
    have l0 : (0 : Nat) ≤ sizeLine := by omega
    let S : Store := st ++ .lst (cls (st.length + 1) B.length) :: B.map li
    have hS : S.length = st.length + 1 + B.length := by simp [S]; omega
    obtain ⟨y4, y5, h⟩ := lrow_loop hm (by omega) hp (hp x (hx x (by simp))) ms [] x4 x5 (.cell st.length) S.length S (fun y hy => hy) (by simp; omega) rfl
    have mi : mSeq (eVar 0) [some (.lst (ms.map ti)), some (.cell st.length), some (ti x), some (.cell S.length), x4, x5] (S ++ [li []]) = .ok (ms.map ti, none) (S ++ [li []]) := by simp only [sSeq_ap, sAsg_ap, sEx_ap, sRet_ap, sRetN_ap, sNil_ap, sIf_ap, sFor_ap, sSub_ap, sRaise_ap, mkWhat_ap, eVar_ap, eC_ap, eBin_ap, eUn_ap, eTup_ap, eLst_ap, eCB_ap, eCall_ap, eM_ap, eIf_ap, eAndV_ap, eOrV_ap, eNotV_ap, eChain_ap, eSl_ap, oNone_ap, oSome_ap, eXf_ap, aNil_ap, aCons_ap, tOf_ap, tTru_ap, tAndM_ap, tOrM_ap, tNotM_ap, tYesM_ap, asB_bl, truA_b, Res.bind_ok, Res.bind_exc, Res.toS_ok, Res.toS_exc, Res.of_some, SRes.bind_nx, SRes.bind_rt, SRes.bind_exc, SRes.bind_ct, SRes.bind_bk, gN_ap, List.getElem?_cons_zero, List.getElem?_cons_succ, List.set_cons_zero, List.set_cons_succ, one1_ap, two2_ap, newL_f, newL_t, addOp_ii, subOp_ii, negOp_i, ltOp_ii, leOp_ii, gtOp_ii, geOp_ii, eqOp_ii, neOp_ii, eqOp_ss, neOp_ss, intA_i, intA_b, maxA_ii, minA_ii, lenA_lst, lenA_tup, lenA_slst, listA_lst, listA_tup, listA_slst, tupleA_lst, tupleA_tup, List.length_map, List.length_cons, List.length_nil, Bool.not_true, Bool.not_false, Bool.false_eq_true, if_true, if_false, Nat.zero_add, Nat.reduceAdd, mSeq_ap, seqR_lst, seqR_tup, seqR_slst, srcOf_lst, srcOf_tup, srcOf_slst, decide_true, decide_false, Int.reduceEq, Int.reduceNeg, eMake_ap, eMeth_ap, insA_obj, sFldM_ap, rangeA_i]
    have hc : (S ++ [li ([] ++ ms.map fun y => plc (cjF x y (List.replicate m 0) m) ms)])[st.length]? = some (.lst (cls (st.length + 1) B.length)) := by simp [S]
    have tv := tyVA_cell hc
    have ap := appendM_c (v := .cell S.length) hc (by rw [cls_len]; omega)
    have ec : cls (st.length + 1) B.length ++ [.cell S.length] = cls (st.length + 1) (B.length + 1) := by
      unfold cls; rw [List.range_succ, List.map_append, hS]; rfl
    have es : (S ++ [li ([] ++ ms.map fun y => plc (cjF x y (List.replicate m 0) m) ms)]).set st.length (.lst (cls (st.length + 1) (B.length + 1))) = st ++ .lst (cls (st.length + 1) (B ++ [ms.map fun y => plc (cjF x y (List.replicate m 0) m) ms]).length) :: (B ++ [ms.map fun y => plc (cjF x y (List.replicate m 0) m) ms]).map li := by
      simp [S]
    rw [ec, es] at ap
    have hb : L2__law_conjugation [some (.lst (ms.map ti)), some (.cell st.length), some (ti x), x3, x4, x5] S = .nx [some (.lst (ms.map ti)), some (.cell st.length), some (ti x), some (.cell S.length), y4, y5] (st ++ .lst (cls (st.length + 1) (B ++ [ms.map fun y => plc (cjF x y (List.replicate m 0) m) ms]).length) :: (B ++ [ms.map fun y => plc (cjF x y (List.replicate m 0) m) ms]).map li) := by
      simp only [L2__law_conjugation, sSeq_ap, sAsg_ap, eLst_ap, aNil_ap, Res.bind_ok, List.length_nil, l0, if_true, newL_t, Res.toS_ok, gN_ap, List.set_cons_zero, List.set_cons_succ, SRes.bind_nx, sFor_ap]
      rw [show ([] : List A) = ([] : List Int).map A.int from rfl, mi]
      simp only [Res.toS_ok, h, sSeq_ap, sAsg_ap, sEx_ap, sRet_ap, sRetN_ap, sNil_ap, sIf_ap, sFor_ap, sSub_ap, sRaise_ap, mkWhat_ap, eVar_ap, eC_ap, eBin_ap, eUn_ap, eTup_ap, eLst_ap, eCB_ap, eCall_ap, eM_ap, eIf_ap, eAndV_ap, eOrV_ap, eNotV_ap, eChain_ap, eSl_ap, oNone_ap, oSome_ap, eXf_ap, aNil_ap, aCons_ap, tOf_ap, tTru_ap, tAndM_ap, tOrM_ap, tNotM_ap, tYesM_ap, asB_bl, truA_b, Res.bind_ok, Res.bind_exc, Res.toS_ok, Res.toS_exc, Res.of_some, SRes.bind_nx, SRes.bind_rt, SRes.bind_exc, SRes.bind_ct, SRes.bind_bk, gN_ap, List.getElem?_cons_zero, List.getElem?_cons_succ, List.set_cons_zero, List.set_cons_succ, one1_ap, two2_ap, newL_f, newL_t, addOp_ii, subOp_ii, negOp_i, ltOp_ii, leOp_ii, gtOp_ii, geOp_ii, eqOp_ii, neOp_ii, eqOp_ss, neOp_ss, intA_i, intA_b, maxA_ii, minA_ii, lenA_lst, lenA_tup, lenA_slst, listA_lst, listA_tup, listA_slst, tupleA_lst, tupleA_tup, List.length_map, List.length_cons, List.length_nil, Bool.not_true, Bool.not_false, Bool.false_eq_true, if_true, if_false, Nat.zero_add, Nat.reduceAdd, mSeq_ap, seqR_lst, seqR_tup, seqR_slst, srcOf_lst, srcOf_tup, srcOf_slst, decide_true, decide_false, Int.reduceEq, Int.reduceNeg, eMake_ap, eMeth_ap, insA_obj, sFldM_ap, rangeA_i, tv, ap]
    obtain ⟨z2, z3, z4, z5, h2⟩ := ltab_loop hm hl hp xs (B ++ [ms.map fun y => plc (cjF x y (List.replicate m 0) m) ms]) (some (ti x)) (some (.cell S.length)) y4 y5 (fun y hy => hx y (by simp [hy])) (by simp; omega)
    refine ⟨z2, z3, z4, z5, ?_⟩
    rw [List.map_cons, forS_nx (src := none) (g := gN 2) (x := ti x) trivial (by rfl) hb, h2]
    simp
def tabM (ms : List (List Int)) (m : Nat) : List (List Int) := tabC ms fun x y => cjF x y (List.replicate m 0) m
theorem lconjT_sp {ms : List (List Int)} {m : Nat} (hm : m < 1000) (hl : ms.length < 500) (hp : ∀ p ∈ ms, perm m p) : M__law_conjugation [.lst (ms.map ti)] st = .ok (lL (tabM ms m)) st := by
  have hz := sz
  have l0 : (0 : Nat) ≤ sizeLine := by omega
  obtain ⟨y2, y3, y4, y5, h⟩ := @ltab_loop st ms m hm hl hp ms [] none none none none (fun x hx => hx) (by simp; omega)
  rw [List.nil_append] at h
  refine fnM_rt rfl (a := .cell st.length) (st' := st ++ .lst (cls (st.length + 1) (tabM ms m).length) :: (tabM ms m).map li) ?_ ?_
  · show B__law_conjugation [some (.lst (ms.map ti)), none, none, none, none, none] st = _
    have h0 : (.lst (cls (st.length + 1) ([] : List (List Int)).length) :: ([] : List (List Int)).map li : List C) = [.lst []] := rfl
    rw [h0] at h
    simp only [B__law_conjugation, sFor_ap, sSeq_ap, sAsg_ap, sEx_ap, sRet_ap, sRetN_ap, sNil_ap, sIf_ap, sFor_ap, sSub_ap, sRaise_ap, mkWhat_ap, eVar_ap, eC_ap, eBin_ap, eUn_ap, eTup_ap, eLst_ap, eCB_ap, eCall_ap, eM_ap, eIf_ap, eAndV_ap, eOrV_ap, eNotV_ap, eChain_ap, eSl_ap, oNone_ap, oSome_ap, eXf_ap, aNil_ap, aCons_ap, tOf_ap, tTru_ap, tAndM_ap, tOrM_ap, tNotM_ap, tYesM_ap, asB_bl, truA_b, Res.bind_ok, Res.bind_exc, Res.toS_ok, Res.toS_exc, Res.of_some, SRes.bind_nx, SRes.bind_rt, SRes.bind_exc, SRes.bind_ct, SRes.bind_bk, gN_ap, List.getElem?_cons_zero, List.getElem?_cons_succ, List.set_cons_zero, List.set_cons_succ, one1_ap, two2_ap, newL_f, newL_t, addOp_ii, subOp_ii, negOp_i, ltOp_ii, leOp_ii, gtOp_ii, geOp_ii, eqOp_ii, neOp_ii, eqOp_ss, neOp_ss, intA_i, intA_b, maxA_ii, minA_ii, lenA_lst, lenA_tup, lenA_slst, listA_lst, listA_tup, listA_slst, tupleA_lst, tupleA_tup, List.length_map, List.length_cons, List.length_nil, Bool.not_true, Bool.not_false, Bool.false_eq_true, if_true, if_false, Nat.zero_add, Nat.reduceAdd, mSeq_ap, seqR_lst, seqR_tup, seqR_slst, srcOf_lst, srcOf_tup, srcOf_slst, decide_true, decide_false, Int.reduceEq, Int.reduceNeg, eMake_ap, eMeth_ap, insA_obj, sFldM_ap, rangeA_i, l0, h]
    have e : (tabM ms m).length = ms.length := by simp [tabM, tabC]
    rw [e]; rfl
  · rw [fin_tab (b := st.length + 1) (T := tabM ms m) (Nat.le_refl _) (by omega) (.inl (by omega)) (by simp) (fun k r hk => by
      rw [List.getElem?_append_right (by omega), show st.length + 1 + k - st.length = k + 1 by omega, List.getElem?_cons_succ, List.getElem?_map, hk]; rfl) okS_app, List.take_left]
end
end Gk53

set_option Elab.async false
set_option linter.all false
set_option maxRecDepth 100000
set_option maxHeartbeats 4000000
namespace Gk53
open PySem PySem.Spec L2 SL Q53
open PyProof.Rows hiding St
def kt (l : List Int) : List Key := l.map Sum.inl
theorem kt_inj {a b : List Int} (h : kt a = kt b) : a = b := by
  unfold kt at h
  induction a generalizing b with
  | nil => cases b with
    | nil => rfl
    | cons y b => simp at h
  | cons x a ih => cases b with
    | nil => simp at h
    | cons y b =>
      rw [List.map_cons, List.map_cons] at h
      injection h with h1 h2
      injection h1 with h1
      rw [h1, ih h2]
theorem keysT_ti : ∀ l : List Int, keysT (l.map A.int) = some (kt l)
  | [] => rfl
  | x :: l => by
    have h := keysT_ti l
    unfold keysT at h ⊢
    rw [List.map_cons, optAll, h]; rfl
theorem lkG_plc {q : List Int} : ∀ (ms : List (List Int)) (b : Nat), lkG (ms.map kt) ((List.range ms.length).map fun i => A.int ((b + i : Nat) : Int)) (kt q) = (idxL q ms).map fun k => A.int ((b + k : Nat) : Int)
  | [], b => rfl
  | z :: ms, b => by
    rw [List.map_cons, List.length_cons, List.range_succ_eq_map, List.map_cons, List.map_map]
    unfold lkG idxL
    by_cases h : z = q
    · subst h; simp
    · rw [if_neg (fun e => h (kt_inj e)), if_neg h]
      have := lkG_plc (q := q) ms (b + 1)
      rw [show ((fun i => A.int ((b + i : Nat) : Int)) ∘ Nat.succ) = fun i => A.int ((b + 1 + i : Nat) : Int) by funext i; simp only [Function.comp]; congr 2; omega]
      rw [this, Option.map_map]
      congr 1
      funext k; simp only [Function.comp]; congr 2; omega
section
variable {st : Store}
theorem fn_outQl {T : List (List Int)} {np ns : Nat} {body : MS} {as : List A} {e : AEnv} {l : List C} (hl : as.length = np) (hb : body (as.map some ++ List.replicate (ns - np) none) st = (outQ T (st ++ l)).toS e fun a st1 => .rt a st1) : fnM false np ns body as st = outQ T st := by
  unfold outQ at hb ⊢
  cases he : errT T with
  | none => rw [he] at hb; exact fnM_rt hl hb (finA_pure bel_qA nc_qA)
  | some m => rw [he] at hb; exact fnM_exc hl hb bel_exW
def plS (st : Store) (ms : List (List Int)) (i : Nat) : Store := st ++ [.dcT ((ms.take i).map kt) ((List.range i).map fun j => A.int ((0 + j : Nat) : Int))]
theorem plc_loop {ms : List (List Int)} (hl : ms.length < 500) (hn : ms.Nodup) : ∃ x2 x3, forL none (enA 0 (ms.map ti)) (gT 2 (gsCons (gN 2) (gsCons (gN 3) gsNil))) L1_conjugation (enA 0 (ms.map ti)) [some (.lst (ms.map ti)), some (.cell st.length), none, none, none, none] (plS st ms 0) =
    .nx [some (.lst (ms.map ti)), some (.cell st.length), x2, x3, none, none] (plS st ms ms.length) := by
  have hz := sz
  obtain ⟨e, s', h, x2, x3, rfl, rfl⟩ := for_inv (all := enA 0 (ms.map ti)) (g := gT 2 (gsCons (gN 2) (gsCons (gN 3) gsNil))) (body := L1_conjugation) (xs := enA 0 (ms.map ti)) (fun i e s' => ∃ x2 x3, e = [some (.lst (ms.map ti)), some (.cell st.length), x2, x3, none, none] ∧ s' = plS st ms i) (env := [some (.lst (ms.map ti)), some (.cell st.length), none, none, none, none]) (st := plS st ms 0) ⟨none, none, rfl, rfl⟩ (by
    rintro i x e s' hx ⟨x2, x3, rfl, rfl⟩
    have hi : i < ms.length := by
      have := (List.getElem?_eq_some_iff.mp hx).1
      rwa [enA_length, List.length_map] at this
    rw [enA_get, List.getElem?_map, List.getElem?_eq_getElem hi] at hx
    simp only [Option.map_some, Option.some.injEq] at hx
    subst hx
    refine ⟨[some (.lst (ms.map ti)), some (.cell st.length), some (.int ((0 + i : Nat) : Int)), some (ti ms[i]), none, none], by rfl, ?_⟩
    have hc : (plS st ms i)[st.length]? = some (.dcT ((ms.take i).map kt) ((List.range i).map fun j => A.int ((0 + j : Nat) : Int))) := by simp [plS]
    have hlen : ((ms.take i).map kt).length < sizeLine := by rw [List.length_map, List.length_take]; omega
    have hany : ((ms.take i).map kt).any (fun k' => decide (k' = kt ms[i])) = false := by
      rw [List.any_eq_false]
      intro k hk
      obtain ⟨z, hz, rfl⟩ := List.mem_map.mp hk
      have hne : z ≠ ms[i] := fun e => by
        subst e
        obtain ⟨j, hj, hj2⟩ := List.mem_iff_getElem.mp hz
        rw [List.length_take] at hj
        rw [List.getElem_take] at hj2
        have := (List.getElem_inj hn).mp hj2
        omega
      simpa using fun e => hne (kt_inj e)
    have sd : setDict (.cell st.length) (ti ms[i]) (.int ((0 + i : Nat) : Int)) (plS st ms i) = some (plS st ms (i + 1)) := by
      unfold setDict
      dsimp only
      rw [hc]
      dsimp only
      rw [keysT_ti]
      dsimp only
      rw [if_pos hlen]
      unfold putG
      rw [hany, if_neg Bool.false_ne_true]
      congr 1
      unfold plS
      rw [set_last]
      congr 3
      · rw [List.take_succ_eq_append_getElem hi, List.map_append]; rfl
      · rw [List.range_succ, List.map_append]; rfl
    simp only [Nat.zero_add] at sd
    simp only [L1_conjugation, sSeq_ap, sAsg_ap, sEx_ap, sRet_ap, sRetN_ap, sNil_ap, sIf_ap, sFor_ap, sSub_ap, sRaise_ap, mkWhat_ap, eVar_ap, eC_ap, eBin_ap, eUn_ap, eTup_ap, eLst_ap, eCB_ap, eCall_ap, eM_ap, eIf_ap, eAndV_ap, eOrV_ap, eNotV_ap, eChain_ap, eSl_ap, oNone_ap, oSome_ap, eXf_ap, aNil_ap, aCons_ap, tOf_ap, tTru_ap, tAndM_ap, tOrM_ap, tNotM_ap, tYesM_ap, asB_bl, truA_b, Res.bind_ok, Res.bind_exc, Res.toS_ok, Res.toS_exc, Res.of_some, SRes.bind_nx, SRes.bind_rt, SRes.bind_exc, SRes.bind_ct, SRes.bind_bk, gN_ap, List.getElem?_cons_zero, List.getElem?_cons_succ, List.set_cons_zero, List.set_cons_succ, one1_ap, two2_ap, newL_f, newL_t, addOp_ii, subOp_ii, negOp_i, ltOp_ii, leOp_ii, gtOp_ii, geOp_ii, eqOp_ii, neOp_ii, eqOp_ss, neOp_ss, intA_i, intA_b, maxA_ii, minA_ii, lenA_lst, lenA_tup, lenA_slst, listA_lst, listA_tup, listA_slst, tupleA_lst, tupleA_tup, List.length_map, List.length_cons, List.length_nil, Bool.not_true, Bool.not_false, Bool.false_eq_true, if_true, if_false, Nat.zero_add, Nat.reduceAdd, mSeq_ap, seqR_lst, seqR_tup, seqR_slst, srcOf_lst, srcOf_tup, srcOf_slst, eMake_ap, eMeth_ap, insA_obj, sFldM_ap, rangeA_i, sSub_ap, sd]
    exact ⟨_, _, rfl, rfl⟩)
  rw [enA_length, List.length_map] at h
  exact ⟨x2, x3, h⟩
theorem lkT {ms : List (List Int)} {q : List Int} : dGetA (.cell st.length) (ti q) (plS st ms ms.length) = some ((idxL q ms).map fun k => A.int ((0 + k : Nat) : Int)) := by
  have hc : (plS st ms ms.length)[st.length]? = some (.dcT (ms.map kt) ((List.range ms.length).map fun j => A.int ((0 + j : Nat) : Int))) := by simp [plS]
  unfold dGetA
  dsimp only
  rw [hc]
  dsimp only
  rw [keysT_ti, Option.map_some, lkG_plc]
theorem isD_pl {ms : List (List Int)} : isDA (.cell st.length) (plS st ms ms.length) = true := by
  have hc : (plS st ms ms.length)[st.length]? = some (.dcT (ms.map kt) ((List.range ms.length).map fun j => A.int ((0 + j : Nat) : Int))) := by simp [plS]
  unfold isDA
  dsimp only
  rw [hc]
def tabQ (ms : List (List Int)) (m : Nat) : List (List Int) := tabC ms fun x y => cjF x y x m
theorem conjT_sp {ms : List (List Int)} {m : Nat} (hm : m < 1000) (hl : ms.length < 64) (hn : ms.Nodup) (hp : ∀ p ∈ ms, perm m p) : M_conjugation [.lst (ms.map ti)] st = outQ (tabQ ms m) st := by
  have hz := sz
  obtain ⟨x2, x3, h⟩ := @plc_loop st ms (by omega) hn
  have m0 : ∀ x1 x2 x3 x4 x5 s, mSeq (eVar 0) [some (.lst (ms.map ti)), x1, x2, x3, x4, x5] s = .ok (ms.map ti, none) s := fun x1 x2 x3 x4 x5 s => by simp only [sSeq_ap, sAsg_ap, sEx_ap, sRet_ap, sRetN_ap, sNil_ap, sIf_ap, sFor_ap, sSub_ap, sRaise_ap, mkWhat_ap, eVar_ap, eC_ap, eBin_ap, eUn_ap, eTup_ap, eLst_ap, eCB_ap, eCall_ap, eM_ap, eIf_ap, eAndV_ap, eOrV_ap, eNotV_ap, eChain_ap, eSl_ap, oNone_ap, oSome_ap, eXf_ap, aNil_ap, aCons_ap, tOf_ap, tTru_ap, tAndM_ap, tOrM_ap, tNotM_ap, tYesM_ap, asB_bl, truA_b, Res.bind_ok, Res.bind_exc, Res.toS_ok, Res.toS_exc, Res.of_some, SRes.bind_nx, SRes.bind_rt, SRes.bind_exc, SRes.bind_ct, SRes.bind_bk, gN_ap, List.getElem?_cons_zero, List.getElem?_cons_succ, List.set_cons_zero, List.set_cons_succ, one1_ap, two2_ap, newL_f, newL_t, addOp_ii, subOp_ii, negOp_i, ltOp_ii, leOp_ii, gtOp_ii, geOp_ii, eqOp_ii, neOp_ii, eqOp_ss, neOp_ss, intA_i, intA_b, maxA_ii, minA_ii, lenA_lst, lenA_tup, lenA_slst, listA_lst, listA_tup, listA_slst, tupleA_lst, tupleA_tup, List.length_map, List.length_cons, List.length_nil, Bool.not_true, Bool.not_false, Bool.false_eq_true, if_true, if_false, Nat.zero_add, Nat.reduceAdd, mSeq_ap, seqR_lst, seqR_tup, seqR_slst, srcOf_lst, srcOf_tup, srcOf_slst, eMake_ap, eMeth_ap, insA_obj, sFldM_ap, rangeA_i]
  have lc := lcG (st := plS st ms ms.length) (f := fun x => lI (ms.map fun y => plc (cjF x y x m) ms)) (emb := ti) (i := 4) (own := [4]) (ma := e3_conjugation) (m0 (some (.cell st.length)) x2 x3 none none _) trivial (by omega) (fun x hx => by
    show e3_conjugation [some (.lst (ms.map ti)), some (.cell st.length), x2, x3, some (ti x), none] _ = _
    unfold e3_conjugation
    rw [lcG (f := fun y => .int (plc (cjF x y x m) ms)) (emb := ti) (i := 5) (own := [5]) (ma := e2_conjugation) (m0 _ _ _ _ _ _) trivial (by omega) (fun y hy => ?_)]
    · show Res.ok (A.lst (ms.map fun y => .int (plc (cjF x y x m) ms))) _ = Res.ok (A.lst ((ms.map fun y => plc (cjF x y x m) ms).map A.int)) _
      rw [List.map_map]; rfl
    · show e2_conjugation [some (.lst (ms.map ti)), some (.cell st.length), x2, x3, some (ti x), some (ti y)] _ = _
      have cj := @conj_sp (plS st ms ms.length) x y m (hp x hx) (hp y hy) hm
      have dg := @lkT st ms (cjF x y x m)
      have id := @isD_pl st ms
      simp only [e2_conjugation, eGetD_ap, sSeq_ap, sAsg_ap, sEx_ap, sRet_ap, sRetN_ap, sNil_ap, sIf_ap, sFor_ap, sSub_ap, sRaise_ap, mkWhat_ap, eVar_ap, eC_ap, eBin_ap, eUn_ap, eTup_ap, eLst_ap, eCB_ap, eCall_ap, eM_ap, eIf_ap, eAndV_ap, eOrV_ap, eNotV_ap, eChain_ap, eSl_ap, oNone_ap, oSome_ap, eXf_ap, aNil_ap, aCons_ap, tOf_ap, tTru_ap, tAndM_ap, tOrM_ap, tNotM_ap, tYesM_ap, asB_bl, truA_b, Res.bind_ok, Res.bind_exc, Res.toS_ok, Res.toS_exc, Res.of_some, SRes.bind_nx, SRes.bind_rt, SRes.bind_exc, SRes.bind_ct, SRes.bind_bk, gN_ap, List.getElem?_cons_zero, List.getElem?_cons_succ, List.set_cons_zero, List.set_cons_succ, one1_ap, two2_ap, newL_f, newL_t, addOp_ii, subOp_ii, negOp_i, ltOp_ii, leOp_ii, gtOp_ii, geOp_ii, eqOp_ii, neOp_ii, eqOp_ss, neOp_ss, intA_i, intA_b, maxA_ii, minA_ii, lenA_lst, lenA_tup, lenA_slst, listA_lst, listA_tup, listA_slst, tupleA_lst, tupleA_tup, List.length_map, List.length_cons, List.length_nil, Bool.not_true, Bool.not_false, Bool.false_eq_true, if_true, if_false, Nat.zero_add, Nat.reduceAdd, mSeq_ap, seqR_lst, seqR_tup, seqR_slst, srcOf_lst, srcOf_tup, srcOf_slst, eMake_ap, eMeth_ap, insA_obj, sFldM_ap, rangeA_i, id, cj, dg, Option.map_some]
      unfold plc
      cases idxL (cjF x y x m) ms with
      | none => rfl
      | some k => simp)
  have e : (ms.map fun x => lI (ms.map fun y => plc (cjF x y x m) ms)) = (tabQ ms m).map lI := by
    unfold tabQ tabC; rw [List.map_map]; rfl
  rw [e] at lc
  have mk := @mk_of (plS st ms ms.length) (tabQ ms m) (by simp [tabQ, tabC]; omega) (fun r hr => by
    obtain ⟨x, _, rfl⟩ := List.mem_map.mp hr
    rw [List.length_map]; omega)
  have me : mEnum (aCons (eVar 0) aNil) [some (.lst (ms.map ti)), some (.cell st.length), none, none, none, none] (plS st ms 0) = .ok (enA 0 (ms.map ti), none) (plS st ms 0) := by
    simp only [mEnum, sSeq_ap, sAsg_ap, sEx_ap, sRet_ap, sRetN_ap, sNil_ap, sIf_ap, sFor_ap, sSub_ap, sRaise_ap, mkWhat_ap, eVar_ap, eC_ap, eBin_ap, eUn_ap, eTup_ap, eLst_ap, eCB_ap, eCall_ap, eM_ap, eIf_ap, eAndV_ap, eOrV_ap, eNotV_ap, eChain_ap, eSl_ap, oNone_ap, oSome_ap, eXf_ap, aNil_ap, aCons_ap, tOf_ap, tTru_ap, tAndM_ap, tOrM_ap, tNotM_ap, tYesM_ap, asB_bl, truA_b, Res.bind_ok, Res.bind_exc, Res.toS_ok, Res.toS_exc, Res.of_some, SRes.bind_nx, SRes.bind_rt, SRes.bind_exc, SRes.bind_ct, SRes.bind_bk, gN_ap, List.getElem?_cons_zero, List.getElem?_cons_succ, List.set_cons_zero, List.set_cons_succ, one1_ap, two2_ap, newL_f, newL_t, addOp_ii, subOp_ii, negOp_i, ltOp_ii, leOp_ii, gtOp_ii, geOp_ii, eqOp_ii, neOp_ii, eqOp_ss, neOp_ss, intA_i, intA_b, maxA_ii, minA_ii, lenA_lst, lenA_tup, lenA_slst, listA_lst, listA_tup, listA_slst, tupleA_lst, tupleA_tup, List.length_map, List.length_cons, List.length_nil, Bool.not_true, Bool.not_false, Bool.false_eq_true, if_true, if_false, Nat.zero_add, Nat.reduceAdd, mSeq_ap, seqR_lst, seqR_tup, seqR_slst, srcOf_lst, srcOf_tup, srcOf_slst, eMake_ap, eMeth_ap, insA_obj, sFldM_ap, rangeA_i]; rfl
  refine fn_outQl (l := [.dcT (ms.map kt) ((List.range ms.length).map fun j => A.int ((0 + j : Nat) : Int))]) (e := [some (.lst (ms.map ti)), some (.cell st.length), x2, x3, none, none]) rfl ?_
  show B_conjugation [some (.lst (ms.map ti)), none, none, none, none, none] st = _
  have e0 : st ++ [C.dcT [] []] = plS st ms 0 := by simp [plS]
  simp only [B_conjugation, sSeq_ap, sAsg_ap, eNewT_ap, Res.toS_ok, gN_ap, List.set_cons_zero, List.set_cons_succ, SRes.bind_nx, sFor_ap, e0, me, h, sRet_ap, eMake_ap, aCons_ap, lc, Res.bind_ok, aNil_ap, mk]
  rw [show plS st ms ms.length = st ++ [.dcT (ms.map kt) ((List.range ms.length).map fun j => A.int ((0 + j : Nat) : Int))] by simp [plS]]
theorem tabQ_eq {ms : List (List Int)} {m : Nat} (h : ∀ p ∈ ms, ∀ q ∈ ms, cjF p q p m = cjF p q (List.replicate m 0) m) : tabQ ms m = tabM ms m := by
  unfold tabQ tabM tabC
  refine List.map_congr_left fun x hx => List.map_congr_left fun y hy => ?_
  show plc (cjF x y x m) ms = plc (cjF x y (List.replicate m 0) m) ms
  rw [h x hx y hy]
end
end Gk53

set_option Elab.async false
set_option linter.all false
set_option maxRecDepth 100000
set_option maxHeartbeats 4000000
namespace Gk53
open PySem PySem.Spec L2 SL Q53
open PyProof.Rows hiding St
section
variable {st : Store} {c : Nat}
theorem okM_three : ∀ k, k < 6 → okM (three.drop k ++ three.take k) = true := by decide +kernel
theorem okM_four : ∀ k, k < 6 → okM (four.drop k ++ four.take k) = true := by decide +kernel
theorem okM_three' : ∀ k, k < 6 → okM (three.take k) = true := by decide +kernel
theorem okM_four' : ∀ k, k < 6 → okM (four.take k) = true := by decide +kernel
theorem members_sp {ds : List Int} (hc : c < st.length) : ∃ ms ds', okM ms = true ∧ M__law_members [.cell c] (st.set c (li ds)) = .ok (.lst (ms.map ti)) (st.set c (li ds')) := by
  have hz := sz
  have l3 : (3 : Nat) ≤ sizeLine := by omega
  have l4 : (4 : Nat) ≤ sizeLine := by omega
  have l6 : (6 : Nat) ≤ sizeLine := by omega
  have l2 : (2 : Nat) ≤ sizeLine := by omega
  obtain ⟨d1, ds1, p1, p2, t1⟩ := tk0 (st := st) (c := c) (ds := ds) (n := 7) hc (by omega)
  obtain ⟨d2, ds2, p3, p4, t2⟩ := tk0 (st := st) (c := c) (ds := ds1) (n := 6) hc (by omega)
  obtain ⟨k, rfl⟩ : ∃ k : Nat, d2 = (k : Int) := ⟨d2.toNat, by omega⟩
  have hk : k < 6 := by omega
  have fin : ∀ ms : List (List Int), okM ms = true → B__law_members [some (.cell c), none, none, none, none] (st.set c (li ds)) = .rt (.lst (ms.map ti)) (st.set c (li ds2)) → ∃ ms ds', okM ms = true ∧ M__law_members [.cell c] (st.set c (li ds)) = .ok (.lst (ms.map ti)) (st.set c (li ds')) := fun ms h1 h2 =>
    ⟨ms, ds2, h1, fnM_rt rfl h2 (fin_draw0 (bel_lst fun x hx => by obtain ⟨l, _, rfl⟩ := List.mem_map.mp hx; exact bel_ti) (by intro c h; cases h))⟩
  have s1 := @sl_drop (st.set c (li ds2)) (three.map ti) (k : Int) (by omega) (by simp [three]; omega)
  have s2 := @sl_take (st.set c (li ds2)) (three.map ti) (k : Int) (by omega) (by simp [three]; omega)
  have s3 := @sl_drop (st.set c (li ds2)) (four.map ti) (k : Int) (by omega) (by simp [four]; omega)
  have s4 := @sl_take (st.set c (li ds2)) (four.map ti) (k : Int) (by omega) (by simp [four]; omega)
  have a1 := @addOp_l (st.set c (li ds2)) ((three.map ti).drop k) ((three.map ti).take k) (by simp [three]; omega)
  have a2 := @addOp_l (st.set c (li ds2)) ((four.map ti).drop k) ((four.map ti).take k) (by simp [four]; omega)
  rw [show ((k : Int)).toNat = k by omega] at s1 s2 s3 s4
  simp only [three, ti, List.map_cons, List.map_nil] at s1 s2 a1
  simp only [four, ti, List.map_cons, List.map_nil] at s3 s4 a2
  rcases (by omega : d1 = 0 ∨ d1 = 1 ∨ d1 = 2 ∨ d1 = 3 ∨ d1 = 4 ∨ d1 = 5 ∨ d1 = 6) with rfl | rfl | rfl | rfl | rfl | rfl | rfl
  · refine fin _ (okM_three k hk) ?_
    simp only [B__law_members, sSeq_ap, sAsg_ap, sEx_ap, sRet_ap, sRetN_ap, sNil_ap, sIf_ap, sFor_ap, sSub_ap, sRaise_ap, mkWhat_ap, eVar_ap, eC_ap, eBin_ap, eUn_ap, eTup_ap, eLst_ap, eCB_ap, eCall_ap, eM_ap, eIf_ap, eAndV_ap, eOrV_ap, eNotV_ap, eChain_ap, eSl_ap, oNone_ap, oSome_ap, eXf_ap, aNil_ap, aCons_ap, tOf_ap, tTru_ap, tAndM_ap, tOrM_ap, tNotM_ap, tYesM_ap, asB_bl, truA_b, Res.bind_ok, Res.bind_exc, Res.toS_ok, Res.toS_exc, Res.of_some, SRes.bind_nx, SRes.bind_rt, SRes.bind_exc, SRes.bind_ct, SRes.bind_bk, gN_ap, List.getElem?_cons_zero, List.getElem?_cons_succ, List.set_cons_zero, List.set_cons_succ, one1_ap, two2_ap, newL_f, newL_t, addOp_ii, subOp_ii, negOp_i, ltOp_ii, leOp_ii, gtOp_ii, geOp_ii, eqOp_ii, neOp_ii, eqOp_ss, neOp_ss, intA_i, intA_b, maxA_ii, minA_ii, lenA_lst, lenA_tup, lenA_slst, listA_lst, listA_tup, listA_slst, tupleA_lst, tupleA_tup, List.length_map, List.length_cons, List.length_nil, Bool.not_true, Bool.not_false, Bool.false_eq_true, if_true, if_false, Nat.zero_add, Nat.reduceAdd, mSeq_ap, seqR_lst, seqR_tup, seqR_slst, srcOf_lst, srcOf_tup, srcOf_slst, decide_true, decide_false, Int.reduceEq, Int.reduceNeg, eMake_ap, eMeth_ap, insA_obj, sFldM_ap, rangeA_i, l3, l4, l6, t1, t2, s1, s2, a1]
    rw [List.map_append, List.map_drop, List.map_take]; rfl
  · refine fin _ (okM_four k hk) ?_
    simp only [B__law_members, sSeq_ap, sAsg_ap, sEx_ap, sRet_ap, sRetN_ap, sNil_ap, sIf_ap, sFor_ap, sSub_ap, sRaise_ap, mkWhat_ap, eVar_ap, eC_ap, eBin_ap, eUn_ap, eTup_ap, eLst_ap, eCB_ap, eCall_ap, eM_ap, eIf_ap, eAndV_ap, eOrV_ap, eNotV_ap, eChain_ap, eSl_ap, oNone_ap, oSome_ap, eXf_ap, aNil_ap, aCons_ap, tOf_ap, tTru_ap, tAndM_ap, tOrM_ap, tNotM_ap, tYesM_ap, asB_bl, truA_b, Res.bind_ok, Res.bind_exc, Res.toS_ok, Res.toS_exc, Res.of_some, SRes.bind_nx, SRes.bind_rt, SRes.bind_exc, SRes.bind_ct, SRes.bind_bk, gN_ap, List.getElem?_cons_zero, List.getElem?_cons_succ, List.set_cons_zero, List.set_cons_succ, one1_ap, two2_ap, newL_f, newL_t, addOp_ii, subOp_ii, negOp_i, ltOp_ii, leOp_ii, gtOp_ii, geOp_ii, eqOp_ii, neOp_ii, eqOp_ss, neOp_ss, intA_i, intA_b, maxA_ii, minA_ii, lenA_lst, lenA_tup, lenA_slst, listA_lst, listA_tup, listA_slst, tupleA_lst, tupleA_tup, List.length_map, List.length_cons, List.length_nil, Bool.not_true, Bool.not_false, Bool.false_eq_true, if_true, if_false, Nat.zero_add, Nat.reduceAdd, mSeq_ap, seqR_lst, seqR_tup, seqR_slst, srcOf_lst, srcOf_tup, srcOf_slst, decide_true, decide_false, Int.reduceEq, Int.reduceNeg, eMake_ap, eMeth_ap, insA_obj, sFldM_ap, rangeA_i, l3, l4, l6, t1, t2, s3, s4, a2]
    rw [List.map_append, List.map_drop, List.map_take]; rfl
  · refine fin [[1, 2, 0, 3], [3, 0, 2, 1], [2, 1, 3, 0], [0, 3, 1, 2]] (by decide +kernel) ?_
    simp only [B__law_members, sSeq_ap, sAsg_ap, sEx_ap, sRet_ap, sRetN_ap, sNil_ap, sIf_ap, sFor_ap, sSub_ap, sRaise_ap, mkWhat_ap, eVar_ap, eC_ap, eBin_ap, eUn_ap, eTup_ap, eLst_ap, eCB_ap, eCall_ap, eM_ap, eIf_ap, eAndV_ap, eOrV_ap, eNotV_ap, eChain_ap, eSl_ap, oNone_ap, oSome_ap, eXf_ap, aNil_ap, aCons_ap, tOf_ap, tTru_ap, tAndM_ap, tOrM_ap, tNotM_ap, tYesM_ap, asB_bl, truA_b, Res.bind_ok, Res.bind_exc, Res.toS_ok, Res.toS_exc, Res.of_some, SRes.bind_nx, SRes.bind_rt, SRes.bind_exc, SRes.bind_ct, SRes.bind_bk, gN_ap, List.getElem?_cons_zero, List.getElem?_cons_succ, List.set_cons_zero, List.set_cons_succ, one1_ap, two2_ap, newL_f, newL_t, addOp_ii, subOp_ii, negOp_i, ltOp_ii, leOp_ii, gtOp_ii, geOp_ii, eqOp_ii, neOp_ii, eqOp_ss, neOp_ss, intA_i, intA_b, maxA_ii, minA_ii, lenA_lst, lenA_tup, lenA_slst, listA_lst, listA_tup, listA_slst, tupleA_lst, tupleA_tup, List.length_map, List.length_cons, List.length_nil, Bool.not_true, Bool.not_false, Bool.false_eq_true, if_true, if_false, Nat.zero_add, Nat.reduceAdd, mSeq_ap, seqR_lst, seqR_tup, seqR_slst, srcOf_lst, srcOf_tup, srcOf_slst, decide_true, decide_false, Int.reduceEq, Int.reduceNeg, eMake_ap, eMeth_ap, insA_obj, sFldM_ap, rangeA_i, l3, l4, l6, t1, t2]; rfl
  · refine fin _ (okM_three' k hk) ?_
    simp only [B__law_members, sSeq_ap, sAsg_ap, sEx_ap, sRet_ap, sRetN_ap, sNil_ap, sIf_ap, sFor_ap, sSub_ap, sRaise_ap, mkWhat_ap, eVar_ap, eC_ap, eBin_ap, eUn_ap, eTup_ap, eLst_ap, eCB_ap, eCall_ap, eM_ap, eIf_ap, eAndV_ap, eOrV_ap, eNotV_ap, eChain_ap, eSl_ap, oNone_ap, oSome_ap, eXf_ap, aNil_ap, aCons_ap, tOf_ap, tTru_ap, tAndM_ap, tOrM_ap, tNotM_ap, tYesM_ap, asB_bl, truA_b, Res.bind_ok, Res.bind_exc, Res.toS_ok, Res.toS_exc, Res.of_some, SRes.bind_nx, SRes.bind_rt, SRes.bind_exc, SRes.bind_ct, SRes.bind_bk, gN_ap, List.getElem?_cons_zero, List.getElem?_cons_succ, List.set_cons_zero, List.set_cons_succ, one1_ap, two2_ap, newL_f, newL_t, addOp_ii, subOp_ii, negOp_i, ltOp_ii, leOp_ii, gtOp_ii, geOp_ii, eqOp_ii, neOp_ii, eqOp_ss, neOp_ss, intA_i, intA_b, maxA_ii, minA_ii, lenA_lst, lenA_tup, lenA_slst, listA_lst, listA_tup, listA_slst, tupleA_lst, tupleA_tup, List.length_map, List.length_cons, List.length_nil, Bool.not_true, Bool.not_false, Bool.false_eq_true, if_true, if_false, Nat.zero_add, Nat.reduceAdd, mSeq_ap, seqR_lst, seqR_tup, seqR_slst, srcOf_lst, srcOf_tup, srcOf_slst, decide_true, decide_false, Int.reduceEq, Int.reduceNeg, eMake_ap, eMeth_ap, insA_obj, sFldM_ap, rangeA_i, l3, l4, l6, t1, t2, s1, s2, a1]
    rw [List.map_take]; rfl
  · refine fin _ (okM_four' k hk) ?_
    simp only [B__law_members, sSeq_ap, sAsg_ap, sEx_ap, sRet_ap, sRetN_ap, sNil_ap, sIf_ap, sFor_ap, sSub_ap, sRaise_ap, mkWhat_ap, eVar_ap, eC_ap, eBin_ap, eUn_ap, eTup_ap, eLst_ap, eCB_ap, eCall_ap, eM_ap, eIf_ap, eAndV_ap, eOrV_ap, eNotV_ap, eChain_ap, eSl_ap, oNone_ap, oSome_ap, eXf_ap, aNil_ap, aCons_ap, tOf_ap, tTru_ap, tAndM_ap, tOrM_ap, tNotM_ap, tYesM_ap, asB_bl, truA_b, Res.bind_ok, Res.bind_exc, Res.toS_ok, Res.toS_exc, Res.of_some, SRes.bind_nx, SRes.bind_rt, SRes.bind_exc, SRes.bind_ct, SRes.bind_bk, gN_ap, List.getElem?_cons_zero, List.getElem?_cons_succ, List.set_cons_zero, List.set_cons_succ, one1_ap, two2_ap, newL_f, newL_t, addOp_ii, subOp_ii, negOp_i, ltOp_ii, leOp_ii, gtOp_ii, geOp_ii, eqOp_ii, neOp_ii, eqOp_ss, neOp_ss, intA_i, intA_b, maxA_ii, minA_ii, lenA_lst, lenA_tup, lenA_slst, listA_lst, listA_tup, listA_slst, tupleA_lst, tupleA_tup, List.length_map, List.length_cons, List.length_nil, Bool.not_true, Bool.not_false, Bool.false_eq_true, if_true, if_false, Nat.zero_add, Nat.reduceAdd, mSeq_ap, seqR_lst, seqR_tup, seqR_slst, srcOf_lst, srcOf_tup, srcOf_slst, decide_true, decide_false, Int.reduceEq, Int.reduceNeg, eMake_ap, eMeth_ap, insA_obj, sFldM_ap, rangeA_i, l3, l4, l6, t1, t2, s3, s4, a2]
    rw [List.map_take]; rfl
  · refine fin [[0, 1, 2, 3], [1, 0, 3, 2], [2, 3, 0, 1], [3, 2, 1, 0]] (by decide +kernel) ?_
    simp only [B__law_members, sSeq_ap, sAsg_ap, sEx_ap, sRet_ap, sRetN_ap, sNil_ap, sIf_ap, sFor_ap, sSub_ap, sRaise_ap, mkWhat_ap, eVar_ap, eC_ap, eBin_ap, eUn_ap, eTup_ap, eLst_ap, eCB_ap, eCall_ap, eM_ap, eIf_ap, eAndV_ap, eOrV_ap, eNotV_ap, eChain_ap, eSl_ap, oNone_ap, oSome_ap, eXf_ap, aNil_ap, aCons_ap, tOf_ap, tTru_ap, tAndM_ap, tOrM_ap, tNotM_ap, tYesM_ap, asB_bl, truA_b, Res.bind_ok, Res.bind_exc, Res.toS_ok, Res.toS_exc, Res.of_some, SRes.bind_nx, SRes.bind_rt, SRes.bind_exc, SRes.bind_ct, SRes.bind_bk, gN_ap, List.getElem?_cons_zero, List.getElem?_cons_succ, List.set_cons_zero, List.set_cons_succ, one1_ap, two2_ap, newL_f, newL_t, addOp_ii, subOp_ii, negOp_i, ltOp_ii, leOp_ii, gtOp_ii, geOp_ii, eqOp_ii, neOp_ii, eqOp_ss, neOp_ss, intA_i, intA_b, maxA_ii, minA_ii, lenA_lst, lenA_tup, lenA_slst, listA_lst, listA_tup, listA_slst, tupleA_lst, tupleA_tup, List.length_map, List.length_cons, List.length_nil, Bool.not_true, Bool.not_false, Bool.false_eq_true, if_true, if_false, Nat.zero_add, Nat.reduceAdd, mSeq_ap, seqR_lst, seqR_tup, seqR_slst, srcOf_lst, srcOf_tup, srcOf_slst, decide_true, decide_false, Int.reduceEq, Int.reduceNeg, eMake_ap, eMeth_ap, insA_obj, sFldM_ap, rangeA_i, l3, l4, l6, t1, t2]; rfl
  · refine fin [[1, 2, 3, 0], [3, 0, 1, 2]] (by decide +kernel) ?_
    simp only [B__law_members, sSeq_ap, sAsg_ap, sEx_ap, sRet_ap, sRetN_ap, sNil_ap, sIf_ap, sFor_ap, sSub_ap, sRaise_ap, mkWhat_ap, eVar_ap, eC_ap, eBin_ap, eUn_ap, eTup_ap, eLst_ap, eCB_ap, eCall_ap, eM_ap, eIf_ap, eAndV_ap, eOrV_ap, eNotV_ap, eChain_ap, eSl_ap, oNone_ap, oSome_ap, eXf_ap, aNil_ap, aCons_ap, tOf_ap, tTru_ap, tAndM_ap, tOrM_ap, tNotM_ap, tYesM_ap, asB_bl, truA_b, Res.bind_ok, Res.bind_exc, Res.toS_ok, Res.toS_exc, Res.of_some, SRes.bind_nx, SRes.bind_rt, SRes.bind_exc, SRes.bind_ct, SRes.bind_bk, gN_ap, List.getElem?_cons_zero, List.getElem?_cons_succ, List.set_cons_zero, List.set_cons_succ, one1_ap, two2_ap, newL_f, newL_t, addOp_ii, subOp_ii, negOp_i, ltOp_ii, leOp_ii, gtOp_ii, geOp_ii, eqOp_ii, neOp_ii, eqOp_ss, neOp_ss, intA_i, intA_b, maxA_ii, minA_ii, lenA_lst, lenA_tup, lenA_slst, listA_lst, listA_tup, listA_slst, tupleA_lst, tupleA_tup, List.length_map, List.length_cons, List.length_nil, Bool.not_true, Bool.not_false, Bool.false_eq_true, if_true, if_false, Nat.zero_add, Nat.reduceAdd, mSeq_ap, seqR_lst, seqR_tup, seqR_slst, srcOf_lst, srcOf_tup, srcOf_slst, decide_true, decide_false, Int.reduceEq, Int.reduceNeg, eMake_ap, eMeth_ap, insA_obj, sFldM_ap, rangeA_i, l3, l4, l6, l2, t1, t2]; rfl
def Sq (T : List (List Int)) : Prop := 0 < T.length ∧ T.length ≤ 9 ∧ ∀ r ∈ T, r.length = T.length
theorem sq_rg {n : Nat} (g : Int → Int → Int) (h0 : 0 < n) (h9 : n ≤ 9) : Sq ((rg n).map fun x => (rg n).map fun y => g x y) := by
  refine ⟨by simp [rg]; omega, by simp [rg]; omega, fun r hr => ?_⟩
  obtain ⟨x, _, rfl⟩ := List.mem_map.mp hr
  simp
theorem table_sp {ds : List Int} (hc : c < st.length) : ∃ T ds', Sq T ∧ M__law_table [.cell c] (st.set c (li ds)) = .ok (lL T) (st.set c (li ds')) := by
  have hz := sz
  have l1 : (1 : Nat) ≤ sizeLine := by omega
  have l5 : (5 : Nat) ≤ sizeLine := by omega
  obtain ⟨d1, ds1, p1, p2, t1⟩ := tk0 (st := st) (c := c) (ds := ds) (n := 9) hc (by omega)
  obtain ⟨d2, ds2, p3, p4, t2⟩ := tk0 (st := st) (c := c) (ds := ds1) (n := 7) hc (by omega)
  obtain ⟨n, hn⟩ : ∃ n : Nat, 1 + d1 = (n : Int) := ⟨(1 + d1).toNat, by omega⟩
  have h0 : 0 < n := by omega
  have h9 : n ≤ 9 := by omega
  have fin : ∀ T ds', Sq T → B__law_table [some (.cell c), none, none, none, none, none] (st.set c (li ds)) = .rt (lL T) (st.set c (li ds')) → ∃ T ds', Sq T ∧ M__law_table [.cell c] (st.set c (li ds)) = .ok (lL T) (st.set c (li ds')) := fun T ds' h1 h2 =>
    ⟨T, ds', h1, fnM_rt rfl h2 (fin_draw0 bel_lL (by intro c h; cases h))⟩
  have tab := fun (g : Int → Int → Int) (me : AEnv → Store → Res A) (hme : ∀ x ∈ rg n, ∀ y ∈ rg n, me [some (.cell c), some (.int n), some (.int d2), none, some (.int x), some (.int y)] (st.set c (li ds2)) = .ok (.int (g x y)) (st.set c (li ds2))) =>
    tabLc (st := st.set c (li ds2)) (n := n) (i := 4) (own := [4]) (ma := eLc false (mRng1 (aCons (eVar 1) aNil)) (gN 5) [5] tYesM me) (env := [some (.cell c), some (.int n), some (.int d2), none, none, none]) (fun x => (rg n).map fun y => g x y) (mr (i := 1) rfl (by omega)) (by omega) (fun x hx =>
      rowLc (st := st.set c (li ds2)) (n := n) (i := 5) (own := [5]) (fun y => g x y) (mr (i := 1) rfl (by omega)) (by omega) (fun y hy => hme x hx y hy))
  rcases (by omega : d2 = 0 ∨ d2 = 1 ∨ d2 = 2 ∨ d2 = 3 ∨ 3 < d2) with rfl | rfl | rfl | rfl | hbig
  · have lc := tab (fun x y => x) e1__law_table (fun x _ y _ => by simp only [e1__law_table, sSeq_ap, sAsg_ap, sEx_ap, sRet_ap, sRetN_ap, sNil_ap, sIf_ap, sFor_ap, sSub_ap, sRaise_ap, mkWhat_ap, eVar_ap, eC_ap, eBin_ap, eUn_ap, eTup_ap, eLst_ap, eCB_ap, eCall_ap, eM_ap, eIf_ap, eAndV_ap, eOrV_ap, eNotV_ap, eChain_ap, eSl_ap, oNone_ap, oSome_ap, eXf_ap, aNil_ap, aCons_ap, tOf_ap, tTru_ap, tAndM_ap, tOrM_ap, tNotM_ap, tYesM_ap, asB_bl, truA_b, Res.bind_ok, Res.bind_exc, Res.toS_ok, Res.toS_exc, Res.of_some, SRes.bind_nx, SRes.bind_rt, SRes.bind_exc, SRes.bind_ct, SRes.bind_bk, gN_ap, List.getElem?_cons_zero, List.getElem?_cons_succ, List.set_cons_zero, List.set_cons_succ, one1_ap, two2_ap, newL_f, newL_t, addOp_ii, subOp_ii, negOp_i, ltOp_ii, leOp_ii, gtOp_ii, geOp_ii, eqOp_ii, neOp_ii, eqOp_ss, neOp_ss, intA_i, intA_b, maxA_ii, minA_ii, lenA_lst, lenA_tup, lenA_slst, listA_lst, listA_tup, listA_slst, tupleA_lst, tupleA_tup, List.length_map, List.length_cons, List.length_nil, Bool.not_true, Bool.not_false, Bool.false_eq_true, if_true, if_false, Nat.zero_add, Nat.reduceAdd, mSeq_ap, seqR_lst, seqR_tup, seqR_slst, srcOf_lst, srcOf_tup, srcOf_slst, decide_true, decide_false, Int.reduceEq, Int.reduceNeg, eMake_ap, eMeth_ap, insA_obj, sFldM_ap, rangeA_i])
    refine fin _ ds2 (sq_rg (fun x y => x) h0 h9) ?_
    simp only [B__law_table, e2__law_table, sSeq_ap, sAsg_ap, eBin_ap, eC_ap, eCall_ap, aCons_ap, eVar_ap, aNil_ap, List.getElem?_cons_zero, List.getElem?_cons_succ, Res.bind_ok, t1, t2, addOp_ii, Res.of_some, Res.toS_ok, gN_ap, List.set_cons_zero, List.set_cons_succ, SRes.bind_nx, hn, sIf_ap, tOf_ap, eqOp_ii, decide_true, asB_bl, if_true, sRet_ap, lc, SRes.bind_rt]
  · have lc := tab (fun x y => (x + 1).fmod n) e3__law_table (fun x _ y _ => by simp only [e3__law_table, sSeq_ap, sAsg_ap, sEx_ap, sRet_ap, sRetN_ap, sNil_ap, sIf_ap, sFor_ap, sSub_ap, sRaise_ap, mkWhat_ap, eVar_ap, eC_ap, eBin_ap, eUn_ap, eTup_ap, eLst_ap, eCB_ap, eCall_ap, eM_ap, eIf_ap, eAndV_ap, eOrV_ap, eNotV_ap, eChain_ap, eSl_ap, oNone_ap, oSome_ap, eXf_ap, aNil_ap, aCons_ap, tOf_ap, tTru_ap, tAndM_ap, tOrM_ap, tNotM_ap, tYesM_ap, asB_bl, truA_b, Res.bind_ok, Res.bind_exc, Res.toS_ok, Res.toS_exc, Res.of_some, SRes.bind_nx, SRes.bind_rt, SRes.bind_exc, SRes.bind_ct, SRes.bind_bk, gN_ap, List.getElem?_cons_zero, List.getElem?_cons_succ, List.set_cons_zero, List.set_cons_succ, one1_ap, two2_ap, newL_f, newL_t, addOp_ii, subOp_ii, negOp_i, ltOp_ii, leOp_ii, gtOp_ii, geOp_ii, eqOp_ii, neOp_ii, eqOp_ss, neOp_ss, intA_i, intA_b, maxA_ii, minA_ii, lenA_lst, lenA_tup, lenA_slst, listA_lst, listA_tup, listA_slst, tupleA_lst, tupleA_tup, List.length_map, List.length_cons, List.length_nil, Bool.not_true, Bool.not_false, Bool.false_eq_true, if_true, if_false, Nat.zero_add, Nat.reduceAdd, mSeq_ap, seqR_lst, seqR_tup, seqR_slst, srcOf_lst, srcOf_tup, srcOf_slst, decide_true, decide_false, Int.reduceEq, Int.reduceNeg, eMake_ap, eMeth_ap, insA_obj, sFldM_ap, rangeA_i, modOp_ii (show (n : Int) ≠ 0 by omega)])
    refine fin _ ds2 (sq_rg (fun x y => (x + 1).fmod n) h0 h9) ?_
    simp only [B__law_table, e4__law_table, sSeq_ap, sAsg_ap, eBin_ap, eC_ap, eCall_ap, aCons_ap, eVar_ap, aNil_ap, List.getElem?_cons_zero, List.getElem?_cons_succ, Res.bind_ok, t1, t2, addOp_ii, Res.of_some, Res.toS_ok, gN_ap, List.set_cons_zero, List.set_cons_succ, SRes.bind_nx, hn, sIf_ap, tOf_ap, eqOp_ii, decide_true, asB_bl, if_true, sRet_ap, lc, SRes.bind_rt, Int.reduceEq, decide_false, Bool.false_eq_true, if_false, sNil_ap]
  · have lc := tab (fun x y => y) e5__law_table (fun x _ y _ => by simp only [e5__law_table, sSeq_ap, sAsg_ap, sEx_ap, sRet_ap, sRetN_ap, sNil_ap, sIf_ap, sFor_ap, sSub_ap, sRaise_ap, mkWhat_ap, eVar_ap, eC_ap, eBin_ap, eUn_ap, eTup_ap, eLst_ap, eCB_ap, eCall_ap, eM_ap, eIf_ap, eAndV_ap, eOrV_ap, eNotV_ap, eChain_ap, eSl_ap, oNone_ap, oSome_ap, eXf_ap, aNil_ap, aCons_ap, tOf_ap, tTru_ap, tAndM_ap, tOrM_ap, tNotM_ap, tYesM_ap, asB_bl, truA_b, Res.bind_ok, Res.bind_exc, Res.toS_ok, Res.toS_exc, Res.of_some, SRes.bind_nx, SRes.bind_rt, SRes.bind_exc, SRes.bind_ct, SRes.bind_bk, gN_ap, List.getElem?_cons_zero, List.getElem?_cons_succ, List.set_cons_zero, List.set_cons_succ, one1_ap, two2_ap, newL_f, newL_t, addOp_ii, subOp_ii, negOp_i, ltOp_ii, leOp_ii, gtOp_ii, geOp_ii, eqOp_ii, neOp_ii, eqOp_ss, neOp_ss, intA_i, intA_b, maxA_ii, minA_ii, lenA_lst, lenA_tup, lenA_slst, listA_lst, listA_tup, listA_slst, tupleA_lst, tupleA_tup, List.length_map, List.length_cons, List.length_nil, Bool.not_true, Bool.not_false, Bool.false_eq_true, if_true, if_false, Nat.zero_add, Nat.reduceAdd, mSeq_ap, seqR_lst, seqR_tup, seqR_slst, srcOf_lst, srcOf_tup, srcOf_slst, decide_true, decide_false, Int.reduceEq, Int.reduceNeg, eMake_ap, eMeth_ap, insA_obj, sFldM_ap, rangeA_i])
    refine fin _ ds2 (sq_rg (fun x y => y) h0 h9) ?_
    simp only [B__law_table, e6__law_table, sSeq_ap, sAsg_ap, eBin_ap, eC_ap, eCall_ap, aCons_ap, eVar_ap, aNil_ap, List.getElem?_cons_zero, List.getElem?_cons_succ, Res.bind_ok, t1, t2, addOp_ii, Res.of_some, Res.toS_ok, gN_ap, List.set_cons_zero, List.set_cons_succ, SRes.bind_nx, hn, sIf_ap, tOf_ap, eqOp_ii, decide_true, asB_bl, if_true, sRet_ap, lc, SRes.bind_rt, Int.reduceEq, decide_false, Bool.false_eq_true, if_false, sNil_ap]
  · obtain ⟨ms, ds3, ok, t3⟩ := @members_sp st c ds2 hc
    obtain ⟨m6, hnd, m, hm4, hpm⟩ := okM_at ok
    by_cases he : ms.length = 0
    · have hd : decide (((ms.length : Nat) : Int) > 0) = false := by rw [he]; rfl
      refine fin [[0]] ds3 ⟨by simp, by simp, by simp⟩ ?_
      simp only [B__law_table, sSeq_ap, sAsg_ap, sEx_ap, sRet_ap, sRetN_ap, sNil_ap, sIf_ap, sFor_ap, sSub_ap, sRaise_ap, mkWhat_ap, eVar_ap, eC_ap, eBin_ap, eUn_ap, eTup_ap, eLst_ap, eCB_ap, eCall_ap, eM_ap, eIf_ap, eAndV_ap, eOrV_ap, eNotV_ap, eChain_ap, eSl_ap, oNone_ap, oSome_ap, eXf_ap, aNil_ap, aCons_ap, tOf_ap, tTru_ap, tAndM_ap, tOrM_ap, tNotM_ap, tYesM_ap, asB_bl, truA_b, Res.bind_ok, Res.bind_exc, Res.toS_ok, Res.toS_exc, Res.of_some, SRes.bind_nx, SRes.bind_rt, SRes.bind_exc, SRes.bind_ct, SRes.bind_bk, gN_ap, List.getElem?_cons_zero, List.getElem?_cons_succ, List.set_cons_zero, List.set_cons_succ, one1_ap, two2_ap, newL_f, newL_t, addOp_ii, subOp_ii, negOp_i, ltOp_ii, leOp_ii, gtOp_ii, geOp_ii, eqOp_ii, neOp_ii, eqOp_ss, neOp_ss, intA_i, intA_b, maxA_ii, minA_ii, lenA_lst, lenA_tup, lenA_slst, listA_lst, listA_tup, listA_slst, tupleA_lst, tupleA_tup, List.length_map, List.length_cons, List.length_nil, Bool.not_true, Bool.not_false, Bool.false_eq_true, if_true, if_false, Nat.zero_add, Nat.reduceAdd, mSeq_ap, seqR_lst, seqR_tup, seqR_slst, srcOf_lst, srcOf_tup, srcOf_slst, decide_true, decide_false, Int.reduceEq, Int.reduceNeg, eMake_ap, eMeth_ap, insA_obj, sFldM_ap, rangeA_i, t1, t2, t3, hn, hd, l1]; rfl
    · have hd : decide (((ms.length : Nat) : Int) > 0) = true := decide_eq_true (by omega)
      have lt := @lconjT_sp (st.set c (li ds3)) ms m (by omega) (by omega) (fun p hp => (hpm p hp).1)
      refine fin (tabM ms m) ds3 ⟨by simp [tabM, tabC]; omega, by simp [tabM, tabC]; omega, fun r hr => ?_⟩ ?_
      · obtain ⟨x, _, rfl⟩ := List.mem_map.mp hr
        simp [tabM, tabC]
      · simp only [B__law_table, sSeq_ap, sAsg_ap, sEx_ap, sRet_ap, sRetN_ap, sNil_ap, sIf_ap, sFor_ap, sSub_ap, sRaise_ap, mkWhat_ap, eVar_ap, eC_ap, eBin_ap, eUn_ap, eTup_ap, eLst_ap, eCB_ap, eCall_ap, eM_ap, eIf_ap, eAndV_ap, eOrV_ap, eNotV_ap, eChain_ap, eSl_ap, oNone_ap, oSome_ap, eXf_ap, aNil_ap, aCons_ap, tOf_ap, tTru_ap, tAndM_ap, tOrM_ap, tNotM_ap, tYesM_ap, asB_bl, truA_b, Res.bind_ok, Res.bind_exc, Res.toS_ok, Res.toS_exc, Res.of_some, SRes.bind_nx, SRes.bind_rt, SRes.bind_exc, SRes.bind_ct, SRes.bind_bk, gN_ap, List.getElem?_cons_zero, List.getElem?_cons_succ, List.set_cons_zero, List.set_cons_succ, one1_ap, two2_ap, newL_f, newL_t, addOp_ii, subOp_ii, negOp_i, ltOp_ii, leOp_ii, gtOp_ii, geOp_ii, eqOp_ii, neOp_ii, eqOp_ss, neOp_ss, intA_i, intA_b, maxA_ii, minA_ii, lenA_lst, lenA_tup, lenA_slst, listA_lst, listA_tup, listA_slst, tupleA_lst, tupleA_tup, List.length_map, List.length_cons, List.length_nil, Bool.not_true, Bool.not_false, Bool.false_eq_true, if_true, if_false, Nat.zero_add, Nat.reduceAdd, mSeq_ap, seqR_lst, seqR_tup, seqR_slst, srcOf_lst, srcOf_tup, srcOf_slst, decide_true, decide_false, Int.reduceEq, Int.reduceNeg, eMake_ap, eMeth_ap, insA_obj, sFldM_ap, rangeA_i, t1, t2, t3, hn, hd, lt]
  · obtain ⟨d3, ds3, p5, p6, t3⟩ := tk0 (st := st) (c := c) (ds := ds2) (n := 5) hc (by omega)
    obtain ⟨f, hf, e1⟩ : ∃ f : Int, f.natAbs < 1000 ∧ ∀ s, ixOp (.lst [.int (-1), .int 2, .int 3, .int (-1), .int 1]) (.int d3) s = some (.int f, s) := by
      rcases (by omega : d3 = 0 ∨ d3 = 1 ∨ d3 = 2 ∨ d3 = 3 ∨ d3 = 4) with rfl | rfl | rfl | rfl | rfl
      · exact ⟨-1, by decide, fun s => ixs (by omega) rfl⟩
      · exact ⟨2, by decide, fun s => ixs (by omega) rfl⟩
      · exact ⟨3, by decide, fun s => ixs (by omega) rfl⟩
      · exact ⟨-1, by decide, fun s => ixs (by omega) rfl⟩
      · exact ⟨1, by decide, fun s => ixs (by omega) rfl⟩
    have af := @affineL_sp (st.set c (li ds3)) n f (by omega) h0 hf
    have q0 : decide (d2 = 0) = false := decide_eq_false (by omega)
    have q1 : decide (d2 = 1) = false := decide_eq_false (by omega)
    have q2 : decide (d2 = 2) = false := decide_eq_false (by omega)
    have q3 : decide (d2 = 3) = false := decide_eq_false (by omega)
    refine fin (affL n f) ds3 (sq_rg (fun x y => (f * x + y - f * y).fmod n) h0 h9) ?_
    simp only [B__law_table, sSeq_ap, sAsg_ap, sEx_ap, sRet_ap, sRetN_ap, sNil_ap, sIf_ap, sFor_ap, sSub_ap, sRaise_ap, mkWhat_ap, eVar_ap, eC_ap, eBin_ap, eUn_ap, eTup_ap, eLst_ap, eCB_ap, eCall_ap, eM_ap, eIf_ap, eAndV_ap, eOrV_ap, eNotV_ap, eChain_ap, eSl_ap, oNone_ap, oSome_ap, eXf_ap, aNil_ap, aCons_ap, tOf_ap, tTru_ap, tAndM_ap, tOrM_ap, tNotM_ap, tYesM_ap, asB_bl, truA_b, Res.bind_ok, Res.bind_exc, Res.toS_ok, Res.toS_exc, Res.of_some, SRes.bind_nx, SRes.bind_rt, SRes.bind_exc, SRes.bind_ct, SRes.bind_bk, gN_ap, List.getElem?_cons_zero, List.getElem?_cons_succ, List.set_cons_zero, List.set_cons_succ, one1_ap, two2_ap, newL_f, newL_t, addOp_ii, subOp_ii, negOp_i, ltOp_ii, leOp_ii, gtOp_ii, geOp_ii, eqOp_ii, neOp_ii, eqOp_ss, neOp_ss, intA_i, intA_b, maxA_ii, minA_ii, lenA_lst, lenA_tup, lenA_slst, listA_lst, listA_tup, listA_slst, tupleA_lst, tupleA_tup, List.length_map, List.length_cons, List.length_nil, Bool.not_true, Bool.not_false, Bool.false_eq_true, if_true, if_false, Nat.zero_add, Nat.reduceAdd, mSeq_ap, seqR_lst, seqR_tup, seqR_slst, srcOf_lst, srcOf_tup, srcOf_slst, decide_true, decide_false, Int.reduceEq, Int.reduceNeg, eMake_ap, eMeth_ap, insA_obj, sFldM_ap, rangeA_i, t1, t2, t3, hn, q0, q1, q2, q3, l5, e1, af]
end
end Gk53

set_option Elab.async false
set_option linter.all false
set_option maxRecDepth 100000
set_option maxHeartbeats 4000000
namespace Gk53
open PySem PySem.Spec L2 SL Q53
open PyProof.Rows hiding St
def Tb (T : List (List Int)) : Prop := T.length ≤ 10 ∧ ∀ r ∈ T, r.length ≤ 10
theorem sq_tb {T : List (List Int)} (h : Sq T) : Tb T := ⟨by have := h.2.1; omega, fun r hr => by have := h.2.2 r hr; have := h.2.1; omega⟩
section
variable {st : Store} {c : Nat}
/-- draws, then a table of own lists -/
abbrev tbS (st : Store) (c : Nat) (ds : List Int) (T : List (List Int)) : Store := tabS (st.set c (li ds)) T []
theorem tb_app {ds : List Int} {T : List (List Int)} : tbS st c ds T = st.set c (li ds) ++ (T.map cI ++ [.lst (cls st.length T.length)]) := by
  unfold tbS tabS; rw [List.length_set, List.append_assoc]
theorem tkT {ds : List Int} {T : List (List Int)} {n : Int} (h : c < st.length) (hn : 0 < n) : ∃ d ds', 0 ≤ d ∧ d < n ∧ M__law_take [.cell c, .int n] (tbS st c ds T) = .ok (.int d) (tbS st c ds' T) := by
  obtain ⟨d, ds', h1, h2, h3⟩ := tkA (st := st) (l := T.map cI ++ [.lst (cls st.length T.length)]) (ds := ds) h hn
  exact ⟨d, ds', h1, h2, by rw [tb_app, tb_app]; exact h3⟩
theorem tb_top {ds : List Int} {T : List (List Int)} : (tbS st c ds T)[st.length + T.length]? = some (.lst (cls st.length T.length)) := by
  have := @tabS_top (st.set c (li ds)) T []
  rw [List.length_set] at this; exact this
theorem tb_row {ds : List Int} {T : List (List Int)} {k : Nat} {r : List Int} (h : T[k]? = some r) : (tbS st c ds T)[st.length + k]? = some (cI r) := by
  have := @tabS_row (st.set c (li ds)) T [] k r h
  rw [List.length_set] at this; exact this
theorem tb_set {ds : List Int} {T : List (List Int)} {k : Nat} {r : List Int} (h : k < T.length) : (tbS st c ds T).set (st.length + k) (cI r) = tbS st c ds (T.set k r) := by
  have := @tabS_set (st.set c (li ds)) T [] k r h
  rw [List.length_set] at this; exact this
theorem ix_tb {ds : List Int} {T : List (List Int)} {k : Int} (h0 : 0 ≤ k) (h1 : k < T.length) : ixOp (.cell (st.length + T.length)) (.int k) (tbS st c ds T) = some (.cell (st.length + k.toNat), tbS st c ds T) :=
  ixOp_at (seqR_cell tb_top) (atI_of h0 (cls_get (by omega)))
/-- an item of a row is set -/
theorem set_tb {ds : List Int} {T : List (List Int)} {k j v : Int} {r : List Int} (h0 : 0 ≤ k) (h1 : k < T.length) (hr : T[k.toNat]? = some r) (j0 : 0 ≤ j) (j1 : j < r.length) : setL (.cell (st.length + k.toNat)) (.int j) (.int v) (tbS st c ds T) = some (tbS st c ds (T.set k.toNat (r.set j.toNat v))) := by
  rw [setL_li (tb_row hr) j0 j1, ← tb_set (by omega)]
theorem okS_tb {ds ds0 : List Int} {T : List (List Int)} : okS (st.set c (li ds0)).length (st.set c (li ds0)) (tbS st c ds T) := by
  have := okS_set (st := st.set c (li ds0)) (c := c) (k := li ds) (l := T.map cI ++ [.lst (cls st.length T.length)]) (bel_ints _ _)
  rw [List.set_set] at this
  rw [tb_app]; exact this
theorem take_tb {ds ds0 : List Int} {T : List (List Int)} : (tbS st c ds T).take (st.set c (li ds0)).length = st.set c (li ds) := by
  rw [tb_app, show (st.set c (li ds0)).length = (st.set c (li ds)).length by simp, List.take_left]
theorem fin_tb {ds ds0 : List Int} {T : List (List Int)} : finA false (st.set c (li ds0)).length (st.set c (li ds0)) (.cell (st.length + T.length)) (tbS st c ds T) = .ok (lL T) (st.set c (li ds)) := by
  rw [fin_tab (b := st.length) (T := T) (by simp) (by simp) (.inr (Nat.le_refl _)) tb_top (fun k r h => tb_row h) okS_tb, take_tb]
theorem get_row {T : List (List Int)} {k : Int} (h0 : 0 ≤ k) (h1 : k < T.length) : ∃ r, T[k.toNat]? = some r ∧ r ∈ T := ⟨_, List.getElem?_eq_getElem (by omega), List.getElem_mem _⟩
theorem mem_set {T : List (List Int)} {k : Nat} {r x : List Int} (h : x ∈ T.set k r) : x ∈ T ∨ x = r := by
  rcases List.mem_or_eq_of_mem_set h with h | h
  · exact .inl h
  · exact .inr h
theorem tb_of_set {T : List (List Int)} {k : Nat} {r : List Int} (h : Tb T) (hr : r.length ≤ 10) : Tb (T.set k r) := ⟨by rw [List.length_set]; exact h.1, fun x hx => by
  rcases mem_set hx with hx | rfl
  · exact h.2 x hx
  · exact hr⟩
theorem sq_set {T : List (List Int)} {k : Nat} {r : List Int} (h : Sq T) (hr : r.length = T.length) : Sq (T.set k r) := ⟨by rw [List.length_set]; exact h.1, by rw [List.length_set]; exact h.2.1, fun x hx => by
  rw [List.length_set]
  rcases mem_set hx with hx | rfl
  · exact h.2.2 x hx
  · exact hr⟩
theorem bent_sp {ds : List Int} {T : List (List Int)} (hc : c < st.length) (hT : Sq T) : ∃ T' ds', Tb T' ∧ M__law_bent [.cell c, lL T] (st.set c (li ds)) = .ok (lL T') (st.set c (li ds')) := by
  have hz := sz
  have l3 : (3 : Nat) ≤ sizeLine := by omega
  obtain ⟨h0, h9, hr⟩ := hT
  have tb0 := sq_tb ⟨h0, h9, hr⟩
  have lc := lcRowsT (i := 9) (own := [9]) (ma := e1__law_bent) (env := [some (.cell c), some (lL T), none, none, none, none, none, none, none, none]) (S := st.set c (li ds)) (T := T) (mi := mSeq (eVar 1)) (by simp only [sSeq_ap, sAsg_ap, sEx_ap, sRet_ap, sRetN_ap, sNil_ap, sIf_ap, sFor_ap, sSub_ap, sRaise_ap, mkWhat_ap, eVar_ap, eC_ap, eBin_ap, eUn_ap, eTup_ap, eLst_ap, eCB_ap, eCall_ap, eM_ap, eIf_ap, eAndV_ap, eOrV_ap, eNotV_ap, eChain_ap, eSl_ap, oNone_ap, oSome_ap, eXf_ap, aNil_ap, aCons_ap, tOf_ap, tTru_ap, tAndM_ap, tOrM_ap, tNotM_ap, tYesM_ap, asB_bl, truA_b, Res.bind_ok, Res.bind_exc, Res.toS_ok, Res.toS_exc, Res.of_some, SRes.bind_nx, SRes.bind_rt, SRes.bind_exc, SRes.bind_ct, SRes.bind_bk, gN_ap, List.getElem?_cons_zero, List.getElem?_cons_succ, List.set_cons_zero, List.set_cons_succ, one1_ap, two2_ap, newL_f, newL_t, addOp_ii, subOp_ii, negOp_i, ltOp_ii, leOp_ii, gtOp_ii, geOp_ii, eqOp_ii, neOp_ii, eqOp_ss, neOp_ss, intA_i, intA_b, maxA_ii, minA_ii, lenA_lst, lenA_tup, lenA_slst, listA_lst, listA_tup, listA_slst, tupleA_lst, tupleA_tup, List.length_map, List.length_cons, List.length_nil, Bool.not_true, Bool.not_false, Bool.false_eq_true, if_true, if_false, Nat.zero_add, Nat.reduceAdd, mSeq_ap, seqR_lst, seqR_tup, seqR_slst, srcOf_lst, srcOf_tup, srcOf_slst, decide_true, decide_false, Int.reduceEq, Int.reduceNeg, eMake_ap, eMeth_ap, insA_obj, sFldM_ap, rangeA_i]) (by omega) (fun r hr s => by
    show e1__law_bent [some (.cell c), some (lL T), none, none, none, none, none, none, none, some (lI r)] s = _
    simp only [e1__law_bent, sSeq_ap, sAsg_ap, sEx_ap, sRet_ap, sRetN_ap, sNil_ap, sIf_ap, sFor_ap, sSub_ap, sRaise_ap, mkWhat_ap, eVar_ap, eC_ap, eBin_ap, eUn_ap, eTup_ap, eLst_ap, eCB_ap, eCall_ap, eM_ap, eIf_ap, eAndV_ap, eOrV_ap, eNotV_ap, eChain_ap, eSl_ap, oNone_ap, oSome_ap, eXf_ap, aNil_ap, aCons_ap, tOf_ap, tTru_ap, tAndM_ap, tOrM_ap, tNotM_ap, tYesM_ap, asB_bl, truA_b, Res.bind_ok, Res.bind_exc, Res.toS_ok, Res.toS_exc, Res.of_some, SRes.bind_nx, SRes.bind_rt, SRes.bind_exc, SRes.bind_ct, SRes.bind_bk, gN_ap, List.getElem?_cons_zero, List.getElem?_cons_succ, List.set_cons_zero, List.set_cons_succ, one1_ap, two2_ap, newL_f, newL_t, addOp_ii, subOp_ii, negOp_i, ltOp_ii, leOp_ii, gtOp_ii, geOp_ii, eqOp_ii, neOp_ii, eqOp_ss, neOp_ss, intA_i, intA_b, maxA_ii, minA_ii, lenA_lst, lenA_tup, lenA_slst, listA_lst, listA_tup, listA_slst, tupleA_lst, tupleA_tup, List.length_map, List.length_cons, List.length_nil, Bool.not_true, Bool.not_false, Bool.false_eq_true, if_true, if_false, Nat.zero_add, Nat.reduceAdd, mSeq_ap, seqR_lst, seqR_tup, seqR_slst, srcOf_lst, srcOf_tup, srcOf_slst, decide_true, decide_false, Int.reduceEq, Int.reduceNeg, eMake_ap, eMeth_ap, insA_obj, sFldM_ap, rangeA_i])
  rw [List.length_set] at lc
  have ln : ∀ ds (T' : List (List Int)), lenA (.cell (st.length + T'.length)) (tbS st c ds T') = some (.int (T'.length : Nat), tbS st c ds T') := fun ds T' => by rw [lenA_cell (@tb_top st c ds T'), cls_len]
  obtain ⟨d1, ds1, p1, p2, t1⟩ := tkT (st := st) (c := c) (ds := ds) (T := T) (n := 8) hc (by omega)
  obtain ⟨d2, ds2, p3, p4, t2⟩ := tkT (st := st) (c := c) (ds := ds1) (T := T) (n := T.length) hc (by omega)
  obtain ⟨d3, ds3, p5, p6, t3⟩ := tkT (st := st) (c := c) (ds := ds2) (T := T) (n := T.length) hc (by omega)
  have fin : ∀ T' ds', Tb T' → T'.length = T.length → B__law_bent [some (.cell c), some (lL T), none, none, none, none, none, none, none, none] (st.set c (li ds)) = .rt (.cell (st.length + T.length)) (tbS st c ds' T') → ∃ T' ds', Tb T' ∧ M__law_bent [.cell c, lL T] (st.set c (li ds)) = .ok (lL T') (st.set c (li ds')) := fun T' ds' h1 hl h2 =>
    ⟨T', ds', h1, fnM_rt rfl h2 (by rw [← hl]; exact fin_tb)⟩
  obtain ⟨r, hr1, hr2⟩ := get_row p3 p4
  have hrl := hr r hr2
  have i2 := fun ds => @ix_tb st c ds T d2 p3 p4
  have rowc := fun ds => @tb_row st c ds T d2.toNat r hr1
  have tvr := fun ds => tyVA_cell (rowc ds)
  rcases (by omega : d1 = 0 ∨ d1 = 1 ∨ d1 = 2 ∨ d1 = 3 ∨ d1 = 4 ∨ d1 = 5 ∨ d1 = 6 ∨ d1 = 7) with rfl | rfl | rfl | rfl | rfl | rfl | rfl | rfl
  · -- a row taken away
    let l : List (Nat × List Int) := (List.range T.length).map fun i => (st.length + i, T.getD i [])
    have hll : l.length = T.length := by simp [l]
    have hcl : cls st.length T.length = l.map fun p => .cell p.1 := by simp only [l, List.map_map]; rfl
    have hlow : ∀ p ∈ l, st.length ≤ p.1 ∧ (tbS st c ds3 T)[p.1]? = some (cI p.2) ∧ p.2.length ≤ 10 := fun p hp => by
      obtain ⟨i, hi, rfl⟩ := List.mem_map.mp hp
      have hi := List.mem_range.mp hi
      have e : T[i]? = some (T.getD i []) := by rw [List.getD_eq_getElem?_getD, List.getElem?_eq_getElem hi]; rfl
      exact ⟨by dsimp only; omega, tb_row e, tb0.2 _ (List.mem_of_getElem? e)⟩
    have hnd : (l.map (·.1)).Nodup := by
      simp only [l, List.map_map]
      unfold List.Nodup
      rw [List.pairwise_map]
      exact List.nodup_range.imp fun h e => h (by dsimp [Function.comp] at e; omega)
    let l2 := l.take d2.toNat ++ l.drop (d2.toNat + 1)
    have hsub : List.Sublist l2 l := by
      show List.Sublist (l.take d2.toNat ++ l.drop (d2.toNat + 1)) l
      rw [← List.eraseIdx_eq_take_drop_succ]
      exact List.eraseIdx_sublist _ _
    have s1 := @sl_takeC (tbS st c ds3 T) (st.length + T.length) (cls st.length T.length) d2 tb_top p3 (by rw [cls_len]; omega)
    have s2 := @sl_dropC (tbS st c ds3 T) (st.length + T.length) (cls st.length T.length) (d2 + 1) tb_top (by omega) (by rw [cls_len]; omega)
    have ad := @addOp_l (tbS st c ds3 T) ((cls st.length T.length).take d2.toNat) ((cls st.length T.length).drop (d2 + 1).toNat) (by simp [cls_len]; omega)
    have e2 : (cls st.length T.length).take d2.toNat ++ (cls st.length T.length).drop (d2 + 1).toNat = l2.map fun p => .cell p.1 := by
      rw [hcl, show (d2 + 1).toNat = d2.toNat + 1 by omega, ← List.map_take, ← List.map_drop, ← List.map_append]
    rw [e2] at ad
    have hb : B__law_bent [some (.cell c), some (lL T), none, none, none, none, none, none, none, none] (st.set c (li ds)) = .rt (.lst (l2.map fun p => .cell p.1)) (tbS st c ds3 T) := by
      simp only [B__law_bent, sSeq_ap, sAsg_ap, lc, Res.toS_ok, gN_ap, List.set_cons_zero, List.set_cons_succ, SRes.bind_nx]
      simp only [sSeq_ap, sAsg_ap, sEx_ap, sRet_ap, sRetN_ap, sNil_ap, sIf_ap, sFor_ap, sSub_ap, sRaise_ap, mkWhat_ap, eVar_ap, eC_ap, eBin_ap, eUn_ap, eTup_ap, eLst_ap, eCB_ap, eCall_ap, eM_ap, eIf_ap, eAndV_ap, eOrV_ap, eNotV_ap, eChain_ap, eSl_ap, oNone_ap, oSome_ap, eXf_ap, aNil_ap, aCons_ap, tOf_ap, tTru_ap, tAndM_ap, tOrM_ap, tNotM_ap, tYesM_ap, asB_bl, truA_b, Res.bind_ok, Res.bind_exc, Res.toS_ok, Res.toS_exc, Res.of_some, SRes.bind_nx, SRes.bind_rt, SRes.bind_exc, SRes.bind_ct, SRes.bind_bk, gN_ap, List.getElem?_cons_zero, List.getElem?_cons_succ, List.set_cons_zero, List.set_cons_succ, one1_ap, two2_ap, newL_f, newL_t, addOp_ii, subOp_ii, negOp_i, ltOp_ii, leOp_ii, gtOp_ii, geOp_ii, eqOp_ii, neOp_ii, eqOp_ss, neOp_ss, intA_i, intA_b, maxA_ii, minA_ii, lenA_lst, lenA_tup, lenA_slst, listA_lst, listA_tup, listA_slst, tupleA_lst, tupleA_tup, List.length_map, List.length_cons, List.length_nil, Bool.not_true, Bool.not_false, Bool.false_eq_true, if_true, if_false, Nat.zero_add, Nat.reduceAdd, mSeq_ap, seqR_lst, seqR_tup, seqR_slst, srcOf_lst, srcOf_tup, srcOf_slst, decide_true, decide_false, Int.reduceEq, Int.reduceNeg, eMake_ap, eMeth_ap, insA_obj, sFldM_ap, rangeA_i, ln, t1, t2, t3, s1, s2, ad]
    refine ⟨l2.map (·.2), ds3, ⟨by rw [List.length_map]; have := hsub.length_le; omega, fun x hx => ?_⟩, ?_⟩
    · obtain ⟨p, hp, rfl⟩ := List.mem_map.mp hx
      exact (hlow p (hsub.subset hp)).2.2
    · by_cases hne : l2 = []
      · refine fnM_rt rfl hb ?_
        rw [hne, tb_app]
        have := finA_set (rc := false) (st := st.set c (li ds)) (a := .lst []) (l := T.map cI ++ [.lst (cls st.length T.length)]) (c := c) (k := li ds3) (by simp [A.bel, belowL]) (by intro c h; cases h) (bel_ints _ _)
        rw [List.set_set] at this
        exact this
      · refine fnM_rt rfl hb ?_
        rw [fin_rowsL l2 (fun p hp => ⟨by rw [List.length_set]; exact (hlow p (hsub.subset hp)).1, (hlow p (hsub.subset hp)).2.1⟩) ((hsub.map _).nodup hnd) okS_tb hne, take_tb]
        show Res.ok (A.lst (l2.map fun p => lI p.2)) _ = Res.ok (A.lst ((l2.map (·.2)).map lI)) _
        rw [List.map_map]; rfl
  · obtain ⟨d4, ds4, p7, p8, t4⟩ := tkT (st := st) (c := c) (ds := ds3) (T := T) (n := T.length) hc (by omega)
    have ap := @appendM_li (tbS st c ds4 T) (st.length + d2.toNat) r d4 (rowc ds4) (by omega)
    have es : (tbS st c ds4 T).set (st.length + d2.toNat) (.lst ((r ++ [d4]).map A.int)) = tbS st c ds4 (T.set d2.toNat (r ++ [d4])) := tb_set (by omega)
    rw [es] at ap
    refine fin (T.set d2.toNat (r ++ [d4])) ds4 (tb_of_set tb0 (by simp; omega)) (by simp) ?_
    simp only [B__law_bent, sSeq_ap, sAsg_ap, lc, Res.toS_ok, gN_ap, List.set_cons_zero, List.set_cons_succ, SRes.bind_nx]
    simp only [sSeq_ap, sAsg_ap, sEx_ap, sRet_ap, sRetN_ap, sNil_ap, sIf_ap, sFor_ap, sSub_ap, sRaise_ap, mkWhat_ap, eVar_ap, eC_ap, eBin_ap, eUn_ap, eTup_ap, eLst_ap, eCB_ap, eCall_ap, eM_ap, eIf_ap, eAndV_ap, eOrV_ap, eNotV_ap, eChain_ap, eSl_ap, oNone_ap, oSome_ap, eXf_ap, aNil_ap, aCons_ap, tOf_ap, tTru_ap, tAndM_ap, tOrM_ap, tNotM_ap, tYesM_ap, asB_bl, truA_b, Res.bind_ok, Res.bind_exc, Res.toS_ok, Res.toS_exc, Res.of_some, SRes.bind_nx, SRes.bind_rt, SRes.bind_exc, SRes.bind_ct, SRes.bind_bk, gN_ap, List.getElem?_cons_zero, List.getElem?_cons_succ, List.set_cons_zero, List.set_cons_succ, one1_ap, two2_ap, newL_f, newL_t, addOp_ii, subOp_ii, negOp_i, ltOp_ii, leOp_ii, gtOp_ii, geOp_ii, eqOp_ii, neOp_ii, eqOp_ss, neOp_ss, intA_i, intA_b, maxA_ii, minA_ii, lenA_lst, lenA_tup, lenA_slst, listA_lst, listA_tup, listA_slst, tupleA_lst, tupleA_tup, List.length_map, List.length_cons, List.length_nil, Bool.not_true, Bool.not_false, Bool.false_eq_true, if_true, if_false, Nat.zero_add, Nat.reduceAdd, mSeq_ap, seqR_lst, seqR_tup, seqR_slst, srcOf_lst, srcOf_tup, srcOf_slst, decide_true, decide_false, Int.reduceEq, Int.reduceNeg, eMake_ap, eMeth_ap, insA_obj, sFldM_ap, rangeA_i, ln, t1, t2, t3, t4, i2, tvr, ap]
  · have hne : r ≠ [] := by intro e; rw [e] at hrl; simp at hrl; omega
    have hcr : (tbS st c ds3 T)[st.length + d2.toNat]? = some (.lst (r.dropLast.map A.int ++ [.int (r.getLast hne)])) := by
      rw [rowc ds3]
      conv => lhs; rw [← List.dropLast_concat_getLast hne]
      rw [cI, List.map_append]; rfl
    have po := popM_c hcr
    have es : (tbS st c ds3 T).set (st.length + d2.toNat) (.lst (r.dropLast.map A.int)) = tbS st c ds3 (T.set d2.toNat r.dropLast) := tb_set (by omega)
    rw [es] at po
    refine fin (T.set d2.toNat r.dropLast) ds3 (tb_of_set tb0 (by simp; omega)) (by simp) ?_
    simp only [B__law_bent, sSeq_ap, sAsg_ap, lc, Res.toS_ok, gN_ap, List.set_cons_zero, List.set_cons_succ, SRes.bind_nx]
    simp only [sSeq_ap, sAsg_ap, sEx_ap, sRet_ap, sRetN_ap, sNil_ap, sIf_ap, sFor_ap, sSub_ap, sRaise_ap, mkWhat_ap, eVar_ap, eC_ap, eBin_ap, eUn_ap, eTup_ap, eLst_ap, eCB_ap, eCall_ap, eM_ap, eIf_ap, eAndV_ap, eOrV_ap, eNotV_ap, eChain_ap, eSl_ap, oNone_ap, oSome_ap, eXf_ap, aNil_ap, aCons_ap, tOf_ap, tTru_ap, tAndM_ap, tOrM_ap, tNotM_ap, tYesM_ap, asB_bl, truA_b, Res.bind_ok, Res.bind_exc, Res.toS_ok, Res.toS_exc, Res.of_some, SRes.bind_nx, SRes.bind_rt, SRes.bind_exc, SRes.bind_ct, SRes.bind_bk, gN_ap, List.getElem?_cons_zero, List.getElem?_cons_succ, List.set_cons_zero, List.set_cons_succ, one1_ap, two2_ap, newL_f, newL_t, addOp_ii, subOp_ii, negOp_i, ltOp_ii, leOp_ii, gtOp_ii, geOp_ii, eqOp_ii, neOp_ii, eqOp_ss, neOp_ss, intA_i, intA_b, maxA_ii, minA_ii, lenA_lst, lenA_tup, lenA_slst, listA_lst, listA_tup, listA_slst, tupleA_lst, tupleA_tup, List.length_map, List.length_cons, List.length_nil, Bool.not_true, Bool.not_false, Bool.false_eq_true, if_true, if_false, Nat.zero_add, Nat.reduceAdd, mSeq_ap, seqR_lst, seqR_tup, seqR_slst, srcOf_lst, srcOf_tup, srcOf_slst, decide_true, decide_false, Int.reduceEq, Int.reduceNeg, eMake_ap, eMeth_ap, insA_obj, sFldM_ap, rangeA_i, ln, t1, t2, t3, i2, tvr, po]
  · obtain ⟨d4, ds4, p7, p8, t4⟩ := tkT (st := st) (c := c) (ds := ds3) (T := T) (n := 3) hc (by omega)
    obtain ⟨v, e1⟩ : ∃ v : Int, ∀ s, ixOp (.lst [.int (T.length : Nat), .int (-1), .int ((T.length : Nat) + 3)]) (.int d4) s = some (.int v, s) := by
      rcases (by omega : d4 = 0 ∨ d4 = 1 ∨ d4 = 2) with rfl | rfl | rfl
      · exact ⟨_, fun s => ixs (by omega) rfl⟩
      · exact ⟨_, fun s => ixs (by omega) rfl⟩
      · exact ⟨_, fun s => ixs (by omega) rfl⟩
    have se := @set_tb st c ds4 T d2 d3 v r p3 p4 hr1 p5 (by omega)
    refine fin (T.set d2.toNat (r.set d3.toNat v)) ds4 (tb_of_set tb0 (by simp; omega)) (by simp) ?_
    simp only [B__law_bent, sSeq_ap, sAsg_ap, lc, Res.toS_ok, gN_ap, List.set_cons_zero, List.set_cons_succ, SRes.bind_nx]
    simp only [sSeq_ap, sAsg_ap, sEx_ap, sRet_ap, sRetN_ap, sNil_ap, sIf_ap, sFor_ap, sSub_ap, sRaise_ap, mkWhat_ap, eVar_ap, eC_ap, eBin_ap, eUn_ap, eTup_ap, eLst_ap, eCB_ap, eCall_ap, eM_ap, eIf_ap, eAndV_ap, eOrV_ap, eNotV_ap, eChain_ap, eSl_ap, oNone_ap, oSome_ap, eXf_ap, aNil_ap, aCons_ap, tOf_ap, tTru_ap, tAndM_ap, tOrM_ap, tNotM_ap, tYesM_ap, asB_bl, truA_b, Res.bind_ok, Res.bind_exc, Res.toS_ok, Res.toS_exc, Res.of_some, SRes.bind_nx, SRes.bind_rt, SRes.bind_exc, SRes.bind_ct, SRes.bind_bk, gN_ap, List.getElem?_cons_zero, List.getElem?_cons_succ, List.set_cons_zero, List.set_cons_succ, one1_ap, two2_ap, newL_f, newL_t, addOp_ii, subOp_ii, negOp_i, ltOp_ii, leOp_ii, gtOp_ii, geOp_ii, eqOp_ii, neOp_ii, eqOp_ss, neOp_ss, intA_i, intA_b, maxA_ii, minA_ii, lenA_lst, lenA_tup, lenA_slst, listA_lst, listA_tup, listA_slst, tupleA_lst, tupleA_tup, List.length_map, List.length_cons, List.length_nil, Bool.not_true, Bool.not_false, Bool.false_eq_true, if_true, if_false, Nat.zero_add, Nat.reduceAdd, mSeq_ap, seqR_lst, seqR_tup, seqR_slst, srcOf_lst, srcOf_tup, srcOf_slst, decide_true, decide_false, Int.reduceEq, Int.reduceNeg, eMake_ap, eMeth_ap, insA_obj, sFldM_ap, rangeA_i, cls_len, ln, t1, t2, t3, t4, l3, e1, i2, se]
  · obtain ⟨e', s', hf, T', hT', hlen, rfl, x7, rfl⟩ := for_inv (all := (rg T.length).map A.int) (g := gN 7) (body := L2__law_bent) (xs := (rg T.length).map A.int) (fun i e s => ∃ T', Sq T' ∧ T'.length = T.length ∧ s = tbS st c ds3 T' ∧ ∃ x7, e = [some (.cell c), some (lL T), some (.cell (st.length + T.length)), some (.int (T.length : Nat)), some (.int 4), some (.int d2), some (.int d3), x7, none, none])
      (env := [some (.cell c), some (lL T), some (.cell (st.length + T.length)), some (.int (T.length : Nat)), some (.int 4), some (.int d2), some (.int d3), none, none, none]) (st := tbS st c ds3 T) ⟨T, ⟨h0, h9, hr⟩, rfl, rfl, none, rfl⟩ (by
      rintro i x e s hx ⟨T', hT', hlen, rfl, x7, rfl⟩
      obtain ⟨hi, rfl⟩ := rng_get hx
      refine ⟨_, rfl, ?_⟩
      obtain ⟨r', hq1, hq2⟩ := get_row (T := T') (k := (i : Int)) (by omega) (by omega)
      have hrl' := hT'.2.2 r' hq2
      have ii := @ix_tb st c ds3 T' (i : Int) (by omega) (by omega)
      rw [hlen] at ii
      have se := @set_tb st c ds3 T' (i : Int) d3 (i : Int) r' (by omega) (by omega) hq1 p5 (by omega)
      show NxP (L2__law_bent [some (.cell c), some (lL T), some (.cell (st.length + T.length)), some (.int (T.length : Nat)), some (.int 4), some (.int d2), some (.int d3), some (.int (i : Int)), none, none] _) _
      have hb : L2__law_bent [some (.cell c), some (lL T), some (.cell (st.length + T.length)), some (.int (T.length : Nat)), some (.int 4), some (.int d2), some (.int d3), some (.int (i : Int)), none, none] (tbS st c ds3 T') = .nx [some (.cell c), some (lL T), some (.cell (st.length + T.length)), some (.int (T.length : Nat)), some (.int 4), some (.int d2), some (.int d3), some (.int (i : Int)), none, none] (tbS st c ds3 (T'.set (i : Int).toNat (r'.set d3.toNat (i : Int)))) := by
        simp only [L2__law_bent, sSeq_ap, sAsg_ap, sEx_ap, sRet_ap, sRetN_ap, sNil_ap, sIf_ap, sFor_ap, sSub_ap, sRaise_ap, mkWhat_ap, eVar_ap, eC_ap, eBin_ap, eUn_ap, eTup_ap, eLst_ap, eCB_ap, eCall_ap, eM_ap, eIf_ap, eAndV_ap, eOrV_ap, eNotV_ap, eChain_ap, eSl_ap, oNone_ap, oSome_ap, eXf_ap, aNil_ap, aCons_ap, tOf_ap, tTru_ap, tAndM_ap, tOrM_ap, tNotM_ap, tYesM_ap, asB_bl, truA_b, Res.bind_ok, Res.bind_exc, Res.toS_ok, Res.toS_exc, Res.of_some, SRes.bind_nx, SRes.bind_rt, SRes.bind_exc, SRes.bind_ct, SRes.bind_bk, gN_ap, List.getElem?_cons_zero, List.getElem?_cons_succ, List.set_cons_zero, List.set_cons_succ, one1_ap, two2_ap, newL_f, newL_t, addOp_ii, subOp_ii, negOp_i, ltOp_ii, leOp_ii, gtOp_ii, geOp_ii, eqOp_ii, neOp_ii, eqOp_ss, neOp_ss, intA_i, intA_b, maxA_ii, minA_ii, lenA_lst, lenA_tup, lenA_slst, listA_lst, listA_tup, listA_slst, tupleA_lst, tupleA_tup, List.length_map, List.length_cons, List.length_nil, Bool.not_true, Bool.not_false, Bool.false_eq_true, if_true, if_false, Nat.zero_add, Nat.reduceAdd, mSeq_ap, seqR_lst, seqR_tup, seqR_slst, srcOf_lst, srcOf_tup, srcOf_slst, decide_true, decide_false, Int.reduceEq, Int.reduceNeg, eMake_ap, eMeth_ap, insA_obj, sFldM_ap, rangeA_i, sSub_ap, ii, se]
      rw [hb]
      exact ⟨_, sq_set hT' (by simpa using hrl'), by simpa using hlen, rfl, _, rfl⟩)
    have mi : mRng1 (aCons (eVar 3) aNil) [some (.cell c), some (lL T), some (.cell (st.length + T.length)), some (.int (T.length : Nat)), some (.int 4), some (.int d2), some (.int d3), none, none, none] (tbS st c ds3 T) = .ok ((rg T.length).map A.int, none) (tbS st c ds3 T) := mr (i := 3) rfl (by omega)
    refine fin T' ds3 (sq_tb hT') hlen ?_
    simp only [B__law_bent, sSeq_ap, sAsg_ap, lc, Res.toS_ok, gN_ap, List.set_cons_zero, List.set_cons_succ, SRes.bind_nx]
    simp only [sSeq_ap, sAsg_ap, sEx_ap, sRet_ap, sRetN_ap, sNil_ap, sIf_ap, sFor_ap, sSub_ap, sRaise_ap, mkWhat_ap, eVar_ap, eC_ap, eBin_ap, eUn_ap, eTup_ap, eLst_ap, eCB_ap, eCall_ap, eM_ap, eIf_ap, eAndV_ap, eOrV_ap, eNotV_ap, eChain_ap, eSl_ap, oNone_ap, oSome_ap, eXf_ap, aNil_ap, aCons_ap, tOf_ap, tTru_ap, tAndM_ap, tOrM_ap, tNotM_ap, tYesM_ap, asB_bl, truA_b, Res.bind_ok, Res.bind_exc, Res.toS_ok, Res.toS_exc, Res.of_some, SRes.bind_nx, SRes.bind_rt, SRes.bind_exc, SRes.bind_ct, SRes.bind_bk, gN_ap, List.getElem?_cons_zero, List.getElem?_cons_succ, List.set_cons_zero, List.set_cons_succ, one1_ap, two2_ap, newL_f, newL_t, addOp_ii, subOp_ii, negOp_i, ltOp_ii, leOp_ii, gtOp_ii, geOp_ii, eqOp_ii, neOp_ii, eqOp_ss, neOp_ss, intA_i, intA_b, maxA_ii, minA_ii, lenA_lst, lenA_tup, lenA_slst, listA_lst, listA_tup, listA_slst, tupleA_lst, tupleA_tup, List.length_map, List.length_cons, List.length_nil, Bool.not_true, Bool.not_false, Bool.false_eq_true, if_true, if_false, Nat.zero_add, Nat.reduceAdd, mSeq_ap, seqR_lst, seqR_tup, seqR_slst, srcOf_lst, srcOf_tup, srcOf_slst, decide_true, decide_false, Int.reduceEq, Int.reduceNeg, eMake_ap, eMeth_ap, insA_obj, sFldM_ap, rangeA_i, cls_len, ln, t1, t2, t3, mi, hf]
  · obtain ⟨d4, ds4, p7, p8, t4⟩ := tkT (st := st) (c := c) (ds := ds3) (T := T) (n := T.length) hc (by omega)
    have se := @set_tb st c ds4 T d2 d3 d4 r p3 p4 hr1 p5 (by omega)
    refine fin (T.set d2.toNat (r.set d3.toNat d4)) ds4 (tb_of_set tb0 (by simp; omega)) (by simp) ?_
    simp only [B__law_bent, sSeq_ap, sAsg_ap, lc, Res.toS_ok, gN_ap, List.set_cons_zero, List.set_cons_succ, SRes.bind_nx]
    simp only [sSeq_ap, sAsg_ap, sEx_ap, sRet_ap, sRetN_ap, sNil_ap, sIf_ap, sFor_ap, sSub_ap, sRaise_ap, mkWhat_ap, eVar_ap, eC_ap, eBin_ap, eUn_ap, eTup_ap, eLst_ap, eCB_ap, eCall_ap, eM_ap, eIf_ap, eAndV_ap, eOrV_ap, eNotV_ap, eChain_ap, eSl_ap, oNone_ap, oSome_ap, eXf_ap, aNil_ap, aCons_ap, tOf_ap, tTru_ap, tAndM_ap, tOrM_ap, tNotM_ap, tYesM_ap, asB_bl, truA_b, Res.bind_ok, Res.bind_exc, Res.toS_ok, Res.toS_exc, Res.of_some, SRes.bind_nx, SRes.bind_rt, SRes.bind_exc, SRes.bind_ct, SRes.bind_bk, gN_ap, List.getElem?_cons_zero, List.getElem?_cons_succ, List.set_cons_zero, List.set_cons_succ, one1_ap, two2_ap, newL_f, newL_t, addOp_ii, subOp_ii, negOp_i, ltOp_ii, leOp_ii, gtOp_ii, geOp_ii, eqOp_ii, neOp_ii, eqOp_ss, neOp_ss, intA_i, intA_b, maxA_ii, minA_ii, lenA_lst, lenA_tup, lenA_slst, listA_lst, listA_tup, listA_slst, tupleA_lst, tupleA_tup, List.length_map, List.length_cons, List.length_nil, Bool.not_true, Bool.not_false, Bool.false_eq_true, if_true, if_false, Nat.zero_add, Nat.reduceAdd, mSeq_ap, seqR_lst, seqR_tup, seqR_slst, srcOf_lst, srcOf_tup, srcOf_slst, decide_true, decide_false, Int.reduceEq, Int.reduceNeg, eMake_ap, eMeth_ap, insA_obj, sFldM_ap, rangeA_i, cls_len, ln, t1, t2, t3, t4, i2, se]
  · obtain ⟨d4, ds4, p7, p8, t4⟩ := tkT (st := st) (c := c) (ds := ds3) (T := T) (n := T.length) hc (by omega)
    obtain ⟨q, hq1, hq2⟩ := get_row p7 p8
    have hql := hr q hq2
    have i4 := @ix_tb st c ds4 T d4 p7 p8
    have j1 := @ix_li (tbS st c ds4 T) (st.length + d4.toNat) q d3 (tb_row hq1) p5 (by omega)
    have j2 := @ix_li (tbS st c ds4 T) (st.length + d2.toNat) r d3 (tb_row hr1) p5 (by omega)
    have se := @set_tb st c ds4 T d2 d3 (q.getD d3.toNat 0) r p3 p4 hr1 p5 (by omega)
    let T1 := T.set d2.toNat (r.set d3.toNat (q.getD d3.toNat 0))
    have hT1 : Sq T1 := sq_set ⟨h0, h9, hr⟩ (by simpa using hrl)
    have hl1 : T1.length = T.length := by simp [T1]
    obtain ⟨q', hq3, hq4⟩ := get_row (T := T1) p7 (by omega)
    have hql' := hT1.2.2 q' hq4
    have i5 := @ix_tb st c ds4 T1 d4 p7 (by omega)
    rw [hl1] at i5
    have se2 := @set_tb st c ds4 T1 d4 d3 (r.getD d3.toNat 0) q' p7 (by omega) hq3 p5 (by omega)
    refine fin (T1.set d4.toNat (q'.set d3.toNat (r.getD d3.toNat 0))) ds4 (sq_tb (sq_set hT1 (by simpa using hql'))) (by simpa using hl1) ?_
    simp only [B__law_bent, sSeq_ap, sAsg_ap, lc, Res.toS_ok, gN_ap, List.set_cons_zero, List.set_cons_succ, SRes.bind_nx]
    simp only [sSeq_ap, sAsg_ap, sEx_ap, sRet_ap, sRetN_ap, sNil_ap, sIf_ap, sFor_ap, sSub_ap, sRaise_ap, mkWhat_ap, eVar_ap, eC_ap, eBin_ap, eUn_ap, eTup_ap, eLst_ap, eCB_ap, eCall_ap, eM_ap, eIf_ap, eAndV_ap, eOrV_ap, eNotV_ap, eChain_ap, eSl_ap, oNone_ap, oSome_ap, eXf_ap, aNil_ap, aCons_ap, tOf_ap, tTru_ap, tAndM_ap, tOrM_ap, tNotM_ap, tYesM_ap, asB_bl, truA_b, Res.bind_ok, Res.bind_exc, Res.toS_ok, Res.toS_exc, Res.of_some, SRes.bind_nx, SRes.bind_rt, SRes.bind_exc, SRes.bind_ct, SRes.bind_bk, gN_ap, List.getElem?_cons_zero, List.getElem?_cons_succ, List.set_cons_zero, List.set_cons_succ, one1_ap, two2_ap, newL_f, newL_t, addOp_ii, subOp_ii, negOp_i, ltOp_ii, leOp_ii, gtOp_ii, geOp_ii, eqOp_ii, neOp_ii, eqOp_ss, neOp_ss, intA_i, intA_b, maxA_ii, minA_ii, lenA_lst, lenA_tup, lenA_slst, listA_lst, listA_tup, listA_slst, tupleA_lst, tupleA_tup, List.length_map, List.length_cons, List.length_nil, Bool.not_true, Bool.not_false, Bool.false_eq_true, if_true, if_false, Nat.zero_add, Nat.reduceAdd, mSeq_ap, seqR_lst, seqR_tup, seqR_slst, srcOf_lst, srcOf_tup, srcOf_slst, decide_true, decide_false, Int.reduceEq, Int.reduceNeg, eMake_ap, eMeth_ap, insA_obj, sFldM_ap, rangeA_i, sSub2_ap, cls_len, ln, t1, t2, t3, t4, i2, i4, j1, j2, se]
    simp only [T1] at i5 se2
    simp only [sSeq_ap, sAsg_ap, sEx_ap, sRet_ap, sRetN_ap, sNil_ap, sIf_ap, sFor_ap, sSub_ap, sRaise_ap, mkWhat_ap, eVar_ap, eC_ap, eBin_ap, eUn_ap, eTup_ap, eLst_ap, eCB_ap, eCall_ap, eM_ap, eIf_ap, eAndV_ap, eOrV_ap, eNotV_ap, eChain_ap, eSl_ap, oNone_ap, oSome_ap, eXf_ap, aNil_ap, aCons_ap, tOf_ap, tTru_ap, tAndM_ap, tOrM_ap, tNotM_ap, tYesM_ap, asB_bl, truA_b, Res.bind_ok, Res.bind_exc, Res.toS_ok, Res.toS_exc, Res.of_some, SRes.bind_nx, SRes.bind_rt, SRes.bind_exc, SRes.bind_ct, SRes.bind_bk, gN_ap, List.getElem?_cons_zero, List.getElem?_cons_succ, List.set_cons_zero, List.set_cons_succ, one1_ap, two2_ap, newL_f, newL_t, addOp_ii, subOp_ii, negOp_i, ltOp_ii, leOp_ii, gtOp_ii, geOp_ii, eqOp_ii, neOp_ii, eqOp_ss, neOp_ss, intA_i, intA_b, maxA_ii, minA_ii, lenA_lst, lenA_tup, lenA_slst, listA_lst, listA_tup, listA_slst, tupleA_lst, tupleA_tup, List.length_map, List.length_cons, List.length_nil, Bool.not_true, Bool.not_false, Bool.false_eq_true, if_true, if_false, Nat.zero_add, Nat.reduceAdd, mSeq_ap, seqR_lst, seqR_tup, seqR_slst, srcOf_lst, srcOf_tup, srcOf_slst, decide_true, decide_false, Int.reduceEq, Int.reduceNeg, eMake_ap, eMeth_ap, insA_obj, sFldM_ap, rangeA_i, i5, se2]; rfl
  · refine fin T ds3 tb0 rfl ?_
    simp only [B__law_bent, sSeq_ap, sAsg_ap, lc, Res.toS_ok, gN_ap, List.set_cons_zero, List.set_cons_succ, SRes.bind_nx]
    simp only [sSeq_ap, sAsg_ap, sEx_ap, sRet_ap, sRetN_ap, sNil_ap, sIf_ap, sFor_ap, sSub_ap, sRaise_ap, mkWhat_ap, eVar_ap, eC_ap, eBin_ap, eUn_ap, eTup_ap, eLst_ap, eCB_ap, eCall_ap, eM_ap, eIf_ap, eAndV_ap, eOrV_ap, eNotV_ap, eChain_ap, eSl_ap, oNone_ap, oSome_ap, eXf_ap, aNil_ap, aCons_ap, tOf_ap, tTru_ap, tAndM_ap, tOrM_ap, tNotM_ap, tYesM_ap, asB_bl, truA_b, Res.bind_ok, Res.bind_exc, Res.toS_ok, Res.toS_exc, Res.of_some, SRes.bind_nx, SRes.bind_rt, SRes.bind_exc, SRes.bind_ct, SRes.bind_bk, gN_ap, List.getElem?_cons_zero, List.getElem?_cons_succ, List.set_cons_zero, List.set_cons_succ, one1_ap, two2_ap, newL_f, newL_t, addOp_ii, subOp_ii, negOp_i, ltOp_ii, leOp_ii, gtOp_ii, geOp_ii, eqOp_ii, neOp_ii, eqOp_ss, neOp_ss, intA_i, intA_b, maxA_ii, minA_ii, lenA_lst, lenA_tup, lenA_slst, listA_lst, listA_tup, listA_slst, tupleA_lst, tupleA_tup, List.length_map, List.length_cons, List.length_nil, Bool.not_true, Bool.not_false, Bool.false_eq_true, if_true, if_false, Nat.zero_add, Nat.reduceAdd, mSeq_ap, seqR_lst, seqR_tup, seqR_slst, srcOf_lst, srcOf_tup, srcOf_slst, decide_true, decide_false, Int.reduceEq, Int.reduceNeg, eMake_ap, eMeth_ap, insA_obj, sFldM_ap, rangeA_i, cls_len, ln, t1, t2, t3]
end
end Gk53

set_option Elab.async false
set_option linter.all false
set_option maxRecDepth 100000
set_option maxHeartbeats 4000000
namespace Gk53
open PySem PySem.Spec L2 SL Q53
open PyProof.Rows hiding St
section
variable {st : Store}
theorem y_of {made : A} {ak : Int} {T : List (List Int)} (h : Y1__law_why [some made, some (.int ak), none, none] st = (outQ T st).toS [some made, some (.int ak), none, none] fun a st1 => .nx [some made, some (.int ak), none, some a] st1) : M__law_why [made, .int ak] st = .ok (toldA T) st := by
  refine why_of ?_
  rw [h]
  unfold outQ
  cases errT T <;> rfl
theorem why0 {wv : A} {R : List (Rw st)} {T : List (List Int)} (h : RwL st wv R) (hT : R.map Rw.l = T) (hl64 : T.length < 64) (hrl : ∀ r ∈ T, r.length ≤ 100) : M__law_why [wv, .int 0] st = .ok (toldA T) st := by
  have mk := make_sp h hT hl64 hrl
  refine y_of ?_
  simp only [Y1__law_why, sSeq_ap, sAsg_ap, sEx_ap, sRet_ap, sRetN_ap, sNil_ap, sIf_ap, sFor_ap, sSub_ap, sRaise_ap, mkWhat_ap, eVar_ap, eC_ap, eBin_ap, eUn_ap, eTup_ap, eLst_ap, eCB_ap, eCall_ap, eM_ap, eIf_ap, eAndV_ap, eOrV_ap, eNotV_ap, eChain_ap, eSl_ap, oNone_ap, oSome_ap, eXf_ap, aNil_ap, aCons_ap, tOf_ap, tTru_ap, tAndM_ap, tOrM_ap, tNotM_ap, tYesM_ap, asB_bl, truA_b, Res.bind_ok, Res.bind_exc, Res.toS_ok, Res.toS_exc, Res.of_some, SRes.bind_nx, SRes.bind_rt, SRes.bind_exc, SRes.bind_ct, SRes.bind_bk, gN_ap, List.getElem?_cons_zero, List.getElem?_cons_succ, List.set_cons_zero, List.set_cons_succ, one1_ap, two2_ap, newL_f, newL_t, addOp_ii, subOp_ii, negOp_i, ltOp_ii, leOp_ii, gtOp_ii, geOp_ii, eqOp_ii, neOp_ii, eqOp_ss, neOp_ss, intA_i, intA_b, maxA_ii, minA_ii, lenA_lst, lenA_tup, lenA_slst, listA_lst, listA_tup, listA_slst, tupleA_lst, tupleA_tup, List.length_map, List.length_cons, List.length_nil, Bool.not_true, Bool.not_false, Bool.false_eq_true, if_true, if_false, Nat.zero_add, Nat.reduceAdd, mSeq_ap, seqR_lst, seqR_tup, seqR_slst, srcOf_lst, srcOf_tup, srcOf_slst, decide_true, decide_false, Int.reduceEq, Int.reduceNeg, eMake_ap, eMeth_ap, insA_obj, sFldM_ap, rangeA_i, mk]
theorem why1 {n : Nat} {f : Int} (hn : n < 64) (h0 : 0 < n) (hf : f.natAbs < 1000) : M__law_why [.tup [.int n, .int f], .int 1] st = .ok (toldA (affL n f)) st := by
  have af := @affine_sp st n f hn h0 hf
  have i1 := @ixt st 0 [.int n, .int f] (.int n) (by omega) rfl
  have i2 := @ixt st 1 [.int n, .int f] (.int f) (by omega) rfl
  refine y_of ?_
  simp only [Y1__law_why, sSeq_ap, sAsg_ap, sEx_ap, sRet_ap, sRetN_ap, sNil_ap, sIf_ap, sFor_ap, sSub_ap, sRaise_ap, mkWhat_ap, eVar_ap, eC_ap, eBin_ap, eUn_ap, eTup_ap, eLst_ap, eCB_ap, eCall_ap, eM_ap, eIf_ap, eAndV_ap, eOrV_ap, eNotV_ap, eChain_ap, eSl_ap, oNone_ap, oSome_ap, eXf_ap, aNil_ap, aCons_ap, tOf_ap, tTru_ap, tAndM_ap, tOrM_ap, tNotM_ap, tYesM_ap, asB_bl, truA_b, Res.bind_ok, Res.bind_exc, Res.toS_ok, Res.toS_exc, Res.of_some, SRes.bind_nx, SRes.bind_rt, SRes.bind_exc, SRes.bind_ct, SRes.bind_bk, gN_ap, List.getElem?_cons_zero, List.getElem?_cons_succ, List.set_cons_zero, List.set_cons_succ, one1_ap, two2_ap, newL_f, newL_t, addOp_ii, subOp_ii, negOp_i, ltOp_ii, leOp_ii, gtOp_ii, geOp_ii, eqOp_ii, neOp_ii, eqOp_ss, neOp_ss, intA_i, intA_b, maxA_ii, minA_ii, lenA_lst, lenA_tup, lenA_slst, listA_lst, listA_tup, listA_slst, tupleA_lst, tupleA_tup, List.length_map, List.length_cons, List.length_nil, Bool.not_true, Bool.not_false, Bool.false_eq_true, if_true, if_false, Nat.zero_add, Nat.reduceAdd, mSeq_ap, seqR_lst, seqR_tup, seqR_slst, srcOf_lst, srcOf_tup, srcOf_slst, decide_true, decide_false, Int.reduceEq, Int.reduceNeg, eMake_ap, eMeth_ap, insA_obj, sFldM_ap, rangeA_i, i1, i2, af]
theorem why2 {n : Nat} (hn : n < 64) (h0 : 0 < n) : M__law_why [.int n, .int 2] st = .ok (toldA (affL n (-1))) st := by
  have af := @dihedral_sp st n hn h0
  refine y_of ?_
  simp only [Y1__law_why, sSeq_ap, sAsg_ap, sEx_ap, sRet_ap, sRetN_ap, sNil_ap, sIf_ap, sFor_ap, sSub_ap, sRaise_ap, mkWhat_ap, eVar_ap, eC_ap, eBin_ap, eUn_ap, eTup_ap, eLst_ap, eCB_ap, eCall_ap, eM_ap, eIf_ap, eAndV_ap, eOrV_ap, eNotV_ap, eChain_ap, eSl_ap, oNone_ap, oSome_ap, eXf_ap, aNil_ap, aCons_ap, tOf_ap, tTru_ap, tAndM_ap, tOrM_ap, tNotM_ap, tYesM_ap, asB_bl, truA_b, Res.bind_ok, Res.bind_exc, Res.toS_ok, Res.toS_exc, Res.of_some, SRes.bind_nx, SRes.bind_rt, SRes.bind_exc, SRes.bind_ct, SRes.bind_bk, gN_ap, List.getElem?_cons_zero, List.getElem?_cons_succ, List.set_cons_zero, List.set_cons_succ, one1_ap, two2_ap, newL_f, newL_t, addOp_ii, subOp_ii, negOp_i, ltOp_ii, leOp_ii, gtOp_ii, geOp_ii, eqOp_ii, neOp_ii, eqOp_ss, neOp_ss, intA_i, intA_b, maxA_ii, minA_ii, lenA_lst, lenA_tup, lenA_slst, listA_lst, listA_tup, listA_slst, tupleA_lst, tupleA_tup, List.length_map, List.length_cons, List.length_nil, Bool.not_true, Bool.not_false, Bool.false_eq_true, if_true, if_false, Nat.zero_add, Nat.reduceAdd, mSeq_ap, seqR_lst, seqR_tup, seqR_slst, srcOf_lst, srcOf_tup, srcOf_slst, decide_true, decide_false, Int.reduceEq, Int.reduceNeg, eMake_ap, eMeth_ap, insA_obj, sFldM_ap, rangeA_i, af]
theorem why3 {ms : List (List Int)} {m : Nat} (hm : m < 1000) (hl : ms.length < 64) (hn : ms.Nodup) (hp : ∀ p ∈ ms, perm m p) : M__law_why [.lst (ms.map ti), .int 3] st = .ok (toldA (tabQ ms m)) st := by
  have af := @conjT_sp st ms m hm hl hn hp
  refine y_of ?_
  simp only [Y1__law_why, sSeq_ap, sAsg_ap, sEx_ap, sRet_ap, sRetN_ap, sNil_ap, sIf_ap, sFor_ap, sSub_ap, sRaise_ap, mkWhat_ap, eVar_ap, eC_ap, eBin_ap, eUn_ap, eTup_ap, eLst_ap, eCB_ap, eCall_ap, eM_ap, eIf_ap, eAndV_ap, eOrV_ap, eNotV_ap, eChain_ap, eSl_ap, oNone_ap, oSome_ap, eXf_ap, aNil_ap, aCons_ap, tOf_ap, tTru_ap, tAndM_ap, tOrM_ap, tNotM_ap, tYesM_ap, asB_bl, truA_b, Res.bind_ok, Res.bind_exc, Res.toS_ok, Res.toS_exc, Res.of_some, SRes.bind_nx, SRes.bind_rt, SRes.bind_exc, SRes.bind_ct, SRes.bind_bk, gN_ap, List.getElem?_cons_zero, List.getElem?_cons_succ, List.set_cons_zero, List.set_cons_succ, one1_ap, two2_ap, newL_f, newL_t, addOp_ii, subOp_ii, negOp_i, ltOp_ii, leOp_ii, gtOp_ii, geOp_ii, eqOp_ii, neOp_ii, eqOp_ss, neOp_ss, intA_i, intA_b, maxA_ii, minA_ii, lenA_lst, lenA_tup, lenA_slst, listA_lst, listA_tup, listA_slst, tupleA_lst, tupleA_tup, List.length_map, List.length_cons, List.length_nil, Bool.not_true, Bool.not_false, Bool.false_eq_true, if_true, if_false, Nat.zero_add, Nat.reduceAdd, mSeq_ap, seqR_lst, seqR_tup, seqR_slst, srcOf_lst, srcOf_tup, srcOf_slst, decide_true, decide_false, Int.reduceEq, Int.reduceNeg, eMake_ap, eMeth_ap, insA_obj, sFldM_ap, rangeA_i, af]
theorem right_sp {made : A} {ak : Int} {T : List (List Int)} (hl64 : T.length < 64) (hrl : ∀ r ∈ T, r.length ≤ 100) (hw : M__law_why [made, .int ak] st = .ok (toldA T) st) : M__law_right [made, .int ak, lL T] st = .ok (.bl true) st := by
  have du := @due_sp st T hl64 hrl
  refine fnM_rt rfl (a := .bl true) (st' := st) ?_ fin_bl0
  show B__law_right [some made, some (.int ak), some (lL T), none, none] st = _
  cases he : errT T with
  | none =>
    have e1 : dueA T = .non := by unfold dueA; rw [he]
    have e2 : toldA T = qA T := by unfold toldA; rw [he]
    rw [e1] at du
    rw [e2] at hw
    have iq := @isq_sp st T he hl64
    have n1 : isNOp true .non .non st = some (.bl false, st) := rfl
    simp only [B__law_right, sSeq_ap, sAsg_ap, sEx_ap, sRet_ap, sRetN_ap, sNil_ap, sIf_ap, sFor_ap, sSub_ap, sRaise_ap, mkWhat_ap, eVar_ap, eC_ap, eBin_ap, eUn_ap, eTup_ap, eLst_ap, eCB_ap, eCall_ap, eM_ap, eIf_ap, eAndV_ap, eOrV_ap, eNotV_ap, eChain_ap, eSl_ap, oNone_ap, oSome_ap, eXf_ap, aNil_ap, aCons_ap, tOf_ap, tTru_ap, tAndM_ap, tOrM_ap, tNotM_ap, tYesM_ap, asB_bl, truA_b, Res.bind_ok, Res.bind_exc, Res.toS_ok, Res.toS_exc, Res.of_some, SRes.bind_nx, SRes.bind_rt, SRes.bind_exc, SRes.bind_ct, SRes.bind_bk, gN_ap, List.getElem?_cons_zero, List.getElem?_cons_succ, List.set_cons_zero, List.set_cons_succ, one1_ap, two2_ap, newL_f, newL_t, addOp_ii, subOp_ii, negOp_i, ltOp_ii, leOp_ii, gtOp_ii, geOp_ii, eqOp_ii, neOp_ii, eqOp_ss, neOp_ss, intA_i, intA_b, maxA_ii, minA_ii, lenA_lst, lenA_tup, lenA_slst, listA_lst, listA_tup, listA_slst, tupleA_lst, tupleA_tup, List.length_map, List.length_cons, List.length_nil, Bool.not_true, Bool.not_false, Bool.false_eq_true, if_true, if_false, Nat.zero_add, Nat.reduceAdd, mSeq_ap, seqR_lst, seqR_tup, seqR_slst, srcOf_lst, srcOf_tup, srcOf_slst, decide_true, decide_false, Int.reduceEq, Int.reduceNeg, eMake_ap, eMeth_ap, insA_obj, sFldM_ap, rangeA_i, du, hw, n1, iq]
  | some m =>
    have e1 : dueA T = .str m := by unfold dueA; rw [he]
    have e2 : toldA T = .str m := by unfold toldA; rw [he]
    rw [e1] at du
    rw [e2] at hw
    have n1 : isNOp true (.str m) .non st = some (.bl true, st) := rfl
    simp only [B__law_right, sSeq_ap, sAsg_ap, sEx_ap, sRet_ap, sRetN_ap, sNil_ap, sIf_ap, sFor_ap, sSub_ap, sRaise_ap, mkWhat_ap, eVar_ap, eC_ap, eBin_ap, eUn_ap, eTup_ap, eLst_ap, eCB_ap, eCall_ap, eM_ap, eIf_ap, eAndV_ap, eOrV_ap, eNotV_ap, eChain_ap, eSl_ap, oNone_ap, oSome_ap, eXf_ap, aNil_ap, aCons_ap, tOf_ap, tTru_ap, tAndM_ap, tOrM_ap, tNotM_ap, tYesM_ap, asB_bl, truA_b, Res.bind_ok, Res.bind_exc, Res.toS_ok, Res.toS_exc, Res.of_some, SRes.bind_nx, SRes.bind_rt, SRes.bind_exc, SRes.bind_ct, SRes.bind_bk, gN_ap, List.getElem?_cons_zero, List.getElem?_cons_succ, List.set_cons_zero, List.set_cons_succ, one1_ap, two2_ap, newL_f, newL_t, addOp_ii, subOp_ii, negOp_i, ltOp_ii, leOp_ii, gtOp_ii, geOp_ii, eqOp_ii, neOp_ii, eqOp_ss, neOp_ss, intA_i, intA_b, maxA_ii, minA_ii, lenA_lst, lenA_tup, lenA_slst, listA_lst, listA_tup, listA_slst, tupleA_lst, tupleA_tup, List.length_map, List.length_cons, List.length_nil, Bool.not_true, Bool.not_false, Bool.false_eq_true, if_true, if_false, Nat.zero_add, Nat.reduceAdd, mSeq_ap, seqR_lst, seqR_tup, seqR_slst, srcOf_lst, srcOf_tup, srcOf_slst, decide_true, decide_false, Int.reduceEq, Int.reduceNeg, eMake_ap, eMeth_ap, insA_obj, sFldM_ap, rangeA_i, du, hw, n1, decide_true]
theorem turn_sp {X : List C} {ds : List Int} {x0 x2 x3 x4 x5 x6 x7 x8 x9 : Option A} : ∃ X' ds' y6 y7 y8, L3_law [x0, some (.cell 0), x2, x3, x4, x5, x6, x7, x8, none] (li ds :: X) = .nx [x0, some (.cell 0), x2, x3, x4, x5, y6, y7, y8, none] (li ds' :: X') := by
  have hz := sz
  obtain ⟨T0, ds1, hS, t1⟩ := @table_sp (li [] :: X) 0 ds (by simp)
  have t1 : M__law_table [.cell 0] (li ds :: X) = .ok (lL T0) (li ds1 :: X) := t1
  obtain ⟨d2, ds2, p1, p2, t2⟩ := tk0 (st := li [] :: X) (c := 0) (ds := ds1) (n := 2) (by simp) (by omega)
  have t2 : M__law_take [.cell 0, .int 2] (li ds1 :: X) = .ok (.int d2) (li ds2 :: X) := t2
  -- the table
  have step : ∃ T ds3, Tb T ∧ ∀ k r, (∀ x6, x6 = some (lL T) → k [x0, some (.cell 0), x2, x3, x4, x5, x6, x7, x8, none] (li ds3 :: X) = r) → (sSeq (sAsg (gN 6) (eCall M__law_table (aCons (eVar 1) aNil)))
      (sSeq (sIf (tOf (eBin eqOp (eCall M__law_take (aCons (eVar 1) (aCons (eC (.int 2)) aNil))) (eC (.int 0)))) (sAsg (gN 6) (eCall M__law_bent (aCons (eVar 1) (aCons (eVar 6) aNil)))) sNil) k)) [x0, some (.cell 0), x2, x3, x4, x5, x6, x7, x8, none] (li ds :: X) = r := by
    by_cases h0 : d2 = 0
    · obtain ⟨T, ds3, hT, t3⟩ := @bent_sp (li [] :: X) 0 ds2 T0 (by simp) hS
      have t3 : M__law_bent [.cell 0, lL T0] (li ds2 :: X) = .ok (lL T) (li ds3 :: X) := t3
      refine ⟨T, ds3, hT, fun k r hk => ?_⟩
      have hk := hk _ rfl
      simp only [sSeq_ap, sAsg_ap, sEx_ap, sRet_ap, sRetN_ap, sNil_ap, sIf_ap, sFor_ap, sSub_ap, sRaise_ap, mkWhat_ap, eVar_ap, eC_ap, eBin_ap, eUn_ap, eTup_ap, eLst_ap, eCB_ap, eCall_ap, eM_ap, eIf_ap, eAndV_ap, eOrV_ap, eNotV_ap, eChain_ap, eSl_ap, oNone_ap, oSome_ap, eXf_ap, aNil_ap, aCons_ap, tOf_ap, tTru_ap, tAndM_ap, tOrM_ap, tNotM_ap, tYesM_ap, asB_bl, truA_b, Res.bind_ok, Res.bind_exc, Res.toS_ok, Res.toS_exc, Res.of_some, SRes.bind_nx, SRes.bind_rt, SRes.bind_exc, SRes.bind_ct, SRes.bind_bk, gN_ap, List.getElem?_cons_zero, List.getElem?_cons_succ, List.set_cons_zero, List.set_cons_succ, one1_ap, two2_ap, newL_f, newL_t, addOp_ii, subOp_ii, negOp_i, ltOp_ii, leOp_ii, gtOp_ii, geOp_ii, eqOp_ii, neOp_ii, eqOp_ss, neOp_ss, intA_i, intA_b, maxA_ii, minA_ii, lenA_lst, lenA_tup, lenA_slst, listA_lst, listA_tup, listA_slst, tupleA_lst, tupleA_tup, List.length_map, List.length_cons, List.length_nil, Bool.not_true, Bool.not_false, Bool.false_eq_true, if_true, if_false, Nat.zero_add, Nat.reduceAdd, mSeq_ap, seqR_lst, seqR_tup, seqR_slst, srcOf_lst, srcOf_tup, srcOf_slst, decide_true, decide_false, Int.reduceEq, Int.reduceNeg, eMake_ap, eMeth_ap, insA_obj, sFldM_ap, rangeA_i, t1, t2, decide_eq_true h0, t3, hk]
    · refine ⟨T0, ds2, sq_tb hS, fun k r hk => ?_⟩
      have hk := hk _ rfl
      simp only [sSeq_ap, sAsg_ap, sEx_ap, sRet_ap, sRetN_ap, sNil_ap, sIf_ap, sFor_ap, sSub_ap, sRaise_ap, mkWhat_ap, eVar_ap, eC_ap, eBin_ap, eUn_ap, eTup_ap, eLst_ap, eCB_ap, eCall_ap, eM_ap, eIf_ap, eAndV_ap, eOrV_ap, eNotV_ap, eChain_ap, eSl_ap, oNone_ap, oSome_ap, eXf_ap, aNil_ap, aCons_ap, tOf_ap, tTru_ap, tAndM_ap, tOrM_ap, tNotM_ap, tYesM_ap, asB_bl, truA_b, Res.bind_ok, Res.bind_exc, Res.toS_ok, Res.toS_exc, Res.of_some, SRes.bind_nx, SRes.bind_rt, SRes.bind_exc, SRes.bind_ct, SRes.bind_bk, gN_ap, List.getElem?_cons_zero, List.getElem?_cons_succ, List.set_cons_zero, List.set_cons_succ, one1_ap, two2_ap, newL_f, newL_t, addOp_ii, subOp_ii, negOp_i, ltOp_ii, leOp_ii, gtOp_ii, geOp_ii, eqOp_ii, neOp_ii, eqOp_ss, neOp_ss, intA_i, intA_b, maxA_ii, minA_ii, lenA_lst, lenA_tup, lenA_slst, listA_lst, listA_tup, listA_slst, tupleA_lst, tupleA_tup, List.length_map, List.length_cons, List.length_nil, Bool.not_true, Bool.not_false, Bool.false_eq_true, if_true, if_false, Nat.zero_add, Nat.reduceAdd, mSeq_ap, seqR_lst, seqR_tup, seqR_slst, srcOf_lst, srcOf_tup, srcOf_slst, decide_true, decide_false, Int.reduceEq, Int.reduceNeg, eMake_ap, eMeth_ap, insA_obj, sFldM_ap, rangeA_i, t1, t2, decide_eq_false h0, hk]
  obtain ⟨T, ds3, ⟨hl10, hr10⟩, step⟩ := step
  have lc := lcRowsT (i := 9) (own := [9]) (ma := e1_law) (env := [x0, some (.cell 0), x2, x3, x4, x5, some (lL T), x7, x8, none]) (S := li ds3 :: X) (T := T) (mi := mSeq (eVar 6)) (by simp only [sSeq_ap, sAsg_ap, sEx_ap, sRet_ap, sRetN_ap, sNil_ap, sIf_ap, sFor_ap, sSub_ap, sRaise_ap, mkWhat_ap, eVar_ap, eC_ap, eBin_ap, eUn_ap, eTup_ap, eLst_ap, eCB_ap, eCall_ap, eM_ap, eIf_ap, eAndV_ap, eOrV_ap, eNotV_ap, eChain_ap, eSl_ap, oNone_ap, oSome_ap, eXf_ap, aNil_ap, aCons_ap, tOf_ap, tTru_ap, tAndM_ap, tOrM_ap, tNotM_ap, tYesM_ap, asB_bl, truA_b, Res.bind_ok, Res.bind_exc, Res.toS_ok, Res.toS_exc, Res.of_some, SRes.bind_nx, SRes.bind_rt, SRes.bind_exc, SRes.bind_ct, SRes.bind_bk, gN_ap, List.getElem?_cons_zero, List.getElem?_cons_succ, List.set_cons_zero, List.set_cons_succ, one1_ap, two2_ap, newL_f, newL_t, addOp_ii, subOp_ii, negOp_i, ltOp_ii, leOp_ii, gtOp_ii, geOp_ii, eqOp_ii, neOp_ii, eqOp_ss, neOp_ss, intA_i, intA_b, maxA_ii, minA_ii, lenA_lst, lenA_tup, lenA_slst, listA_lst, listA_tup, listA_slst, tupleA_lst, tupleA_tup, List.length_map, List.length_cons, List.length_nil, Bool.not_true, Bool.not_false, Bool.false_eq_true, if_true, if_false, Nat.zero_add, Nat.reduceAdd, mSeq_ap, seqR_lst, seqR_tup, seqR_slst, srcOf_lst, srcOf_tup, srcOf_slst, decide_true, decide_false, Int.reduceEq, Int.reduceNeg, eMake_ap, eMeth_ap, insA_obj, sFldM_ap, rangeA_i]) (by omega) (fun r hr s => by
    show e1_law [x0, some (.cell 0), x2, x3, x4, x5, some (lL T), x7, x8, some (lI r)] s = _
    simp only [e1_law, sSeq_ap, sAsg_ap, sEx_ap, sRet_ap, sRetN_ap, sNil_ap, sIf_ap, sFor_ap, sSub_ap, sRaise_ap, mkWhat_ap, eVar_ap, eC_ap, eBin_ap, eUn_ap, eTup_ap, eLst_ap, eCB_ap, eCall_ap, eM_ap, eIf_ap, eAndV_ap, eOrV_ap, eNotV_ap, eChain_ap, eSl_ap, oNone_ap, oSome_ap, eXf_ap, aNil_ap, aCons_ap, tOf_ap, tTru_ap, tAndM_ap, tOrM_ap, tNotM_ap, tYesM_ap, asB_bl, truA_b, Res.bind_ok, Res.bind_exc, Res.toS_ok, Res.toS_exc, Res.of_some, SRes.bind_nx, SRes.bind_rt, SRes.bind_exc, SRes.bind_ct, SRes.bind_bk, gN_ap, List.getElem?_cons_zero, List.getElem?_cons_succ, List.set_cons_zero, List.set_cons_succ, one1_ap, two2_ap, newL_f, newL_t, addOp_ii, subOp_ii, negOp_i, ltOp_ii, leOp_ii, gtOp_ii, geOp_ii, eqOp_ii, neOp_ii, eqOp_ss, neOp_ss, intA_i, intA_b, maxA_ii, minA_ii, lenA_lst, lenA_tup, lenA_slst, listA_lst, listA_tup, listA_slst, tupleA_lst, tupleA_tup, List.length_map, List.length_cons, List.length_nil, Bool.not_true, Bool.not_false, Bool.false_eq_true, if_true, if_false, Nat.zero_add, Nat.reduceAdd, mSeq_ap, seqR_lst, seqR_tup, seqR_slst, srcOf_lst, srcOf_tup, srcOf_slst, decide_true, decide_false, Int.reduceEq, Int.reduceNeg, eMake_ap, eMeth_ap, insA_obj, sFldM_ap, rangeA_i])
  let N := (li ds3 :: X).length + T.length
  have hrows : ∀ (k : Nat) (r : List Int), T[k]? = some r → (tabS (li ds3 :: X) T [])[(li ds3 :: X).length + k]? = some (cI r) := fun k r h => tabS_row h
  have rw1 : RwL (tabS (li ds3 :: X) T []) (.cell N) (rwsT T (li ds3 :: X).length hrows) := by
    unfold RwL
    rw [rwsT_v]
    exact seqR_cell tabS_top
  have w0 := why0 rw1 (rwsT_l _ _ _) (by omega) (fun r hr => by have := hr10 r hr; omega)
  have du := fun s => @due_sp s T (by omega) (fun r hr => by have := hr10 r hr; omega)
  have ln : lenA (.cell N) (tabS (li ds3 :: X) T []) = some (.int (T.length : Nat), tabS (li ds3 :: X) T []) := by
    have := lenA_cell (@tabS_top (li ds3 :: X) T [])
    rw [cls_len] at this
    exact this
  let M := (li ds3 :: X).length + 0
  have lc2 := fun s x7 x8 => lcG (f := lI) (emb := lI) (i := 9) (own := [9]) (ma := e2_law) (env := [x0, some (.cell 0), x2, x3, x4, x5, some (lL T), x7, x8, none]) (st := s) (mi := mSeq (eVar 6)) (xs := T) (src := none) (by simp only [sSeq_ap, sAsg_ap, sEx_ap, sRet_ap, sRetN_ap, sNil_ap, sIf_ap, sFor_ap, sSub_ap, sRaise_ap, mkWhat_ap, eVar_ap, eC_ap, eBin_ap, eUn_ap, eTup_ap, eLst_ap, eCB_ap, eCall_ap, eM_ap, eIf_ap, eAndV_ap, eOrV_ap, eNotV_ap, eChain_ap, eSl_ap, oNone_ap, oSome_ap, eXf_ap, aNil_ap, aCons_ap, tOf_ap, tTru_ap, tAndM_ap, tOrM_ap, tNotM_ap, tYesM_ap, asB_bl, truA_b, Res.bind_ok, Res.bind_exc, Res.toS_ok, Res.toS_exc, Res.of_some, SRes.bind_nx, SRes.bind_rt, SRes.bind_exc, SRes.bind_ct, SRes.bind_bk, gN_ap, List.getElem?_cons_zero, List.getElem?_cons_succ, List.set_cons_zero, List.set_cons_succ, one1_ap, two2_ap, newL_f, newL_t, addOp_ii, subOp_ii, negOp_i, ltOp_ii, leOp_ii, gtOp_ii, geOp_ii, eqOp_ii, neOp_ii, eqOp_ss, neOp_ss, intA_i, intA_b, maxA_ii, minA_ii, lenA_lst, lenA_tup, lenA_slst, listA_lst, listA_tup, listA_slst, tupleA_lst, tupleA_tup, List.length_map, List.length_cons, List.length_nil, Bool.not_true, Bool.not_false, Bool.false_eq_true, if_true, if_false, Nat.zero_add, Nat.reduceAdd, mSeq_ap, seqR_lst, seqR_tup, seqR_slst, srcOf_lst, srcOf_tup, srcOf_slst, decide_true, decide_false, Int.reduceEq, Int.reduceNeg, eMake_ap, eMeth_ap, insA_obj, sFldM_ap, rangeA_i]) trivial (by omega) (fun r hr => by
    show e2_law [x0, some (.cell 0), x2, x3, x4, x5, some (lL T), x7, x8, some (lI r)] s = _
    simp only [e2_law, sSeq_ap, sAsg_ap, sEx_ap, sRet_ap, sRetN_ap, sNil_ap, sIf_ap, sFor_ap, sSub_ap, sRaise_ap, mkWhat_ap, eVar_ap, eC_ap, eBin_ap, eUn_ap, eTup_ap, eLst_ap, eCB_ap, eCall_ap, eM_ap, eIf_ap, eAndV_ap, eOrV_ap, eNotV_ap, eChain_ap, eSl_ap, oNone_ap, oSome_ap, eXf_ap, aNil_ap, aCons_ap, tOf_ap, tTru_ap, tAndM_ap, tOrM_ap, tNotM_ap, tYesM_ap, asB_bl, truA_b, Res.bind_ok, Res.bind_exc, Res.toS_ok, Res.toS_exc, Res.of_some, SRes.bind_nx, SRes.bind_rt, SRes.bind_exc, SRes.bind_ct, SRes.bind_bk, gN_ap, List.getElem?_cons_zero, List.getElem?_cons_succ, List.set_cons_zero, List.set_cons_succ, one1_ap, two2_ap, newL_f, newL_t, addOp_ii, subOp_ii, negOp_i, ltOp_ii, leOp_ii, gtOp_ii, geOp_ii, eqOp_ii, neOp_ii, eqOp_ss, neOp_ss, intA_i, intA_b, maxA_ii, minA_ii, lenA_lst, lenA_tup, lenA_slst, listA_lst, listA_tup, listA_slst, tupleA_lst, tupleA_tup, List.length_map, List.length_cons, List.length_nil, Bool.not_true, Bool.not_false, Bool.false_eq_true, if_true, if_false, Nat.zero_add, Nat.reduceAdd, mSeq_ap, seqR_lst, seqR_tup, seqR_slst, srcOf_lst, srcOf_tup, srcOf_slst, decide_true, decide_false, Int.reduceEq, Int.reduceNeg, eMake_ap, eMeth_ap, insA_obj, sFldM_ap, rangeA_i])
  have ri := fun s => @right_sp s (lL T) 0 T (by omega) (fun r hr => by have := hr10 r hr; omega) (why0 (R := T.map (Rw.of s)) rwL_lL rw_of_l (by omega) (fun r hr => by have := hr10 r hr; omega))
  -- the list that was passed is written
  obtain ⟨s2, X', hs2, wr⟩ : ∃ s2 X', s2 = li ds3 :: X' ∧ ∀ x8, (sIf (tAndM (tOf (eBin gtOp (eCB (one1 lenA) (aCons (eVar 7) aNil)) (eC (.int 0)))) (tOf (eBin gtOp (eCB (one1 lenA) (aCons (eBin ixOp (eVar 7) (eC (.int 0))) aNil)) (eC (.int 0))))) (sSub setL (eC (.int 5)) (eBin ixOp (eVar 7) (eC (.int 0))) (eC (.int 0))) sNil) [x0, some (.cell 0), x2, x3, x4, x5, some (lL T), some (.cell N), x8, none] (tabS (li ds3 :: X) T []) = .nx [x0, some (.cell 0), x2, x3, x4, x5, some (lL T), some (.cell N), x8, none] s2 := by
    by_cases h0 : (0 : Int) < (T.length : Nat)
    · have hT0 : T[0]? = some (T[0]'(by omega)) := List.getElem?_eq_getElem (by omega)
      have hc : (tabS (li ds3 :: X) T [])[M]? = some (cI (T[0]'(by omega))) := hrows 0 _ hT0
      have i1 : ixOp (.cell N) (.int 0) (tabS (li ds3 :: X) T []) = some (.cell M, tabS (li ds3 :: X) T []) := ixOp_at (seqR_cell tabS_top) (atI_of (by omega) (cls_get (by omega)))
      have l1 := lenA_cell hc
      by_cases h1 : (0 : Int) < ((T[0]'(by omega)).length : Nat)
      · have se := @setL_li _ _ (T[0]'(by omega)) 0 5 hc (by omega) (by omega)
        have es : (tabS (li ds3 :: X) T []).set M (.lst (((T[0]'(by omega)).set (0 : Int).toNat 5).map A.int)) = tabS (li ds3 :: X) (T.set 0 ((T[0]'(by omega)).set (0 : Int).toNat 5)) [] := tabS_set (by omega)
        rw [es] at se
        refine ⟨tabS (li ds3 :: X) (T.set 0 ((T[0]'(by omega)).set (0 : Int).toNat 5)) [], X ++ (T.set 0 ((T[0]'(by omega)).set (0 : Int).toNat 5)).map cI ++ .lst (cls (li ds3 :: X).length (T.set 0 ((T[0]'(by omega)).set (0 : Int).toNat 5)).length) :: [], rfl, fun x8 => ?_⟩
        simp only [sSeq_ap, sAsg_ap, sEx_ap, sRet_ap, sRetN_ap, sNil_ap, sIf_ap, sFor_ap, sSub_ap, sRaise_ap, mkWhat_ap, eVar_ap, eC_ap, eBin_ap, eUn_ap, eTup_ap, eLst_ap, eCB_ap, eCall_ap, eM_ap, eIf_ap, eAndV_ap, eOrV_ap, eNotV_ap, eChain_ap, eSl_ap, oNone_ap, oSome_ap, eXf_ap, aNil_ap, aCons_ap, tOf_ap, tTru_ap, tAndM_ap, tOrM_ap, tNotM_ap, tYesM_ap, asB_bl, truA_b, Res.bind_ok, Res.bind_exc, Res.toS_ok, Res.toS_exc, Res.of_some, SRes.bind_nx, SRes.bind_rt, SRes.bind_exc, SRes.bind_ct, SRes.bind_bk, gN_ap, List.getElem?_cons_zero, List.getElem?_cons_succ, List.set_cons_zero, List.set_cons_succ, one1_ap, two2_ap, newL_f, newL_t, addOp_ii, subOp_ii, negOp_i, ltOp_ii, leOp_ii, gtOp_ii, geOp_ii, eqOp_ii, neOp_ii, eqOp_ss, neOp_ss, intA_i, intA_b, maxA_ii, minA_ii, lenA_lst, lenA_tup, lenA_slst, listA_lst, listA_tup, listA_slst, tupleA_lst, tupleA_tup, List.length_map, List.length_cons, List.length_nil, Bool.not_true, Bool.not_false, Bool.false_eq_true, if_true, if_false, Nat.zero_add, Nat.reduceAdd, mSeq_ap, seqR_lst, seqR_tup, seqR_slst, srcOf_lst, srcOf_tup, srcOf_slst, decide_true, decide_false, Int.reduceEq, Int.reduceNeg, eMake_ap, eMeth_ap, insA_obj, sFldM_ap, rangeA_i, ln, decide_eq_true h0, i1, l1, decide_eq_true h1, se]
      · refine ⟨tabS (li ds3 :: X) T [], X ++ T.map cI ++ .lst (cls (li ds3 :: X).length T.length) :: [], rfl, fun x8 => ?_⟩
        simp only [sSeq_ap, sAsg_ap, sEx_ap, sRet_ap, sRetN_ap, sNil_ap, sIf_ap, sFor_ap, sSub_ap, sRaise_ap, mkWhat_ap, eVar_ap, eC_ap, eBin_ap, eUn_ap, eTup_ap, eLst_ap, eCB_ap, eCall_ap, eM_ap, eIf_ap, eAndV_ap, eOrV_ap, eNotV_ap, eChain_ap, eSl_ap, oNone_ap, oSome_ap, eXf_ap, aNil_ap, aCons_ap, tOf_ap, tTru_ap, tAndM_ap, tOrM_ap, tNotM_ap, tYesM_ap, asB_bl, truA_b, Res.bind_ok, Res.bind_exc, Res.toS_ok, Res.toS_exc, Res.of_some, SRes.bind_nx, SRes.bind_rt, SRes.bind_exc, SRes.bind_ct, SRes.bind_bk, gN_ap, List.getElem?_cons_zero, List.getElem?_cons_succ, List.set_cons_zero, List.set_cons_succ, one1_ap, two2_ap, newL_f, newL_t, addOp_ii, subOp_ii, negOp_i, ltOp_ii, leOp_ii, gtOp_ii, geOp_ii, eqOp_ii, neOp_ii, eqOp_ss, neOp_ss, intA_i, intA_b, maxA_ii, minA_ii, lenA_lst, lenA_tup, lenA_slst, listA_lst, listA_tup, listA_slst, tupleA_lst, tupleA_tup, List.length_map, List.length_cons, List.length_nil, Bool.not_true, Bool.not_false, Bool.false_eq_true, if_true, if_false, Nat.zero_add, Nat.reduceAdd, mSeq_ap, seqR_lst, seqR_tup, seqR_slst, srcOf_lst, srcOf_tup, srcOf_slst, decide_true, decide_false, Int.reduceEq, Int.reduceNeg, eMake_ap, eMeth_ap, insA_obj, sFldM_ap, rangeA_i, ln, decide_eq_true h0, i1, l1, decide_eq_false h1]
    · refine ⟨tabS (li ds3 :: X) T [], X ++ T.map cI ++ .lst (cls (li ds3 :: X).length T.length) :: [], rfl, fun x8 => ?_⟩
      simp only [sSeq_ap, sAsg_ap, sEx_ap, sRet_ap, sRetN_ap, sNil_ap, sIf_ap, sFor_ap, sSub_ap, sRaise_ap, mkWhat_ap, eVar_ap, eC_ap, eBin_ap, eUn_ap, eTup_ap, eLst_ap, eCB_ap, eCall_ap, eM_ap, eIf_ap, eAndV_ap, eOrV_ap, eNotV_ap, eChain_ap, eSl_ap, oNone_ap, oSome_ap, eXf_ap, aNil_ap, aCons_ap, tOf_ap, tTru_ap, tAndM_ap, tOrM_ap, tNotM_ap, tYesM_ap, asB_bl, truA_b, Res.bind_ok, Res.bind_exc, Res.toS_ok, Res.toS_exc, Res.of_some, SRes.bind_nx, SRes.bind_rt, SRes.bind_exc, SRes.bind_ct, SRes.bind_bk, gN_ap, List.getElem?_cons_zero, List.getElem?_cons_succ, List.set_cons_zero, List.set_cons_succ, one1_ap, two2_ap, newL_f, newL_t, addOp_ii, subOp_ii, negOp_i, ltOp_ii, leOp_ii, gtOp_ii, geOp_ii, eqOp_ii, neOp_ii, eqOp_ss, neOp_ss, intA_i, intA_b, maxA_ii, minA_ii, lenA_lst, lenA_tup, lenA_slst, listA_lst, listA_tup, listA_slst, tupleA_lst, tupleA_tup, List.length_map, List.length_cons, List.length_nil, Bool.not_true, Bool.not_false, Bool.false_eq_true, if_true, if_false, Nat.zero_add, Nat.reduceAdd, mSeq_ap, seqR_lst, seqR_tup, seqR_slst, srcOf_lst, srcOf_tup, srcOf_slst, decide_true, decide_false, Int.reduceEq, Int.reduceNeg, eMake_ap, eMeth_ap, insA_obj, sFldM_ap, rangeA_i, ln, decide_eq_false h0]
  subst hs2
  refine ⟨X', ds3, some (lL T), some (.cell N), some (toldA T), step _ _ fun x6 h6 => ?_⟩
  subst h6
  have w0 : M__law_why [.cell N, .int 0] (tabS (li ds3 :: X) T []) = .ok (toldA T) (tabS (li ds3 :: X) T []) := w0
  have lc : eLc true (mSeq (eVar 6)) (gN 9) [9] tYesM e1_law [x0, some (.cell 0), x2, x3, x4, x5, some (lL T), x7, x8, none] (li ds3 :: X) = .ok (.cell N) (tabS (li ds3 :: X) T []) := lc
  simp only [sSeq_ap, sAsg_ap, lc, Res.toS_ok, gN_ap, List.set_cons_zero, List.set_cons_succ, SRes.bind_nx, eCall_ap, aCons_ap, eVar_ap, eC_ap, aNil_ap, List.getElem?_cons_zero, List.getElem?_cons_succ, Res.bind_ok, w0, wr]
  have lq : M__law_right [lL T, .int 0, lL T] (li ds3 :: X') = .ok (.bl true) (li ds3 :: X') := ri _
  have lc3 := fun x7 x8 => lc2 (li ds3 :: X') x7 x8
  cases he : errT T with
  | none =>
    have e1 : dueA T = .non := by unfold dueA; rw [he]
    have e2 : toldA T = qA T := by unfold toldA; rw [he]
    have du := du (li ds3 :: X')
    rw [e1] at du
    rw [e2]
    have iq := @isq_sp (li ds3 :: X') T he (by omega)
    have n1 : isNOp false .non .non (li ds3 :: X') = some (.bl true, li ds3 :: X') := rfl
    simp only [lc3, sSeq_ap, sAsg_ap, sEx_ap, sRet_ap, sRetN_ap, sNil_ap, sIf_ap, sFor_ap, sSub_ap, sRaise_ap, mkWhat_ap, eVar_ap, eC_ap, eBin_ap, eUn_ap, eTup_ap, eLst_ap, eCB_ap, eCall_ap, eM_ap, eIf_ap, eAndV_ap, eOrV_ap, eNotV_ap, eChain_ap, eSl_ap, oNone_ap, oSome_ap, eXf_ap, aNil_ap, aCons_ap, tOf_ap, tTru_ap, tAndM_ap, tOrM_ap, tNotM_ap, tYesM_ap, asB_bl, truA_b, Res.bind_ok, Res.bind_exc, Res.toS_ok, Res.toS_exc, Res.of_some, SRes.bind_nx, SRes.bind_rt, SRes.bind_exc, SRes.bind_ct, SRes.bind_bk, gN_ap, List.getElem?_cons_zero, List.getElem?_cons_succ, List.set_cons_zero, List.set_cons_succ, one1_ap, two2_ap, newL_f, newL_t, addOp_ii, subOp_ii, negOp_i, ltOp_ii, leOp_ii, gtOp_ii, geOp_ii, eqOp_ii, neOp_ii, eqOp_ss, neOp_ss, intA_i, intA_b, maxA_ii, minA_ii, lenA_lst, lenA_tup, lenA_slst, listA_lst, listA_tup, listA_slst, tupleA_lst, tupleA_tup, List.length_map, List.length_cons, List.length_nil, Bool.not_true, Bool.not_false, Bool.false_eq_true, if_true, if_false, Nat.zero_add, Nat.reduceAdd, mSeq_ap, seqR_lst, seqR_tup, seqR_slst, srcOf_lst, srcOf_tup, srcOf_slst, decide_true, decide_false, Int.reduceEq, Int.reduceNeg, eMake_ap, eMeth_ap, insA_obj, sFldM_ap, rangeA_i, du, n1, iq, lq]
  | some m =>
    have e1 : dueA T = .str m := by unfold dueA; rw [he]
    have du := du (li ds3 :: X')
    rw [e1] at du
    have n1 : isNOp false (.str m) .non (li ds3 :: X') = some (.bl false, li ds3 :: X') := rfl
    simp only [lc3, sSeq_ap, sAsg_ap, sEx_ap, sRet_ap, sRetN_ap, sNil_ap, sIf_ap, sFor_ap, sSub_ap, sRaise_ap, mkWhat_ap, eVar_ap, eC_ap, eBin_ap, eUn_ap, eTup_ap, eLst_ap, eCB_ap, eCall_ap, eM_ap, eIf_ap, eAndV_ap, eOrV_ap, eNotV_ap, eChain_ap, eSl_ap, oNone_ap, oSome_ap, eXf_ap, aNil_ap, aCons_ap, tOf_ap, tTru_ap, tAndM_ap, tOrM_ap, tNotM_ap, tYesM_ap, asB_bl, truA_b, Res.bind_ok, Res.bind_exc, Res.toS_ok, Res.toS_exc, Res.of_some, SRes.bind_nx, SRes.bind_rt, SRes.bind_exc, SRes.bind_ct, SRes.bind_bk, gN_ap, List.getElem?_cons_zero, List.getElem?_cons_succ, List.set_cons_zero, List.set_cons_succ, one1_ap, two2_ap, newL_f, newL_t, addOp_ii, subOp_ii, negOp_i, ltOp_ii, leOp_ii, gtOp_ii, geOp_ii, eqOp_ii, neOp_ii, eqOp_ss, neOp_ss, intA_i, intA_b, maxA_ii, minA_ii, lenA_lst, lenA_tup, lenA_slst, listA_lst, listA_tup, listA_slst, tupleA_lst, tupleA_tup, List.length_map, List.length_cons, List.length_nil, Bool.not_true, Bool.not_false, Bool.false_eq_true, if_true, if_false, Nat.zero_add, Nat.reduceAdd, mSeq_ap, seqR_lst, seqR_tup, seqR_slst, srcOf_lst, srcOf_tup, srcOf_slst, decide_true, decide_false, Int.reduceEq, Int.reduceNeg, eMake_ap, eMeth_ap, insA_obj, sFldM_ap, rangeA_i, du, n1, lq]
theorem hlaw : ∀ ns : List Int, ns.length ≤ 63 → ∃ st, M_law [.slst (ns.map A.int)] [] = .ok (.bl true) st := by
  intro ns hns
  have hz := sz
  have l2 : (2 : Nat) ≤ sizeLine := by omega
  have l0 : (0 : Nat) ≤ sizeLine := by omega
  obtain ⟨ds0, -, hd⟩ := deck_spec hns 50 14 (by omega) (by omega)
  have hd : M__law_deck [.slst (ns.map A.int), .int 50, .int 14] [] = .ok (.cell 0) [li ds0] := hd
  obtain ⟨e', s', hf, X, ds1, rfl, x2, x6, x7, x8, rfl⟩ := for_inv (all := (rg 3).map A.int) (g := gN 2) (body := L3_law) (xs := (rg 3).map A.int) (fun i e s => ∃ X ds, s = li ds :: X ∧ ∃ x2 x6 x7 x8, e = [some (.slst (ns.map A.int)), some (.cell 0), x2, none, none, none, x6, x7, x8, none])
    (env := [some (.slst (ns.map A.int)), some (.cell 0), none, none, none, none, none, none, none, none]) (st := [li ds0]) ⟨[], ds0, rfl, none, none, none, none, rfl⟩ (by
    rintro i x e s hx ⟨X, ds, rfl, x2, x6, x7, x8, rfl⟩
    refine ⟨_, rfl, ?_⟩
    obtain ⟨X', ds', y6, y7, y8, h⟩ := @turn_sp X ds (some (.slst (ns.map A.int))) (some x) none none none x6 x7 x8 none
    show NxP (L3_law [some (.slst (ns.map A.int)), some (.cell 0), some x, none, none, none, x6, x7, x8, none] _) _
    rw [h]
    exact ⟨X', ds', rfl, _, _, _, _, rfl⟩)
  have mi : mRng1 (aCons (eC (.int 3)) aNil) [some (.slst (ns.map A.int)), some (.cell 0), none, none, none, none, none, none, none, none] [li ds0] = .ok ((rg 3).map A.int, none) [li ds0] := rng1 (n := 3) (by omega) (by simp only [sSeq_ap, sAsg_ap, sEx_ap, sRet_ap, sRetN_ap, sNil_ap, sIf_ap, sFor_ap, sSub_ap, sRaise_ap, mkWhat_ap, eVar_ap, eC_ap, eBin_ap, eUn_ap, eTup_ap, eLst_ap, eCB_ap, eCall_ap, eM_ap, eIf_ap, eAndV_ap, eOrV_ap, eNotV_ap, eChain_ap, eSl_ap, oNone_ap, oSome_ap, eXf_ap, aNil_ap, aCons_ap, tOf_ap, tTru_ap, tAndM_ap, tOrM_ap, tNotM_ap, tYesM_ap, asB_bl, truA_b, Res.bind_ok, Res.bind_exc, Res.toS_ok, Res.toS_exc, Res.of_some, SRes.bind_nx, SRes.bind_rt, SRes.bind_exc, SRes.bind_ct, SRes.bind_bk, gN_ap, List.getElem?_cons_zero, List.getElem?_cons_succ, List.set_cons_zero, List.set_cons_succ, one1_ap, two2_ap, newL_f, newL_t, addOp_ii, subOp_ii, negOp_i, ltOp_ii, leOp_ii, gtOp_ii, geOp_ii, eqOp_ii, neOp_ii, eqOp_ss, neOp_ss, intA_i, intA_b, maxA_ii, minA_ii, lenA_lst, lenA_tup, lenA_slst, listA_lst, listA_tup, listA_slst, tupleA_lst, tupleA_tup, List.length_map, List.length_cons, List.length_nil, Bool.not_true, Bool.not_false, Bool.false_eq_true, if_true, if_false, Nat.zero_add, Nat.reduceAdd, mSeq_ap, seqR_lst, seqR_tup, seqR_slst, srcOf_lst, srcOf_tup, srcOf_slst, decide_true, decide_false, Int.reduceEq, Int.reduceNeg, eMake_ap, eMeth_ap, insA_obj, sFldM_ap, rangeA_i]; rfl)
  have T : ∀ (ds : List Int) (k : Int), 0 < k → ∃ d ds', 0 ≤ d ∧ d < k ∧ M__law_take [.cell 0, .int k] (li ds :: X) = .ok (.int d) (li ds' :: X) := fun ds k hk => by
    obtain ⟨d, ds', h1, h2, h3⟩ := tk0 (st := li [] :: X) (c := 0) (ds := ds) (n := k) (by simp) hk
    exact ⟨d, ds', h1, h2, h3⟩
  obtain ⟨d2, ds2, p1, p2, t2⟩ := T ds1 9 (by omega)
  obtain ⟨n, hn⟩ : ∃ n : Nat, 1 + d2 = (n : Int) := ⟨(1 + d2).toNat, by omega⟩
  obtain ⟨d3, ds3, p3, p4, t3⟩ := T ds2 41 (by omega)
  obtain ⟨ms, ds4, ok, t4⟩ := @members_sp (li [] :: X) 0 ds3 (by simp)
  have t4 : M__law_members [.cell 0] (li ds3 :: X) = .ok (.lst (ms.map ti)) (li ds4 :: X) := t4
  obtain ⟨m6, hnd, m, hm4, hpm⟩ := okM_at ok
  have lt := @lconjT_sp (li ds4 :: X) ms m (by omega) (by omega) (fun p hp => (hpm p hp).1)
  have a1 := @affineL_sp (li ds3 :: X) n (d3 - 20) (by omega) (by omega) (by omega)
  have r1 := @right_sp (li ds3 :: X) _ 1 _ (by rw [affL_len]; omega) (fun r hr => by rw [affL_rows r hr]; omega) (why1 (n := n) (f := d3 - 20) (by omega) (by omega) (by omega))
  have a2 := @affineL_sp (li ds4 :: X) n (-1) (by omega) (by omega) (by decide)
  have r2 := @right_sp (li ds4 :: X) _ 2 _ (by rw [affL_len]; omega) (fun r hr => by rw [affL_rows r hr]; omega) (why2 (n := n) (by omega) (by omega))
  have r3 := @right_sp (li ds4 :: X) _ 3 (tabM ms m) (by simp [tabM, tabC]; omega) (fun r hr => by
    obtain ⟨x, _, rfl⟩ := List.mem_map.mp hr
    rw [List.length_map]; omega) (by
    rw [why3 (m := m) (by omega) (by omega) hnd (fun p hp => (hpm p hp).1), tabQ_eq (fun p hp => (hpm p hp).2)])
  have r4 := @right_sp (li ds4 :: X) (lL []) 0 [] (by simp) (fun r hr => by cases hr) (why0 (R := []) rfl rfl (by simp) (fun r hr => by cases hr))
  have r4 : M__law_right [.lst [], .int 0, .lst []] (li ds4 :: X) = .ok (.bl true) (li ds4 :: X) := r4
  refine ⟨[], fnM_rt rfl (a := .bl true) (st' := li ds4 :: X) ?_ (finA_pure (st := []) (l := li ds4 :: X) (by simp [A.bel]) (by intro c h; cases h))⟩
  show B_law [some (.slst (ns.map A.int)), none, none, none, none, none, none, none, none, none] [] = _
  simp only [B_law, sSeq_ap, sAsg_ap, eCall_ap, aCons_ap, eC_ap, eVar_ap, List.getElem?_cons_zero, List.getElem?_cons_succ, aNil_ap, Res.bind_ok, hd, Res.toS_ok, gN_ap, List.set_cons_zero, List.set_cons_succ, SRes.bind_nx, sFor_ap]
  rw [mi]
  simp only [Res.toS_ok, hf, SRes.bind_nx]
  simp only [sSeq_ap, sAsg_ap, sEx_ap, sRet_ap, sRetN_ap, sNil_ap, sIf_ap, sFor_ap, sSub_ap, sRaise_ap, mkWhat_ap, eVar_ap, eC_ap, eBin_ap, eUn_ap, eTup_ap, eLst_ap, eCB_ap, eCall_ap, eM_ap, eIf_ap, eAndV_ap, eOrV_ap, eNotV_ap, eChain_ap, eSl_ap, oNone_ap, oSome_ap, eXf_ap, aNil_ap, aCons_ap, tOf_ap, tTru_ap, tAndM_ap, tOrM_ap, tNotM_ap, tYesM_ap, asB_bl, truA_b, Res.bind_ok, Res.bind_exc, Res.toS_ok, Res.toS_exc, Res.of_some, SRes.bind_nx, SRes.bind_rt, SRes.bind_exc, SRes.bind_ct, SRes.bind_bk, gN_ap, List.getElem?_cons_zero, List.getElem?_cons_succ, List.set_cons_zero, List.set_cons_succ, one1_ap, two2_ap, newL_f, newL_t, addOp_ii, subOp_ii, negOp_i, ltOp_ii, leOp_ii, gtOp_ii, geOp_ii, eqOp_ii, neOp_ii, eqOp_ss, neOp_ss, intA_i, intA_b, maxA_ii, minA_ii, lenA_lst, lenA_tup, lenA_slst, listA_lst, listA_tup, listA_slst, tupleA_lst, tupleA_tup, List.length_map, List.length_cons, List.length_nil, Bool.not_true, Bool.not_false, Bool.false_eq_true, if_true, if_false, Nat.zero_add, Nat.reduceAdd, mSeq_ap, seqR_lst, seqR_tup, seqR_slst, srcOf_lst, srcOf_tup, srcOf_slst, decide_true, decide_false, Int.reduceEq, Int.reduceNeg, eMake_ap, eMeth_ap, insA_obj, sFldM_ap, rangeA_i, t2, hn, t3, a1, r1, t4, lt, a2, r2, r3, r4, l2, l0]
end
end Gk53


theorem PySem.Challenge.cw_knotwork_k53_quandle_tables_holds : PySem.Challenge.rw_knotwork_k53_quandle_tables.Holds := by
  exact Gk53.holds_of Gk53.hlaw
