import PyProof.Rows.All
import HandS.ForMost
import HandS.ForExc
import HandS.Defaults
import HandS.HeadHook1
import HandS.HeadHook2
import HandS.Flow
import HandS.Wide
import HandS.Style
import HandS.IsInst
import HandS.Conv
import HandS.HeadEnd
import HandS.Head0
import HandS.Head1
import HandS.Head2
import HandS.ExcInit
import HandS.TryOnly
import HandS.TryMany
import HandS.ExcField
import HandS.HeadHook3
import HandS.Gcd
import PySem.Challenge.RW_knotwork_k20_fractions_and_numbers
import Wide.All
import OpenK.AllK
import Wide.FinOn
import HandS.Head3
set_option Elab.async false
set_option linter.all false
set_option maxRecDepth 100000
set_option maxHeartbeats 4000000
/-! SLa: values with owned cells, their standing for the layer's heap, results. -/
namespace SL
open PySem PySem.Spec PyProof.Rows L2

/-- a value: data, or a cell of the store -/
inductive A where
  | non | bl (b : Bool) | int (i : Int) | str (s : Str) | ty (n : String) | glo (x : Str)
  | lst (xs : List A) | slst (xs : List A) | tup (xs : List A) | cell (n : Nat)
  | obj (c : Str) (ns : List Str) (vs : List A)
  | dct (ks : List Key) (vs : List A)
  | xcp (a : Nat) (d : Option Nat) (c : Str) (ns : List Str) (vs : List A)
  deriving Inhabited

mutual
inductive Rep (K : PySem.W.Frag) (F : Hp) (μ : List Addr) : A → V → Prop
  | non : Rep K F μ .non .non
  | bl (b : Bool) : Rep K F μ (.bl b) (.bl b)
  | int (i : Int) : Rep K F μ (.int i) (.int i)
  | str (s : Str) : Rep K F μ (.str s) (.str s)
  | ty (n : String) : Rep K F μ (.ty n) (.ty n)
  | glo (x : Str) : Rep K F μ (.glo x) (.ref (He.ga K x))
  | lst {xs : List A} {a : Addr} {vs : List V} : F a = some (.lst vs) → Reps K F μ xs vs → Rep K F μ (.lst xs) (.ref a)
  | slst {xs : List A} {a : Addr} {vs : List V} : SqL K F a vs → Reps K F μ xs vs → Rep K F μ (.slst xs) (.ref a)
  | tup {xs : List A} {a : Addr} {vs : List V} : SqT K F a vs → Reps K F μ xs vs → Rep K F μ (.tup xs) (.ref a)
  | cell {n : Nat} {a : Addr} : μ[n]? = some a → Rep K F μ (.cell n) (.ref a)
  | obj {c : Str} {ns : List Str} {xs : List A} {a dx : Addr} {fs : List (Str × V)} : F a = some (.ins (He.ga K c) dx fs) → F dx = some (.own a) →
      fs.map (·.1) = ns → Reps K F μ xs (fs.map (·.2)) → Rep K F μ (.obj c ns xs) (.ref a)
  | dct {ks : List Key} {xs : List A} {a : Addr} {kvs : List (Key × V)} : F a = some (.dK kvs) → kvs.map (·.1) = ks → Reps K F μ xs (kvs.map (·.2)) → Rep K F μ (.dct ks xs) (.ref a)
  | xcp0 {a : Addr} {c : Str} : Rep K F μ (.xcp a none c [] []) (.ref a)
  | xcpD {a dd : Addr} {c : Str} {ns : List Str} {xs : List A} {fs : List (Str × V)} : F dd = some (.xd fs) → fs.map (·.1) = ns → Reps K F μ xs (fs.map (·.2)) → Rep K F μ (.xcp a (some dd) c ns xs) (.ref a)
inductive Reps (K : PySem.W.Frag) (F : Hp) (μ : List Addr) : List A → List V → Prop
  | nil : Reps K F μ [] []
  | cons {a : A} {v : V} {as : List A} {vs : List V} : Rep K F μ a v → Reps K F μ as vs → Reps K F μ (a :: as) (v :: vs)
end

/-- the known grows -/
structure Ext (F F' : Hp) (μ μ' : List Addr) : Prop where
  f : ∀ a o, F a = some o → F' a = some o
  m : ∀ (n : Nat) (a : Addr), μ[n]? = some a → μ'[n]? = some a
theorem Ext.refl {F : Hp} {μ : List Addr} : Ext F F μ μ := ⟨fun _ _ h => h, fun _ _ h => h⟩
theorem Ext.trans {F F1 F2 : Hp} {μ μ1 μ2 : List Addr} (a : Ext F F1 μ μ1) (b : Ext F1 F2 μ1 μ2) : Ext F F2 μ μ2 := ⟨fun x o h => b.f x o (a.f x o h), fun x o h => b.m x o (a.m x o h)⟩

theorem Rd.mono {H H' : Hp} {a : Addr} {u : HO} (e : ∀ a o, H a = some o → H' a = some o) (h : Rd H a u) : Rd H' a u := by
  rcases h with h | ⟨o, h⟩
  · exact .inl (e _ _ h)
  · exact .inr ⟨o, e _ _ h⟩
theorem SqL.mono {K : PySem.W.Frag} {H H' : Hp} {a : Addr} {xs : List V} (e : ∀ a o, H a = some o → H' a = some o) (h : SqL K H a xs) : SqL K H' a xs := by
  rcases h with h | h
  · exact .inl (Rd.mono e h)
  · exact .inr h
theorem SqT.mono {K : PySem.W.Frag} {H H' : Hp} {a : Addr} {xs : List V} (e : ∀ a o, H a = some o → H' a = some o) (h : SqT K H a xs) : SqT K H' a xs := by
  rcases h with h | h
  · exact .inl (Rd.mono e h)
  · exact .inr h

section
variable {K : PySem.W.Frag} {F F' : Hp} {μ μ' : List Addr}
mutual
theorem Rep.mono (e : Ext F F' μ μ') : ∀ {a : A} {v : V}, Rep K F μ a v → Rep K F' μ' a v
  | _, _, .non => .non
  | _, _, .bl b => .bl b
  | _, _, .int i => .int i
  | _, _, .str s => .str s
  | _, _, .ty n => .ty n
  | _, _, .glo x => .glo x
  | _, _, .lst s r => .lst (e.f _ _ s) (Reps.mono e r)
  | _, _, .slst s r => .slst (SqL.mono e.f s) (Reps.mono e r)
  | _, _, .tup s r => .tup (SqT.mono e.f s) (Reps.mono e r)
  | _, _, .cell h => .cell (e.m _ _ h)
  | _, _, .obj h1 h2 h3 r => .obj (e.f _ _ h1) (e.f _ _ h2) h3 (Reps.mono e r)
  | _, _, .dct h1 h3 r => .dct (e.f _ _ h1) h3 (Reps.mono e r)
  | _, _, .xcp0 => .xcp0
  | _, _, .xcpD h1 h3 r => .xcpD (e.f _ _ h1) h3 (Reps.mono e r)
theorem Reps.mono (e : Ext F F' μ μ') : ∀ {as : List A} {vs : List V}, Reps K F μ as vs → Reps K F' μ' as vs
  | _, _, .nil => .nil
  | _, _, .cons h t => .cons (Rep.mono e h) (Reps.mono e t)
end
theorem Reps.length : ∀ {as : List A} {vs : List V}, Reps K F μ as vs → as.length = vs.length
  | _, _, .nil => rfl
  | _, _, .cons _ t => by rw [List.length_cons, List.length_cons, Reps.length t]
theorem Reps.get : ∀ {as : List A} {vs : List V} {i : Nat} {a : A}, Reps K F μ as vs → as[i]? = some a → ∃ v, vs[i]? = some v ∧ Rep K F μ a v
  | _, _, _, _, .nil, e => by simp at e
  | _, _, 0, _, .cons r _, e => by simp at e; subst e; exact ⟨_, rfl, r⟩
  | _, _, i + 1, a, .cons _ t, e => by
    obtain ⟨v, h1, h2⟩ := Reps.get (i := i) (a := a) t (by simpa using e)
    exact ⟨v, by simpa using h1, h2⟩
theorem Reps.getV : ∀ {as : List A} {vs : List V} {i : Nat} {v : V}, Reps K F μ as vs → vs[i]? = some v → ∃ a, as[i]? = some a ∧ Rep K F μ a v
  | _, _, _, _, .nil, e => by simp at e
  | _, _, 0, _, .cons r _, e => by simp at e; subst e; exact ⟨_, rfl, r⟩
  | _, _, i + 1, v, .cons _ t, e => by
    obtain ⟨a, h1, h2⟩ := Reps.getV (i := i) (v := v) t (by simpa using e)
    exact ⟨a, by simpa using h1, h2⟩
theorem Reps.append : ∀ {as bs : List A} {vs ws : List V}, Reps K F μ as vs → Reps K F μ bs ws → Reps K F μ (as ++ bs) (vs ++ ws)
  | _, _, _, _, .nil, s => s
  | _, _, _, _, .cons r t, s => .cons r (Reps.append t s)
theorem Reps.set {a : A} {v : V} (r : Rep K F μ a v) : ∀ {as : List A} {vs : List V} (i : Nat), Reps K F μ as vs → Reps K F μ (as.set i a) (vs.set i v)
  | _, _, _, .nil => .nil
  | _, _, 0, .cons _ t => .cons r t
  | _, _, i + 1, .cons q t => .cons q (Reps.set r i t)
theorem Reps.take : ∀ {as : List A} {vs : List V} (n : Nat), Reps K F μ as vs → Reps K F μ (as.take n) (vs.take n)
  | _, _, 0, _ => .nil
  | _, _, _ + 1, .nil => .nil
  | _, _, n + 1, .cons r t => .cons r (Reps.take n t)
theorem Reps.drop : ∀ {as : List A} {vs : List V} (n : Nat), Reps K F μ as vs → Reps K F μ (as.drop n) (vs.drop n)
  | _, _, 0, r => r
  | _, _, _ + 1, .nil => .nil
  | _, _, n + 1, .cons _ t => Reps.drop n t
theorem Reps.eraseIdx : ∀ {as : List A} {vs : List V} (n : Nat), Reps K F μ as vs → Reps K F μ (as.eraseIdx n) (vs.eraseIdx n)
  | _, _, _, .nil => .nil
  | _, _, 0, .cons _ t => t
  | _, _, n + 1, .cons r t => .cons r (Reps.eraseIdx n t)
theorem Reps.reverse : ∀ {as : List A} {vs : List V}, Reps K F μ as vs → Reps K F μ as.reverse vs.reverse
  | _, _, .nil => .nil
  | _, _, .cons r t => by rw [List.reverse_cons, List.reverse_cons]; exact Reps.append (Reps.reverse t) (.cons r .nil)
theorem Reps.dropLast {as : List A} {vs : List V} (r : Reps K F μ as vs) : Reps K F μ as.dropLast vs.dropLast := by
  rw [List.dropLast_eq_take, List.dropLast_eq_take, r.length]; exact r.take _
theorem Reps.rep {as : List A} {vs : List V} (r : Reps K F μ as vs) : ∀ k : Nat, Reps K F μ (List.replicate k as).flatten (List.replicate k vs).flatten
  | 0 => .nil
  | k + 1 => by
    rw [List.replicate_succ, List.replicate_succ, List.flatten_cons, List.flatten_cons]
    exact Reps.append r (Reps.rep r k)
theorem Reps.ints : ∀ (ns : List Int), Reps K F μ (ns.map A.int) (ns.map V.int)
  | [] => .nil
  | n :: ns => .cons (.int n) (Reps.ints ns)
theorem Reps.intsV : ∀ {ns : List Int} {vs : List V}, Reps K F μ (ns.map A.int) vs → vs = ns.map V.int
  | [], _, .nil => rfl
  | n :: ns, _, .cons r t => by cases r; rw [Reps.intsV t]; rfl
theorem Reps.one {a : A} {vs : List V} (r : Reps K F μ [a] vs) : ∃ v, vs = [v] ∧ Rep K F μ a v := by
  cases r with
  | cons r t => cases t; exact ⟨_, rfl, r⟩
theorem Reps.two {a b : A} {vs : List V} (r : Reps K F μ [a, b] vs) : ∃ v w, vs = [v, w] ∧ Rep K F μ a v ∧ Rep K F μ b w := by
  cases r with
  | cons r t =>
    obtain ⟨w, rfl, q⟩ := t.one
    exact ⟨_, _, rfl, r, q⟩
end

/-- what a cell holds -/
inductive C where
  | lst (xs : List A)
  | dct (ks : List Key) (vs : List A)
  | obj (c : Str) (ns : List Str) (vs : List A)
  | dead
  deriving Inhabited
abbrev Store := List C
def CRep (K : PySem.W.Frag) (F : Hp) (μ : List Addr) (H : Hp) : C → Addr → Prop
  | .lst xs, a => ∃ vs, H a = some (.lst vs) ∧ Reps K F μ xs vs
  | .dct ks xs, a => ∃ kvs : List (Key × V), H a = some (.dK kvs) ∧ kvs.map (·.1) = ks ∧ Reps K F μ xs (kvs.map (·.2))
  | .obj c ns xs, a => ∃ (dx : Addr) (fs : List (Str × V)), H a = some (.ins (He.ga K c) dx fs) ∧ H dx = some (.own a) ∧ fs.map (·.1) = ns ∧ Reps K F μ xs (fs.map (·.2))
  | .dead, _ => True
/-- what a live cell's object may be -/
def isCellO : HO → Bool
  | .lst _ => true
  | .dK _ => true
  | .ins _ _ _ => true
  | _ => false
theorem CRep.o {K : PySem.W.Frag} {F : Hp} {μ : List Addr} {H : Hp} {c : C} {a : Addr} (h : CRep K F μ H c a) (l : c ≠ .dead) : ∃ o, H a = some o ∧ isCellO o = true := by
  cases c with
  | lst xs => obtain ⟨_, h, _⟩ := h; exact ⟨_, h, rfl⟩
  | dct ks xs => obtain ⟨_, h, _⟩ := h; exact ⟨_, h, rfl⟩
  | obj c ns xs => obtain ⟨_, _, h, _⟩ := h; exact ⟨_, h, rfl⟩
  | dead => exact absurd rfl l
/-- the cells' places, apart from the known -/
structure Good (K : PySem.W.Frag) (Z F : Hp) (μ : List Addr) (st : Store) (H : Hp) : Prop where
  zub : ∀ a o, Z a = some o → H a = some o
  zf : ∀ a o, Z a = some o → F a = none
  zc : ∀ a o, Z a = some o → isCellO o = true
  sub : ∀ a o, F a = some o → H a = some o
  len : μ.length = st.length
  cell : ∀ (i : Nat) (c : C), st[i]? = some c → c ≠ .dead → ∃ a, μ[i]? = some a ∧ (F a = none ∧ Z a = none) ∧ CRep K F μ H c a
  inj : ∀ (i j : Nat) (a : Addr) (c d : C), st[i]? = some c → c ≠ .dead → st[j]? = some d → d ≠ .dead → μ[i]? = some a → μ[j]? = some a → i = j

section
variable {K : PySem.W.Frag} {Z F F' : Hp} {μ μ' : List Addr} {st : Store} {H H' : Hp} {p : Addr} {o : HO} {c : C}
theorem CRep.mono (h : CRep K F μ H c p) (e : Ext F F' μ μ') (k : ∀ a o, H a = some o → H' a = some o) : CRep K F' μ' H' c p := by
  cases c with
  | lst xs => obtain ⟨vs, h, r⟩ := h; exact ⟨vs, k _ _ h, r.mono e⟩
  | dct ks xs => obtain ⟨kvs, h, q, r⟩ := h; exact ⟨kvs, k _ _ h, q, r.mono e⟩
  | obj c ns xs => obtain ⟨dx, fs, h, h2, q, r⟩ := h; exact ⟨dx, fs, k _ _ h, k _ _ h2, q, r.mono e⟩
  | dead => trivial
theorem ext_push : Ext F F μ (μ ++ [p]) := ⟨fun _ _ h => h, fun n a h => by
  obtain ⟨hl, _⟩ := List.getElem?_eq_some_iff.mp h
  rw [List.getElem?_append_left hl]; exact h⟩
theorem sub_upd (h : H p = none) : ∀ a o', H a = some o' → upd H p o a = some o' := fun a o' e => by rw [upd_ne (ne_of_none e h)]; exact e
theorem Good.nof (g : Good K Z F μ st H) (h : H p = none) : F p = none := by
  cases e : F p with
  | none => rfl
  | some o => rw [g.sub _ _ e] at h; cases h
theorem Good.noz (g : Good K Z F μ st H) (h : H p = none) : Z p = none := by
  cases e : Z p with
  | none => rfl
  | some o => rw [g.zub _ _ e] at h; cases h
/-- a new known object -/
theorem Good.known (g : Good K Z F μ st H) (h : H p = none) : Good K Z (upd F p o) μ st (upd H p o) ∧ Ext F (upd F p o) μ μ := by
  have e : Ext F (upd F p o) μ μ := ⟨sub_upd (g.nof h), fun _ _ h => h⟩
  refine ⟨{ zub := fun a o' q => sub_upd h _ _ (g.zub _ _ q), zf := fun a o' q => ?_, zc := g.zc, sub := fun a o' q => ?_, len := g.len, cell := fun i c hi hc => ?_, inj := g.inj }, e⟩
  · rw [upd_ne (ne_of_none (g.zub _ _ q) h)]; exact g.zf _ _ q
  · by_cases ha : a = p
    · subst ha; rw [upd_same] at q ⊢; exact q
    · rw [upd_ne ha] at q ⊢; exact g.sub _ _ q
  · obtain ⟨a, h1, h2, h3⟩ := g.cell i c hi hc
    obtain ⟨o2, ho, _⟩ := h3.o hc
    refine ⟨a, h1, ⟨?_, h2.2⟩, h3.mono e (sub_upd h)⟩
    rw [upd_ne (ne_of_none ho h)]; exact h2.1
/-- a new cell -/
theorem Good.push (g : Good K Z F μ st H) (h : H p = none) (hc : CRep K F μ (upd H p o) c p) : Good K Z F (μ ++ [p]) (st ++ [c]) (upd H p o) ∧ Ext F F μ (μ ++ [p]) := by
  refine ⟨{ zub := fun a o' q => sub_upd h _ _ (g.zub _ _ q), zf := g.zf, zc := g.zc, sub := fun a o' q => sub_upd h _ _ (g.sub _ _ q), len := by rw [List.length_append, List.length_append, g.len]; rfl, cell := fun i d hi hd => ?_, inj := fun i j a d d' hi hd hj hd' ei ej => ?_ }, ext_push⟩
  · by_cases hl : i < st.length
    · rw [List.getElem?_append_left hl] at hi
      obtain ⟨a, h1, h2, h3⟩ := g.cell i d hi hd
      exact ⟨a, ext_push.m (F := F) (F' := F) i a h1, h2, h3.mono ext_push (sub_upd h)⟩
    · rw [List.getElem?_append_right (by omega)] at hi
      have e0 : i - st.length = 0 := by
        cases e : i - st.length with
        | zero => rfl
        | succ n => rw [e] at hi; simp at hi
      rw [e0] at hi
      simp at hi
      subst hi
      have ei : i = st.length := by omega
      subst ei
      refine ⟨p, ?_, ⟨g.nof h, g.noz h⟩, hc.mono ext_push fun _ _ q => q⟩
      rw [← g.len, List.getElem?_append_right (Nat.le_refl _), Nat.sub_self]; rfl
  · have key : ∀ (i : Nat) (d : C), (st ++ [c])[i]? = some d → d ≠ .dead → (μ ++ [p])[i]? = some a → (i < st.length ∧ st[i]? = some d ∧ μ[i]? = some a ∧ a ≠ p) ∨ (i = st.length ∧ a = p) := by
      intro i d hi hd ei
      by_cases hl : i < st.length
      · rw [List.getElem?_append_left hl] at hi
        rw [List.getElem?_append_left (by rw [g.len]; exact hl)] at ei
        obtain ⟨a', h1, _, h3⟩ := g.cell i d hi hd
        obtain ⟨o2, ho, _⟩ := h3.o hd
        rw [ei] at h1; cases h1
        exact .inl ⟨hl, hi, ei, ne_of_none ho h⟩
      · have hi' : i < (st ++ [c]).length := (List.getElem?_eq_some_iff.mp hi).1
        rw [List.length_append] at hi'
        have e : i = st.length := by simp at hi'; omega
        subst e
        rw [← g.len, List.getElem?_append_right (Nat.le_refl _), Nat.sub_self] at ei
        simp at ei
        exact .inr ⟨rfl, ei.symm⟩
    rcases key i d hi hd ei with ⟨l1, a1, b1, n1⟩ | ⟨l1, n1⟩ <;> rcases key j d' hj hd' ej with ⟨l2, a2, b2, n2⟩ | ⟨l2, n2⟩
    · exact g.inj i j a d d' a1 hd a2 hd' b1 b2
    · exact absurd n2 n1
    · exact absurd n1 n2
    · omega
theorem get_set {α : Type} {l : List α} {i j : Nat} {x y : α} (h : (l.set i x)[j]? = some y) : (j = i ∧ y = x) ∨ (j ≠ i ∧ l[j]? = some y) := by
  by_cases e : j = i
  · subst e
    have hl : j < (l.set j x).length := (List.getElem?_eq_some_iff.mp h).1
    rw [List.length_set] at hl
    rw [List.getElem?_set_self hl] at h
    exact .inl ⟨rfl, (Option.some.inj h).symm⟩
  · rw [List.getElem?_set_ne (fun q => e q.symm)] at h
    exact .inr ⟨e, h⟩
/-- a cell is written -/
theorem Good.write {i : Nat} {d : C} (g : Good K Z F μ st H) (hi : st[i]? = some d) (hd : d ≠ .dead) (ha : μ[i]? = some p) (hc : CRep K F μ (upd H p o) c p) : Good K Z F μ (st.set i c) (upd H p o) := by
  obtain ⟨p', e1, ⟨hF, hZ⟩, hr⟩ := g.cell i d hi hd
  rw [ha] at e1; cases e1
  obtain ⟨o2, ho, hco⟩ := hr.o hd
  refine { zub := fun a o' q => ?_, zf := g.zf, zc := g.zc, sub := fun a o' q => ?_, len := by rw [List.length_set]; exact g.len, cell := fun j c' hj hc' => ?_, inj := fun j k a c1 c2 h1 n1 h2 n2 m1 m2 => ?_ }
  · rw [upd_ne]
    · exact g.zub _ _ q
    · intro e; subst e; rw [hZ] at q; cases q
  · rw [upd_ne]
    · exact g.sub _ _ q
    · intro e; subst e; rw [hF] at q; cases q
  · rcases get_set hj with ⟨rfl, rfl⟩ | ⟨hji, hj'⟩
    · exact ⟨p, ha, ⟨hF, hZ⟩, hc⟩
    · obtain ⟨a, h1, h2, h3⟩ := g.cell j c' hj' hc'
      have hap : a ≠ p := fun e => hji (g.inj j i a c' d hj' hc' hi hd h1 (e ▸ ha))
      refine ⟨a, h1, h2, ?_⟩
      cases c' with
      | lst xs => obtain ⟨vs, h, r⟩ := h3; exact ⟨vs, by rw [upd_ne hap]; exact h, r⟩
      | dct ks xs => obtain ⟨kvs, h, q, r⟩ := h3; exact ⟨kvs, by rw [upd_ne hap]; exact h, q, r⟩
      | obj c ns xs =>
        obtain ⟨dx, fs, h, h2, q, r⟩ := h3
        refine ⟨dx, fs, by rw [upd_ne hap]; exact h, ?_, q, r⟩
        rw [upd_ne]
        · exact h2
        · intro e; subst e; rw [ho] at h2; cases h2; cases hco
      | dead => trivial
  · have live : ∀ (j : Nat) (c1 : C), (st.set i c)[j]? = some c1 → c1 ≠ .dead → ∃ c', st[j]? = some c' ∧ c' ≠ .dead := by
      intro j c1 h1 n1
      rcases get_set h1 with ⟨rfl, _⟩ | ⟨_, h⟩
      · exact ⟨d, hi, hd⟩
      · exact ⟨c1, h, n1⟩
    obtain ⟨x1, y1, z1⟩ := live j c1 h1 n1
    obtain ⟨x2, y2, z2⟩ := live k c2 h2 n2
    exact g.inj j k a x1 x2 y1 z1 y2 z2 m1 m2
theorem Good.kill {i : Nat} (g : Good K Z F μ st H) : Good K Z F μ (st.set i .dead) H := by
  refine { zub := g.zub, zf := g.zf, zc := g.zc, sub := g.sub, len := by rw [List.length_set]; exact g.len, cell := fun j c' hj hc' => ?_, inj := fun j k a c1 c2 h1 n1 h2 n2 m1 m2 => ?_ }
  · rcases get_set hj with ⟨rfl, rfl⟩ | ⟨_, h⟩
    · exact absurd rfl hc'
    · exact g.cell j c' h hc'
  · rcases get_set h1 with ⟨rfl, rfl⟩ | ⟨_, h1⟩
    · exact absurd rfl n1
    · rcases get_set h2 with ⟨rfl, rfl⟩ | ⟨_, h2⟩
      · exact absurd rfl n2
      · exact g.inj j k a c1 c2 h1 n1 h2 n2 m1 m2
/-- a cell's object becomes known -/
theorem Good.know {i : Nat} {d : C} (g : Good K Z F μ st H) (hi : st[i]? = some d) (hd : d ≠ .dead) (ha : μ[i]? = some p) (ho : H p = some o) :
    Good K Z (upd F p o) μ (st.set i .dead) H ∧ Ext F (upd F p o) μ μ := by
  obtain ⟨p', e1, ⟨hF, hZ⟩, _⟩ := g.cell i d hi hd
  rw [ha] at e1; cases e1
  have e : Ext F (upd F p o) μ μ := ⟨sub_upd hF, fun _ _ h => h⟩
  have gk := g.kill (i := i)
  refine ⟨{ zub := g.zub, zf := fun a o' q => ?_, zc := g.zc, sub := fun a o' q => ?_, len := gk.len, cell := fun j c' hj hc' => ?_, inj := gk.inj }, e⟩
  · rw [upd_ne (ne_of_none q hZ)]; exact g.zf _ _ q
  · by_cases hap : a = p
    · subst hap; rw [upd_same] at q; cases q; exact ho
    · rw [upd_ne hap] at q; exact g.sub _ _ q
  · rcases get_set hj with ⟨rfl, rfl⟩ | ⟨hji, hj'⟩
    · exact absurd rfl hc'
    · obtain ⟨a, h1, h2, h3⟩ := g.cell j c' hj' hc'
      have hap : a ≠ p := fun e => hji (g.inj j i a c' d hj' hc' hi hd h1 (e ▸ ha))
      exact ⟨a, h1, ⟨by rw [upd_ne hap]; exact h2.1, h2.2⟩, h3.mono e fun _ _ q => q⟩
/-- more known of objects that are no cells' -/
theorem Good.knowO {q : Addr} {u : HO} (g : Good K Z F μ st H) (hq : H q = some u) (hu : isCellO u = false) (hz : Z q = none) (hn : F q = none ∨ F q = some u) : Good K Z (upd F q u) μ st H ∧ Ext F (upd F q u) μ μ := by
  have e : Ext F (upd F q u) μ μ := ⟨fun a o h => by
    by_cases ha : a = q
    · subst ha
      rcases hn with hn | hn
      · rw [hn] at h; cases h
      · rw [hn] at h; cases h; exact upd_same
    · rw [upd_ne ha]; exact h, fun _ _ h => h⟩
  refine ⟨{ zub := g.zub, zf := fun a o' x => ?_, zc := g.zc, sub := fun a o' h => ?_, len := g.len, cell := fun j c' hj hc' => ?_, inj := g.inj }, e⟩
  · rw [upd_ne (ne_of_none x hz)]; exact g.zf _ _ x
  · by_cases hap : a = q
    · subst hap; rw [upd_same] at h; cases h; exact hq
    · rw [upd_ne hap] at h; exact g.sub _ _ h
  · obtain ⟨a, h1, h2, h3⟩ := g.cell j c' hj hc'
    obtain ⟨o2, ho2, hco⟩ := h3.o hc'
    have : a ≠ q := by intro e; subst e; rw [ho2] at hq; cases hq; rw [hu] at hco; cases hco
    exact ⟨a, h1, ⟨by rw [upd_ne this]; exact h2.1, h2.2⟩, h3.mono e fun _ _ q => q⟩
/-! what stands apart: Z -/
/-- a new object that nobody's value names -/
theorem Good.apart (g : Good K Z F μ st H) (h : H p = none) (ho : isCellO o = true) : Good K (upd Z p o) F μ st (upd H p o) := by
  refine { zub := fun a o' q => ?_, zf := fun a o' q => ?_, zc := fun a o' q => by { by_cases ha : a = p; · { subst ha; rw [upd_same] at q; cases q; exact ho }; · { rw [upd_ne ha] at q; exact g.zc _ _ q } }, sub := fun a o' q => sub_upd h _ _ (g.sub _ _ q), len := g.len, cell := fun i c hi hc => ?_, inj := g.inj }
  · by_cases ha : a = p
    · subst ha; rw [upd_same] at q ⊢; exact q
    · rw [upd_ne ha] at q ⊢; exact g.zub _ _ q
  · by_cases ha : a = p
    · subst ha; exact g.nof h
    · rw [upd_ne ha] at q; exact g.zf _ _ q
  · obtain ⟨a, h1, h2, h3⟩ := g.cell i c hi hc
    obtain ⟨o2, ho, _⟩ := h3.o hc
    exact ⟨a, h1, ⟨h2.1, by rw [upd_ne (ne_of_none ho h)]; exact h2.2⟩, h3.mono Ext.refl (sub_upd h)⟩
/-- it is written -/
theorem Good.zset {u : HO} (g : Good K (upd Z p o) F μ st H) (hz : isCellO o = true) (hu : isCellO u = true) : Good K (upd Z p u) F μ st (upd H p u) := by
  have hp : H p = some o := g.zub _ _ upd_same
  refine { zub := fun a o' q => ?_, zf := fun a o' q => ?_, zc := fun a o' q => by { by_cases ha : a = p; · { subst ha; rw [upd_same] at q; cases q; exact hu }; · { rw [upd_ne ha] at q; exact g.zc _ _ (by rw [upd_ne ha]; exact q) } }, sub := fun a o' q => ?_, len := g.len, cell := fun i c hi hc => ?_, inj := g.inj }
  · by_cases ha : a = p
    · subst ha; rw [upd_same] at q ⊢; exact q
    · rw [upd_ne ha] at q ⊢; exact g.zub _ _ (by rw [upd_ne ha]; exact q)
  · by_cases ha : a = p
    · subst ha; exact g.zf _ _ upd_same
    · rw [upd_ne ha] at q; exact g.zf _ _ (by rw [upd_ne ha]; exact q)
  · have ha : a ≠ p := by intro e; subst e; rw [g.zf _ _ upd_same] at q; cases q
    rw [upd_ne ha]; exact g.sub _ _ q
  · obtain ⟨a, h1, h2, h3⟩ := g.cell i c hi hc
    have ha : a ≠ p := by intro e; subst e; rw [upd_same] at h2; cases h2.2
    refine ⟨a, h1, ⟨h2.1, by have := h2.2; rw [upd_ne ha] at this ⊢; exact this⟩, ?_⟩
    cases c with
    | lst xs => obtain ⟨vs, h, r⟩ := h3; exact ⟨vs, by rw [upd_ne ha]; exact h, r⟩
    | dct ks xs => obtain ⟨kvs, h, q, r⟩ := h3; exact ⟨kvs, by rw [upd_ne ha]; exact h, q, r⟩
    | obj c ns xs =>
      obtain ⟨dx, fs, h, h4, q, r⟩ := h3
      refine ⟨dx, fs, by rw [upd_ne ha]; exact h, ?_, q, r⟩
      rw [upd_ne]
      · exact h4
      · intro e; subst e; rw [hp] at h4; cases h4; cases hz
    | dead => trivial
/-- it becomes known -/
theorem Good.zknown (g : Good K (upd Z p o) F μ st H) (hz : Z p = none) : Good K Z (upd F p o) μ st H ∧ Ext F (upd F p o) μ μ := by
  have hp : H p = some o := g.zub _ _ upd_same
  have hF : F p = none := g.zf _ _ upd_same
  have e : Ext F (upd F p o) μ μ := ⟨sub_upd hF, fun _ _ h => h⟩
  refine ⟨{ zub := fun a o' q => g.zub _ _ (sub_upd hz _ _ q), zf := fun a o' q => ?_, zc := fun a o' q => g.zc _ _ (sub_upd hz _ _ q), sub := fun a o' q => ?_, len := g.len, cell := fun i c hi hc => ?_, inj := g.inj }, e⟩
  · rw [upd_ne (ne_of_none q hz)]; exact g.zf _ _ (sub_upd hz _ _ q)
  · by_cases ha : a = p
    · subst ha; rw [upd_same] at q; cases q; exact hp
    · rw [upd_ne ha] at q; exact g.sub _ _ q
  · obtain ⟨a, h1, h2, h3⟩ := g.cell i c hi hc
    have ha : a ≠ p := by intro e; subst e; rw [upd_same] at h2; cases h2.2
    exact ⟨a, h1, ⟨by rw [upd_ne ha]; exact h2.1, by have := h2.2; rw [upd_ne ha] at this; exact this⟩, h3.mono e fun _ _ q => q⟩
/-- it becomes a cell -/
theorem Good.zpush (g : Good K (upd Z p o) F μ st H) (hz : Z p = none) (hc : CRep K F μ H c p) : Good K Z F (μ ++ [p]) (st ++ [c]) H ∧ Ext F F μ (μ ++ [p]) := by
  have hF : F p = none := g.zf _ _ upd_same
  refine ⟨{ zub := fun a o' q => g.zub _ _ (sub_upd hz _ _ q), zf := fun a o' q => g.zf _ _ (sub_upd hz _ _ q), zc := fun a o' q => g.zc _ _ (sub_upd hz _ _ q), sub := g.sub, len := by rw [List.length_append, List.length_append, g.len]; rfl, cell := fun i d hi hd => ?_, inj := fun i j a d d' hi hd hj hd' ei ej => ?_ }, ext_push⟩
  · by_cases hl : i < st.length
    · rw [List.getElem?_append_left hl] at hi
      obtain ⟨a, h1, h2, h3⟩ := g.cell i d hi hd
      have ha : a ≠ p := by intro e; subst e; rw [upd_same] at h2; cases h2.2
      exact ⟨a, ext_push.m (F := F) (F' := F) i a h1, ⟨h2.1, by have := h2.2; rw [upd_ne ha] at this; exact this⟩, h3.mono ext_push fun _ _ q => q⟩
    · have hi' : i < (st ++ [c]).length := (List.getElem?_eq_some_iff.mp hi).1
      rw [List.length_append] at hi'
      have e : i = st.length := by simp at hi'; omega
      subst e
      rw [List.getElem?_append_right (Nat.le_refl _), Nat.sub_self] at hi
      simp at hi
      subst hi
      refine ⟨p, ?_, ⟨hF, hz⟩, hc.mono ext_push fun _ _ q => q⟩
      rw [← g.len, List.getElem?_append_right (Nat.le_refl _), Nat.sub_self]; rfl
  · have key : ∀ (i : Nat) (d : C), (st ++ [c])[i]? = some d → d ≠ .dead → (μ ++ [p])[i]? = some a → (i < st.length ∧ st[i]? = some d ∧ μ[i]? = some a ∧ a ≠ p) ∨ (i = st.length ∧ a = p) := by
      intro i d hi hd ei
      by_cases hl : i < st.length
      · rw [List.getElem?_append_left hl] at hi
        rw [List.getElem?_append_left (by rw [g.len]; exact hl)] at ei
        obtain ⟨a', h1, h2, h3⟩ := g.cell i d hi hd
        rw [ei] at h1; cases h1
        exact .inl ⟨hl, hi, ei, by intro e; subst e; rw [upd_same] at h2; cases h2.2⟩
      · have hi' : i < (st ++ [c]).length := (List.getElem?_eq_some_iff.mp hi).1
        rw [List.length_append] at hi'
        have e : i = st.length := by simp at hi'; omega
        subst e
        rw [← g.len, List.getElem?_append_right (Nat.le_refl _), Nat.sub_self] at ei
        simp at ei
        exact .inr ⟨rfl, ei.symm⟩
    rcases key i d hi hd ei with ⟨l1, a1, b1, n1⟩ | ⟨l1, n1⟩ <;> rcases key j d' hj hd' ej with ⟨l2, a2, b2, n2⟩ | ⟨l2, n2⟩
    · exact g.inj i j a d d' a1 hd a2 hd' b1 b2
    · exact absurd n2 n1
    · exact absurd n1 n2
    · omega
end

/-! ### results -/
/-- an exception: its class, what its own dict holds -/
structure Exc where
  c : Str
  ns : List Str
  vs : List A
inductive Res (α : Type) where
  | ok (a : α) (st : Store)
  | exc (e : Exc) (st : Store)
  | stuck
def Res.bind {α β : Type} (r : Res α) (f : α → Store → Res β) : Res β := match r with
  | .ok a st => f a st
  | .exc e st => .exc e st
  | .stuck => .stuck
def Res.post {α : Type} (r : Res α) (P : α → Store → Prop) (E : Exc → Store → Prop) : Prop := match r with
  | .ok a st => P a st
  | .exc e st => E e st
  | .stuck => False
@[simp] theorem Res.bind_ok {α β : Type} {a : α} {st : Store} {f : α → Store → Res β} : (Res.ok a st).bind f = f a st := (rfl)
@[simp] theorem Res.bind_exc {α β : Type} {e : Exc} {st : Store} {f : α → Store → Res β} : (Res.exc e st : Res α).bind f = .exc e st := (rfl)
@[simp] theorem Res.bind_stuck {α β : Type} {f : α → Store → Res β} : (Res.stuck : Res α).bind f = .stuck := (rfl)
theorem Res.post_bind {α β : Type} {r : Res α} {f : α → Store → Res β} {P : β → Store → Prop} {E : Exc → Store → Prop} : (r.bind f).post P E ↔ r.post (fun a st => (f a st).post P E) E := by
  cases r <;> exact Iff.rfl
theorem Res.post_mono {α : Type} {r : Res α} {P P' : α → Store → Prop} {E E' : Exc → Store → Prop} (h : r.post P E) (hP : ∀ a st, P a st → P' a st) (hE : ∀ e st, E e st → E' e st) : r.post P' E' := by
  cases r with
  | ok a st => exact hP _ _ h
  | exc e st => exact hE _ _ h
  | stuck => exact h
/-- a step that may be stuck, and raises nothing -/
def Res.of {α : Type} : Option (α × Store) → Res α
  | some (a, st) => .ok a st
  | none => .stuck
@[simp] theorem Res.of_some {α : Type} {p : α × Store} : Res.of (some p) = .ok p.1 p.2 := (rfl)
@[simp] theorem Res.of_none {α : Type} : (Res.of none : Res α) = .stuck := (rfl)
theorem Res.post_of {α : Type} {x : Option (α × Store)} {P : α → Store → Prop} {E : Exc → Store → Prop} (h : (Res.of x).post P E) : ∃ a st, x = some (a, st) ∧ P a st := by
  cases x with
  | none => exact h.elim
  | some p => exact ⟨p.1, p.2, rfl, h⟩
inductive SRes where
  | nx (env : List (Option A)) (st : Store)
  | rt (a : A) (st : Store)
  | bk (env : List (Option A)) (st : Store)
  | ct (env : List (Option A)) (st : Store)
  | exc (e : Exc) (env : List (Option A)) (st : Store)
  | stuck
abbrev AEnv := List (Option A)
structure SPost where
  nx : AEnv → Store → Prop
  rt : A → Store → Prop
  bk : AEnv → Store → Prop
  ct : AEnv → Store → Prop
  ex : Exc → AEnv → Store → Prop
def SRes.post (r : SRes) (P : SPost) : Prop := match r with
  | .nx env st => P.nx env st
  | .rt a st => P.rt a st
  | .bk env st => P.bk env st
  | .ct env st => P.ct env st
  | .exc e env st => P.ex e env st
  | .stuck => False
theorem SRes.post_mono {r : SRes} {P P' : SPost} (h : r.post P) (h1 : ∀ e s, P.nx e s → P'.nx e s) (h2 : ∀ a s, P.rt a s → P'.rt a s) (h3 : ∀ e s, P.bk e s → P'.bk e s) (h4 : ∀ e s, P.ct e s → P'.ct e s)
    (h5 : ∀ x e s, P.ex x e s → P'.ex x e s) : r.post P' := by
  cases r with
  | nx e s => exact h1 _ _ h
  | rt a s => exact h2 _ _ h
  | bk e s => exact h3 _ _ h
  | ct e s => exact h4 _ _ h
  | exc x e s => exact h5 _ _ _ h
  | stuck => exact h
/-- an expression's value goes on into a statement's end -/
def Res.toS {α : Type} (r : Res α) (env : AEnv) (f : α → Store → SRes) : SRes := match r with
  | .ok a st => f a st
  | .exc e st => .exc e env st
  | .stuck => .stuck
@[simp] theorem Res.toS_ok {α : Type} {a : α} {st : Store} {env : AEnv} {f : α → Store → SRes} : (Res.ok a st).toS env f = f a st := (rfl)
@[simp] theorem Res.toS_exc {α : Type} {e : Exc} {st : Store} {env : AEnv} {f : α → Store → SRes} : (Res.exc e st : Res α).toS env f = .exc e env st := (rfl)
@[simp] theorem Res.toS_stuck {α : Type} {env : AEnv} {f : α → Store → SRes} : (Res.stuck : Res α).toS env f = .stuck := (rfl)
theorem Res.post_toS {α : Type} {r : Res α} {env : AEnv} {f : α → Store → SRes} {P : SPost} : (r.toS env f).post P ↔ r.post (fun a st => (f a st).post P) (fun e st => P.ex e env st) := by
  cases r <;> exact Iff.rfl
/-- one statement, then more -/
def SRes.bind (r : SRes) (f : AEnv → Store → SRes) : SRes := match r with
  | .nx env st => f env st
  | r => r
@[simp] theorem SRes.bind_nx {e : AEnv} {s : Store} {f : AEnv → Store → SRes} : (SRes.nx e s).bind f = f e s := (rfl)
@[simp] theorem SRes.bind_rt {a : A} {s : Store} {f : AEnv → Store → SRes} : (SRes.rt a s).bind f = .rt a s := (rfl)
@[simp] theorem SRes.bind_bk {e : AEnv} {s : Store} {f : AEnv → Store → SRes} : (SRes.bk e s).bind f = .bk e s := (rfl)
@[simp] theorem SRes.bind_ct {e : AEnv} {s : Store} {f : AEnv → Store → SRes} : (SRes.ct e s).bind f = .ct e s := (rfl)
@[simp] theorem SRes.bind_exc {x : Exc} {e : AEnv} {s : Store} {f : AEnv → Store → SRes} : (SRes.exc x e s).bind f = .exc x e s := (rfl)
@[simp] theorem SRes.bind_stuck {f : AEnv → Store → SRes} : (SRes.stuck).bind f = .stuck := (rfl)
theorem SRes.post_bind {r : SRes} {f : AEnv → Store → SRes} {P : SPost} : (r.bind f).post P ↔ r.post { P with nx := fun e s => (f e s).post P } := by
  cases r <;> exact Iff.rfl
end SL

set_option Elab.async false
set_option linter.all false
set_option maxRecDepth 100000
set_option maxHeartbeats 4000000
/-! SLb: what a reading does, by a plain function of the values; expressions. -/
namespace SL
open PySem PySem.Spec L2
open PyProof.Rows hiding St
abbrev Rel (α β : Type) := PySem.W.Frag → Hp → List Addr → α → β → Prop
def Kont {α β : Type} (K : PySem.W.Frag) (Z : Hp) (R : Rel α β) (F : Hp) (μ : List Addr) (Q : β → Hp → Prop) : α → Store → Prop :=
  fun a st' => ∀ F' μ' H' b, Ext F F' μ μ' → Good K Z F' μ' st' H' → R K F' μ' a b → Q b H'
def RepB : Rel Bool Bool := fun _ _ _ a b => a = b
/-- how an exception lies -/
def XRep (K : PySem.W.Frag) (F : Hp) (μ : List Addr) (e : Exc) (d : Option Addr) : Prop :=
  (d = none ∧ e.ns = [] ∧ e.vs = []) ∨ ∃ (dd : Addr) (fs : List (Str × V)), d = some dd ∧ F dd = some (.xd fs) ∧ fs.map (·.1) = e.ns ∧ Reps K F μ e.vs (fs.map (·.2))
def KX (K : PySem.W.Frag) (Z F : Hp) (μ : List Addr) (σ : St) (W : WX) : Exc → Store → Prop :=
  fun e st' => ∀ F' μ' H' d, Ext F F' μ μ' → Good K Z F' μ' st' H' → XRep K F' μ' e d → W (.ref (He.ga K e.c)) d σ H'
structure REnv (K : PySem.W.Frag) (F : Hp) (μ : List Addr) (env : AEnv) (σ : St) : Prop where
  len : env.length = σ.length
  at_ : ∀ (i : Nat) (a : A), env[i]? = some (some a) → ∃ v, σ[i]? = some (some v) ∧ Rep K F μ a v
def Sim {α β : Type} (K : PySem.W.Frag) (R : Rel α β) (W : WX) (t : St → Hp → (β → Hp → Prop) → Prop) (m : AEnv → Store → Res α) : Prop :=
  ∀ (Z F : Hp) (μ : List Addr) (st : Store) (env : AEnv) (σ : St) (H : Hp) (Q : β → Hp → Prop), Good K Z F μ st H → REnv K F μ env σ → (m env st).post (Kont K Z R F μ Q) (KX K Z F μ σ W) → t σ H Q
/-- what stands still in a def (or a comprehension's block): its text, its names, the room for calls -/
structure G where
  P : Program
  w : World
  K : PySem.W.Frag
  mg : Str → Option Value
  base : Heap
  N : List Str
  sc : Scope
  k : Nat
  calm : Bool
  st : Bool
  hx : Option (Addr × Str × Option Addr)
structure CtxOk (Γ : G) (X : Cx) : Prop where
  prog : X.prog = Γ.P
  w : X.w = Γ.w
  K : X.K = Γ.K
  mg : X.mg = Γ.mg
  base : X.base = Γ.base
  N : X.N = Γ.N
  sc : X.env.scope = Γ.sc
  calm : Γ.calm = true → X.calm = true
  room : Γ.calm = true → Room Γ.k X.A
  units : X.A.units + 64 < cLine
  stk : Γ.st = true → X.stack = X.env :: X.outer ∧ X.env.frame = some X.env.locals
  hx : ∀ a c d, Γ.hx = some (a, c, d) → ∃ (X' : Cx) (oe : Obj) (pn : List (Addr × Obj)), X = X'.suite a ((a, oe) :: pn) ∧ Zc (.ref (He.ga Γ.K c)) d oe ∧ ∃ vs, oe.data = .fields vs
  nd : X.N.Nodup
  own : PassesOwn (model X.prog X.w) X.A X.env X.xe
structure SE (Γ : G) (e : Expr) (m : AEnv → Store → Res A) : Prop where
  run : ∀ W : WX, ∃ t : TE, Sim Γ.K Rep W t m ∧ ∀ X, CtxOk Γ X → Takes X W → PE X e t
structure ST (Γ : G) (e : Expr) (m : AEnv → Store → Res Bool) : Prop where
  run : ∀ W : WX, ∃ t : TT, Sim Γ.K RepB W t m ∧ ∀ X, CtxOk Γ X → Takes X W → PT X e t
structure SWt (Γ : G) (e : Expr) (m : AEnv → Store → Res Bool) : Prop where
  run : ∀ W : WX, ∃ t : TT, Sim Γ.K RepB W t m ∧ ∀ X, CtxOk Γ X → Takes X W → PW X e t
structure SA (Γ : G) (es : List Expr) (m : AEnv → Store → Res (List A)) : Prop where
  run : ∀ W : WX, ∃ t : TA, Sim Γ.K Reps W t m ∧ ∀ X, CtxOk Γ X → Takes X W → PA X es t

section
variable {K : PySem.W.Frag} {Z F F' : Hp} {μ μ' : List Addr} {σ : St} {W : WX}
theorem REnv.mono {env : AEnv} (r : REnv K F μ env σ) (e : Ext F F' μ μ') : REnv K F' μ' env σ := ⟨r.len, fun i a h => by
  obtain ⟨v, h1, h2⟩ := r.at_ i a h
  exact ⟨v, h1, h2.mono e⟩⟩
theorem REnv.set {env : AEnv} {a : A} {v : V} (r : REnv K F μ env σ) (i : Nat) (h : Rep K F μ a v) : REnv K F μ (env.set i (some a)) (σ.set i (some v)) := by
  refine ⟨by rw [List.length_set, List.length_set]; exact r.len, fun j b hj => ?_⟩
  rcases get_set hj with ⟨rfl, e⟩ | ⟨hji, hj⟩
  · cases e
    have hl : j < env.length := by have := (List.getElem?_eq_some_iff.mp hj).1; rw [List.length_set] at this; exact this
    exact ⟨v, by rw [List.getElem?_set_self (by rw [← r.len]; exact hl)], h⟩
  · obtain ⟨w, h1, h2⟩ := r.at_ j b hj
    exact ⟨w, by rw [List.getElem?_set_ne (fun q => hji q.symm)]; exact h1, h2⟩
theorem REnv.unset {env : AEnv} (r : REnv K F μ env σ) (i : Nat) : REnv K F μ (env.set i none) (σ.set i none) := by
  refine ⟨by rw [List.length_set, List.length_set]; exact r.len, fun j b hj => ?_⟩
  rcases get_set hj with ⟨rfl, e⟩ | ⟨hji, hj⟩
  · cases e
  · obtain ⟨w, h1, h2⟩ := r.at_ j b hj
    exact ⟨w, by rw [List.getElem?_set_ne (fun q => hji q.symm)]; exact h1, h2⟩
theorem Kont.ext {α β : Type} {R : Rel α β} {Q : β → Hp → Prop} {a : α} {st : Store} (e : Ext F F' μ μ') (h : Kont K Z R F μ Q a st) : Kont K Z R F' μ' Q a st :=
  fun F2 μ2 H2 b e2 g r => h F2 μ2 H2 b (e.trans e2) g r
theorem KX.ext {e : Exc} {st : Store} (x : Ext F F' μ μ') (h : KX K Z F μ σ W e st) : KX K Z F' μ' σ W e st :=
  fun F2 μ2 H2 d e2 g r => h F2 μ2 H2 d (x.trans e2) g r
theorem post_ext {α β : Type} {R : Rel α β} {Q : β → Hp → Prop} {r : Res α} (e : Ext F F' μ μ') (h : r.post (Kont K Z R F μ Q) (KX K Z F μ σ W)) : r.post (Kont K Z R F' μ' Q) (KX K Z F' μ' σ W) :=
  Res.post_mono h (fun _ _ q => q.ext e) (fun _ _ q => q.ext e)
/-- the value that is there goes on -/
theorem Kont.now {α β : Type} {R : Rel α β} {Q : β → Hp → Prop} {a : α} {b : β} {st : Store} {H : Hp} (h : Kont K Z R F μ Q a st) (g : Good K Z F μ st H) (r : R K F μ a b) : Q b H := h F μ H b Ext.refl g r
/-- one reading, then another -/
theorem Sim.bind {α β α' β' : Type} {R : Rel α β} {R' : Rel α' β'} {t : St → Hp → (β → Hp → Prop) → Prop} {m : AEnv → Store → Res α} {m' : α → AEnv → Store → Res α'} {k : β → St → Hp → (β' → Hp → Prop) → Prop} (h : Sim K R W t m)
    (h' : ∀ (Z F : Hp) (μ : List Addr) (st : Store) (env : AEnv) (σ : St) (H : Hp) (Q : β' → Hp → Prop) (a : α) (b : β), Good K Z F μ st H → REnv K F μ env σ → R K F μ a b → (m' a env st).post (Kont K Z R' F μ Q) (KX K Z F μ σ W) → k b σ H Q) :
    Sim K R' W (fun σ H Q => t σ H fun b H1 => k b σ H1 Q) (fun env st => (m env st).bind fun a st1 => m' a env st1) := by
  intro Z F μ st env σ H Q g re hp
  rw [Res.post_bind] at hp
  refine h Z F μ st env σ H _ g re (Res.post_mono hp (fun a st1 q => ?_) fun _ _ q => q)
  intro F1 μ1 H1 b e1 g1 r1
  exact h' Z F1 μ1 st1 env σ H1 Q a b g1 (re.mono e1) r1 (post_ext e1 q)
end

/-! ### operations on values -/
abbrev Op1 := A → Store → Option (A × Store)
abbrev Op2 := A → A → Store → Option (A × Store)
abbrev OpN := List A → Store → Option (A × Store)
def SimV1 (K : PySem.W.Frag) (r : V → Hp → VK → Prop) (op : Op1) : Prop := ∀ (Z F : Hp) (μ : List Addr) (st st' : Store) (H : Hp) (a c : A) (x : V) (Q : VK), Good K Z F μ st H → Rep K F μ a x → op a st = some (c, st') → Kont K Z Rep F μ Q c st' → r x H Q
def SimV2 (K : PySem.W.Frag) (r : R2) (op : Op2) : Prop := ∀ (Z F : Hp) (μ : List Addr) (st st' : Store) (H : Hp) (a b c : A) (x y : V) (Q : VK), Good K Z F μ st H → Rep K F μ a x → Rep K F μ b y → op a b st = some (c, st') → Kont K Z Rep F μ Q c st' → r x y H Q
def SimVN (K : PySem.W.Frag) (r : List V → Hp → VK → Prop) (op : OpN) : Prop := ∀ (Z F : Hp) (μ : List Addr) (st st' : Store) (H : Hp) (as : List A) (c : A) (xs : List V) (Q : VK), Good K Z F μ st H → Reps K F μ as xs → op as st = some (c, st') → Kont K Z Rep F μ Q c st' → r xs H Q
def SimMt (K : PySem.W.Frag) (T : String) (r : V → List V → Hp → VK → Prop) (op : A → OpN) : Prop := ∀ (Z F : Hp) (μ : List Addr) (st st' : Store) (H : Hp) (a : A) (as : List A) (c : A) (x : V) (xs : List V) (Q : VK), Good K Z F μ st H → Rep K F μ a x → Reps K F μ as xs → op a as st = some (c, st') → Kont K Z Rep F μ Q c st' → tyV K T x H ∧ r x xs H Q
theorem SimV2.or {K : PySem.W.Frag} {r r' : R2} {op op' : Op2} (h : SimV2 K r op) (h' : SimV2 K r' op') : SimV2 K (fun x y H Q => r x y H Q ∨ r' x y H Q) (fun a b st => (op a b st).or (op' a b st)) := by
  intro Z F μ st st' H a b c x y Q g ra rb e k
  cases e1 : op a b st with
  | none => simp only [e1, Option.none_or] at e; exact .inr (h' Z F μ st st' H a b c x y Q g ra rb e k)
  | some p => simp only [e1, Option.some_or] at e; cases e; exact .inl (h Z F μ st st' H a b c x y Q g ra rb e1 k)
/-- a list made new: a cell, or known at once -/
def newL (mk : Bool) (xs : List A) (st : Store) : A × Store := if mk then (.cell st.length, st ++ [.lst xs]) else (.lst xs, st)
theorem newL_ok {K : PySem.W.Frag} {F : Hp} {μ : List Addr} {st : Store} {H : Hp} {mk : Bool} {xs : List A} {vs : List V} {Q : VK} {p : Addr} (g : Good K Z F μ st H) (hp : H p = none) (r : Reps K F μ xs vs)
    (k : Kont K Z Rep F μ Q (newL mk xs st).1 (newL mk xs st).2) : Q (.ref p) (upd H p (.lst vs)) := by
  cases mk with
  | true =>
    obtain ⟨g', e⟩ := g.push (p := p) (o := .lst vs) (c := .lst xs) hp ⟨vs, upd_same, r⟩
    exact k _ _ _ _ e g' (.cell (by rw [← g.len, List.getElem?_append_right (Nat.le_refl _), Nat.sub_self]; rfl))
  | false =>
    obtain ⟨g', e⟩ := g.known (p := p) (o := .lst vs) hp
    exact k _ _ _ _ e g' (.lst upd_same (r.mono e))
theorem newT_ok {K : PySem.W.Frag} {F : Hp} {μ : List Addr} {st : Store} {H : Hp} {xs : List A} {vs : List V} {Q : VK} {p : Addr} (g : Good K Z F μ st H) (hp : H p = none) (r : Reps K F μ xs vs)
    (k : Kont K Z Rep F μ Q (.tup xs) st) : Q (.ref p) (upd H p (.tup vs)) := by
  obtain ⟨g', e⟩ := g.known (p := p) (o := .tup vs) hp
  exact k _ _ _ _ e g' (.tup (SqT.of upd_same) (r.mono e))
/-- lists that stand tracked -/
def lstH : A → Store → Option (List A)
  | .lst xs, _ => some xs
  | .cell n, st => match st[n]? with
    | some (.lst xs) => some xs
    | _ => none
  | _, _ => none
theorem lstH_ok {K : PySem.W.Frag} {F : Hp} {μ : List Addr} {st : Store} {H : Hp} {a : A} {xs : List A} {v : V} (g : Good K Z F μ st H) (r : Rep K F μ a v) (h : lstH a st = some xs) : ∃ p vs, v = .ref p ∧ H p = some (.lst vs) ∧ Reps K F μ xs vs := by
  cases a with
  | lst ys =>
    cases h
    cases r with
    | lst h1 r => exact ⟨_, _, rfl, g.sub _ _ h1, r⟩
  | cell n =>
    cases r with
    | cell h1 =>
      have h : (match st[n]? with | some (.lst xs) => some xs | _ => none) = some xs := h
      cases e : st[n]? with
      | none => rw [e] at h; cases h
      | some c =>
        rw [e] at h
        cases c with
        | lst ys =>
          cases h
          obtain ⟨a, h2, h3, vs, h4, h5⟩ := g.cell n _ e (by intro z; cases z)
          rw [h1] at h2; cases h2
          exact ⟨_, vs, rfl, h4, h5⟩
        | _ => cases h
  | _ => cases h
/-- any list that is read -/
def lstR : A → Store → Option (List A)
  | .slst xs, _ => some xs
  | a, st => lstH a st
theorem lstR_ok {K : PySem.W.Frag} {F : Hp} {μ : List Addr} {st : Store} {H : Hp} {a : A} {xs : List A} {v : V} (g : Good K Z F μ st H) (r : Rep K F μ a v) (h : lstR a st = some xs) : ∃ p vs, v = .ref p ∧ SqL K H p vs ∧ Reps K F μ xs vs := by
  have key : lstH a st = some xs → ∃ p vs, v = .ref p ∧ SqL K H p vs ∧ Reps K F μ xs vs := fun h => by
    obtain ⟨p, vs, e, h1, h2⟩ := lstH_ok g r h
    exact ⟨p, vs, e, SqL.of h1, h2⟩
  cases a with
  | slst ys =>
    cases h
    cases r with
    | slst h1 r => exact ⟨_, _, rfl, SqL.mono g.sub h1, r⟩
  | _ => exact key h
/-- a tuple's items -/
def tupR : A → Option (List A)
  | .tup xs => some xs
  | _ => none
theorem tupR_ok {K : PySem.W.Frag} {F : Hp} {μ : List Addr} {st : Store} {H : Hp} {a : A} {xs : List A} {v : V} (g : Good K Z F μ st H) (r : Rep K F μ a v) (h : tupR a = some xs) : ∃ p vs, v = .ref p ∧ SqT K H p vs ∧ Reps K F μ xs vs := by
  cases a with
  | tup ys =>
    cases h
    cases r with
    | tup h1 r => exact ⟨_, _, rfl, SqT.mono g.sub h1, r⟩
  | _ => cases h
/-- a list or a tuple that is read -/
def seqR (a : A) (st : Store) : Option (List A) := (tupR a).or (lstR a st)
theorem seqR_ok {K : PySem.W.Frag} {F : Hp} {μ : List Addr} {st : Store} {H : Hp} {a : A} {xs : List A} {v : V} (g : Good K Z F μ st H) (r : Rep K F μ a v) (h : seqR a st = some xs) : ∃ p vs, v = .ref p ∧ (SqL K H p vs ∨ SqT K H p vs) ∧ Reps K F μ xs vs := by
  unfold seqR at h
  cases e : tupR a with
  | some ys =>
    rw [e] at h; cases h
    obtain ⟨p, vs, e, h1, h2⟩ := tupR_ok g r e
    exact ⟨p, vs, e, .inr h1, h2⟩
  | none =>
    rw [e] at h
    obtain ⟨p, vs, e, h1, h2⟩ := lstR_ok g r h
    exact ⟨p, vs, e, .inl h1, h2⟩

/-! ### arithmetic -/
section
variable {K : PySem.W.Frag}
theorem Kont.same {F : Hp} {μ : List Addr} {st : Store} {H : Hp} {Q : VK} {a : A} {v : V} (k : Kont K Z Rep F μ Q a st) (g : Good K Z F μ st H) (r : Rep K F μ a v) : Q v H := k.now g r
def iiOp (p : Int → Int → Option A) : Op2 := fun a b st => match a, b with
  | .int i, .int j => (p i j).map fun c => (c, st)
  | _, _ => none
theorem sim_ii {C : Int → Int → Prop} {g : Int → Int → V} {p : Int → Int → Option A} (h : ∀ i j c, p i j = some c → C i j ∧ ∀ F μ, Rep K F μ c (g i j)) : SimV2 K (rI C g) (iiOp p) := by
  intro Z F μ st st' H a b c x y Q gd ra rb e k
  cases a with
  | int i =>
    cases b with
    | int j =>
      cases ra; cases rb
      have e : (p i j).map (fun c => (c, st)) = some (c, st') := e
      cases q : p i j with
      | none => rw [q] at e; cases e
      | some c' =>
        rw [q] at e; cases e
        obtain ⟨h1, h2⟩ := h i j _ q
        exact ⟨i, j, rfl, rfl, h1, k.same gd (h2 _ _)⟩
    | _ => cases e
  | _ => cases e
theorem sim_ii0 {g : Int → Int → V} {p : Int → Int → A} (h : ∀ i j F μ, Rep K F μ (p i j) (g i j)) : SimV2 K (rI0 g) (iiOp fun i j => some (p i j)) := by
  intro Z F μ st st' H a b c x y Q gd ra rb e k
  cases a with
  | int i =>
    cases b with
    | int j => cases ra; cases rb; cases e; exact ⟨i, j, rfl, rfl, k.same gd (h _ _ _ _)⟩
    | _ => cases e
  | _ => cases e
def gd (c : Prop) [Decidable c] (a : A) : Option A := if c then some a else none
@[simp] theorem gd_true {c : Prop} [Decidable c] {a : A} (h : c) : gd c a = some a := if_pos h
theorem gd_some {c : Prop} [Decidable c] {a b : A} (h : gd c a = some b) : c ∧ b = a := by
  unfold gd at h
  split at h
  · cases h; exact ⟨by assumption, rfl⟩
  · cases h
instance (i j : Int) : Decidable (CMulW i j) := by unfold CMulW; infer_instance
instance (i j : Int) : Decidable (CDivN i j) := by unfold CDivN; infer_instance
instance (i j : Int) : Decidable (CDivW i j) := by unfold CDivW; infer_instance
instance (i j : Int) : Decidable (CPow i j) := by unfold CPow; infer_instance
/-! + -/
def addI : Op2 := iiOp fun i j => some (.int (i + j))
def addS : Op2 := fun a b st => match a, b with
  | .str x, .str y => (gd (x.length + y.length ≤ sizeLine) (.str (x ++ y))).map fun c => (c, st)
  | _, _ => none
def addL (mk : Bool) : Op2 := fun a b st => match lstH a st, lstH b st with
  | some xs, some ys => if xs.length + ys.length ≤ sizeLine then some (newL mk (xs ++ ys) st) else none
  | _, _ => none
def addT : Op2 := fun a b st => match a, b with
  | .tup xs, .tup ys => if xs ≠ [] ∧ xs.length + ys.length ≤ sizeLine then some (.tup (xs ++ ys), st) else none
  | _, _ => none
theorem sim_addI : SimV2 K (rI0 fun i j => .int (i + j)) addI := sim_ii0 fun i j _ _ => .int _
theorem sim_addS : SimV2 K (fun x y H Q => ∃ i j, x = .str i ∧ y = .str j ∧ i.length + j.length ≤ sizeLine ∧ Q (.str (i ++ j)) H) addS := by
  intro Z F μ st st' H a b c x y Q g ra rb e k
  cases a with
  | str i =>
    cases b with
    | str j =>
      cases ra; cases rb
      have e : (gd (i.length + j.length ≤ sizeLine) (.str (i ++ j))).map (fun c => (c, st)) = some (c, st') := e
      cases q : gd (i.length + j.length ≤ sizeLine) (.str (i ++ j)) with
      | none => rw [q] at e; cases e
      | some c' =>
        rw [q] at e; cases e
        obtain ⟨h1, rfl⟩ := gd_some q
        exact ⟨i, j, rfl, rfl, h1, k.same g (.str _)⟩
    | _ => cases e
  | _ => cases e
theorem sim_addL {mk : Bool} : SimV2 K rCat (addL mk) := by
  intro Z F μ st st' H a b c x y Q g ra rb e k
  unfold addL at e
  cases ea : lstH a st with
  | none => rw [ea] at e; cases e
  | some xs =>
    cases eb : lstH b st with
    | none => rw [ea, eb] at e; cases e
    | some ys =>
      rw [ea, eb] at e
      obtain ⟨p, vs, rfl, h1, r1⟩ := lstH_ok g ra ea
      obtain ⟨q, ws, rfl, h2, r2⟩ := lstH_ok g rb eb
      have e : (if xs.length + ys.length ≤ sizeLine then some (newL mk (xs ++ ys) st) else none) = some (c, st') := e
      by_cases hl : xs.length + ys.length ≤ sizeLine
      · rw [if_pos hl] at e
        have e1 : newL mk (xs ++ ys) st = (c, st') := Option.some.inj e
        refine ⟨p, q, vs, ws, rfl, rfl, h1, h2, by rw [← r1.length, ← r2.length]; exact hl, fun l hl => ?_⟩
        exact newL_ok (mk := mk) g hl (r1.append r2) (by rw [e1]; exact k)
      · rw [if_neg hl] at e; cases e
theorem sim_addT : SimV2 K (rCatT K) addT := by
  intro Z F μ st st' H a b c x y Q g ra rb e k
  cases a with
  | tup xs =>
    cases b with
    | tup ys =>
      have e : (if xs ≠ [] ∧ xs.length + ys.length ≤ sizeLine then some (A.tup (xs ++ ys), st) else none) = some (c, st') := e
      by_cases hl : xs ≠ [] ∧ xs.length + ys.length ≤ sizeLine
      · rw [if_pos hl] at e; cases e
        obtain ⟨p, vs, rfl, h1, r1⟩ := tupR_ok g ra rfl
        obtain ⟨q, ws, rfl, h2, r2⟩ := tupR_ok g rb rfl
        refine ⟨p, q, vs, ws, rfl, rfl, h1, h2, fun z => hl.1 (List.length_eq_zero_iff.mp (by rw [r1.length, z]; rfl)), by rw [← r1.length, ← r2.length]; exact hl.2, fun z => ?_, fun _ l hp => newT_ok g hp (r1.append r2) k⟩
        have ey : ys = [] := List.length_eq_zero_iff.mp (by rw [r2.length, z]; rfl)
        subst ey
        rw [List.append_nil] at k
        exact k.same g ra
      · rw [if_neg hl] at e; cases e
    | _ => cases e
  | _ => cases e
def rAddA (K : PySem.W.Frag) : R2 := fun x y H Q => (rI0 fun i j => .int (i + j)) x y H Q ∨ (∃ i j, x = .str i ∧ y = .str j ∧ i.length + j.length ≤ sizeLine ∧ Q (.str (i ++ j)) H) ∨ rCat x y H Q ∨ rCatT K x y H Q
def addOp (mk : Bool) : Op2 := fun a b st => (addI a b st).or ((addS a b st).or ((addL mk a b st).or (addT a b st)))
theorem sim_add {mk : Bool} : SimV2 K (rAddA K) (addOp mk) := SimV2.or sim_addI (SimV2.or sim_addS (SimV2.or sim_addL sim_addT))
theorem op_addA {X : Cx} : OpR X (binaryOp .Add) (rAddA X.K) := op_add.or (op_add_str.or (op_cat.or op_catT))
/-! - * // % ** -/
def subOp : Op2 := iiOp fun i j => some (.int (i - j))
theorem sim_sub : SimV2 K (rI0 fun i j => .int (i - j)) subOp := sim_ii0 fun i j _ _ => .int _
def mulI : Op2 := iiOp fun i j => gd (CMulW i j) (.int (i * j))
theorem sim_mulI : SimV2 K (rI CMulW fun i j => .int (i * j)) mulI := sim_ii fun i j c h => by
  obtain ⟨h1, rfl⟩ := gd_some h
  exact ⟨h1, fun _ _ => .int _⟩
def mulL (mk : Bool) : Op2 := fun a b st => match lstH a st, b with
  | some xs, .int k => if -(2 ^ 63) ≤ k ∧ k < 2 ^ 63 ∧ xs.length * k.toNat ≤ sizeLine then some (newL mk (List.replicate k.toNat xs).flatten st) else none
  | _, _ => none
theorem sim_mulL {mk : Bool} : SimV2 K rRep (mulL mk) := by
  intro Z F μ st st' H a b c x y Q g ra rb e k
  unfold mulL at e
  cases ea : lstH a st with
  | none => rw [ea] at e; cases e
  | some xs =>
    rw [ea] at e
    cases b with
    | int n =>
      cases rb
      obtain ⟨p, vs, rfl, h1, r1⟩ := lstH_ok g ra ea
      have e : (if -(2 ^ 63) ≤ n ∧ n < 2 ^ 63 ∧ xs.length * n.toNat ≤ sizeLine then some (newL mk (List.replicate n.toNat xs).flatten st) else none) = some (c, st') := e
      by_cases hl : -(2 ^ 63) ≤ n ∧ n < 2 ^ 63 ∧ xs.length * n.toNat ≤ sizeLine
      · rw [if_pos hl] at e
        have e1 : newL mk (List.replicate n.toNat xs).flatten st = (c, st') := Option.some.inj e
        refine ⟨p, n, vs, rfl, rfl, h1, hl.1, hl.2.1, by rw [← r1.length]; exact hl.2.2, fun l hl => ?_⟩
        exact newL_ok (mk := mk) g hl (r1.rep _) (by rw [e1]; exact k)
      · rw [if_neg hl] at e; cases e
    | _ => cases e
def rMulA : R2 := fun x y H Q => (rI CMulW fun i j => .int (i * j)) x y H Q ∨ rRep x y H Q
def mulOp (mk : Bool) : Op2 := fun a b st => (mulI a b st).or (mulL mk a b st)
theorem sim_mul {mk : Bool} : SimV2 K rMulA (mulOp mk) := SimV2.or sim_mulI sim_mulL
theorem op_mulA {X : Cx} : OpR X (binaryOp .Mult) rMulA := op_mulW.or op_rep
def fdivN : Op2 := iiOp fun i j => gd (CDivN i j) (.int (i.fdiv j))
/-- // by a divisor of either sign, of less than nine thousand bits -/
def CDivL (_ j : Int) : Prop := j ≠ 0 ∧ j.natAbs.log2 < 9000
instance (i j : Int) : Decidable (CDivL i j) := by unfold CDivL; infer_instance
theorem op_fdivL {X : Cx} : OpR X (binaryOp .FloorDiv) (rI CDivL fun i j => .int (i.fdiv j)) := opI fun _ _ _ _ _ _ _ hc q => floordiv_int hc.1 q (.inl (PyProof.noPylong_of_log2 hc.2))
def fdivW : Op2 := iiOp fun i j => gd (CDivL i j) (.int (i.fdiv j))
theorem sim_fdivN : SimV2 K (rI CDivN fun i j => .int (i.fdiv j)) fdivN := sim_ii fun i j c h => by
  obtain ⟨h1, rfl⟩ := gd_some h
  exact ⟨h1, fun _ _ => .int _⟩
theorem sim_fdivW : SimV2 K (rI CDivL fun i j => .int (i.fdiv j)) fdivW := sim_ii fun i j c h => by
  obtain ⟨h1, rfl⟩ := gd_some h
  exact ⟨h1, fun _ _ => .int _⟩
def rFdivA : R2 := fun x y H Q => (rI CDivN fun i j => .int (i.fdiv j)) x y H Q ∨ (rI CDivL fun i j => .int (i.fdiv j)) x y H Q
def fdivOp : Op2 := fun a b st => (fdivN a b st).or (fdivW a b st)
theorem sim_fdiv : SimV2 K rFdivA fdivOp := SimV2.or sim_fdivN sim_fdivW
theorem op_fdivA {X : Cx} : OpR X (binaryOp .FloorDiv) rFdivA := op_fdivN.or op_fdivL
def modOp : Op2 := iiOp fun i j => gd (j ≠ 0) (.int (i.fmod j))
theorem sim_mod : SimV2 K (rI (fun _ j => j ≠ 0) fun i j => .int (i.fmod j)) modOp := sim_ii fun i j c h => by
  obtain ⟨h1, rfl⟩ := gd_some h
  exact ⟨h1, fun _ _ => .int _⟩
def powOp : Op2 := iiOp fun i j => gd (CPow i j) (.int (i ^ j.toNat))
theorem sim_pow : SimV2 K (rI CPow fun i j => .int (i ^ j.toNat)) powOp := sim_ii fun i j c h => by
  obtain ⟨h1, rfl⟩ := gd_some h
  exact ⟨h1, fun _ _ => .int _⟩
/-! comparisons -/
def ltOp : Op2 := iiOp fun i j => some (.bl (decide (i < j)))
def leOp : Op2 := iiOp fun i j => some (.bl (decide (i ≤ j)))
def gtOp : Op2 := iiOp fun i j => some (.bl (decide (j < i)))
def geOp : Op2 := iiOp fun i j => some (.bl (decide (j ≤ i)))
theorem sim_lt : SimV2 K (rI0 fun i j => .bl (decide (i < j))) ltOp := sim_ii0 fun i j _ _ => .bl _
theorem sim_le : SimV2 K (rI0 fun i j => .bl (decide (i ≤ j))) leOp := sim_ii0 fun i j _ _ => .bl _
theorem sim_gt : SimV2 K (rI0 fun i j => .bl (decide (j < i))) gtOp := sim_ii0 fun i j _ _ => .bl _
theorem sim_ge : SimV2 K (rI0 fun i j => .bl (decide (j ≤ i))) geOp := sim_ii0 fun i j _ _ => .bl _
/-- all, or nothing -/
def optAll {α β : Type} (f : α → Option β) : List α → Option (List β)
  | [] => some []
  | x :: xs => match f x, optAll f xs with
    | some y, some ys => some (y :: ys)
    | _, _ => none
/-- plain data -/
def toD (st : Store) : Nat → A → Option PyData
  | _, .non => some .none
  | _, .bl b => some (.bool b)
  | _, .int i => some (.int i)
  | _, .str s => some (.str s)
  | n + 1, .lst xs => (optAll (toD st n) xs).map .list
  | n + 1, .slst xs => (optAll (toD st n) xs).map .list
  | n + 1, .tup xs => (optAll (toD st n) xs).map .tuple
  | n + 1, .cell c => match st[c]? with
    | some (.lst xs) => (optAll (toD st n) xs).map .list
    | _ => none
  | _, _ => none
theorem optAll_dp {F : Hp} {μ : List Addr} {H : Hp} {f : A → Option PyData} (h : ∀ a d v, f a = some d → Rep K F μ a v → Dp K H v d) : ∀ {xs : List A} {ds : List PyData} {vs : List V}, optAll f xs = some ds → Reps K F μ xs vs → DpAll K H vs ds
  | [], _, _, e, r => by cases e; cases r; exact .nil
  | x :: xs, ds, _, e, .cons r t => by
    unfold optAll at e
    cases e1 : f x with
    | none => rw [e1] at e; cases e
    | some y =>
      cases e2 : optAll f xs with
      | none => rw [e1, e2] at e; cases e
      | some ys =>
        rw [e1, e2] at e; cases e
        exact .cons (h _ _ _ e1 r) (optAll_dp h e2 t)
theorem toD_ok {F : Hp} {μ : List Addr} {st : Store} {H : Hp} (g : Good K Z F μ st H) : ∀ (n : Nat) (a : A) (d : PyData) (v : V), toD st n a = some d → Rep K F μ a v → Dp K H v d := by
  intro n
  induction n with
  | zero =>
    intro a d v e r
    cases a with
    | non => cases e; cases r; exact .non
    | bl b => cases e; cases r; exact .bl b
    | int i => cases e; cases r; exact .int i
    | str s => cases e; cases r; exact .str s
    | _ => cases e
  | succ n ih =>
    intro a d v e r
    have lists : ∀ xs : List A, (optAll (toD st n) xs).map PyData.list = some d → (∃ p vs, v = .ref p ∧ SqL K H p vs ∧ Reps K F μ xs vs) → Dp K H v d := by
      rintro xs e ⟨p, vs, rfl, h1, h2⟩
      cases e1 : optAll (toD st n) xs with
      | none => rw [e1] at e; cases e
      | some ds => rw [e1] at e; cases e; exact .lst h1 (optAll_dp ih e1 h2)
    cases a with
    | non => cases e; cases r; exact .non
    | bl b => cases e; cases r; exact .bl b
    | int i => cases e; cases r; exact .int i
    | str s => cases e; cases r; exact .str s
    | lst xs => exact lists xs e (lstR_ok g r rfl)
    | slst xs => exact lists xs e (lstR_ok g r rfl)
    | tup xs =>
      obtain ⟨p, vs, rfl, h1, h2⟩ := tupR_ok g r rfl
      have e : (optAll (toD st n) xs).map PyData.tuple = some d := e
      cases e1 : optAll (toD st n) xs with
      | none => rw [e1] at e; cases e
      | some ds => rw [e1] at e; cases e; exact .tup h1 (optAll_dp ih e1 h2)
    | cell c =>
      have e : (match st[c]? with | some (.lst xs) => (optAll (toD st n) xs).map .list | _ => none) = some d := e
      cases e1 : st[c]? with
      | none => rw [e1] at e; cases e
      | some cc =>
        cases cc with
        | lst xs => rw [e1] at e; exact lists xs e (lstR_ok g r (by simp only [lstR, lstH, e1]))
        | _ => rw [e1] at e; cases e
    | _ => cases e
/-- == of data -/
def eqD (neg : Bool) : Op2 := fun a b st => match toD st 50 a, toD st 50 b with
  | some d, some e => if SeqAt.shaped d = true ∧ SeqAt.shaped e = true then some (.bl (if neg then !PyData.eqv d e else PyData.eqv d e), st) else none
  | _, _ => none
theorem eqD_ok {neg : Bool} {F : Hp} {μ : List Addr} {st st' : Store} {H : Hp} {a b c : A} {x y : V} (g : Good K Z F μ st H) (ra : Rep K F μ a x) (rb : Rep K F μ b y) (e : eqD neg a b st = some (c, st')) :
    ∃ d e, Dp K H x d ∧ Dp K H y e ∧ SeqAt.shaped d = true ∧ SeqAt.shaped e = true ∧ c = .bl (if neg then !PyData.eqv d e else PyData.eqv d e) ∧ st' = st := by
  unfold eqD at e
  cases e1 : toD st 50 a with
  | none => rw [e1] at e; cases e
  | some d =>
    cases e2 : toD st 50 b with
    | none => rw [e1, e2] at e; cases e
    | some d' =>
      rw [e1, e2] at e
      have e : (if SeqAt.shaped d = true ∧ SeqAt.shaped d' = true then some (A.bl (if neg then !PyData.eqv d d' else PyData.eqv d d'), st) else none) = some (c, st') := e
      by_cases hs : SeqAt.shaped d = true ∧ SeqAt.shaped d' = true
      · rw [if_pos hs] at e; cases e
        exact ⟨d, d', toD_ok g _ _ _ _ e1 ra, toD_ok g _ _ _ _ e2 rb, hs.1, hs.2, rfl, rfl⟩
      · rw [if_neg hs] at e; cases e
theorem sim_eqD : SimV2 K (rEqD K) (eqD false) := by
  intro Z F μ st st' H a b c x y Q g ra rb e k
  obtain ⟨d, e', h1, h2, h3, h4, rfl, rfl⟩ := eqD_ok g ra rb e
  exact ⟨d, e', h1, h2, h3, h4, k.same g (.bl _)⟩
theorem sim_neD : SimV2 K (rNeD K) (eqD true) := by
  intro Z F μ st st' H a b c x y Q g ra rb e k
  obtain ⟨d, e', h1, h2, h3, h4, rfl, rfl⟩ := eqD_ok g ra rb e
  exact ⟨d, e', h1, h2, h3, h4, k.same g (.bl _)⟩
/-- scalars -/
def eqSc (neg : Bool) : Op2 := fun a b st => match a, b with
  | .int i, .int j => some (.bl (if neg then !decide (i = j) else decide (i = j)), st)
  | .str i, .str j => some (.bl (if neg then !decide (i = j) else decide (i = j)), st)
  | .bl i, .bl j => some (.bl (if neg then !decide (i = j) else decide (i = j)), st)
  | _, _ => none
theorem dV_int {i j : Int} : decide (V.int i = V.int j) = decide (i = j) := by by_cases h : i = j <;> simp [h]
theorem dV_str {i j : Str} : decide (V.str i = V.str j) = decide (i = j) := by by_cases h : i = j <;> simp [h]
theorem dV_bl {i j : Bool} : decide (V.bl i = V.bl j) = decide (i = j) := by by_cases h : i = j <;> simp [h]
theorem sim_eqSc : SimV2 K rEq (eqSc false) := by
  intro Z F μ st st' H a b c x y Q g ra rb e k
  cases a <;> cases b <;> first
    | cases e; done
    | (cases ra; cases rb; cases e; refine ⟨rfl, ?_⟩; first | rw [dV_int] | rw [dV_str] | rw [dV_bl]
       exact k.same g (.bl _))
theorem sim_neSc : SimV2 K rNe (eqSc true) := by
  intro Z F μ st st' H a b c x y Q g ra rb e k
  cases a <;> cases b <;> first
    | cases e; done
    | (cases ra; cases rb; cases e; refine ⟨rfl, ?_⟩; first | rw [dV_int] | rw [dV_str] | rw [dV_bl]
       exact k.same g (.bl _))
def eqOp : Op2 := fun a b st => (eqSc false a b st).or (eqD false a b st)
def neOp : Op2 := fun a b st => (eqSc true a b st).or (eqD true a b st)
def rEqA (K : PySem.W.Frag) : R2 := fun x y H Q => rEq x y H Q ∨ rEqD K x y H Q
def rNeA (K : PySem.W.Frag) : R2 := fun x y H Q => rNe x y H Q ∨ rNeD K x y H Q
theorem sim_eq : SimV2 K (rEqA K) eqOp := SimV2.or sim_eqSc sim_eqD
theorem sim_ne : SimV2 K (rNeA K) neOp := SimV2.or sim_neSc sim_neD
/-! is, in -/
/-- x is None -/
def isN0 (neg : Bool) : Op2 := fun a b st => match b with
  | .non => (match a with
    | .non => some (.bl (!neg), st)
    | .cell _ => none
    | _ => some (.bl neg, st))
  | _ => none
/-- x is True, of a bool x -/
def isB0 (neg : Bool) : Op2 := fun a b st => match a, b with
  | .bl x, .bl y => some (.bl (if neg then !decide (x = y) else decide (x = y)), st)
  | _, _ => none
def isNOp (neg : Bool) : Op2 := fun a b st => (isN0 neg a b st).or (isB0 neg a b st)
theorem isN_ok {neg : Bool} {F : Hp} {μ : List Addr} {st st' : Store} {a b c : A} {x y : V} (ra : Rep K F μ a x) (rb : Rep K F μ b y) (e : isN0 neg a b st = some (c, st')) :
    y = .non ∧ c = .bl (if neg then !decide (x = .non) else decide (x = .non)) ∧ st' = st := by
  cases b with
  | non =>
    cases rb
    refine ⟨rfl, ?_⟩
    cases a <;> cases ra <;> cases e <;> cases neg <;> simp
  | _ => cases e
theorem isB_ok {neg : Bool} {F : Hp} {μ : List Addr} {st st' : Store} {a b c : A} {x y : V} (ra : Rep K F μ a x) (rb : Rep K F μ b y) (e : isB0 neg a b st = some (c, st')) :
    ∃ p q : Bool, x = .bl p ∧ y = .bl q ∧ c = .bl (if neg then !decide (p = q) else decide (p = q)) ∧ st' = st := by
  cases a <;> cases b <;> first | (cases e; done) | (cases ra; cases rb; cases e; exact ⟨_, _, rfl, rfl, rfl, rfl⟩)
def rIsA : R2 := fun x y H Q => (y = .non ∧ Q (.bl (decide (x = .non))) H) ∨ rIsB x y H Q
def rNotA : R2 := fun x y H Q => (y = .non ∧ Q (.bl (!decide (x = .non))) H) ∨ rNotB x y H Q
theorem sim_isN : SimV2 K rIsA (isNOp false) := SimV2.or (r := fun x y H Q => y = .non ∧ Q (.bl (decide (x = .non))) H) (fun Z F μ st st' H a b c x y Q g ra rb e k => by
  obtain ⟨h1, rfl, rfl⟩ := isN_ok ra rb e
  exact ⟨h1, k.same g (.bl _)⟩) (fun Z F μ st st' H a b c x y Q g ra rb e k => by
  obtain ⟨p, q, rfl, rfl, rfl, rfl⟩ := isB_ok ra rb e
  exact ⟨p, q, rfl, rfl, k.same g (.bl _)⟩)
theorem sim_notN : SimV2 K rNotA (isNOp true) := SimV2.or (r := fun x y H Q => y = .non ∧ Q (.bl (!decide (x = .non))) H) (fun Z F μ st st' H a b c x y Q g ra rb e k => by
  obtain ⟨h1, rfl, rfl⟩ := isN_ok ra rb e
  exact ⟨h1, k.same g (.bl _)⟩) (fun Z F μ st st' H a b c x y Q g ra rb e k => by
  obtain ⟨p, q, rfl, rfl, rfl, rfl⟩ := isB_ok ra rb e
  exact ⟨p, q, rfl, rfl, k.same g (.bl _)⟩)
/-! truth -/
def truA (st : Store) : A → Option Bool
  | .non => some false
  | .bl b => some b
  | .int i => some (i != 0)
  | .str y => if y.length ≤ sizeLine then some ((y.length : Int) != 0) else none
  | .dct ks _ => some (!ks.isEmpty)
  | .cell n => match st[n]? with
    | some (.lst xs) => some (!xs.isEmpty)
    | some (.dct ks _) => some (!ks.isEmpty)
    | _ => none
  | a => (seqR a st).map fun xs => !xs.isEmpty
theorem isEmpty_len {α β : Type} {xs : List α} {ys : List β} (h : xs.length = ys.length) : xs.isEmpty = ys.isEmpty := by
  cases xs <;> cases ys <;> simp_all
theorem seq_tru {F : Hp} {μ : List Addr} {st : Store} {H : Hp} {a : A} {x : V} {b : Bool} (g : Good K Z F μ st H) (r : Rep K F μ a x) (h : (seqR a st).map (fun xs => !xs.isEmpty) = some b) : TruV K x H b := by
  cases e : seqR a st with
  | none => rw [e] at h; cases h
  | some xs =>
    rw [e] at h; cases h
    obtain ⟨p, vs, rfl, h1, r1⟩ := seqR_ok g r e
    rcases h1 with h1 | h1
    · exact .inl ⟨vs, h1, congrArg (fun b => !b) (isEmpty_len r1.length)⟩
    · exact .inr (.inl ⟨vs, h1, congrArg (fun b => !b) (isEmpty_len r1.length)⟩)
theorem tru_of {F : Hp} {μ : List Addr} {st : Store} {H : Hp} {a : A} {x : V} {b : Bool} (g : Good K Z F μ st H) (r : Rep K F μ a x) (h : truA st a = some b) : TruV K x H b := by
  cases a with
  | non => cases h; cases r; rfl
  | bl b => cases h; cases r; rfl
  | int i => cases h; cases r; rfl
  | str y =>
    cases r
    have h : (if y.length ≤ sizeLine then some ((y.length : Int) != 0) else none) = some b := h
    by_cases hl : y.length ≤ sizeLine
    · rw [if_pos hl] at h; cases h; exact ⟨hl, rfl⟩
    · rw [if_neg hl] at h; cases h
  | dct ks vs =>
    cases h
    cases r with
    | dct h1 h2 r =>
      rename_i kvs
      exact .inr (.inr ⟨_, g.sub _ _ h1, by rw [isEmpty_len (α := Key) (β := Key × V) (by rw [← h2, List.length_map])]⟩)
  | xcp a d c ns vs => cases h
  | cell n =>
    have h : (match st[n]? with | some (.lst xs) => some (!xs.isEmpty) | some (.dct ks _) => some (!ks.isEmpty) | _ => none) = some b := h
    cases e : st[n]? with
    | none => rw [e] at h; cases h
    | some c =>
      rw [e] at h
      cases c with
      | lst xs =>
        refine seq_tru (a := .cell n) g r ?_
        have : seqR (.cell n) st = some xs := by simp [seqR, tupR, lstR, lstH, e]
        rw [this]; exact h
      | dct ks vs =>
        cases h
        cases r with
        | cell h1 =>
          obtain ⟨a, h2, _, kvs, h4, h5, _⟩ := g.cell n _ e (by intro z; cases z)
          rw [h1] at h2; cases h2
          exact .inr (.inr ⟨kvs, h4, by rw [isEmpty_len (α := Key) (β := Key × V) (by rw [← h5, List.length_map])]⟩)
      | _ => cases h
  | lst xs => exact seq_tru g r h
  | slst xs => exact seq_tru g r h
  | tup xs => exact seq_tru g r h
  | ty n => cases h
  | glo x => cases h
  | obj c ns vs => cases h
end
end SL

set_option Elab.async false
set_option linter.all false
set_option maxRecDepth 100000
set_option maxHeartbeats 4000000
/-! SLc: expressions, calls, a def. -/
namespace SL
open PySem PySem.Spec L2
open PyProof.Rows hiding St

section
variable {Γ : G} {X : Cx}
theorem CtxOk.vis (h : CtxOk Γ X) {x : Str} (v : Vis Γ.sc x) : Vis X.env.scope x := by rw [h.sc]; exact v
theorem CtxOk.gl (h : CtxOk Γ X) {x : Str} (v : Γ.sc.names.lookup x = some .globalImplicit) : Gl X x := by unfold Gl Env.kindOf; rw [h.sc]; exact v
theorem CtxOk.mgn (h : CtxOk Γ X) {x : Str} {o : Option Value} (v : Γ.mg x = o) : X.mg x = o := by rw [h.mg]; exact v
theorem CtxOk.name (h : CtxOk Γ X) {x : Str} {i : Nat} (v : Γ.N[i]? = some x) : X.N[i]? = some x := by rw [h.N]; exact v
end

/-! ### names, constants -/
def eVar (i : Nat) : AEnv → Store → Res A := fun env st => match env[i]? with
  | some (some a) => .ok a st
  | _ => .stuck
def eC (a : A) : AEnv → Store → Res A := fun _ st => .ok a st
section
variable {Γ : G}
theorem sim_var {K : PySem.W.Frag} {W : WX} {i : Nat} : Sim K Rep W (tVar i) (eVar i) := by
  intro Z F μ st env σ H Q g re h
  unfold eVar at h
  cases e : env[i]? with
  | none => rw [e] at h; exact h.elim
  | some o =>
    cases o with
    | none => rw [e] at h; exact h.elim
    | some a =>
      rw [e] at h
      obtain ⟨v, h1, h2⟩ := re.at_ i a e
      exact ⟨v, h1, Kont.now h g h2⟩
theorem s_var {i : Nat} {x : Str} {pos : Pos} (hN : Γ.N[i]? = some x) (hv : Vis Γ.sc x) (hd : (x == ("__debug__" : Str)) = false := by decide) (hcd : (x == ("__classdict__" : Str)) = false := by decide) : SE Γ (.Name x pos) (eVar i) :=
  ⟨fun W => ⟨_, sim_var, fun X c _ => pe_var (c.name hN) (c.vis hv) hd hcd⟩⟩
theorem sim_c {K : PySem.W.Frag} {W : WX} {a : A} {v : V} (h : ∀ F μ, Rep K F μ a v) : Sim K Rep W (tC v) (eC a) := fun Z F μ st env σ H Q g re q => Kont.now (show Kont K Z Rep F μ Q a st from q) g (h _ _)
theorem s_int {i : Int} {j pos} : SE Γ (.Constant (.int i) j pos) (eC (.int i)) := ⟨fun W => ⟨_, sim_c fun _ _ => .int i, fun X c _ => pe_int⟩⟩
theorem s_bl {i : Bool} {j pos} : SE Γ (.Constant (.bool i) j pos) (eC (.bl i)) := ⟨fun W => ⟨_, sim_c fun _ _ => .bl i, fun X c _ => pe_bl⟩⟩
theorem s_str {i : Str} {j pos} : SE Γ (.Constant (.str i) j pos) (eC (.str i)) := ⟨fun W => ⟨_, sim_c fun _ _ => .str i, fun X c _ => pe_str⟩⟩
theorem s_non {j pos} : SE Γ (.Constant .none j pos) (eC .non) := ⟨fun W => ⟨_, sim_c fun _ _ => .non, fun X c _ => pe_non⟩⟩
/-- a def or class of the module as a value -/
theorem s_glo {x : Str} {pos : Pos} (hg : Γ.sc.names.lookup x = some .globalImplicit) (hm : Γ.mg x = some (.ref (He.ga Γ.K x))) (hd : (x == ("__debug__" : Str)) = false := by decide) : SE Γ (.Name x pos) (eC (.glo x)) :=
  ⟨fun W => ⟨_, sim_c fun _ _ => .glo x, fun X c _ => pe_glob (c.gl hg) (c.mgn hm) rfl hd⟩⟩
/-- a module's int -/
theorem s_gint {x : Str} {i : Int} {pos : Pos} (hg : Γ.sc.names.lookup x = some .globalImplicit) (hm : ∃ t, Γ.mg x = some (.int i t)) (hd : (x == ("__debug__" : Str)) = false := by decide) : SE Γ (.Name x pos) (eC (.int i)) :=
  let ⟨_, hm⟩ := hm
  ⟨fun W => ⟨_, sim_c fun _ _ => .int i, fun X c _ => pe_glob (c.gl hg) (c.mgn hm) ⟨_, rfl⟩ hd⟩⟩
/-- a builtin type as a value -/
theorem s_ty {x : Str} {n : String} {pos : Pos} (hg : Γ.sc.names.lookup x = some .globalImplicit) (hm : Γ.mg x = none) (hv : bootBuiltins x = some (.type n)) (hn : x ≠ "__name__" := by decide) (hd : (x == ("__debug__" : Str)) = false := by decide) : SE Γ (.Name x pos) (eC (.ty n)) :=
  ⟨fun W => ⟨_, sim_c fun _ _ => .ty n, fun X c _ => pe_bltn (c.gl hg) (c.mgn hm) hv rfl hn hd⟩⟩

/-! ### operators -/
def eBin (op : Op2) (ma mb : AEnv → Store → Res A) : AEnv → Store → Res A := fun env st => (ma env st).bind fun a st1 => (mb env st1).bind fun b st2 => Res.of (op a b st2)
def eUn (op : Op1) (ma : AEnv → Store → Res A) : AEnv → Store → Res A := fun env st => (ma env st).bind fun a st1 => Res.of (op a st1)
theorem sim_bin {K : PySem.W.Frag} {W : WX} {r : R2} {op : Op2} {ta tb : TE} {ma mb : AEnv → Store → Res A} (h : SimV2 K r op) (ha : Sim K Rep W ta ma) (hb : Sim K Rep W tb mb) : Sim K Rep W (tOp r ta tb) (eBin op ma mb) :=
  Sim.bind (k := fun x σ H Q => tb σ H fun y H2 => r x y H2 Q) (m' := fun a env st1 => (mb env st1).bind fun b st2 => Res.of (op a b st2)) ha fun Z F μ st env σ H Q a x g re ra hp => by
    rw [Res.post_bind] at hp
    refine hb Z F μ st env σ H _ g re (Res.post_mono hp (fun b st2 q => ?_) fun _ _ q => q)
    intro F1 μ1 H1 y e1 g1 rb
    obtain ⟨c, st3, e, k⟩ := Res.post_of q
    exact h Z F1 μ1 st2 st3 H1 a b c x y Q g1 (ra.mono e1) rb e (k.ext e1)
theorem sim_un {K : PySem.W.Frag} {W : WX} {r : V → Hp → VK → Prop} {op : Op1} {ta : TE} {ma : AEnv → Store → Res A} (h : SimV1 K r op) (ha : Sim K Rep W ta ma) : Sim K Rep W (tUn r ta) (eUn op ma) :=
  Sim.bind (k := fun x σ H Q => r x H Q) (m' := fun a env st1 => Res.of (op a st1)) ha fun Z F μ st env σ H Q a x g re ra hp => by
    obtain ⟨c, st3, e, k⟩ := Res.post_of hp
    exact h Z F μ st st3 H a c x Q g ra e k
variable {a b e : Expr} {ma mb mc : AEnv → Store → Res A} {pos : Pos}
theorem s_bin {o : Operator} {r : PySem.W.Frag → R2} {op : Op2} (ho : ∀ X : Cx, OpR X (binaryOp o) (r X.K)) (hs : SimV2 Γ.K (r Γ.K) op) (ha : SE Γ a ma) (hb : SE Γ b mb) : SE Γ (.BinOp a o b pos) (eBin op ma mb) :=
  ⟨fun W => by
    obtain ⟨ta, sa, pa⟩ := ha.run W
    obtain ⟨tb, sb, pb⟩ := hb.run W
    refine ⟨_, sim_bin hs sa sb, fun X c t => ?_⟩
    rw [← c.K]
    exact pe_op (ho X) (pa X c t) (pb X c t)⟩
theorem s_add {mk : Bool} (ha : SE Γ a ma) (hb : SE Γ b mb) : SE Γ (.BinOp a .Add b pos) (eBin (addOp mk) ma mb) := s_bin (fun _ => op_addA) sim_add ha hb
theorem s_sub (ha : SE Γ a ma) (hb : SE Γ b mb) : SE Γ (.BinOp a .Sub b pos) (eBin subOp ma mb) := s_bin (r := fun _ => _) (fun _ => op_sub) sim_sub ha hb
theorem s_mul {mk : Bool} (ha : SE Γ a ma) (hb : SE Γ b mb) : SE Γ (.BinOp a .Mult b pos) (eBin (mulOp mk) ma mb) := s_bin (r := fun _ => _) (fun _ => op_mulA) sim_mul ha hb
theorem s_fdiv (ha : SE Γ a ma) (hb : SE Γ b mb) : SE Γ (.BinOp a .FloorDiv b pos) (eBin fdivOp ma mb) := s_bin (r := fun _ => _) (fun _ => op_fdivA) sim_fdiv ha hb
theorem s_mod (ha : SE Γ a ma) (hb : SE Γ b mb) : SE Γ (.BinOp a .Mod b pos) (eBin modOp ma mb) := s_bin (r := fun _ => _) (fun _ => op_modN) sim_mod ha hb
theorem s_pow (ha : SE Γ a ma) (hb : SE Γ b mb) : SE Γ (.BinOp a .Pow b pos) (eBin powOp ma mb) := s_bin (r := fun _ => _) (fun _ => op_pow) sim_pow ha hb
def negOp : Op1 := fun a st => match a with
  | .int i => some (.int (-i), st)
  | _ => none
theorem sim_neg {K : PySem.W.Frag} : SimV1 K (rU fun i => .int (-i)) negOp := by
  intro Z F μ st st' H a c x Q g ra e k
  cases a with
  | int i => cases ra; cases e; exact ⟨i, rfl, k.same g (.int _)⟩
  | _ => cases e
theorem s_neg (ha : SE Γ a ma) : SE Γ (.UnaryOp .USub a pos) (eUn negOp ma) :=
  ⟨fun W => by
    obtain ⟨ta, sa, pa⟩ := ha.run W
    exact ⟨_, sim_un sim_neg sa, fun X c t => pe_un un_neg (pa X c t)⟩⟩

/-! ### comparisons, tests -/
def asB (a : A) (st : Store) : Res Bool := match a with
  | .bl b => .ok b st
  | _ => .stuck
def tOf (m : AEnv → Store → Res A) : AEnv → Store → Res Bool := fun env st => (m env st).bind asB
theorem sim_test {K : PySem.W.Frag} {W : WX} {t : TE} {m : AEnv → Store → Res A} (h : Sim K Rep W t m) : Sim K RepB W (tTest t) (tOf m) :=
  Sim.bind (R' := RepB) (k := fun x σ H Q => ∃ k, x = V.bl k ∧ Q k H) (m' := fun a env st1 => asB a st1) h fun Z F μ st env σ H Q a x g re ra hp => by
    cases a with
    | bl b => cases ra; exact ⟨b, rfl, Kont.now (show Kont K Z RepB F μ Q b st from hp) g rfl⟩
    | _ => exact hp.elim
theorem s_cmp {o : CmpOp} {r : PySem.W.Frag → R2} {op : Op2} (ho : ∀ X : Cx, CtxOk Γ X → OpR X (compareOp o) (r X.K)) (hs : SimV2 Γ.K (r Γ.K) op) (ha : SE Γ a ma) (hb : SE Γ b mb) (hm : behindInMarks o b = false) : SE Γ (.Compare a [o] [b] pos) (eBin op ma mb) :=
  ⟨fun W => by
    obtain ⟨ta, sa, pa⟩ := ha.run W
    obtain ⟨tb, sb, pb⟩ := hb.run W
    refine ⟨_, sim_bin hs sa sb, fun X c t => ?_⟩
    rw [← c.K]
    exact pe_cmpR (ho X c) (pa X c t) (pb X c t) hm⟩
theorem t_cmp {o : CmpOp} {r : PySem.W.Frag → R2} {op : Op2} (ho : ∀ X : Cx, CtxOk Γ X → OpR X (compareOp o) (r X.K)) (hs : SimV2 Γ.K (r Γ.K) op) (ha : SE Γ a ma) (hb : SE Γ b mb) (hm : behindInMarks o b = false) : ST Γ (.Compare a [o] [b] pos) (tOf (eBin op ma mb)) :=
  ⟨fun W => by
    obtain ⟨ta, sa, pa⟩ := ha.run W
    obtain ⟨tb, sb, pb⟩ := hb.run W
    refine ⟨_, sim_test (sim_bin hs sa sb), fun X c t => ?_⟩
    rw [← c.K]
    exact pt_cmpR (ho X c) (pa X c t) (pb X c t) hm⟩
/-- an operator of comparison, with its plain function -/
structure Cop (o : CmpOp) (op : Op2) : Prop where
  ex : ∃ r : PySem.W.Frag → R2, (∀ (Γ : G) (X : Cx), CtxOk Γ X → OpR X (compareOp o) (r X.K)) ∧ ∀ K, SimV2 K (r K) op
  nm : ∀ b, o = .In ∨ o = .NotIn ∨ behindInMarks o b = false
theorem c_eq : Cop .Eq eqOp := ⟨⟨rEqA, fun Γ X c => op_eq.or (op_eqD c.units), fun _ => sim_eq⟩, fun b => .inr (.inr (nomark b))⟩
theorem c_ne : Cop .NotEq neOp := ⟨⟨rNeA, fun Γ X c => op_ne.or (op_neD c.units), fun _ => sim_ne⟩, fun b => .inr (.inr (nomark b))⟩
theorem c_lt : Cop .Lt ltOp := ⟨⟨fun _ => _, fun Γ X c => op_lt, fun _ => sim_lt⟩, fun b => .inr (.inr (nomark b))⟩
theorem c_le : Cop .LtE leOp := ⟨⟨fun _ => _, fun Γ X c => op_le, fun _ => sim_le⟩, fun b => .inr (.inr (nomark b))⟩
theorem c_gt : Cop .Gt gtOp := ⟨⟨fun _ => _, fun Γ X c => op_gt, fun _ => sim_gt⟩, fun b => .inr (.inr (nomark b))⟩
theorem c_ge : Cop .GtE geOp := ⟨⟨fun _ => _, fun Γ X c => op_ge, fun _ => sim_ge⟩, fun b => .inr (.inr (nomark b))⟩
theorem c_isN : Cop .Is (isNOp false) := ⟨⟨fun _ => rIsA, fun Γ X c => op_isN.or op_isBl, fun _ => sim_isN⟩, fun b => .inr (.inr (nomark b))⟩
theorem c_notN : Cop .IsNot (isNOp true) := ⟨⟨fun _ => rNotA, fun Γ X c => op_notN.or op_notBl, fun _ => sim_notN⟩, fun b => .inr (.inr (nomark b))⟩
theorem s_c {o : CmpOp} {op : Op2} (h : Cop o op) (ha : SE Γ a ma) (hb : SE Γ b mb) (hm : behindInMarks o b = false := by first | exact nomark _ | rfl) : SE Γ (.Compare a [o] [b] pos) (eBin op ma mb) :=
  let ⟨_, h1, h2⟩ := h.ex
  s_cmp (fun X c => h1 Γ X c) (h2 _) ha hb hm
theorem t_c {o : CmpOp} {op : Op2} (h : Cop o op) (ha : SE Γ a ma) (hb : SE Γ b mb) (hm : behindInMarks o b = false := by first | exact nomark _ | rfl) : ST Γ (.Compare a [o] [b] pos) (tOf (eBin op ma mb)) :=
  let ⟨_, h1, h2⟩ := h.ex
  t_cmp (fun X c => h1 Γ X c) (h2 _) ha hb hm
/-- a op1 b op2 c -/
def eChain (o o' : Op2) (ma mb mc : AEnv → Store → Res A) : AEnv → Store → Res A := fun env st => (ma env st).bind fun a st1 => (mb env st1).bind fun b st2 => (Res.of (o a b st2)).bind fun z st3 => (asB z st3).bind fun k st4 =>
  if k then (mc env st4).bind fun c st5 => Res.of (o' b c st5) else .ok (.bl false) st4
theorem sim_chain {K : PySem.W.Frag} {W : WX} {r r' : R2} {o o' : Op2} {ta tb tc : TE} (h : SimV2 K r o) (h' : SimV2 K r' o') (ha : Sim K Rep W ta ma) (hb : Sim K Rep W tb mb) (hc : Sim K Rep W tc mc) : Sim K Rep W (tChain r r' ta tb tc) (eChain o o' ma mb mc) := by
  intro Z F μ st env σ H Q g re hp
  unfold eChain at hp
  rw [Res.post_bind] at hp
  refine ha Z F μ st env σ H _ g re (Res.post_mono hp (fun a st1 q => ?_) fun _ _ q => q)
  intro F1 μ1 H1 x e1 g1 ra
  rw [Res.post_bind] at q
  refine hb Z F1 μ1 st1 env σ H1 _ g1 (re.mono e1) (Res.post_mono q (fun b st2 q => ?_) fun _ _ q => q.ext e1)
  intro F2 μ2 H2 y e2 g2 rb
  rw [Res.post_bind] at q
  obtain ⟨z, st3, e, q⟩ := Res.post_of q
  refine h Z F2 μ2 st2 st3 H2 a b z x y _ g2 (ra.mono e2) rb e ?_
  intro F3 μ3 H3 v e3 g3 rz
  cases z with
  | bl k =>
    cases rz
    refine ⟨k, rfl, ?_⟩
    cases k with
    | true =>
      rw [if_pos rfl]
      have q : ((mc env st3).bind fun c st5 => Res.of (o' b c st5)).post (Kont K Z Rep F μ Q) (KX K Z F μ σ W) := q
      rw [Res.post_bind] at q
      have e13 := e1.trans (e2.trans e3)
      refine hc Z F3 μ3 st3 env σ H3 _ g3 (re.mono e13) (Res.post_mono q (fun c st4 q => ?_) fun _ _ q => q.ext e13)
      intro F4 μ4 H4 w' e4 g4 rc
      obtain ⟨d, st5, e', k⟩ := Res.post_of q
      exact h' Z F4 μ4 st4 st5 H4 b c d y w' Q g4 (rb.mono (e3.trans e4)) rc e' (k.ext (e13.trans e4))
    | false =>
      rw [if_neg Bool.false_ne_true]
      exact Kont.now ((show Kont K Z Rep F μ Q (.bl false) st3 from q).ext (e1.trans (e2.trans e3))) g3 (.bl _)
  | _ => exact q.elim
theorem s_chain {o o' : CmpOp} {op op' : Op2} {c : Expr} (h : Cop o op) (h' : Cop o' op') (ha : SE Γ a ma) (hb : SE Γ b mb) (hc : SE Γ c mc) (hm : lastMarks [o, o'] [b, c] = false := by with_unfolding_all rfl) : SE Γ (.Compare a [o, o'] [b, c] pos) (eChain op op' ma mb mc) :=
  ⟨fun W => by
    obtain ⟨r, h1, h2⟩ := h.ex
    obtain ⟨r', h1', h2'⟩ := h'.ex
    obtain ⟨ta, sa, pa⟩ := ha.run W
    obtain ⟨tb, sb, pb⟩ := hb.run W
    obtain ⟨tc, sc, pc⟩ := hc.run W
    refine ⟨_, sim_chain (h2 _) (h2' _) sa sb sc, fun X c t => ?_⟩
    rw [← c.K]
    exact pe_chain (h1 Γ X c) (h1' Γ X c) (pa X c t) (pb X c t) (pc X c t) hm⟩
theorem t_chain {o o' : CmpOp} {op op' : Op2} {c : Expr} (h : Cop o op) (h' : Cop o' op') (ha : SE Γ a ma) (hb : SE Γ b mb) (hc : SE Γ c mc) (hm : lastMarks [o, o'] [b, c] = false := by with_unfolding_all rfl) : ST Γ (.Compare a [o, o'] [b, c] pos) (tOf (eChain op op' ma mb mc)) :=
  ⟨fun W => by
    obtain ⟨r, h1, h2⟩ := h.ex
    obtain ⟨r', h1', h2'⟩ := h'.ex
    obtain ⟨ta, sa, pa⟩ := ha.run W
    obtain ⟨tb, sb, pb⟩ := hb.run W
    obtain ⟨tc, sc, pc⟩ := hc.run W
    refine ⟨_, sim_test (sim_chain (h2 _) (h2' _) sa sb sc), fun X c t => ?_⟩
    rw [← c.K]
    exact pt_chain (h1 Γ X c) (h1' Γ X c) (pa X c t) (pb X c t) (pc X c t) hm⟩
/-- any value's truth -/
def tTru (m : AEnv → Store → Res A) : AEnv → Store → Res Bool := fun env st => (m env st).bind fun a st1 => match truA st1 a with
  | some b => .ok b st1
  | none => .stuck
theorem t_tru (ha : SE Γ a ma) (he : ∀ env whole, isTrue a env whole = (do let v ← whole; standAt a.pos; holding [v] (truthy v)) := by intro _ _; rfl) : ST Γ a (tTru ma) :=
  ⟨fun W => by
    obtain ⟨ta, sa, pa⟩ := ha.run W
    refine ⟨fun σ H Q => ta σ H fun x H' => ∃ k, TruV Γ.K x H' k ∧ Q k H', ?_, fun X c t => ?_⟩
    · refine Sim.bind (k := fun x σ H Q => ∃ k, TruV Γ.K x H k ∧ Q k H) (m' := fun a env st1 => match truA st1 a with | some b => .ok b st1 | none => .stuck) sa fun Z F μ st env σ H Q a x g re ra hp => ?_
      cases e : truA st a with
      | none => rw [e] at hp; exact hp.elim
      | some b => rw [e] at hp; exact ⟨b, tru_of g ra e, Kont.now (show Kont Γ.K Z RepB F μ Q b st from hp) g rfl⟩
    · rw [← c.K]
      exact pt_truth (pa X c t) (he X.env)⟩
variable {p q : AEnv → Store → Res Bool} {rest : List Expr}
def tAndM (p q : AEnv → Store → Res Bool) : AEnv → Store → Res Bool := fun env st => (p env st).bind fun c st1 => if c then q env st1 else .ok false st1
def tOrM (p q : AEnv → Store → Res Bool) : AEnv → Store → Res Bool := fun env st => (p env st).bind fun c st1 => if c then .ok true st1 else q env st1
def tNotM (p : AEnv → Store → Res Bool) : AEnv → Store → Res Bool := fun env st => (p env st).bind fun c st1 => .ok (!c) st1
theorem sim_and {K : PySem.W.Frag} {W : WX} {t u : TT} (h : Sim K RepB W t p) (h' : Sim K RepB W u q) : Sim K RepB W (tAnd t u) (tAndM p q) :=
  Sim.bind (k := fun c σ H Q => if c = true then u σ H Q else Q false H) (m' := fun c env st1 => if c then q env st1 else .ok false st1) h fun Z F μ st env σ H Q a x g re ra hp => by
    cases (ra : a = x)
    cases a with
    | true => rw [if_pos rfl]; exact h' Z F μ st env σ H Q g re hp
    | false => rw [if_neg Bool.false_ne_true]; exact Kont.now (show Kont K Z RepB F μ Q false st from hp) g rfl
theorem sim_or {K : PySem.W.Frag} {W : WX} {t u : TT} (h : Sim K RepB W t p) (h' : Sim K RepB W u q) : Sim K RepB W (tOr t u) (tOrM p q) :=
  Sim.bind (k := fun c σ H Q => if c = true then Q true H else u σ H Q) (m' := fun c env st1 => if c then .ok true st1 else q env st1) h fun Z F μ st env σ H Q a x g re ra hp => by
    cases (ra : a = x)
    cases a with
    | true => rw [if_pos rfl]; exact Kont.now (show Kont K Z RepB F μ Q true st from hp) g rfl
    | false => rw [if_neg Bool.false_ne_true]; exact h' Z F μ st env σ H Q g re hp
theorem sim_not {K : PySem.W.Frag} {W : WX} {t : TT} (h : Sim K RepB W t p) : Sim K RepB W (tNot t) (tNotM p) :=
  Sim.bind (k := fun c σ H Q => Q (!c) H) (m' := fun c env st1 => .ok (!c) st1) h fun Z F μ st env σ H Q a x g re ra hp => by
    cases (ra : a = x)
    exact Kont.now (show Kont K Z RepB F μ Q (!a) st from hp) g rfl
theorem w_and1 (ha : ST Γ a p) : SWt Γ (.BoolOp .And [a] pos) p := ⟨fun W => let ⟨t, s, h⟩ := ha.run W; ⟨t, s, fun X c k => pw_and1 (h X c k)⟩⟩
theorem w_or1 (ha : ST Γ a p) : SWt Γ (.BoolOp .Or [a] pos) p := ⟨fun W => let ⟨t, s, h⟩ := ha.run W; ⟨t, s, fun X c k => pw_or1 (h X c k)⟩⟩
theorem w_and (ha : ST Γ a p) (hb : SWt Γ (.BoolOp .And (b :: rest) pos) q) : SWt Γ (.BoolOp .And (a :: b :: rest) pos) (tAndM p q) :=
  ⟨fun W => let ⟨t, s, h⟩ := ha.run W; let ⟨t', s', h'⟩ := hb.run W; ⟨_, sim_and s s', fun X c k => pw_and (h X c k) (h' X c k)⟩⟩
theorem w_or (ha : ST Γ a p) (hb : SWt Γ (.BoolOp .Or (b :: rest) pos) q) : SWt Γ (.BoolOp .Or (a :: b :: rest) pos) (tOrM p q) :=
  ⟨fun W => let ⟨t, s, h⟩ := ha.run W; let ⟨t', s', h'⟩ := hb.run W; ⟨_, sim_or s s', fun X c k => pw_or (h X c k) (h' X c k)⟩⟩
theorem t_w (h : SWt Γ e p) : ST Γ e p := ⟨fun W => let ⟨t, s, h⟩ := h.run W; ⟨t, s, fun X c k => (h X c k).pt⟩⟩
theorem t_not (h : ST Γ a p) : ST Γ (.UnaryOp .Not a pos) (tNotM p) := ⟨fun W => let ⟨t, s, h⟩ := h.run W; ⟨_, sim_not s, fun X c k => pt_not (h X c k)⟩⟩
/-- and, or as values: True and False alone -/
def eAndV (ma mb : AEnv → Store → Res A) : AEnv → Store → Res A := fun env st => (ma env st).bind fun a st1 => (asB a st1).bind fun c st2 => if c then mb env st2 else .ok (.bl false) st2
def eOrV (ma mb : AEnv → Store → Res A) : AEnv → Store → Res A := fun env st => (ma env st).bind fun a st1 => (asB a st1).bind fun c st2 => if c then .ok (.bl true) st2 else mb env st2
def eNotV (ma : AEnv → Store → Res A) : AEnv → Store → Res A := fun env st => (ma env st).bind fun a st1 => (asB a st1).bind fun c st2 => .ok (.bl (!c)) st2
theorem sim_andV {K : PySem.W.Frag} {W : WX} {t u : TE} (h : Sim K Rep W t ma) (h' : Sim K Rep W u mb) : Sim K Rep W (tAndV t u) (eAndV ma mb) :=
  Sim.bind (R' := Rep) (k := fun x σ H Q => ∃ c, x = V.bl c ∧ if c = true then u σ H Q else Q (V.bl false) H) (m' := fun a env st1 => (asB a st1).bind fun c st2 => if c then mb env st2 else .ok (A.bl false) st2) h fun Z F μ st env σ H Q a x g re ra hp => by
    cases a with
    | bl b =>
      cases ra
      refine ⟨b, rfl, ?_⟩
      cases b with
      | true => rw [if_pos rfl]; exact h' Z F μ st env σ H Q g re hp
      | false => rw [if_neg Bool.false_ne_true]; exact Kont.now (show Kont K Z Rep F μ Q (.bl false) st from hp) g (.bl _)
    | _ => exact hp.elim
theorem sim_orV {K : PySem.W.Frag} {W : WX} {t u : TE} (h : Sim K Rep W t ma) (h' : Sim K Rep W u mb) : Sim K Rep W (tOrV t u) (eOrV ma mb) :=
  Sim.bind (R' := Rep) (k := fun x σ H Q => ∃ c, x = V.bl c ∧ if c = true then Q (V.bl true) H else u σ H Q) (m' := fun a env st1 => (asB a st1).bind fun c st2 => if c then .ok (A.bl true) st2 else mb env st2) h fun Z F μ st env σ H Q a x g re ra hp => by
    cases a with
    | bl b =>
      cases ra
      refine ⟨b, rfl, ?_⟩
      cases b with
      | true => rw [if_pos rfl]; exact Kont.now (show Kont K Z Rep F μ Q (.bl true) st from hp) g (.bl _)
      | false => rw [if_neg Bool.false_ne_true]; exact h' Z F μ st env σ H Q g re hp
    | _ => exact hp.elim
theorem sim_notV {K : PySem.W.Frag} {W : WX} {t : TE} (h : Sim K Rep W t ma) : Sim K Rep W (tNotV t) (eNotV ma) :=
  Sim.bind (R' := Rep) (k := fun x σ H Q => ∃ c, x = V.bl c ∧ Q (V.bl (!c)) H) (m' := fun a env st1 => (asB a st1).bind fun c st2 => .ok (A.bl (!c)) st2) h fun Z F μ st env σ H Q a x g re ra hp => by
    cases a with
    | bl b => cases ra; exact ⟨b, rfl, Kont.now (show Kont K Z Rep F μ Q (.bl (!b)) st from hp) g (.bl _)⟩
    | _ => exact hp.elim
theorem s_one {o} (h : SE Γ a ma) : SE Γ (.BoolOp o [a] pos) ma := ⟨fun W => let ⟨t, s, h⟩ := h.run W; ⟨t, s, fun X c k => pe_one (h X c k)⟩⟩
theorem s_and (ha : SE Γ a ma) (hb : SE Γ (.BoolOp .And (b :: rest) pos) mb) : SE Γ (.BoolOp .And (a :: b :: rest) pos) (eAndV ma mb) :=
  ⟨fun W => let ⟨t, s, h⟩ := ha.run W; let ⟨t', s', h'⟩ := hb.run W; ⟨_, sim_andV s s', fun X c k => pe_and (h X c k) (h' X c k)⟩⟩
theorem s_or (ha : SE Γ a ma) (hb : SE Γ (.BoolOp .Or (b :: rest) pos) mb) : SE Γ (.BoolOp .Or (a :: b :: rest) pos) (eOrV ma mb) :=
  ⟨fun W => let ⟨t, s, h⟩ := ha.run W; let ⟨t', s', h'⟩ := hb.run W; ⟨_, sim_orV s s', fun X c k => pe_or (h X c k) (h' X c k)⟩⟩
theorem s_not (ha : SE Γ a ma) : SE Γ (.UnaryOp .Not a pos) (eNotV ma) := ⟨fun W => let ⟨t, s, h⟩ := ha.run W; ⟨_, sim_notV s, fun X c k => pe_not (h X c k)⟩⟩
def eIf (p : AEnv → Store → Res Bool) (ma mb : AEnv → Store → Res A) : AEnv → Store → Res A := fun env st => (p env st).bind fun c st1 => if c then ma env st1 else mb env st1
theorem s_if {c : Expr} (hc : ST Γ c p) (ha : SE Γ a ma) (hb : SE Γ b mb) : SE Γ (.IfExp c a b pos) (eIf p ma mb) :=
  ⟨fun W => by
    obtain ⟨tc, sc, pc⟩ := hc.run W
    obtain ⟨ta, sa, pa⟩ := ha.run W
    obtain ⟨tb, sb, pb⟩ := hb.run W
    refine ⟨tIf tc ta tb, ?_, fun X c t => pe_ifExp (pc X c t) (pa X c t) (pb X c t)⟩
    refine Sim.bind (k := fun c σ H Q => if c = true then ta σ H Q else tb σ H Q) (m' := fun c env st1 => if c then ma env st1 else mb env st1) sc fun Z F μ st env σ H Q a x g re ra hp => ?_
    cases (ra : a = x)
    cases a with
    | true => rw [if_pos rfl]; exact sa Z F μ st env σ H Q g re hp
    | false => rw [if_neg Bool.false_ne_true]; exact sb Z F μ st env σ H Q g re hp⟩

/-! ### arguments, displays -/
def aNil : AEnv → Store → Res (List A) := fun _ st => .ok [] st
def aCons (m : AEnv → Store → Res A) (ms : AEnv → Store → Res (List A)) : AEnv → Store → Res (List A) := fun env st => (m env st).bind fun a st1 => (ms env st1).bind fun as st2 => .ok (a :: as) st2
variable {es : List Expr} {ms : AEnv → Store → Res (List A)}
theorem a_nil : SA Γ [] aNil := ⟨fun W => ⟨tNil, fun Z F μ st env σ H Q g re h => Kont.now (show Kont Γ.K Z Reps F μ Q [] st from h) g .nil, fun X c t => pa_nil⟩⟩
theorem a_cons (ha : SE Γ e ma) (hr : SA Γ es ms) (hs : ∀ env, starEach (e :: es) env = (false, eval e env) :: starEach es env := by intro _; rfl) : SA Γ (e :: es) (aCons ma ms) :=
  ⟨fun W => by
    obtain ⟨ta, sa, pa⟩ := ha.run W
    obtain ⟨tr, sr, pr⟩ := hr.run W
    refine ⟨tCons ta tr, ?_, fun X c t => pa_cons (pa X c t) (pr X c t) (hs _)⟩
    refine Sim.bind (R' := Reps) (k := fun x σ H Q => tr σ H fun xs H2 => Q (x :: xs) H2) (m' := fun a env st1 => (ms env st1).bind fun as st2 => .ok (a :: as) st2) sa fun Z F μ st env σ H Q a x g re ra hp => ?_
    rw [Res.post_bind] at hp
    refine sr Z F μ st env σ H _ g re (Res.post_mono hp (fun as st2 q => ?_) fun _ _ q => q)
    intro F1 μ1 H1 xs e1 g1 rs
    exact Kont.now ((show Kont Γ.K Z Reps F μ Q (a :: as) st2 from q).ext e1) g1 (.cons (ra.mono e1) rs)⟩
def eTup (ms : AEnv → Store → Res (List A)) : AEnv → Store → Res A := fun env st => (ms env st).bind fun xs st1 => if xs.length ≤ sizeLine then .ok (.tup xs) st1 else .stuck
def eLst (mk : Bool) (ms : AEnv → Store → Res (List A)) : AEnv → Store → Res A := fun env st => (ms env st).bind fun xs st1 => if xs.length ≤ sizeLine then .ok (newL mk xs st1).1 (newL mk xs st1).2 else .stuck
theorem s_tup {k} (h : SA Γ es ms) : SE Γ (.Tuple es k pos) (eTup ms) :=
  ⟨fun W => by
    obtain ⟨ta, sa, pa⟩ := h.run W
    refine ⟨tTup ta, ?_, fun X c t => pe_tup (pa X c t)⟩
    refine Sim.bind (R' := Rep) (k := fun xs σ H Q => xs.length ≤ sizeLine ∧ ∀ p, H p = none → Q (V.ref p) (upd H p (HO.tup xs))) (m' := fun xs env st1 => if xs.length ≤ sizeLine then .ok (A.tup xs) st1 else .stuck) sa fun Z F μ st env σ H Q a x g re ra hp => ?_
    by_cases hl : a.length ≤ sizeLine
    · rw [if_pos hl] at hp
      exact ⟨by rw [← ra.length]; exact hl, fun p hp' => newT_ok g hp' ra hp⟩
    · rw [if_neg hl] at hp; exact hp.elim⟩
theorem s_lst {mk : Bool} (h : SA Γ es ms) : SE Γ (.List es pos) (eLst mk ms) :=
  ⟨fun W => by
    obtain ⟨ta, sa, pa⟩ := h.run W
    refine ⟨tLst ta, ?_, fun X c t => pe_lst (pa X c t)⟩
    refine Sim.bind (R' := Rep) (k := fun xs σ H Q => xs.length ≤ sizeLine ∧ ∀ p, H p = none → Q (V.ref p) (upd H p (HO.lst xs))) (m' := fun xs env st1 => if xs.length ≤ sizeLine then .ok (newL mk xs st1).1 (newL mk xs st1).2 else .stuck) sa fun Z F μ st env σ H Q a x g re ra hp => ?_
    by_cases hl : a.length ≤ sizeLine
    · rw [if_pos hl] at hp
      exact ⟨by rw [← ra.length]; exact hl, fun p hp' => newL_ok (mk := mk) g hp' ra hp⟩
    · rw [if_neg hl] at hp; exact hp.elim⟩

/-! ### subscripts, slices -/
def ixL : Op2 := fun a b st => match seqR a st, b with
  | some xs, .int i => (atI xs i).map fun c => (c, st)
  | _, _ => none
def ixS : Op2 := fun a b st => match a, b with
  | .str z, .int i => if z.length ≤ sizeLine then (atI z.cps.toList i).map fun c => (.str ⟨#[c]⟩, st) else none
  | _, _ => none
def ixOp : Op2 := fun a b st => (ixL a b st).or (ixS a b st)
theorem atI_reps {K : PySem.W.Frag} {F : Hp} {μ : List Addr} {xs : List A} {vs : List V} {i : Int} {c : A} (r : Reps K F μ xs vs) (h : atI xs i = some c) : ∃ v, atI vs i = some v ∧ Rep K F μ c v := by
  unfold atI at h ⊢
  rw [← r.length]
  cases e : ixN xs.length i with
  | none => rw [e] at h; cases h
  | some j =>
    rw [e] at h
    obtain ⟨v, h1, h2⟩ := r.get (i := j) (a := c) h
    exact ⟨v, h1, h2⟩
theorem sim_ixL {K : PySem.W.Frag} : SimV2 K (fun x y H Q => rIxL K x y H Q ∨ rIxT K x y H Q) ixL := by
  intro Z F μ st st' H a b c x y Q g ra rb e k
  unfold ixL at e
  cases e1 : seqR a st with
  | none => rw [e1] at e; cases e
  | some xs =>
    rw [e1] at e
    cases b with
    | int i =>
      cases rb
      have e : (atI xs i).map (fun c => (c, st)) = some (c, st') := e
      cases e2 : atI xs i with
      | none => rw [e2] at e; cases e
      | some d =>
        rw [e2] at e; cases e
        obtain ⟨p, vs, rfl, h1, r1⟩ := seqR_ok g ra e1
        obtain ⟨v, h2, h3⟩ := atI_reps r1 e2
        rcases h1 with h1 | h1
        · exact .inl ⟨p, vs, i, v, rfl, rfl, h1, h2, k.same g h3⟩
        · exact .inr ⟨p, vs, i, v, rfl, rfl, h1, h2, k.same g h3⟩
    | _ => cases e
theorem sim_ixS {K : PySem.W.Frag} : SimV2 K rIxS ixS := by
  intro Z F μ st st' H a b c x y Q g ra rb e k
  cases a with
  | str z =>
    cases b with
    | int i =>
      cases ra; cases rb
      have e : (if z.length ≤ sizeLine then (atI z.cps.toList i).map (fun c => (A.str ⟨#[c]⟩, st)) else none) = some (c, st') := e
      by_cases hl : z.length ≤ sizeLine
      · rw [if_pos hl] at e
        cases e2 : atI z.cps.toList i with
        | none => rw [e2] at e; cases e
        | some d =>
          rw [e2] at e; cases e
          exact ⟨z, i, d, rfl, rfl, hl, e2, k.same g (.str _)⟩
      · rw [if_neg hl] at e; cases e
    | _ => cases e
  | _ => cases e
theorem sim_ix {K : PySem.W.Frag} : SimV2 K (fun x y H Q => (rIxL K x y H Q ∨ rIxT K x y H Q) ∨ rIxS x y H Q) ixOp := SimV2.or sim_ixL sim_ixS
theorem s_ix (ha : SE Γ a ma) (hb : SE Γ b mb) (hs : PlainIx b := by intro _ _; rfl) : SE Γ (.Subscript a b pos) (eBin ixOp ma mb) :=
  ⟨fun W => by
    obtain ⟨ta, sa, pa⟩ := ha.run W
    obtain ⟨tb, sb, pb⟩ := hb.run W
    refine ⟨_, sim_bin sim_ix sa sb, fun X c t => ?_⟩
    rw [← c.K]
    exact pe_ix ((ix_list.or ix_tup).or ix_str) (pa X c t) (pb X c t) hs⟩
/-- a slice's part -/
structure SO (Γ : G) (e : Option Expr) (m : AEnv → Store → Res (Option Int)) : Prop where
  run : ∀ W : WX, ∃ t : TO, Sim Γ.K (fun _ _ _ (a b : Option Int) => a = b) W t m ∧ ∀ X, CtxOk Γ X → Takes X W → PO X e t
def oNone : AEnv → Store → Res (Option Int) := fun _ st => .ok none st
def oSome (m : AEnv → Store → Res A) : AEnv → Store → Res (Option Int) := fun env st => (m env st).bind fun a st1 => match a with
  | .int i => .ok (some i) st1
  | _ => .stuck
theorem o_none : SO Γ none oNone := ⟨fun W => ⟨tNoPart, fun Z F μ st env σ H Q g re h => Kont.now (show Kont Γ.K Z (fun _ _ _ (a b : Option Int) => a = b) F μ Q none st from h) g rfl, fun X c t => po_none⟩⟩
theorem o_some (h : SE Γ e ma) : SO Γ (some e) (oSome ma) :=
  ⟨fun W => by
    obtain ⟨ta, sa, pa⟩ := h.run W
    refine ⟨tPart ta, ?_, fun X c t => po_some (pa X c t)⟩
    refine Sim.bind (R' := fun _ _ _ (a b : Option Int) => a = b) (k := fun x σ H Q => ∃ i, x = V.int i ∧ Q (some i) H) (m' := fun a env st1 => match a with | .int i => .ok (some i) st1 | _ => .stuck) sa fun Z F μ st env σ H Q a x g re ra hp => ?_
    cases a with
    | int i => cases ra; exact ⟨i, rfl, Kont.now (show Kont Γ.K Z (fun _ _ _ (a b : Option Int) => a = b) F μ Q (some i) st from hp) g rfl⟩
    | _ => exact hp.elim⟩
def cutA (xs : List A) (lo hi : Option Int) : List A := (xs.drop (HT.sIx xs.length 0 lo)).take (HT.sIx xs.length xs.length hi - HT.sIx xs.length 0 lo)
theorem cutA_reps {K : PySem.W.Frag} {F : Hp} {μ : List Addr} {xs : List A} {vs : List V} (r : Reps K F μ xs vs) (lo hi : Option Int) : Reps K F μ (cutA xs lo hi) (cutV vs lo hi) := by
  unfold cutA cutV
  rw [r.length]
  exact (r.drop _).take _
/-- x[lo:hi] -/
def slOp (mk : Bool) (a : A) (lo hi : Option Int) (st : Store) : Option (A × Store) := match a with
  | .tup xs => if HT.sIx xs.length 0 lo = 0 ∧ HT.sIx xs.length xs.length hi = xs.length then none else some (.tup (cutA xs lo hi), st)
  | .str z => if z.length ≤ sizeLine then some (.str (cutS z lo hi), st) else none
  | a => (lstR a st).map fun xs => newL mk (cutA xs lo hi) st
theorem SlR_K {X : Cx} {K : PySem.W.Frag} (h : X.K = K) : True := trivial
def rSlA (K : PySem.W.Frag) : V → Option Int → Option Int → Hp → VK → Prop := fun x lo hi H Q => rSlT K x lo hi H Q ∨ (∃ z, x = .str z ∧ z.length ≤ sizeLine ∧ Q (.str (cutS z lo hi)) H) ∨ rSlL K x lo hi H Q
theorem sim_sl {K : PySem.W.Frag} {mk : Bool} {F : Hp} {μ : List Addr} {st st' : Store} {H : Hp} {a c : A} {x : V} {lo hi : Option Int} {Q : VK} (g : Good K Z F μ st H) (ra : Rep K F μ a x) (e : slOp mk a lo hi st = some (c, st')) (k : Kont K Z Rep F μ Q c st') :
    rSlA K x lo hi H Q := by
  have lists : (lstR a st).map (fun xs => newL mk (cutA xs lo hi) st) = some (c, st') → rSlA K x lo hi H Q := fun e => by
    cases e1 : lstR a st with
    | none => rw [e1] at e; cases e
    | some xs =>
      rw [e1] at e
      have e : newL mk (cutA xs lo hi) st = (c, st') := Option.some.inj e
      obtain ⟨p, vs, rfl, h1, r1⟩ := lstR_ok g ra e1
      exact .inr (.inr ⟨p, vs, rfl, h1, fun l hl => newL_ok (mk := mk) g hl (cutA_reps r1 lo hi) (by rw [e]; exact k)⟩)
  cases a with
  | tup xs =>
    have e : (if HT.sIx xs.length 0 lo = 0 ∧ HT.sIx xs.length xs.length hi = xs.length then none else some (A.tup (cutA xs lo hi), st)) = some (c, st') := e
    by_cases hw : HT.sIx xs.length 0 lo = 0 ∧ HT.sIx xs.length xs.length hi = xs.length
    · rw [if_pos hw] at e; cases e
    · rw [if_neg hw] at e; cases e
      obtain ⟨p, vs, rfl, h1, r1⟩ := tupR_ok g ra rfl
      exact .inl ⟨p, vs, rfl, h1, by rw [← r1.length]; exact hw, fun l hl => newT_ok g hl (cutA_reps r1 lo hi) k⟩
  | str z =>
    cases ra
    have e : (if z.length ≤ sizeLine then some (A.str (cutS z lo hi), st) else none) = some (c, st') := e
    by_cases hl : z.length ≤ sizeLine
    · rw [if_pos hl] at e; cases e; exact .inr (.inl ⟨z, rfl, hl, k.same g (.str _)⟩)
    · rw [if_neg hl] at e; cases e
  | _ => exact lists e
end
end SL

set_option Elab.async false
set_option linter.all false
set_option maxRecDepth 100000
set_option maxHeartbeats 4000000
/-! SLd: slices, calls of built-ins, methods. -/
namespace SL
open PySem PySem.Spec L2
open PyProof.Rows hiding St
section
variable {Γ : G} {a b e : Expr} {es : List Expr} {ma mb mc : AEnv → Store → Res A} {ms : AEnv → Store → Res (List A)} {pos p2 p apos cpos : Pos}
def eSl (mk : Bool) (ma : AEnv → Store → Res A) (ml mh : AEnv → Store → Res (Option Int)) : AEnv → Store → Res A := fun env st => (ma env st).bind fun a st1 => (ml env st1).bind fun lo st2 => (mh env st2).bind fun hi st3 => Res.of (slOp mk a lo hi st3)
theorem s_sl {mk : Bool} {lo hi : Option Expr} {ml mh : AEnv → Store → Res (Option Int)} (ha : SE Γ a ma) (hl : SO Γ lo ml) (hh : SO Γ hi mh) : SE Γ (.Subscript a (.Slice lo hi none p2) pos) (eSl mk ma ml mh) :=
  ⟨fun W => by
    obtain ⟨ta, sa, pa⟩ := ha.run W
    obtain ⟨tl, sl, pl⟩ := hl.run W
    obtain ⟨th, sh, ph⟩ := hh.run W
    refine ⟨tSl (rSlA Γ.K) ta tl th, ?_, fun X c t => ?_⟩
    · intro Z F μ st env σ H Q g re hp
      unfold eSl at hp
      rw [Res.post_bind] at hp
      refine sa Z F μ st env σ H _ g re (Res.post_mono hp (fun a st1 q => ?_) fun _ _ q => q)
      intro F1 μ1 H1 x e1 g1 ra
      rw [Res.post_bind] at q
      refine sl Z F1 μ1 st1 env σ H1 _ g1 (re.mono e1) (Res.post_mono q (fun l st2 q => ?_) fun _ _ q => q.ext e1)
      intro F2 μ2 H2 l' e2 g2 rl
      cases rl
      rw [Res.post_bind] at q
      refine sh Z F2 μ2 st2 env σ H2 _ g2 (re.mono (e1.trans e2)) (Res.post_mono q (fun h st3 q => ?_) fun _ _ q => q.ext (e1.trans e2))
      intro F3 μ3 H3 h' e3 g3 rh
      cases rh
      obtain ⟨c, st4, e, k⟩ := Res.post_of q
      exact sim_sl (mk := mk) g3 (ra.mono (e2.trans e3)) e (k.ext (e1.trans (e2.trans e3)))
    · rw [← c.K]
      exact pe_slice (sl_tup.or (sl_str.or sl_list)) (pa X c t) (pl X c t) (ph X c t)⟩

/-! ### calls of built-ins -/
def eCB (op : OpN) (ms : AEnv → Store → Res (List A)) : AEnv → Store → Res A := fun env st => (ms env st).bind fun xs st1 => Res.of (op xs st1)
theorem sim_cb {K : PySem.W.Frag} {W : WX} {r : List V → Hp → VK → Prop} {op : OpN} {t : TA} (h : SimVN K r op) (ha : Sim K Reps W t ms) : Sim K Rep W (tCB r t) (eCB op ms) :=
  Sim.bind (k := fun xs σ H Q => r xs H Q) (m' := fun xs env st1 => Res.of (op xs st1)) ha fun Z F μ st env σ H Q a x g re ra hp => by
    obtain ⟨c, st3, e, k⟩ := Res.post_of hp
    exact h Z F μ st st3 H a c x Q g ra e k
/-- a built-in with its plain function -/
structure Cb (f : Value) (op : OpN) : Prop where
  ex : ∃ r : PySem.W.Frag → List V → Hp → VK → Prop, (∀ (Γ : G) (X : Cx), CtxOk Γ X → Γ.calm = true → CallR X f (r X.K)) ∧ ∀ K, SimVN K (r K) op
theorem Cb.or {f : Value} {op op' : OpN} (h : Cb f op) (h' : Cb f op') : Cb f (fun xs st => (op xs st).or (op' xs st)) := by
  obtain ⟨r, h1, h2⟩ := h.ex
  obtain ⟨r', h1', h2'⟩ := h'.ex
  refine ⟨⟨fun K xs H Q => r K xs H Q ∨ r' K xs H Q, fun Γ X c cm => (h1 Γ X c cm).or (h1' Γ X c cm), fun K Z F μ st st' H as c xs Q g ra e k => ?_⟩⟩
  cases e1 : op as st with
  | none => simp only [e1, Option.none_or] at e; exact .inr (h2' K Z F μ st st' H as c xs Q g ra e k)
  | some p => simp only [e1, Option.some_or] at e; cases e; exact .inl (h2 K Z F μ st st' H as c xs Q g ra e1 k)
theorem s_cb {x : Str} {id : String} {op : OpN} (h : Cb (.builtin id) op) (hg : Γ.sc.names.lookup x = some .globalImplicit) (hm : Γ.mg x = none) (hv : bootBuiltins x = some (.builtin id)) (ha : SA Γ (e :: es) ms)
    (hn : x ≠ "__name__" := by decide) (hdb : (x == ("__debug__" : Str)) = false := by decide)
    (he : ∀ env, starEach (e :: es) env = (false, eval e env) :: starEach es env := by intro _; rfl) (hpl : ∀ env, (backTo pos (starEach es env)).any (·.1) = false := by intro _; rfl) (cm : Γ.calm = true := by rfl) : SE Γ (.Call (.Name x p) (e :: es) [] pos) (eCB op ms) :=
  ⟨fun W => by
    obtain ⟨r, h1, h2⟩ := h.ex
    obtain ⟨ta, sa, pa⟩ := ha.run W
    refine ⟨_, sim_cb (h2 _) sa, fun X c t => ?_⟩
    rw [← c.K]
    exact pe_callB (h1 Γ X c cm) (c.gl hg) (c.mgn hm) hv (pa X c t) hn hdb (he _) (hpl _)⟩
theorem s_cty {x : Str} {T : String} {op : OpN} (h : Cb (.type T) op) (hg : Γ.sc.names.lookup x = some .globalImplicit) (hm : Γ.mg x = none) (hv : bootBuiltins x = some (.type T)) (ha : SA Γ (e :: es) ms)
    (hn : x ≠ "__name__" := by decide) (hdb : (x == ("__debug__" : Str)) = false := by decide)
    (he : ∀ env, starEach (e :: es) env = (false, eval e env) :: starEach es env := by intro _; rfl) (hpl : ∀ env, (backTo pos (starEach es env)).any (·.1) = false := by intro _; rfl) (cm : Γ.calm = true := by rfl) : SE Γ (.Call (.Name x p) (e :: es) [] pos) (eCB op ms) :=
  ⟨fun W => by
    obtain ⟨r, h1, h2⟩ := h.ex
    obtain ⟨ta, sa, pa⟩ := ha.run W
    refine ⟨_, sim_cb (h2 _) sa, fun X c t => ?_⟩
    rw [← c.K]
    exact pe_callTy (h1 Γ X c cm) (c.gl hg) (c.mgn hm) hv (pa X c t) hn hdb (he _) (hpl _)⟩
/-- of one argument -/
def one1 (op : Op1) : OpN := fun xs st => match xs with
  | [a] => op a st
  | _ => none
def two2 (op : Op2) : OpN := fun xs st => match xs with
  | [a, b] => op a b st
  | _ => none
theorem cb1 {f : Value} {r : PySem.W.Frag → List V → Hp → VK → Prop} {op : Op1} (h : ∀ (Γ : G) (X : Cx), CtxOk Γ X → Γ.calm = true → CallR X f (r X.K))
    (h' : ∀ (K : PySem.W.Frag) (Z F : Hp) (μ : List Addr) (st st' : Store) (H : Hp) (a c : A) (x : V) (Q : VK), Good K Z F μ st H → Rep K F μ a x → op a st = some (c, st') → Kont K Z Rep F μ Q c st' → r K [x] H Q) : Cb f (one1 op) :=
  ⟨⟨r, h, fun K Z F μ st st' H as c xs Q g ra e k => by
    cases as with
    | nil => cases e
    | cons a as =>
      cases as with
      | nil =>
        obtain ⟨x, rfl, ra1⟩ := ra.one
        exact h' K Z F μ st st' H a c x Q g ra1 e k
      | cons b as => cases e⟩⟩
theorem cb2 {f : Value} {r : PySem.W.Frag → List V → Hp → VK → Prop} {op : Op2} (h : ∀ (Γ : G) (X : Cx), CtxOk Γ X → Γ.calm = true → CallR X f (r X.K))
    (h' : ∀ (K : PySem.W.Frag) (Z F : Hp) (μ : List Addr) (st st' : Store) (H : Hp) (a b c : A) (x y : V) (Q : VK), Good K Z F μ st H → Rep K F μ a x → Rep K F μ b y → op a b st = some (c, st') → Kont K Z Rep F μ Q c st' → r K [x, y] H Q) : Cb f (two2 op) :=
  ⟨⟨r, h, fun K Z F μ st st' H as c xs Q g ra e k => by
    cases as with
    | nil => cases e
    | cons a as =>
      cases as with
      | nil => cases e
      | cons b as =>
        cases as with
        | nil =>
          obtain ⟨x, y, rfl, ra1, rb1⟩ := ra.two
          exact h' K Z F μ st st' H a b c x y Q g ra1 rb1 e k
        | cons b as => cases e⟩⟩
/-! len -/
def lenA : Op1 := fun a st => match a with
  | .str y => if y.length ≤ sizeLine then some (.int y.length, st) else none
  | a => (seqR a st).map fun xs => (.int xs.length, st)
theorem cb_len : Cb (.builtin "len") (one1 lenA) := cb1 (r := fun K xs H Q => ∃ x n, xs = [x] ∧ LenV K x H n ∧ Q (.int n) H) (fun _ _ _ _ => call_len) fun K Z F μ st st' H a c x Q g ra e k => by
  have seq_len : (seqR a st).map (fun xs => (A.int xs.length, st)) = some (c, st') → ∃ x' n, [x] = [x'] ∧ LenV K x' H n ∧ Q (.int n) H := fun e => by
    cases e1 : seqR a st with
    | none => rw [e1] at e; cases e
    | some xs =>
      rw [e1] at e; cases e
      obtain ⟨p, vs, rfl, h1, r1⟩ := seqR_ok g ra e1
      refine ⟨_, xs.length, rfl, ?_, k.same g (.int _)⟩
      rcases h1 with h1 | h1
      · exact .inl ⟨vs, h1, r1.length⟩
      · exact .inr ⟨vs, h1, r1.length⟩
  cases a with
  | str y =>
    cases ra
    have e : (if y.length ≤ sizeLine then some (A.int y.length, st) else none) = some (c, st') := e
    by_cases hl : y.length ≤ sizeLine
    · rw [if_pos hl] at e; cases e; exact ⟨V.str y, y.length, rfl, (show y.length ≤ sizeLine ∧ y.length = y.length from ⟨hl, rfl⟩), k.same g (.int _)⟩
    · rw [if_neg hl] at e; cases e
  | _ => exact seq_len e
/-! list(x), tuple(x) -/
def listA (mk : Bool) : Op1 := fun a st => (seqR a st).map fun ys => newL mk ys st
theorem cb_list {mk : Bool} : Cb (.type "list") (one1 (listA mk)) := cb1 (r := fun K xs H Q => ∃ p ys, xs = [.ref p] ∧ (SqL K H p ys ∨ SqT K H p ys) ∧ ∀ l, H l = none → Q (.ref l) (upd H l (.lst ys))) (fun _ _ _ _ => call_list_of) fun K Z F μ st st' H a c x Q g ra e k => by
  have e : (seqR a st).map (fun ys => newL mk ys st) = some (c, st') := e
  cases e1 : seqR a st with
  | none => rw [e1] at e; cases e
  | some ys =>
    rw [e1] at e
    have e : newL mk ys st = (c, st') := Option.some.inj e
    obtain ⟨p, vs, rfl, h1, r1⟩ := seqR_ok g ra e1
    exact ⟨p, vs, rfl, h1, fun l hl => newL_ok (mk := mk) g hl r1 (by rw [e]; exact k)⟩
def tupleA : Op1 := fun a st => match a with
  | .tup ys => some (.tup ys, st)
  | a => (lstR a st).map fun ys => (.tup ys, st)
theorem cb_tuple : Cb (.type "tuple") (one1 tupleA) := cb1 (r := fun K xs H Q => ∃ p ys, xs = [.ref p] ∧ ((SqL K H p ys ∧ ∀ l, H l = none → Q (.ref l) (upd H l (.tup ys))) ∨ (SqT K H p ys ∧ Q (.ref p) H))) (fun _ _ _ _ => call_tuple_of) fun K Z F μ st st' H a c x Q g ra e k => by
  have lists : (lstR a st).map (fun ys => (A.tup ys, st)) = some (c, st') → ∃ p ys, [x] = [V.ref p] ∧ ((SqL K H p ys ∧ ∀ l, H l = none → Q (.ref l) (upd H l (.tup ys))) ∨ (SqT K H p ys ∧ Q (.ref p) H)) := fun e => by
    cases e1 : lstR a st with
    | none => rw [e1] at e; cases e
    | some ys =>
      rw [e1] at e; cases e
      obtain ⟨p, vs, rfl, h1, r1⟩ := lstR_ok g ra e1
      exact ⟨p, vs, rfl, .inl ⟨h1, fun l hl => newT_ok g hl r1 k⟩⟩
  cases a with
  | tup ys =>
    cases e
    obtain ⟨p, vs, rfl, h1, r1⟩ := tupR_ok g ra rfl
    exact ⟨p, vs, rfl, .inr ⟨h1, k.same g ra⟩⟩
  | _ => exact lists e
/-! int, abs, bool, sum -/
def intA : Op1 := fun a st => match a with
  | .int i => some (.int i, st)
  | .bl k => some (.int (if k then 1 else 0), st)
  | _ => none
theorem cb_int : Cb (.type "int") (one1 intA) := cb1 (r := fun _ xs H Q => (∃ i, xs = [.int i] ∧ Q (.int i) H) ∨ ∃ k, xs = [.bl k] ∧ Q (.int (if k then 1 else 0)) H) (fun _ _ _ _ => call_int1) fun K Z F μ st st' H a c x Q g ra e k => by
  cases a with
  | int i => cases ra; cases e; exact .inl ⟨i, rfl, k.same g (.int _)⟩
  | bl b => cases ra; cases e; exact .inr ⟨b, rfl, k.same g (.int _)⟩
  | _ => cases e
def absA : Op1 := fun a st => match a with
  | .int i => some (.int (if i < 0 then -i else i), st)
  | _ => none
theorem cb_abs : Cb (.builtin "abs") (one1 absA) := cb1 (r := fun _ xs H Q => ∃ i, xs = [.int i] ∧ Q (.int (if i < 0 then -i else i)) H) (fun _ _ _ _ => call_abs) fun K Z F μ st st' H a c x Q g ra e k => by
  cases a with
  | int i => cases ra; cases e; exact ⟨i, rfl, k.same g (.int _)⟩
  | _ => cases e
/-- the ints of a list of ints -/
def intsA : List A → Option (List Int) := optAll fun a => match a with
  | .int i => some i
  | _ => none
theorem intsA_ok {xs : List A} {ns : List Int} (h : intsA xs = some ns) : xs = ns.map A.int := by
  unfold intsA at h
  induction xs generalizing ns with
  | nil => cases h; rfl
  | cons x xs ih =>
    unfold optAll at h
    cases x with
    | int i =>
      cases e : optAll (fun a : A => match a with | .int i => some i | _ => none) xs with
      | none => rw [e] at h; cases h
      | some ms => rw [e] at h; cases h; rw [ih e]; rfl
    | _ => cases h
@[simp] theorem intsA_map (ns : List Int) : intsA (ns.map A.int) = some ns := by
  unfold intsA
  induction ns with
  | nil => rfl
  | cons n ns ih => rw [List.map_cons]; unfold optAll; rw [ih]
def sumA : Op1 := fun a st => match lstR a st with
  | some xs => (intsA xs).map fun ns => (.int ns.sum, st)
  | none => none
theorem cb_sum : Cb (.builtin "sum") (one1 sumA) := cb1 (r := rSum) (fun _ _ c cm => cr_sum (c.calm cm)) fun K Z F μ st st' H a c x Q g ra e k => by
  unfold sumA at e
  cases e1 : lstR a st with
  | none => rw [e1] at e; cases e
  | some xs =>
    rw [e1] at e
    have e : (intsA xs).map (fun ns => (A.int ns.sum, st)) = some (c, st') := e
    cases e2 : intsA xs with
    | none => rw [e2] at e; cases e
    | some ns =>
      rw [e2] at e; cases e
      obtain ⟨p, vs, rfl, h1, r1⟩ := lstR_ok g ra e1
      rw [intsA_ok e2] at r1
      rw [r1.intsV] at h1
      exact ⟨p, ns, rfl, h1, k.same g (.int _)⟩
/-! isinstance of built-in types -/
/-- the name of a value's type -/
def tyName : A → Store → Option String
  | .non, _ => some "NoneType"
  | .bl _, _ => some "bool"
  | .int _, _ => some "int"
  | .str _, _ => some "str"
  | .lst _, _ => some "list"
  | .slst _, _ => some "list"
  | .tup _, _ => some "tuple"
  | .dct _ _, _ => some "dict"
  | .cell n, st => match st[n]? with
    | some (.lst _) => some "list"
    | some (.dct _ _) => some "dict"
    | _ => none
  | _, _ => none
theorem sqL_ty {K : PySem.W.Frag} {H : Hp} {p : Addr} {vs : List V} (h : SqL K H p vs) : TyX K H (.ref p) (.type "list") := by
  rcases h with (h | ⟨o, h⟩) | ⟨o, its, n, h1, h2, _⟩
  · exact .base (.lst h)
  · exact .base (.frz h)
  · exact .kList h1 h2
theorem sqT_ty {K : PySem.W.Frag} {H : Hp} {p : Addr} {vs : List V} (h : SqT K H p vs) : TyX K H (.ref p) (.type "tuple") := by
  rcases h with (h | ⟨o, h⟩) | ⟨o, its, n, h1, h2, _⟩
  · exact .base (.tup h)
  · exact .fTuple h
  · exact .kTuple h1 h2
theorem tyName_ok {K : PySem.W.Frag} {F : Hp} {μ : List Addr} {st : Store} {H : Hp} {a : A} {x : V} {n : String} (g : Good K Z F μ st H) (r : Rep K F μ a x) (h : tyName a st = some n) : TyX K H x (.type n) := by
  cases a with
  | non => cases h; cases r; exact .base .non
  | bl b => cases h; cases r; exact .base (.bl b)
  | int i => cases h; cases r; exact .base (.int i)
  | str s => cases h; cases r; exact .base (.str s)
  | lst xs => cases h; cases r with | lst h1 _ => exact .base (.lst (g.sub _ _ h1))
  | slst xs => cases h; cases r with | slst h1 _ => exact sqL_ty (SqL.mono g.sub h1)
  | tup xs => cases h; cases r with | tup h1 _ => exact sqT_ty (SqT.mono g.sub h1)
  | dct ks xs => cases h; cases r with | dct h1 _ _ => exact .base (.dK (g.sub _ _ h1))
  | cell m =>
    have h : (match st[m]? with | some (.lst _) => some "list" | some (.dct _ _) => some "dict" | _ => none) = some n := h
    cases e : st[m]? with
    | none => rw [e] at h; cases h
    | some c =>
      rw [e] at h
      cases r with
      | cell h1 =>
        cases c with
        | lst xs =>
          cases h
          obtain ⟨a, h2, _, vs, h4, _⟩ := g.cell m _ e (by intro z; cases z)
          rw [h1] at h2; cases h2
          exact .base (.lst h4)
        | dct ks xs =>
          cases h
          obtain ⟨a, h2, _, vs, h4, _⟩ := g.cell m _ e (by intro z; cases z)
          rw [h1] at h2; cases h2
          exact .base (.dK h4)
        | _ => cases h
  | _ => cases h
/-- one of these classes -/
def isiTys (n : String) : List A → Option Bool
  | [] => some false
  | .ty m :: cs => match kitB n m, isiTys n cs with
    | some b, some r => some (b || r)
    | _, _ => none
  | _ :: _ => none
theorem isiTys_ok {K : PySem.W.Frag} {F : Hp} {μ : List Addr} {n : String} : ∀ {cs : List A} {vs : List V} {b : Bool}, isiTys n cs = some b → Reps K F μ cs vs → ∃ us : List Value, Paired ClsV vs us ∧ PySem.W.kitAny K (.type n) us = some b
  | [], _, _, e, .nil => by cases e; exact ⟨[], .nil, kitAny_nil⟩
  | c :: cs, _, b, e, .cons r t => by
    cases c with
    | ty m =>
      cases r
      have e : (match kitB n m, isiTys n cs with | some b, some r => some (b || r) | _, _ => none) = some b := e
      cases e1 : kitB n m with
      | none => rw [e1] at e; cases e
      | some x =>
        cases e2 : isiTys n cs with
        | none => rw [e1, e2] at e; cases e
        | some y =>
          rw [e1, e2] at e; cases e
          obtain ⟨us, h1, h2⟩ := isiTys_ok e2 t
          refine ⟨_, .cons (.ty m) h1, kitAny_cons (kit_ty e1) (r := x || y) (fun hb => ?_) (fun hb => ?_)⟩
          · subst hb; exact h2
          · subst hb; rfl
    | _ => cases e
def isiA : Op2 := fun a c st => match tyName a st, c with
  | some n, .ty m => (kitB n m).map fun b => (.bl b, st)
  | some n, .tup cs => (isiTys n cs).map fun b => (.bl b, st)
  | _, _ => none
theorem SqT.tracked {K : PySem.W.Frag} {H : Hp} {a : Addr} {xs : List V} (h : SqT K H a xs) : True := trivial
def rIsiA (K : PySem.W.Frag) : List V → Hp → VK → Prop := fun xs H Q => rIsi K xs H Q ∨ rIsiT K xs H Q
def isiB : Op2 := fun a c st => match c with
    | .ty _ => isiA a c st
    | _ => none
theorem cb_isi : Cb (.builtin "isinstance") (two2 isiB) := cb2 (r := rIsi) (fun _ _ _ _ => call_isi) fun K Z F μ st st' H a b c x y Q g ra rb e k => by
  cases b with
  | ty m =>
    cases rb
    have e : isiA a (.ty m) st = some (c, st') := e
    unfold isiA at e
    cases e1 : tyName a st with
    | none => rw [e1] at e; cases e
    | some n =>
      rw [e1] at e
      have e : (kitB n m).map (fun b => (A.bl b, st)) = some (c, st') := e
      cases e2 : kitB n m with
      | none => rw [e2] at e; cases e
      | some b =>
        rw [e2] at e; cases e
        exact ⟨x, _, _, _, b, rfl, .ty m, tyName_ok g ra e1, kit_ty e2, k.same g (.bl _)⟩
  | _ => cases e
end
end SL

set_option Elab.async false
set_option linter.all false
set_option maxRecDepth 100000
set_option maxHeartbeats 4000000
/-! SLe: methods of built-in types; calls of defs; statements. -/
namespace SL
open PySem PySem.Spec L2
open PyProof.Rows hiding St
section
variable {Γ : G} {a b e o : Expr} {es : List Expr} {ma mb mc mo : AEnv → Store → Res A} {ms : AEnv → Store → Res (List A)} {pos p2 p apos cpos : Pos}
/-! isinstance(x, (T1, T2)) -/
def eIsiT (ma : AEnv → Store → Res A) (ms : AEnv → Store → Res (List A)) : AEnv → Store → Res A := fun env st => (ma env st).bind fun a st1 => (ms env st1).bind fun cs st2 =>
  if cs.length ≤ sizeLine then Res.of ((tyName a st2).bind fun n => (isiTys n cs).map fun b => (.bl b, st2)) else .stuck
theorem s_isiT {k : Nat} {pt : Pos} (ha : SE Γ e ma) (hc : SA Γ es ms) (hg : Γ.sc.names.lookup ("isinstance" : Str) = some .globalImplicit) (hm : Γ.mg "isinstance" = none)
    (he : ∀ env, starEach [e, .Tuple es k pt] env = (false, eval e env) :: starEach [.Tuple es k pt] env := by intro _; rfl) : SE Γ (.Call (.Name "isinstance" p) [e, .Tuple es k pt] [] pos) (eIsiT ma ms) :=
  ⟨fun W => by
    obtain ⟨ta, sa, pa⟩ := ha.run W
    obtain ⟨tc, sc, pc⟩ := hc.run W
    refine ⟨tCB (rIsiT Γ.K) (tCons ta (tCons (tTup tc) tNil)), ?_, fun X c t => ?_⟩
    · intro Z F μ st env σ H Q g re hp
      unfold eIsiT at hp
      rw [Res.post_bind] at hp
      refine sa Z F μ st env σ H _ g re (Res.post_mono hp (fun a st1 q => ?_) fun _ _ q => q)
      intro F1 μ1 H1 x e1 g1 ra
      rw [Res.post_bind] at q
      refine sc Z F1 μ1 st1 env σ H1 _ g1 (re.mono e1) (Res.post_mono q (fun cs st2 q => ?_) fun _ _ q => q.ext e1)
      intro F2 μ2 H2 xs e2 g2 rs
      by_cases hl : cs.length ≤ sizeLine
      · rw [if_pos hl] at q
        refine ⟨by rw [← rs.length]; exact hl, fun p hp => ?_⟩
        obtain ⟨c, st3, e, k⟩ := Res.post_of q
        cases en : tyName a st2 with
        | none => rw [en] at e; cases e
        | some n =>
          rw [en] at e
          have e : (isiTys n cs).map (fun b => (A.bl b, st2)) = some (c, st3) := e
          cases eb : isiTys n cs with
          | none => rw [eb] at e; cases e
          | some b =>
            rw [eb] at e; cases e
            obtain ⟨g3, e3⟩ := g2.known (p := p) (o := .tup xs) hp
            obtain ⟨us, h1, h2⟩ := isiTys_ok eb rs
            have ra3 := ra.mono (e2.trans e3)
            exact ⟨x, p, xs, _, us, b, rfl, upd_same, h1, tyName_ok g3 ra3 en, h2, Kont.now (k.ext (e1.trans (e2.trans e3))) g3 (.bl _)⟩
      · rw [if_neg hl] at q; exact q.elim
    · rw [← c.K]
      exact pe_callB call_isiT (c.gl hg) (c.mgn hm) PyProof.Rows.boot_isinstance (pa_cons (pa X c t) (pa_cons (pe_tup (pc X c t)) pa_nil) (he _)) (he := he _)⟩

/-! ### methods -/
def tyVA (T : String) (a : A) (st : Store) : Bool := match T, a with
  | "str", .str _ => true
  | "list", a => (lstR a st).isSome
  | "dict", .dct _ _ => true
  | "dict", .cell n => (match st[n]? with
    | some (.dct _ _) => true
    | _ => false)
  | _, _ => false
theorem tyVA_ok {K : PySem.W.Frag} {F : Hp} {μ : List Addr} {st : Store} {H : Hp} {T : String} {a : A} {x : V} (g : Good K Z F μ st H) (r : Rep K F μ a x) (h : tyVA T a st = true) : tyV K T x H := by
  unfold tyVA at h
  split at h
  · cases r; rfl
  · cases e : lstR a st with
    | none => rw [e] at h; cases h
    | some xs =>
      obtain ⟨p, vs, rfl, h1, _⟩ := lstR_ok g r e
      exact .inl ⟨rfl, vs, h1⟩
  · cases r with
    | dct h1 _ _ => exact .inr (.inr (.inl ⟨rfl, .inl ⟨_, g.sub _ _ h1⟩⟩))
  · rename_i n
    cases r with
    | cell h1 =>
      cases e : st[n]? with
      | none => rw [e] at h; cases h
      | some c =>
        cases c with
        | dct ks xs =>
          obtain ⟨a, h2, _, vs, h4, _⟩ := g.cell _ _ e (by intro z; cases z)
          rw [h1] at h2; cases h2
          exact .inr (.inr (.inl ⟨rfl, .inl ⟨_, h4⟩⟩))
        | _ => rw [e] at h; cases h
  · cases h
/-- a method with its plain function -/
structure Cm (T id : String) (op : A → OpN) : Prop where
  ex : ∃ r : PySem.W.Frag → V → List V → Hp → VK → Prop, (∀ (Γ : G) (X : Cx), CtxOk Γ X → MtR X id (r X.K)) ∧
    ∀ (K : PySem.W.Frag) (Z F : Hp) (μ : List Addr) (st st' : Store) (H : Hp) (a : A) (as : List A) (c : A) (x : V) (xs : List V) (Q : VK), Good K Z F μ st H → Rep K F μ a x → Reps K F μ as xs → op a as st = some (c, st') → Kont K Z Rep F μ Q c st' → r K x xs H Q
def eM (T : String) (op : A → OpN) (mo : AEnv → Store → Res A) (ms : AEnv → Store → Res (List A)) : AEnv → Store → Res A := fun env st => (mo env st).bind fun a st1 => if tyVA T a st1 then (ms env st1).bind fun as st2 => Res.of (op a as st2) else .stuck
theorem sim_m {K : PySem.W.Frag} {W : WX} {T : String} {r : V → List V → Hp → VK → Prop} {op : A → OpN} {to : TE} {t : TA}
    (h : ∀ (Z F : Hp) (μ : List Addr) (st st' : Store) (H : Hp) (a : A) (as : List A) (c : A) (x : V) (xs : List V) (Q : VK), Good K Z F μ st H → Rep K F μ a x → Reps K F μ as xs → op a as st = some (c, st') → Kont K Z Rep F μ Q c st' → r x xs H Q)
    (ho : Sim K Rep W to mo) (ha : Sim K Reps W t ms) : Sim K Rep W (tBM K T r to t) (eM T op mo ms) := by
  intro Z F μ st env σ H Q g re hp
  unfold eM at hp
  rw [Res.post_bind] at hp
  refine ho Z F μ st env σ H _ g re (Res.post_mono hp (fun a st1 q => ?_) fun _ _ q => q)
  intro F1 μ1 H1 x e1 g1 ra
  by_cases ty : tyVA T a st1 = true
  · rw [if_pos ty] at q
    refine ⟨tyVA_ok g1 ra ty, ?_⟩
    rw [Res.post_bind] at q
    refine ha Z F1 μ1 st1 env σ H1 _ g1 (re.mono e1) (Res.post_mono q (fun as st2 q => ?_) fun _ _ q => q.ext e1)
    intro F2 μ2 H2 xs e2 g2 rs
    obtain ⟨c, st3, e, k⟩ := Res.post_of q
    exact h Z F2 μ2 st2 st3 H2 a as c x xs Q g2 (ra.mono e2) rs e (k.ext (e1.trans e2))
  · rw [if_neg ty] at q; exact q.elim
theorem s_m {T id : String} {name : Str} {op : A → OpN} (pa : PlainAttrs T) (slot : Slot T name id) (hty : typeOf (.builtin id) = pure (.type "method_descriptor")) (hm : Cm T id op) (ho : SE Γ o mo) (ha : SA Γ (e :: es) ms)
    (hbase : ∀ env, attributeBase o name env (eval o env) = eval o env := by intro _; rfl)
    (hfew : ∀ env, ((backTo cpos (starEach (e :: es) env)).all (fun x => !x.1) && (backToKw cpos (keywordEach [] env)).all (fun x => x.1.isSome)
      && decide ((e :: es).length + ([] : List Keyword).length + (if ([] : List Keyword).isEmpty then 0 else 1) < 30)) = true := by intro _; rfl)
    (hline : (apos.endLine == cpos.line) = true := by rfl) (hs : ∀ env, starEach (e :: es) env = (false, eval e env) :: starEach es env := by intro _; rfl) (hplain : ∀ env, (backTo cpos (starEach es env)).any (·.1) = false := by intro _; rfl) :
    SE Γ (.Call (.Attribute o name apos) (e :: es) [] cpos) (eM T op mo ms) :=
  ⟨fun W => by
    obtain ⟨r, h1, h2⟩ := hm.ex
    obtain ⟨to, so, po⟩ := ho.run W
    obtain ⟨ta, sa, pa'⟩ := ha.run W
    refine ⟨_, sim_m (T := T) (h2 _) so sa, fun X c t => ?_⟩
    rw [← c.K]
    exact pe_bm pa slot hty (h1 Γ X c) (po X c t) (pa' X c t) (hbase _) (hfew _) hline (hs _) (hplain _)⟩
theorem s_m0 {T id : String} {name : Str} {op : A → OpN} (pa : PlainAttrs T) (slot : Slot T name id) (hty : typeOf (.builtin id) = pure (.type "method_descriptor")) (hm : Cm T id op) (ho : SE Γ o mo)
    (hbase : ∀ env, attributeBase o name env (eval o env) = eval o env := by intro _; rfl) (hline : (apos.endLine == cpos.line) = true := by rfl) :
    SE Γ (.Call (.Attribute o name apos) [] [] cpos) (eM T op mo aNil) :=
  ⟨fun W => by
    obtain ⟨r, h1, h2⟩ := hm.ex
    obtain ⟨to, so, po⟩ := ho.run W
    refine ⟨tBM Γ.K T (r Γ.K) to tNil, sim_m (T := T) (h2 _) so (fun Z F μ st env σ H Q g re h => Kont.now (show Kont Γ.K Z Reps F μ Q [] st from h) g .nil), fun X c t => ?_⟩
    rw [← c.K]
    exact pe_bm0 pa slot hty (h1 Γ X c) (po X c t) (hbase _) hline⟩
/-- a list's cell is written by a method -/
def cellL (a : A) (st : Store) : Option (Nat × List A) := match a with
  | .cell n => (match st[n]? with
    | some (.lst xs) => some (n, xs)
    | _ => none)
  | _ => none
theorem cellL_ok {K : PySem.W.Frag} {F : Hp} {μ : List Addr} {st : Store} {H : Hp} {a : A} {n : Nat} {xs : List A} {v : V} (g : Good K Z F μ st H) (r : Rep K F μ a v) (h : cellL a st = some (n, xs)) :
    ∃ p vs, v = .ref p ∧ H p = some (.lst vs) ∧ Reps K F μ xs vs ∧ ∀ ys ws, Reps K F μ ys ws → Good K Z F μ (st.set n (.lst ys)) (upd H p (.lst ws)) := by
  cases a with
  | cell m =>
    cases r with
    | cell h1 =>
      have h : (match st[m]? with | some (.lst xs) => some (m, xs) | _ => none) = some (n, xs) := h
      cases e : st[m]? with
      | none => rw [e] at h; cases h
      | some c =>
        rw [e] at h
        cases c with
        | lst ys =>
          cases h
          obtain ⟨a, h2, h3, vs, h4, h5⟩ := g.cell n _ e (by intro z; cases z)
          rw [h1] at h2; cases h2
          exact ⟨_, vs, rfl, h4, h5, fun ys ws r => g.write (o := .lst ws) e (by intro z; cases z) h1 ⟨ws, upd_same, r⟩⟩
        | _ => cases h
  | _ => cases h
def appendM : A → OpN := fun a as st => match cellL a st, as with
  | some (n, xs), [y] => if xs.length < sizeLine then some (.non, st.set n (.lst (xs ++ [y]))) else none
  | _, _ => none
theorem m_append : Cm "list" "list.append" appendM := ⟨⟨fun _ => rAppend, fun _ _ _ => mt_append, fun K Z F μ st st' H a as c x xs Q g ra rs e k => by
  unfold appendM at e
  cases e1 : cellL a st with
  | none => rw [e1] at e; cases e
  | some p =>
    obtain ⟨n, ys⟩ := p
    rw [e1] at e
    cases as with
    | nil => cases e
    | cons y as =>
      cases as with
      | cons z as => cases e
      | nil =>
        obtain ⟨v, rfl, ry⟩ := rs.one
        obtain ⟨p, vs, rfl, h1, r1, hw⟩ := cellL_ok g ra e1
        have e : (if ys.length < sizeLine then some (A.non, st.set n (.lst (ys ++ [y]))) else none) = some (c, st') := e
        by_cases hl : ys.length < sizeLine
        · rw [if_pos hl] at e; cases e
          exact ⟨p, vs, v, rfl, rfl, h1, by rw [← r1.length]; exact hl, k.now (hw _ _ (r1.append (.cons ry .nil))) .non⟩
        · rw [if_neg hl] at e; cases e⟩⟩
def popM : A → OpN := fun a as st => match cellL a st, as with
  | some (n, xs), [] => (xs[xs.length - 1]?).map fun y => (y, st.set n (.lst xs.dropLast))
  | some (n, xs), [.int i] => if -(2 ^ 63) ≤ i ∧ i < 2 ^ 63 then (seqIndex? i xs.length).bind fun k => (xs[k]?).map fun y => (y, st.set n (.lst (xs.eraseIdx k))) else none
  | _, _ => none
theorem m_pop : Cm "list" "list.pop" popM := ⟨⟨fun _ x xs H Q => rPop x xs H Q ∨ rPopAt x xs H Q, fun _ _ _ => MtR.or mt_pop mt_popAt, fun K Z F μ st st' H a as c x xs Q g ra rs e k => by
  unfold popM at e
  cases e1 : cellL a st with
  | none => rw [e1] at e; cases e
  | some p =>
    obtain ⟨n, ys⟩ := p
    rw [e1] at e
    obtain ⟨p, vs, rfl, h1, r1, hw⟩ := cellL_ok g ra e1
    cases as with
    | nil =>
      cases rs
      have e : (ys[ys.length - 1]?).map (fun y => (y, st.set n (.lst ys.dropLast))) = some (c, st') := e
      cases e2 : ys[ys.length - 1]? with
      | none => rw [e2] at e; cases e
      | some y =>
        rw [e2] at e; cases e
        obtain ⟨v, h2, h3⟩ := r1.get e2
        exact .inl ⟨p, vs, v, rfl, rfl, h1, by rw [← r1.length]; exact h2, k.now (hw _ _ r1.dropLast) h3⟩
    | cons i as =>
      cases as with
      | cons z as => cases i <;> cases e
      | nil =>
        cases i with
        | int i =>
          obtain ⟨v, rfl, ry⟩ := rs.one
          cases ry
          have e : (if -(2 ^ 63) ≤ i ∧ i < 2 ^ 63 then (seqIndex? i ys.length).bind (fun k => (ys[k]?).map fun y => (y, st.set n (.lst (ys.eraseIdx k)))) else none) = some (c, st') := e
          by_cases hl : -(2 ^ 63) ≤ i ∧ i < 2 ^ 63
          · rw [if_pos hl] at e
            cases e2 : seqIndex? i ys.length with
            | none => rw [e2] at e; cases e
            | some j =>
              rw [e2] at e
              have e : (ys[j]?).map (fun y => (y, st.set n (.lst (ys.eraseIdx j)))) = some (c, st') := e
              cases e3 : ys[j]? with
              | none => rw [e3] at e; cases e
              | some y =>
                rw [e3] at e; cases e
                obtain ⟨v, h2, h3⟩ := r1.get e3
                exact .inr ⟨p, vs, i, j, v, rfl, rfl, h1, hl.1, hl.2, by rw [← r1.length]; exact e2, h2, k.now (hw _ _ (r1.eraseIdx j)) h3⟩
          · rw [if_neg hl] at e; cases e
        | _ => cases e⟩⟩
def reverseM : A → OpN := fun a as st => match cellL a st, as with
  | some (n, xs), [] => some (.non, st.set n (.lst xs.reverse))
  | _, _ => none
theorem m_reverse : Cm "list" "list.reverse" reverseM := ⟨⟨fun _ => rReverse, fun _ _ _ => mt_reverse, fun K Z F μ st st' H a as c x xs Q g ra rs e k => by
  unfold reverseM at e
  cases e1 : cellL a st with
  | none => rw [e1] at e; cases e
  | some p =>
    obtain ⟨n, ys⟩ := p
    rw [e1] at e
    cases as with
    | cons y as => cases e
    | nil =>
      cases rs; cases e
      obtain ⟨p, vs, rfl, h1, r1, hw⟩ := cellL_ok g ra e1
      exact ⟨p, vs, rfl, rfl, h1, k.now (hw _ _ r1.reverse) .non⟩⟩⟩
def clearM : A → OpN := fun a as st => match cellL a st, as with
  | some (n, xs), [] => some (.non, st.set n (.lst []))
  | _, _ => none
theorem m_clear : Cm "list" "list.clear" clearM := ⟨⟨fun _ => rClear, fun _ _ _ => mt_clear, fun K Z F μ st st' H a as c x xs Q g ra rs e k => by
  unfold clearM at e
  cases e1 : cellL a st with
  | none => rw [e1] at e; cases e
  | some p =>
    obtain ⟨n, ys⟩ := p
    rw [e1] at e
    cases as with
    | cons y as => cases e
    | nil =>
      cases rs; cases e
      obtain ⟨p, vs, rfl, h1, r1, hw⟩ := cellL_ok g ra e1
      exact ⟨p, vs, rfl, rfl, h1, k.now (hw _ _ .nil) .non⟩⟩⟩

/-! ### calls of defs -/
/-- a def's promise: what the plain function tells -/
def spM (K : PySem.W.Frag) (n : Nat) (M : List A → Store → Res A) : Sp := fun vs H Q E => vs.length = n ∧ ∃ Z F μ st as, Good K Z F μ st H ∧ Reps K F μ as vs ∧
  (M as st).post (Kont K Z Rep F μ Q) (fun e st' => ∀ F' μ' H' d, Ext F F' μ μ' → Good K Z F' μ' st' H' → XRep K F' μ' e d → E (.ref (He.ga K e.c)) d H')
/-- a def of the module, what it does -/
structure FnS (P : Program) (w : World) (K : PySem.W.Frag) (mg : Str → Option Value) (base : Heap) (k : Nat) (f : Addr) (ps : List Str) (M : List A → Store → Res A) : Prop where
  ex : ∃ fd, FnOk P w K mg base (L2.CX P w) k f fd ps (spM K ps.length M) ∧ Binds K fd ps []
  kp : PySem.W.keepIn K (.ref f) = true
  ar : ∀ as st, as.length ≠ ps.length → M as st = .stuck
def eCall (M : List A → Store → Res A) (ms : AEnv → Store → Res (List A)) : AEnv → Store → Res A := fun env st => (ms env st).bind fun as st1 => M as st1
theorem sim_call {K : PySem.W.Frag} {W : WX} {n : Nat} {M : List A → Store → Res A} {t : TA} (ar : ∀ as st, as.length ≠ n → M as st = .stuck) (ha : Sim K Reps W t ms) : Sim K Rep W (tCallS (spM K n M) (WE W) t) (eCall M ms) :=
  Sim.bind (k := fun vs σ H Q => spM K n M vs H Q (WE W σ)) (m' := fun as env st1 => M as st1) ha fun Z F μ st env σ H Q a x g re ra hp => by
    refine ⟨?_, Z, F, μ, st, a, g, ra, hp⟩
    rw [← ra.length]
    by_cases h : a.length = n
    · exact h
    · rw [ar a st h] at hp; exact hp.elim
theorem s_call {j : Nat} {x : Str} {ps : List Str} {M : List A → Store → Res A} (F : FnS Γ.P Γ.w Γ.K Γ.mg Γ.base j (He.ga Γ.K x) ps M) (hj : j ≤ Γ.k) (hg : Γ.sc.names.lookup x = some .globalImplicit) (hm : Γ.mg x = some (.ref (He.ga Γ.K x)))
    (ha : SA Γ (e :: es) ms) (hdb : (x == ("__debug__" : Str)) = false := by decide) (he : ∀ env, starEach (e :: es) env = (false, eval e env) :: starEach es env := by intro _; rfl)
    (hpl : ∀ env, (backTo pos (starEach es env)).any (·.1) = false := by intro _; rfl) (cm : Γ.calm = true := by rfl) : SE Γ (.Call (.Name x p) (e :: es) [] pos) (eCall M ms) :=
  ⟨fun W => by
    obtain ⟨fd, h1, h2⟩ := F.ex
    obtain ⟨ta, sa, pa⟩ := ha.run W
    refine ⟨_, sim_call F.ar sa, fun X c t => ?_⟩
    have h1' : FnOk X.prog X.w X.K X.mg X.base (L2.CX X.prog X.w) j (He.ga Γ.K x) fd ps (spM Γ.K ps.length M) := by
      rw [c.prog, c.w, c.K, c.mg, c.base]; exact h1
    exact pe_callS h1' ((c.room cm).mono hj) (c.gl hg) (c.mgn hm) (by rw [c.K]; exact F.kp) (by rw [c.K]; exact h2) (fun σ => passAt t σ) (pa X c t) hdb (he _) (hpl _)⟩
end
end SL

set_option Elab.async false
set_option linter.all false
set_option maxRecDepth 100000
set_option maxHeartbeats 4000000
/-! SLf: what loops walk; targets; statements. -/
namespace SL
open PySem PySem.Spec L2
open PyProof.Rows hiding St
/-! ### what is walked -/
abbrev Src := Option (Nat × List A)
def srcOk (src : Src) (_ : List A) (st : Store) : Prop := match src with
  | none => True
  | some c => st[c.1]? = some (.lst c.2)
@[simp] theorem srcOk_none (xs : List A) (st : Store) : srcOk none xs st = True := (rfl)
@[simp] theorem srcOk_some (c : Nat) (ys xs : List A) (st : Store) : srcOk (some (c, ys)) xs st = (st[c]? = some (.lst ys)) := (rfl)
def ItOk (K : PySem.W.Frag) (Z F : Hp) (μ : List Addr) (xs : List A) (src : Src) (J : It) : Prop := ∀ (Z' : Hp) (i : Nat) (F' : Hp) (μ' : List Addr) (st' : Store) (H' : Hp), Ext F F' μ μ' → Good K Z' F' μ' st' H' → srcOk src xs st' →
  (∀ x, xs[i]? = some x → J.go i H' ∧ ∀ v H2, J.yld i H' v H2 → ∃ F2, Ext F' F2 μ' μ' ∧ Good K Z' F2 μ' st' H2 ∧ Rep K F2 μ' x v) ∧ (xs.length ≤ i → J.stop i H')
theorem ItOk.ext {K : PySem.W.Frag} {Z F F1 : Hp} {μ μ1 : List Addr} {xs : List A} {src : Src} {J : It} (h : ItOk K Z F μ xs src J) (e : Ext F F1 μ μ1) : ItOk K Z F1 μ1 xs src J := fun Z' i F' μ' st' H' e' => h Z' i F' μ' st' H' (e.trans e')
abbrev MI := AEnv → Store → Res (List A × Src)
def SimI (K : PySem.W.Frag) (W : WX) (wi : TI) (m : MI) : Prop := ∀ (Z F : Hp) (μ : List Addr) (st : Store) (env : AEnv) (σ : St) (H : Hp) (R : It → Hp → Prop), Good K Z F μ st H → REnv K F μ env σ →
  (m env st).post (fun p st' => ∀ F' μ' H', Ext F F' μ μ' → Good K Z F' μ' st' H' → ∀ J, ItOk K Z F' μ' p.1 p.2 J → R J H') (KX K Z F μ σ W) → wi σ H R
structure SI (Γ : G) (tg iter : Expr) (m : MI) : Prop where
  run : ∀ W : WX, ∃ wi : TI, SimI Γ.K W wi m ∧ ∀ X, CtxOk Γ X → Takes X W → PI X tg iter wi
theorem pi_or {X : Cx} {tg iter : Expr} {w1 w2 : TI} (h1 : PI X tg iter w1) (h2 : PI X tg iter w2) : PI X tg iter (fun σ H R => w1 σ H R ∨ w2 σ H R) :=
  ⟨fun pins s σ H R I h => h.elim (h1.run pins s σ H R I) (h2.run pins s σ H R I)⟩
def srcOf (a : A) (xs : List A) : Src := match a with
  | .cell n => some (n, xs)
  | _ => none
def isCell : A → Bool
  | .cell _ => true
  | _ => false
/-- a list or a tuple -/
def mSeq (m : AEnv → Store → Res A) : MI := fun env st => (m env st).bind fun a st1 => match seqR a st1 with
  | some xs => .ok (xs, srcOf a xs) st1
  | none => .stuck
/-- what is read of a list later -/
theorem lstR_later {K : PySem.W.Frag} {Z Z' F F' : Hp} {μ μ' : List Addr} {st st' : Store} {H H' : Hp} {a : A} {xs all : List A} {p : Addr} (g : Good K Z F μ st H) (r : Rep K F μ a (.ref p)) (h : lstR a st = some xs) (e : Ext F F' μ μ') (g' : Good K Z' F' μ' st' H')
    (s : srcOk (srcOf a xs) all st') : ∃ vs, SqL K H' p vs ∧ Reps K F' μ' xs vs := by
  have fin : ∀ st'', Good K Z' F' μ' st'' H' → lstR a st'' = some xs → ∃ vs, SqL K H' p vs ∧ Reps K F' μ' xs vs := fun st'' g'' h'' => by
    obtain ⟨q, vs, e1, h1, h2⟩ := lstR_ok g'' (r.mono e) h''
    cases e1
    exact ⟨vs, h1, h2⟩
  cases a with
  | lst ys => exact fin st' g' h
  | slst ys => exact fin st' g' h
  | cell n => exact fin st' g' (by have s : st'[n]? = some (.lst xs) := s; simp [lstR, lstH, s])
  | _ => cases h
section
variable {Γ : G} {e e2 : Expr} {tg : Expr} {m m2 : AEnv → Store → Res A} {p pos : Pos}
theorem itl_ok {K : PySem.W.Frag} {Z F : Hp} {μ : List Addr} {st : Store} {H : Hp} {a : A} {xs : List A} {p : Addr} (g : Good K Z F μ st H) (r : Rep K F μ a (.ref p)) (h : lstR a st = some xs) : ItOk K Z F μ xs (srcOf a xs) (Itl K p) := by
  intro Z' i F' μ' st' H' e g' s
  obtain ⟨vs, h1, h2⟩ := lstR_later g r h e g' s
  refine ⟨fun x hx => ?_, fun hl => ⟨vs, h1, by rw [← h2.length]; exact hl⟩⟩
  obtain ⟨v, hv, rv⟩ := h2.get hx
  refine ⟨⟨vs, v, h1, hv⟩, fun w H2 y => ?_⟩
  obtain ⟨rfl, y⟩ := y
  have := y vs h1
  rw [hv] at this; cases this
  exact ⟨F', Ext.refl, g', rv⟩
theorem itt_ok {K : PySem.W.Frag} {Z F : Hp} {μ : List Addr} {st : Store} {H : Hp} {a : A} {xs : List A} {p : Addr} (g : Good K Z F μ st H) (r : Rep K F μ a (.ref p)) (h : tupR a = some xs) : ItOk K Z F μ xs none (Itt K p) := by
  intro Z' i F' μ' st' H' e g' s
  obtain ⟨q, vs, e1, h1, h2⟩ := tupR_ok g' (r.mono e) h
  cases e1
  refine ⟨fun x hx => ?_, fun hl => ⟨vs, h1, by rw [← h2.length]; exact hl⟩⟩
  obtain ⟨v, hv, rv⟩ := h2.get hx
  refine ⟨⟨vs, v, h1, hv⟩, fun w H2 y => ?_⟩
  obtain ⟨rfl, y⟩ := y
  have := y vs h1
  rw [hv] at this; cases this
  exact ⟨F', Ext.refl, g', rv⟩
theorem i_seq (h : SE Γ e m) : SI Γ tg e (mSeq m) :=
  ⟨fun W => by
    obtain ⟨t, s, ph⟩ := h.run W
    refine ⟨fun σ H R => iList Γ.K t σ H R ∨ iTup Γ.K t σ H R, ?_, fun X c k => ?_⟩
    · intro Z F μ st env σ H R g re hp
      unfold mSeq at hp
      rw [Res.post_bind] at hp
      have left : ((m env st).post (fun a st1 => ∀ xs, lstR a st1 = some xs → seqR a st1 = some xs → (match seqR a st1 with | some xs => Res.ok (xs, srcOf a xs) st1 | none => .stuck).post (fun p st' => ∀ F' μ' H', Ext F F' μ μ' → Good Γ.K Z F' μ' st' H' → ∀ J, ItOk Γ.K Z F' μ' p.1 p.2 J → R J H') (KX Γ.K Z F μ σ W)) (KX Γ.K Z F μ σ W)) → (∀ a st1, m env st = .ok a st1 → ∃ xs, lstR a st1 = some xs ∧ seqR a st1 = some xs) → iList Γ.K t σ H R := by
        intro hq hl
        refine s Z F μ st env σ H _ g re ?_
        cases em : m env st with
        | stuck => rw [em] at hq; exact hq.elim
        | exc x st1 => rw [em] at hq; exact hq
        | ok a st1 =>
          rw [em] at hq
          obtain ⟨xs, h1, h2⟩ := hl a st1 em
          have q := hq xs h1 h2
          rw [h2] at q
          intro F1 μ1 H1 x e1 g1 ra
          obtain ⟨p, vs, rfl, h3, h4⟩ := lstR_ok g1 ra h1
          exact ⟨p, rfl, ⟨vs, h3⟩, q F1 μ1 H1 e1 g1 _ (itl_ok g1 ra h1)⟩
      have right : (∀ a st1, m env st = .ok a st1 → ∃ xs, tupR a = some xs) → (∃ a st1, m env st = .ok a st1) → iTup Γ.K t σ H R := by
        rintro hl ⟨a, st1, em⟩
        refine s Z F μ st env σ H _ g re ?_
        rw [em] at hp ⊢
        obtain ⟨xs, h1⟩ := hl a st1 em
        have h2 : seqR a st1 = some xs := by unfold seqR; rw [h1]; rfl
        have q : (match seqR a st1 with | some xs => Res.ok (xs, srcOf a xs) st1 | none => .stuck).post (fun p st' => ∀ F' μ' H', Ext F F' μ μ' → Good Γ.K Z F' μ' st' H' → ∀ J, ItOk Γ.K Z F' μ' p.1 p.2 J → R J H') (KX Γ.K Z F μ σ W) := hp
        rw [h2] at q
        intro F1 μ1 H1 x e1 g1 ra
        obtain ⟨p, vs, rfl, h3, h4⟩ := tupR_ok g1 ra h1
        have hs : srcOf a xs = none := by cases a <;> first | rfl | cases h1
        refine ⟨p, rfl, ⟨vs, h3⟩, q F1 μ1 H1 e1 g1 _ ?_⟩
        show ItOk Γ.K Z F1 μ1 xs (srcOf a xs) _
        rw [hs]
        exact itt_ok g1 ra h1
      cases em : m env st with
      | stuck => rw [em] at hp; exact hp.elim
      | exc x st1 =>
        refine .inl (left ?_ fun a st1 z => by rw [em] at z; cases z)
        rw [em] at hp ⊢; exact hp
      | ok a st1 =>
        cases et : tupR a with
        | some xs => exact .inr (right (fun a' st' z => by rw [em] at z; cases z; exact ⟨xs, et⟩) ⟨a, st1, em⟩)
        | none =>
          refine .inl (left ?_ fun a' st' z => ?_)
          · rw [em] at hp ⊢; intro xs h1 h2; exact hp
          · rw [em] at z; cases z
            rw [em] at hp
            have q : (match seqR a st1 with | some xs => Res.ok (xs, srcOf a xs) st1 | none => .stuck).post (fun p st' => ∀ F' μ' H', Ext F F' μ μ' → Good Γ.K Z F' μ' st' H' → ∀ J, ItOk Γ.K Z F' μ' p.1 p.2 J → R J H') (KX Γ.K Z F μ σ W) := hp
            cases eq : seqR a st1 with
            | none => rw [eq] at q; exact q.elim
            | some xs =>
              refine ⟨xs, ?_, rfl⟩
              unfold seqR at eq; rw [et] at eq; exact eq
    · rw [← c.K]
      exact pi_or (pi_list (ph X c k)) (pi_tup (ph X c k))⟩
/-- the ints from lo, below hi -/
def rgA (lo hi : Int) : List A := (List.range (hi - lo).toNat).map fun i => .int (lo + (i : Nat))
theorem rgA_get {lo hi : Int} {i : Nat} {x : A} (h : (rgA lo hi)[i]? = some x) : i < (hi - lo).toNat ∧ x = .int (lo + (i : Nat)) := by
  unfold rgA at h
  rw [List.getElem?_map] at h
  by_cases hi' : i < (hi - lo).toNat
  · rw [List.getElem?_range hi'] at h; cases h; exact ⟨hi', rfl⟩
  · rw [List.getElem?_eq_none (by rw [List.length_range]; omega)] at h; cases h
theorem rgA_length {lo hi : Int} : (rgA lo hi).length = (hi - lo).toNat := by unfold rgA; rw [List.length_map, List.length_range]
theorem itr_ok {K : PySem.W.Frag} {Z F : Hp} {μ : List Addr} {lo hi : Int} : ItOk K Z F μ (rgA lo hi) none (Itr lo (hi - lo).toNat) := by
  intro Z' i F' μ' st' H' e g' s
  refine ⟨fun x hx => ?_, fun hl => by rw [rgA_length] at hl; exact hl⟩
  obtain ⟨h1, rfl⟩ := rgA_get hx
  refine ⟨h1, fun v H2 y => ?_⟩
  obtain ⟨rfl, rfl⟩ := y
  exact ⟨F', Ext.refl, g', .int _⟩
def mRng1 (ms : AEnv → Store → Res (List A)) : MI := fun env st => (ms env st).bind fun as st1 => match as with
  | [.int j] => if -(2 ^ 62) ≤ j ∧ j < 2 ^ 62 then .ok (rgA 0 j, none) st1 else .stuck
  | _ => .stuck
def mRng2 (ms : AEnv → Store → Res (List A)) : MI := fun env st => (ms env st).bind fun as st1 => match as with
  | [.int i, .int j] => if -(2 ^ 62) ≤ i ∧ i < 2 ^ 62 ∧ -(2 ^ 62) ≤ j ∧ j < 2 ^ 62 then .ok (rgA i j, none) st1 else .stuck
  | _ => .stuck
variable {ms : AEnv → Store → Res (List A)}
theorem i_rng1 (hg : Γ.sc.names.lookup ("range" : Str) = some .globalImplicit) (hm : Γ.mg "range" = none) (ha : SA Γ [e] ms) (hs : ∀ env, starEach [e] env = [(false, eval e env)] := by intro _; rfl) : SI Γ tg (.Call (.Name "range" p) [e] [] pos) (mRng1 ms) :=
  ⟨fun W => by
    obtain ⟨t, s, ph⟩ := ha.run W
    refine ⟨iRng1 t, ?_, fun X c k => pi_range1 (c.gl hg) (c.mgn hm) (ph X c k) (hs _)⟩
    intro Z F μ st env σ H R g re hp
    unfold mRng1 at hp
    rw [Res.post_bind] at hp
    refine s Z F μ st env σ H _ g re (Res.post_mono hp (fun as st1 q => ?_) fun _ _ q => q)
    intro F1 μ1 H1 xs e1 g1 ra
    split at q
    · rename_i j
      split at q
      · rename_i hb
        obtain ⟨v, rfl, rv⟩ := ra.one
        cases rv
        exact ⟨j, rfl, hb.1, hb.2, by have := q F1 μ1 H1 e1 g1 (Itr 0 (j - 0).toNat) itr_ok; rw [Int.sub_zero] at this; exact this⟩
      · exact q.elim
    · exact q.elim⟩
theorem i_rng2 (hg : Γ.sc.names.lookup ("range" : Str) = some .globalImplicit) (hm : Γ.mg "range" = none) (ha : SA Γ [e, e2] ms) (hs : ∀ env, starEach [e, e2] env = [(false, eval e env), (false, eval e2 env)] := by intro _; rfl)
    (hs2 : ∀ env, starEach [e2] env = [(false, eval e2 env)] := by intro _; rfl) : SI Γ tg (.Call (.Name "range" p) [e, e2] [] pos) (mRng2 ms) :=
  ⟨fun W => by
    obtain ⟨t, s, ph⟩ := ha.run W
    refine ⟨iRng2 t, ?_, fun X c k => pi_range2 (c.gl hg) (c.mgn hm) (ph X c k) (hs _) (hs2 _)⟩
    intro Z F μ st env σ H R g re hp
    unfold mRng2 at hp
    rw [Res.post_bind] at hp
    refine s Z F μ st env σ H _ g re (Res.post_mono hp (fun as st1 q => ?_) fun _ _ q => q)
    intro F1 μ1 H1 xs e1 g1 ra
    split at q
    · rename_i i j
      split at q
      · rename_i hb
        obtain ⟨v, w, rfl, rv, rw'⟩ := ra.two
        cases rv; cases rw'
        exact ⟨i, j, rfl, hb, q F1 μ1 H1 e1 g1 (Itr i (j - i).toNat) itr_ok⟩
      · exact q.elim
    · exact q.elim⟩
/-- reversed(xs), enumerate(xs), zip(xs, ys) of lists -/
def mRev (ms : AEnv → Store → Res (List A)) : MI := fun env st => (ms env st).bind fun as st1 => match as with
  | [a] => (match lstR a st1 with
    | some xs => .ok (xs.reverse, srcOf a xs) st1
    | none => .stuck)
  | _ => .stuck
def enA : Nat → List A → List A
  | _, [] => []
  | i, x :: xs => .tup [.int i, x] :: enA (i + 1) xs
theorem enA_get : ∀ (xs : List A) (j i : Nat), (enA j xs)[i]? = (xs[i]?).map fun x => A.tup [.int ((j + i : Nat) : Int), x]
  | [], j, i => by simp [enA]
  | x :: xs, j, 0 => by simp [enA]
  | x :: xs, j, i + 1 => by
    rw [enA, List.getElem?_cons_succ, enA_get xs (j + 1) i, List.getElem?_cons_succ]
    congr 1
    funext y
    rw [show j + 1 + i = j + (i + 1) by omega]
theorem enA_length : ∀ (xs : List A) (j : Nat), (enA j xs).length = xs.length
  | [], _ => rfl
  | x :: xs, j => by rw [enA, List.length_cons, List.length_cons, enA_length xs]
def mEnum (ms : AEnv → Store → Res (List A)) : MI := fun env st => (ms env st).bind fun as st1 => match as with
  | [a] => (match lstR a st1 with
    | some xs => .ok (enA 0 xs, srcOf a xs) st1
    | none => .stuck)
  | _ => .stuck
def zpA (xs ys : List A) : List A := (xs.zip ys).map fun p => .tup [p.1, p.2]
def mZip (ms : AEnv → Store → Res (List A)) : MI := fun env st => (ms env st).bind fun as st1 => match as with
  | [a, b] => (match isCell a, isCell b with
    | false, false => (match lstR a st1, lstR b st1 with
      | some xs, some ys => .ok (zpA xs ys, none) st1
      | _, _ => .stuck)
    | _, _ => .stuck)
  | _ => .stuck
theorem i_rev (hg : Γ.sc.names.lookup ("reversed" : Str) = some .globalImplicit) (hm : Γ.mg "reversed" = none) (ha : SA Γ [e] ms) (hs : ∀ env, starEach [e] env = [(false, eval e env)] := by intro _; rfl) : SI Γ tg (.Call (.Name "reversed" p) [e] [] pos) (mRev ms) :=
  ⟨fun W => by
    obtain ⟨t, s, ph⟩ := ha.run W
    refine ⟨iRev Γ.K t, ?_, fun X c k => by rw [← c.K]; exact pi_reversed (c.gl hg) (c.mgn hm) (ph X c k) (hs _)⟩
    intro Z F μ st env σ H R g re hp
    unfold mRev at hp
    rw [Res.post_bind] at hp
    refine s Z F μ st env σ H _ g re (Res.post_mono hp (fun as st1 q => ?_) fun _ _ q => q)
    intro F1 μ1 H1 xs e1 g1 ra
    split at q
    · rename_i a
      obtain ⟨v, rfl, rv⟩ := ra.one
      · split at q
        · rename_i ys hy
          obtain ⟨p, vs, rfl, h1, r1⟩ := lstR_ok g1 rv hy
          refine ⟨p, vs, rfl, h1, q F1 μ1 H1 e1 g1 _ ?_⟩
          intro Z' i F' μ' st' H' e' g' s'
          obtain ⟨ws, h2, r2⟩ := lstR_later g1 rv hy e' g' s'
          have hlen : vs.length = ys.length := r1.length.symm
          refine ⟨fun x hx => ?_, fun hl => by rw [hlen]; rw [List.length_reverse] at hl; exact hl⟩
          have hi : i < ys.length := by have := (List.getElem?_eq_some_iff.mp hx).1; rw [List.length_reverse] at this; exact this
          rw [List.getElem?_reverse hi] at hx
          obtain ⟨v, hv, rv'⟩ := r2.get hx
          refine ⟨⟨by omega, ws, v, h2, by rw [hlen]; exact hv⟩, fun w H2 y => ?_⟩
          obtain ⟨rfl, y⟩ := y
          have := y ws h2
          rw [hlen, hv] at this; cases this
          exact ⟨F', Ext.refl, g', rv'⟩
        · exact q.elim
    · exact q.elim⟩
theorem i_enum {elts : List Expr} {kk : Nat} {tpos : Pos} (hg : Γ.sc.names.lookup ("enumerate" : Str) = some .globalImplicit) (hm : Γ.mg "enumerate" = none) (ha : SA Γ [e] ms) (hs : ∀ env, starEach [e] env = [(false, eval e env)] := by intro _; rfl) :
    SI Γ (.Tuple elts kk tpos) (.Call (.Name "enumerate" p) [e] [] pos) (mEnum ms) :=
  ⟨fun W => by
    obtain ⟨t, s, ph⟩ := ha.run W
    refine ⟨iEnum Γ.K t, ?_, fun X c k => by rw [← c.K]; exact pi_enum (c.gl hg) (c.mgn hm) (ph X c k) (hs _)⟩
    intro Z F μ st env σ H R g re hp
    unfold mEnum at hp
    rw [Res.post_bind] at hp
    refine s Z F μ st env σ H _ g re (Res.post_mono hp (fun as st1 q => ?_) fun _ _ q => q)
    intro F1 μ1 H1 xs e1 g1 ra
    split at q
    · rename_i a
      obtain ⟨v, rfl, rv⟩ := ra.one
      · split at q
        · rename_i ys hy
          obtain ⟨p, vs, rfl, h1, r1⟩ := lstR_ok g1 rv hy
          refine ⟨p, vs, rfl, h1, q F1 μ1 H1 e1 g1 _ ?_⟩
          intro Z' i F' μ' st' H' e' g' s'
          obtain ⟨ws, h2, r2⟩ := lstR_later g1 rv hy e' g' s'
          refine ⟨fun x hx => ?_, fun hl => ⟨ws, h2, by rw [enA_length] at hl; rw [← r2.length]; exact hl⟩⟩
          rw [enA_get] at hx
          cases hy' : ys[i]? with
          | none => rw [hy'] at hx; cases hx
          | some y =>
            rw [hy'] at hx; cases hx
            obtain ⟨v, hv, rv'⟩ := r2.get hy'
            refine ⟨⟨ws, v, h2, hv⟩, fun w H2 z => ?_⟩
            obtain ⟨T, x, rfl, hT, rfl, z⟩ := z
            have := z ws h2
            rw [hv] at this; cases this
            obtain ⟨g2, e2⟩ := g'.known (p := T) (o := .tup [.int (i : Nat), v]) hT
            exact ⟨_, e2, g2, .tup (SqT.of upd_same) (.cons (by rw [Nat.zero_add]; exact .int _) (.cons (rv'.mono e2) .nil))⟩
        · exact q.elim
    · exact q.elim⟩
theorem nsrc {a : A} {xs : List A} (h : isCell a = false) : srcOf a xs = none := by cases a <;> first | rfl | cases h
theorem i_zip {elts : List Expr} {kk : Nat} {tpos : Pos} (hg : Γ.sc.names.lookup ("zip" : Str) = some .globalImplicit) (hm : Γ.mg "zip" = none) (ha : SA Γ [e, e2] ms) (hs : ∀ env, starEach [e, e2] env = (false, eval e env) :: starEach [e2] env := by intro _; rfl)
    (hpl : ∀ env, (backTo pos (starEach [e2] env)).any (·.1) = false := by intro _; rfl) : SI Γ (.Tuple elts kk tpos) (.Call (.Name "zip" p) [e, e2] [] pos) (mZip ms) :=
  ⟨fun W => by
    obtain ⟨t, s, ph⟩ := ha.run W
    refine ⟨iZip Γ.K t, ?_, fun X c k => by rw [← c.K]; exact pi_zip (c.gl hg) (c.mgn hm) (ph X c k) (hs _) (hpl _)⟩
    intro Z F μ st env σ H R g re hp
    unfold mZip at hp
    rw [Res.post_bind] at hp
    refine s Z F μ st env σ H _ g re (Res.post_mono hp (fun as st1 q => ?_) fun _ _ q => q)
    intro F1 μ1 H1 xs e1 g1 ra
    split at q
    · rename_i a b
      obtain ⟨v, w, rfl, rv, rw'⟩ := ra.two
      split at q
      · rename_i ha' hb'
        split at q
        · rename_i xs ys hx hy
          obtain ⟨p1, vs, rfl, h1, r1⟩ := lstR_ok g1 rv hx
          obtain ⟨p2, ws, rfl, h2, r2⟩ := lstR_ok g1 rw' hy
          refine ⟨p1, p2, vs, ws, rfl, h1, h2, q F1 μ1 H1 e1 g1 _ ?_⟩
          intro Z' i F' μ' st' H' e' g' s'
          obtain ⟨vs', k1, t1⟩ := lstR_later (all := xs) g1 rv hx e' g' (by rw [nsrc ha']; trivial)
          obtain ⟨ws', k2, t2⟩ := lstR_later (all := ys) g1 rw' hy e' g' (by rw [nsrc hb']; trivial)
          refine ⟨fun x hx' => ?_, fun hl => ⟨vs', ws', k1, k2, ?_⟩⟩
          · unfold zpA at hx'
            rw [List.getElem?_map] at hx'
            cases hz : (xs.zip ys)[i]? with
            | none => rw [hz] at hx'; cases hx'
            | some pr =>
              rw [hz] at hx'; cases hx'
              rw [List.getElem?_zip_eq_some] at hz
              obtain ⟨v1, hv1, rv1⟩ := t1.get hz.1
              obtain ⟨v2, hv2, rv2⟩ := t2.get hz.2
              refine ⟨⟨vs', ws', v1, v2, k1, k2, hv1, hv2⟩, fun u H2 z => ?_⟩
              obtain ⟨T, x, y, rfl, hT, rfl, z1, z2⟩ := z
              have q1 := z1 vs' k1
              have q2 := z2 ws' k2
              rw [hv1] at q1; cases q1
              rw [hv2] at q2; cases q2
              obtain ⟨g2, e2⟩ := g'.known (p := T) (o := .tup [v1, v2]) hT
              exact ⟨_, e2, g2, .tup (SqT.of upd_same) (.cons (rv1.mono e2) (.cons (rv2.mono e2) .nil))⟩
          · unfold zpA at hl
            rw [List.length_map, List.length_zip] at hl
            have := t1.length; have := t2.length
            omega
        · exact q.elim
      · exact q.elim
    · exact q.elim⟩
end
end SL

set_option Elab.async false
set_option linter.all false
set_option maxRecDepth 100000
set_option maxHeartbeats 4000000
/-! SLg: targets, statements, comprehensions, a def. -/
namespace SL
open PySem PySem.Spec L2
open PyProof.Rows hiding St
/-! ### targets -/
abbrev MG := A → AEnv → Option AEnv
/-- the slots differ at most at own -/
structure Diff (own : List Nat) (σ σ' : St) : Prop where
  len : σ'.length = σ.length
  at_ : ∀ i, i ∉ own → σ'[i]? = σ[i]?
theorem Diff.refl {own : List Nat} {σ : St} : Diff own σ σ := ⟨rfl, fun _ _ => rfl⟩
theorem Diff.trans {o1 o2 : List Nat} {σ σ1 σ2 : St} (a : Diff o1 σ σ1) (b : Diff o2 σ1 σ2) : Diff (o1 ++ o2) σ σ2 := ⟨b.len.trans a.len, fun i h => by
  rw [List.mem_append, not_or] at h
  exact (b.at_ i h.2).trans (a.at_ i h.1)⟩
theorem wipe_at (σ : St) : ∀ (vs : List Nat) (i : Nat), (wipe σ vs)[i]? = if i ∈ vs ∧ i < σ.length then some none else σ[i]?
  | [], i => by simp [wipe]
  | v :: vs, i => by
    unfold wipe
    rw [List.getElem?_set, wipe_length, wipe_at σ vs i]
    by_cases h : v = i
    · subst h
      by_cases hl : v < σ.length <;> simp [hl]
    · have h' : i ≠ v := fun q => h q.symm
      simp [h, h']
theorem Diff.wipe {own vs : List Nat} {σ σ' : St} (d : Diff own σ σ') (h : ∀ i ∈ own, i ∈ vs) : L2.wipe σ' vs = L2.wipe σ vs := by
  apply List.ext_getElem?
  intro i
  rw [wipe_at, wipe_at, d.len]
  by_cases hi : i ∈ vs
  · by_cases hl : i < σ.length
    · simp [hi, hl]
    · simp [hi, hl]
      rw [d.len]; omega
  · simp [hi]
    exact d.at_ i fun q => hi (h i q)
def SimG (K : PySem.W.Frag) (t : TG) (g : MG) (own : List Nat) : Prop := ∀ (Z F : Hp) (μ : List Addr) (st : Store) (env env' : AEnv) (σ : St) (H : Hp) (v : V) (a : A) (Q : St → Hp → Prop), Good K Z F μ st H → REnv K F μ env σ → Rep K F μ a v → g a env = some env' →
  (∀ σ', REnv K F μ env' σ' → Diff own σ σ' → Q σ' H) → t v σ H Q
structure SG (Γ : G) (fo : Str → Bool) (tg : Expr) (g : MG) (own : List Nat) : Prop where
  run : ∃ t : TG, SimG Γ.K t g own ∧ ∀ X, CtxOk Γ X → (∀ x, fo x = true → X.fn x = true) → PG X tg t
structure SGs (Γ : G) (fo : Str → Bool) (tgs : List Expr) (g : List A → AEnv → Option AEnv) (own : List Nat) : Prop where
  run : ∃ t : TGs, (∀ (Z F : Hp) (μ : List Addr) (st : Store) (env env' : AEnv) (σ : St) (H : Hp) (vs : List V) (as : List A) (Q : St → Hp → Prop), Good Γ.K Z F μ st H → REnv Γ.K F μ env σ → Reps Γ.K F μ as vs → g as env = some env' →
    (∀ σ', REnv Γ.K F μ env' σ' → Diff own σ σ' → Q σ' H) → t vs σ H Q) ∧ ∀ X, CtxOk Γ X → (∀ x, fo x = true → X.fn x = true) → PGs X tgs t
def gN (i : Nat) : MG := fun a env => some (env.set i (some a))
def gsNil : List A → AEnv → Option AEnv := fun as env => match as with
  | [] => some env
  | _ => none
def gsCons (g : MG) (gs : List A → AEnv → Option AEnv) : List A → AEnv → Option AEnv := fun as env => match as with
  | a :: as => (g a env).bind fun env1 => gs as env1
  | _ => none
def gT (n : Nat) (gs : List A → AEnv → Option AEnv) : MG := fun a env => match tupR a with
  | some xs => if xs.length = n then gs xs env else none
  | none => none
section
variable {Γ : G} {fo : Str → Bool} {own own' : List Nat} {pos : Pos} {e : Expr} {es : List Expr} {g : MG} {gs : List A → AEnv → Option AEnv}
theorem g_name {i : Nat} {x : Str} (hi : Γ.N[i]? = some x) (hx : Loc Γ.sc x) (hf : fo x = true ∨ Γ.sc.names.lookup x = some .local := by first | exact .inl rfl | exact .inr rfl) : SG Γ fo (.Name x pos) (gN i) [i] :=
  ⟨gName i, fun Z F μ st env env' σ H v a Q g re ra e k => by cases e; exact k _ (re.set i ra) ⟨by rw [List.length_set], fun j hj => by rw [List.getElem?_set_ne (fun q => hj (by simp [q]))]⟩, fun X c hfo => pg_name c.nd (c.name hi) (by rw [c.sc]; exact hx) (hf.imp (hfo x) fun h => by rw [c.sc]; exact h)⟩
theorem gs_nil : SGs Γ fo [] gsNil [] := by
  refine ⟨gNil, fun Z F μ st env env' σ H vs as Q g re ra e k => ?_, fun X c hfo => pgs_nil⟩
  cases as with
  | nil => cases ra; cases e; exact ⟨rfl, k _ re Diff.refl⟩
  | cons a as => cases e
theorem gs_cons (h : SG Γ fo e g own) (hs : SGs Γ fo es gs own') (ha : ∀ env, (assignEach (e :: es) env).map (·.2) = assign e env :: (assignEach es env).map (·.2) := by intro _; rfl) : SGs Γ fo (e :: es) (gsCons g gs) (own ++ own') := by
  obtain ⟨t, h1, h2⟩ := h.run
  obtain ⟨ts, h3, h4⟩ := hs.run
  refine ⟨gCons t ts, fun Z F μ st env env' σ H vs as Q gd re ra e' k => ?_, fun X c hfo => pgs_cons (h2 X c hfo) (h4 X c hfo) (ha _)⟩
  cases as with
  | nil => cases e'
  | cons a as =>
    cases ra with
    | cons r rs =>
      have e' : (g a env).bind (fun env1 => gs as env1) = some env' := e'
      cases e1 : g a env with
      | none => rw [e1] at e'; cases e'
      | some env1 =>
        rw [e1] at e'
        exact ⟨_, _, rfl, h1 Z F μ st env env1 σ H _ a _ gd re r e1 fun σ' re' d => h3 Z F μ st env1 env' σ' H _ as Q gd re' rs e' fun σ2 re2 d2 => k σ2 re2 (d.trans d2)⟩
theorem g_tup {k n : Nat} (hs : SGs Γ fo es gs own) (hn : ∀ env, (assignEach es env).length = n := by intro _; rfl) (hst : ∀ env, (assignEach es env).findIdx? (·.1) = none := by intro _; rfl) (cm : Γ.calm = true := by rfl) : SG Γ fo (.Tuple es k pos) (gT n gs) own := by
  obtain ⟨ts, h3, h4⟩ := hs.run
  refine ⟨gTup Γ.K n ts, fun Z F μ st env env' σ H v a Q gd re ra e' k => ?_, fun X c hfo => by rw [← c.K]; exact pg_tup (c.calm cm) (h4 X c hfo) (hn _) (hst _)⟩
  unfold gT at e'
  cases e1 : tupR a with
  | none => rw [e1] at e'; cases e'
  | some xs =>
    rw [e1] at e'
    have e' : (if xs.length = n then gs xs env else none) = some env' := e'
    by_cases hl : xs.length = n
    · rw [if_pos hl] at e'
      obtain ⟨p, vs, rfl, h5, h6⟩ := tupR_ok gd ra e1
      exact ⟨p, vs, rfl, h5, by rw [← h6.length]; exact hl, h3 Z F μ st env env' σ H vs xs Q gd re h6 e' k⟩
    · rw [if_neg hl] at e'; cases e'
end

/-! ### statements -/
def KN (K : PySem.W.Frag) (Z F : Hp) (μ : List Addr) (P : St → Hp → Prop) : AEnv → Store → Prop := fun env' st' => ∀ F' μ' H' σ', Ext F F' μ μ' → Good K Z F' μ' st' H' → REnv K F' μ' env' σ' → P σ' H'
def KXS (K : PySem.W.Frag) (Z F : Hp) (μ : List Addr) (W : WX) : Exc → AEnv → Store → Prop := fun e env' st' => ∀ F' μ' H' σ' d, Ext F F' μ μ' → Good K Z F' μ' st' H' → REnv K F' μ' env' σ' → XRep K F' μ' e d → W (.ref (He.ga K e.c)) d σ' H'
def KS (K : PySem.W.Frag) (Z F : Hp) (μ : List Addr) (D : Ends) (W : WX) : SPost := ⟨KN K Z F μ D.nx, Kont K Z Rep F μ D.rt, KN K Z F μ D.bk, KN K Z F μ D.ct, KXS K Z F μ W⟩
abbrev MS := AEnv → Store → SRes
def SimS (K : PySem.W.Frag) (W : WX) (t : TS) (m : MS) : Prop := ∀ (Z F : Hp) (μ : List Addr) (st : Store) (env : AEnv) (σ : St) (H : Hp) (D : Ends), Good K Z F μ st H → REnv K F μ env σ → (m env st).post (KS K Z F μ D W) → t D σ H
structure SS (Γ : G) (fo : Str → Bool) (s : Stmt) (m : MS) : Prop where
  run : ∀ W : WX, ∃ t : TS, SimS Γ.K W t m ∧ ∀ X, CtxOk Γ X → (∀ x, fo x = true → X.fn x = true) → Takes X W → PS X s t
structure SB (Γ : G) (fo : Str → Bool) (ss : List Stmt) (m : MS) : Prop where
  run : ∀ W : WX, ∃ t : TS, SimS Γ.K W t m ∧ ∀ X, CtxOk Γ X → (∀ x, fo x = true → X.fn x = true) → Takes X W → PSs X ss t
section
variable {K : PySem.W.Frag} {Z F F' : Hp} {μ μ' : List Addr} {W : WX} {D : Ends}
theorem KN.ext {P : St → Hp → Prop} {env : AEnv} {st : Store} (e : Ext F F' μ μ') (h : KN K Z F μ P env st) : KN K Z F' μ' P env st := fun F2 μ2 H2 σ2 e2 g r => h F2 μ2 H2 σ2 (e.trans e2) g r
theorem KXS.ext {x : Exc} {env : AEnv} {st : Store} (e : Ext F F' μ μ') (h : KXS K Z F μ W x env st) : KXS K Z F' μ' W x env st := fun F2 μ2 H2 σ2 d e2 g r => h F2 μ2 H2 σ2 d (e.trans e2) g r
theorem KS.ext {r : SRes} (e : Ext F F' μ μ') (h : r.post (KS K Z F μ D W)) : r.post (KS K Z F' μ' D W) :=
  SRes.post_mono h (fun _ _ q => KN.ext e q) (fun _ _ q => Kont.ext e q) (fun _ _ q => KN.ext e q) (fun _ _ q => KN.ext e q) (fun _ _ _ q => KXS.ext e q)
theorem KN.now {P : St → Hp → Prop} {env : AEnv} {st : Store} {σ : St} {H : Hp} (h : KN K Z F μ P env st) (g : Good K Z F μ st H) (r : REnv K F μ env σ) : P σ H := h F μ H σ Ext.refl g r
/-- an expression, then the rest of its statement -/
theorem SimS.of {α β : Type} {R : Rel α β} {t : St → Hp → (β → Hp → Prop) → Prop} {m : AEnv → Store → Res α} {f : α → AEnv → Store → SRes} {k : β → TS} (h : Sim K R W t m)
    (h' : ∀ (Z F : Hp) (μ : List Addr) (st : Store) (env : AEnv) (σ : St) (H : Hp) (D : Ends) (a : α) (b : β), Good K Z F μ st H → REnv K F μ env σ → R K F μ a b → (f a env st).post (KS K Z F μ D W) → k b D σ H) :
    SimS K W (fun D σ H => t σ H fun b H1 => k b D σ H1) (fun env st => (m env st).toS env fun a st1 => f a env st1) := by
  intro Z F μ st env σ H D g re hp
  rw [Res.post_toS] at hp
  refine h Z F μ st env σ H _ g re (Res.post_mono hp (fun a st1 q => ?_) fun x st1 q => ?_)
  · intro F1 μ1 H1 b e1 g1 r1
    exact h' Z F1 μ1 st1 env σ H1 D a b g1 (re.mono e1) r1 (KS.ext e1 q)
  · intro F1 μ1 H1 d e1 g1 x1
    exact q F1 μ1 H1 σ d e1 g1 (re.mono e1) x1
end
def sNil : MS := fun env st => .nx env st
def sSeq (a b : MS) : MS := fun env st => (a env st).bind b
def sAsg (g : MG) (m : AEnv → Store → Res A) : MS := fun env st => (m env st).toS env fun a st1 => match g a env with
  | some env1 => .nx env1 st1
  | none => .stuck
def sEx (m : AEnv → Store → Res A) : MS := fun env st => (m env st).toS env fun _ st1 => .nx env st1
def sRet (m : AEnv → Store → Res A) : MS := fun env st => (m env st).toS env fun a st1 => .rt a st1
def sRetN : MS := fun _ st => .rt .non st
def sIf (p : AEnv → Store → Res Bool) (a b : MS) : MS := fun env st => (p env st).toS env fun c st1 => if c then a env st1 else b env st1
def sBk : MS := fun env st => .bk env st
def sCt : MS := fun env st => .ct env st
section
variable {Γ : G} {fo : Str → Bool} {pos : Pos} {e : Expr} {s : Stmt} {ss : List Stmt} {m : AEnv → Store → Res A} {ma mb : MS}
theorem b_nil : SB Γ fo [] sNil := ⟨fun W => ⟨tNext, fun Z F μ st env σ H D g re h => KN.now h g re, fun X c hf t => pss_nil⟩⟩
theorem b_one (h : SS Γ fo s ma) : SB Γ fo [s] ma := ⟨fun W => let ⟨t, h1, h2⟩ := h.run W; ⟨t, h1, fun X c hf k => pss_one (h2 X c hf k)⟩⟩
theorem sim_seq {K : PySem.W.Frag} {W : WX} {t u : TS} (h1 : SimS K W t ma) (h2 : SimS K W u mb) : SimS K W (tSeq t u) (sSeq ma mb) := by
  intro Z F μ st env σ H D g re hp
  unfold sSeq at hp
  rw [SRes.post_bind] at hp
  refine h1 Z F μ st env σ H _ g re (SRes.post_mono hp (fun env1 st1 q => ?_) (fun _ _ q => q) (fun _ _ q => q) (fun _ _ q => q) (fun _ _ _ q => q))
  intro F1 μ1 H1 σ1 e1 g1 re1
  exact h2 Z F1 μ1 st1 env1 σ1 H1 D g1 re1 (KS.ext e1 q)
theorem b_cons (h : SS Γ fo s ma) (hs : SB Γ fo ss mb) : SB Γ fo (s :: ss) (sSeq ma mb) :=
  ⟨fun W => let ⟨t, h1, h2⟩ := h.run W; let ⟨u, h3, h4⟩ := hs.run W; ⟨_, sim_seq h1 h3, fun X c hf k => pss_cons (h2 X c hf k) (h4 X c hf k)⟩⟩
theorem st_pass : SS Γ fo (.Pass pos) sNil := ⟨fun W => ⟨tNext, fun Z F μ st env σ H D g re h => KN.now h g re, fun X c hf t => ps_pass⟩⟩
theorem st_break : SS Γ fo (.Break pos) sBk := ⟨fun W => ⟨tBreak, fun Z F μ st env σ H D g re h => KN.now h g re, fun X c hf t => ps_break⟩⟩
theorem st_cont : SS Γ fo (.Continue pos) sCt := ⟨fun W => ⟨tCont, fun Z F μ st env σ H D g re h => KN.now h g re, fun X c hf t => ps_continue⟩⟩
theorem st_ex (h : SE Γ e m) (hs : ∀ env, swapsWith e none pos.line env = pure false := by intro _; rfl) : SS Γ fo (.Expr e pos) (sEx m) :=
  ⟨fun W => let ⟨t, h1, h2⟩ := h.run W; ⟨tDrop t, SimS.of (k := fun b D σ H => D.nx σ H) (f := fun a env st1 => .nx env st1) h1 (fun Z F μ st env σ H D a b g re r q => KN.now q g re), fun X c hf k => ps_expr (h2 X c k) (hs _)⟩⟩
theorem st_ret (h : SE Γ e m) : SS Γ fo (.Return (some e) pos) (sRet m) :=
  ⟨fun W => let ⟨t, h1, h2⟩ := h.run W; ⟨tRet t, SimS.of (k := fun b D σ H => D.rt b H) (f := fun a env st1 => .rt a st1) h1 (fun Z F μ st env σ H D a b g re r q => Kont.now q g r), fun X c hf k => ps_ret (h2 X c k)⟩⟩
theorem st_retN : SS Γ fo (.Return none pos) sRetN := ⟨fun W => ⟨tRetN, fun Z F μ st env σ H D g re h => Kont.now (R := Rep) (a := A.non) (b := V.non) (Q := D.rt) h g .non, fun X c hf t => ps_retN⟩⟩
theorem st_if {c : Expr} {p : AEnv → Store → Res Bool} {ssb : List Stmt} (hc : ST Γ c p) (ha : SB Γ fo ss ma) (hb : SB Γ fo ssb mb) : SS Γ fo (.If c ss ssb pos) (sIf p ma mb) :=
  ⟨fun W => by
    obtain ⟨tc, h1, h2⟩ := hc.run W
    obtain ⟨ta, h3, h4⟩ := ha.run W
    obtain ⟨tb, h5, h6⟩ := hb.run W
    refine ⟨tIfS tc ta tb, SimS.of (k := fun b D σ H => if b = true then ta D σ H else tb D σ H) (f := fun (c : Bool) env st1 => if c then ma env st1 else mb env st1) h1 (fun Z F μ st env σ H D a b g re r q => ?_), fun X c hf k => ps_if (h2 X c k) (h4 X c hf k) (h6 X c hf k)⟩
    cases (r : a = b)
    cases a with
    | true => rw [if_pos rfl]; exact h3 Z F μ st env σ H D g re q
    | false => rw [if_neg Bool.false_ne_true]; exact h5 Z F μ st env σ H D g re q⟩
theorem sim_asg {K : PySem.W.Frag} {W : WX} {t : TE} {tg : TG} {g : MG} {own : List Nat} (h : Sim K Rep W t m) (hg : SimG K tg g own) : SimS K W (tAsg t tg) (sAsg g m) :=
  SimS.of (k := fun b D σ H => tg b σ H D.nx) (f := fun a env st1 => match g a env with | some env1 => .nx env1 st1 | none => .stuck) h (fun Z F μ st env σ H D a b gd re r q => by
    cases e1 : g a env with
    | none => rw [e1] at q; exact q.elim
    | some env1 =>
      rw [e1] at q
      exact hg Z F μ st env env1 σ H b a D.nx gd re r e1 fun σ' re' _ => KN.now q gd re')
theorem sim_gN {K : PySem.W.Frag} (i : Nat) : SimG K (gName i) (gN i) [i] := fun Z F μ st env env' σ H v a Q g re ra e k => by cases e; exact k _ (re.set i ra) ⟨by rw [List.length_set], fun j hj => by rw [List.getElem?_set_ne (fun q => hj (by simp [q]))]⟩
/-- x = e -/
theorem st_set {i : Nat} {x : Str} {pos' : Pos} (hi : Γ.N[i]? = some x) (hx : Loc Γ.sc x) (h : SE Γ e m) (hs : ∀ X : Cx, CtxOk Γ X → swapsWith e (some (.Name x pos')) pos.line X.env = pure false := by intro _ _; rfl)
    (hf : fo x = true ∨ Γ.sc.names.lookup x = some .local := by first | exact .inl rfl | exact .inr rfl) : SS Γ fo (.Assign [.Name x pos'] e pos) (sAsg (gN i) m) :=
  ⟨fun W => let ⟨t, h1, h2⟩ := h.run W
   ⟨_, sim_asg h1 (tg := gName i) (sim_gN i),
    fun X c hfo k => ps_set c.nd (c.name hi) (by rw [c.sc]; exact hx) (h2 X c k) (hs X c) (hf.imp (hfo x) fun h => by rw [c.sc]; exact h)⟩⟩
/-- a, b = e -/
theorem st_asg {tg : Expr} {g : MG} {own : List Nat} (h : SE Γ e m) (hg : SG Γ fo tg g own) (hs : ∀ env, swapsWithSole [tg] e pos.line env = pure false := by intro _; rfl) (hw : ∀ env, swappedStores [tg] e env = pure none := by intro _; rfl)
    (ha : ∀ env, (assignEach [tg] env).map (·.2) = [assign tg env] := by intro _; rfl) : SS Γ fo (.Assign [tg] e pos) (sAsg g m) :=
  ⟨fun W => by
    obtain ⟨t, h1, h2⟩ := h.run W
    obtain ⟨u, h3, h4⟩ := hg.run
    exact ⟨_, sim_asg h1 h3, fun X c hf k => ps_asg (h2 X c k) (h4 X c hf) (hs _) (hw _) (ha _)⟩⟩
/-- a, b = e1, e2 -/
def sPar (i j : Nat) (ms : AEnv → Store → Res (List A)) : MS := fun env st => (ms env st).toS env fun as st1 => match as with
  | [a, b] => .nx ((env.set i (some a)).set j (some b)) st1
  | _ => .stuck
theorem st_par {i j : Nat} {x y : Str} {a b : Expr} {ms : AEnv → Store → Res (List A)} {px py pt : Pos} {kt k2 pt2} (hi : Γ.N[i]? = some x) (hj : Γ.N[j]? = some y) (hij : i ≠ j) (hx : Γ.sc.names.lookup x = some .local) (hy : Γ.sc.names.lookup y = some .local) (h : SA Γ [a, b] ms)
    (hw : ∀ X : Cx, CtxOk Γ X → swappedStores [.Tuple [.Name x px, .Name y py] kt pt] (.Tuple [a, b] k2 pt2) X.env = pure (some [x, y]))
    (hs : ∀ env, swapsWithSole [.Tuple [.Name x px, .Name y py] kt pt] (.Tuple [a, b] k2 pt2) pos.line env = pure false := by intro _; rfl) (cm : Γ.calm = true := by rfl) :
    SS Γ fo (.Assign [.Tuple [.Name x px, .Name y py] kt pt] (.Tuple [a, b] k2 pt2) pos) (sPar i j ms) :=
  ⟨fun W => by
    obtain ⟨t, h1, h2⟩ := h.run W
    refine ⟨tPar i j t, SimS.of (k := fun (vs : List V) D σ H => ∃ v w, vs = [v, w] ∧ D.nx ((σ.set i (some v)).set j (some w)) H) (f := fun (as : List A) env st1 => match as with | [a, b] => .nx ((env.set i (some a)).set j (some b)) st1 | _ => .stuck) h1 (fun Z F μ st env σ H D as vs g re r q => ?_),
      fun X c hf k => ps_par (c.calm cm) c.nd (c.name hi) (c.name hj) hij (by rw [c.sc]; exact hx) (by rw [c.sc]; exact hy) (h2 X c k) (hw X c) (hs _)⟩
    split at q
    · obtain ⟨v, w, rfl, r1, r2⟩ := r.two
      exact ⟨v, w, rfl, KN.now q g ((re.set i r1).set j r2)⟩
    · exact q.elim⟩
/-! xs[i] = e -/
def setL : A → A → A → Store → Option Store := fun o i v st => match cellL o st, i with
  | some (n, xs), .int k => (ixN xs.length k).map fun j => st.set n (.lst (xs.set j v))
  | _, _ => none
/-- a store by values -/
structure Cset (op : A → A → A → Store → Option Store) : Prop where
  ex : ∃ r : PySem.W.Frag → TSet, (∀ (Γ : G) (X : Cx), CtxOk Γ X → PSet X (r X.K)) ∧ ∀ (K : PySem.W.Frag) (Z F : Hp) (μ : List Addr) (st st' : Store) (H : Hp) (o i a : A) (x y v : V) (Q : Hp → Prop), Good K Z F μ st H → Rep K F μ o x → Rep K F μ i y → Rep K F μ a v → op o i a st = some st' →
    (∀ F' H', Ext F F' μ μ → Good K Z F' μ st' H' → Q H') → r K x y v H Q
theorem cset_list : Cset setL := ⟨⟨fun _ => rSetL, fun _ _ _ => set_list, fun K Z F μ st st' H o i a x y v Q g ro ri ra e k => by
  unfold setL at e
  cases e1 : cellL o st with
  | none => rw [e1] at e; cases e
  | some p =>
    obtain ⟨n, xs⟩ := p
    rw [e1] at e
    cases i with
    | int j =>
      cases ri
      have e : (ixN xs.length j).map (fun l => st.set n (.lst (xs.set l a))) = some st' := e
      cases e2 : ixN xs.length j with
      | none => rw [e2] at e; cases e
      | some l =>
        rw [e2] at e; cases e
        obtain ⟨p, vs, rfl, h1, r1, hw⟩ := cellL_ok g ro e1
        exact ⟨p, vs, j, l, rfl, rfl, h1, by rw [← r1.length]; exact e2, k _ _ Ext.refl (hw _ _ (Reps.set ra l r1))⟩
    | _ => cases e⟩⟩
def sSub (op : A → A → A → Store → Option Store) (mv mo mi : AEnv → Store → Res A) : MS := fun env st => (mv env st).toS env fun v st1 => (mo env st1).toS env fun o st2 => (mi env st2).toS env fun i st3 => match op o i v st3 with
  | some st4 => .nx env st4
  | none => .stuck
theorem st_sub {op : A → A → A → Store → Option Store} {o i : Expr} {mo mi : AEnv → Store → Res A} {sp : Pos} (hop : Cset op) (h : SE Γ e m) (ho : SE Γ o mo) (hi : SE Γ i mi)
    (hass : ∀ env v, assign (.Subscript o i sp) env v = (do
      let ov ← holding [v] (eval o env)
      let iv ← holding [v, ov] (eval i env)
      standAt sp
      holding [v, ov, iv] (setItem ov iv v)
      release [v, ov, iv] []) := by intro _ _; rfl)
    (hs : ∀ env, swapsWithSole [.Subscript o i sp] e pos.line env = pure false := by intro _; rfl) (hw : ∀ env, swappedStores [.Subscript o i sp] e env = pure none := by intro _; rfl)
    (ha : ∀ env, (assignEach [.Subscript o i sp] env).map (·.2) = [assign (.Subscript o i sp) env] := by intro _; rfl) : SS Γ fo (.Assign [.Subscript o i sp] e pos) (sSub op m mo mi) :=
  ⟨fun W => by
    obtain ⟨r, h1, h2⟩ := hop.ex
    obtain ⟨t, s1, p1⟩ := h.run W
    obtain ⟨t2, s2, p2⟩ := ho.run W
    obtain ⟨t3, s3, p3⟩ := hi.run W
    refine ⟨tAsg t (gSub t2 t3 (r Γ.K)), ?_, fun X c hf k => ?_⟩
    · intro Z F μ st env σ H D g re hp
      unfold sSub at hp
      rw [Res.post_toS] at hp
      refine s1 Z F μ st env σ H _ g re (Res.post_mono hp (fun v st1 q => ?_) fun x st1 q F1 μ1 H1 d e1 g1 x1 => q F1 μ1 H1 σ d e1 g1 (re.mono e1) x1)
      intro F1 μ1 H1 vv e1 g1 rv
      rw [Res.post_toS] at q
      refine s2 Z F1 μ1 st1 env σ H1 _ g1 (re.mono e1) (Res.post_mono q (fun o st2 q => ?_) fun x st2 q F2 μ2 H2 d e2 g2 x1 => q F2 μ2 H2 σ d (e1.trans e2) g2 (re.mono (e1.trans e2)) x1)
      intro F2 μ2 H2 ov e2 g2 ro
      rw [Res.post_toS] at q
      refine s3 Z F2 μ2 st2 env σ H2 _ g2 (re.mono (e1.trans e2)) (Res.post_mono q (fun i st3 q => ?_) fun x st3 q F3 μ3 H3 d e3 g3 x1 => q F3 μ3 H3 σ d (e1.trans (e2.trans e3)) g3 (re.mono (e1.trans (e2.trans e3))) x1)
      intro F3 μ3 H3 iv e3 g3 ri
      cases eo : op o i v st3 with
      | none => rw [eo] at q; exact q.elim
      | some st4 =>
        rw [eo] at q
        have e13 := e1.trans (e2.trans e3)
        refine h2 Γ.K Z F3 μ3 st3 st4 H3 o i v ov iv vv _ g3 (ro.mono e3) ri (rv.mono (e2.trans e3)) eo fun F4 H4 e4 g4 => ?_
        exact KN.now ((show KN Γ.K Z F μ D.nx env st4 from q).ext (e13.trans e4)) g4 (re.mono (e13.trans e4))
    · rw [← c.K]
      exact ps_asg (p1 X c k) (pg_sub (p2 X c k) (p3 X c k) (h1 Γ X c) (hass _)) (hs _) (hw _) (ha _)⟩
/-! x op= e -/
def sAug (i : Nat) (op : Op2) (m : AEnv → Store → Res A) : MS := fun env st => match env[i]? with
  | some (some a) => (m env st).toS env fun b st1 => match op a b st1 with
    | some (c, st2) => .nx (env.set i (some c)) st2
    | none => .stuck
  | _ => .stuck
/-- an in-place operator with its plain function -/
structure Cip (o : Operator) (op : Op2) : Prop where
  ex : ∃ r : PySem.W.Frag → R2, (∀ X : Cx, OpR X (inplaceOp o) (r X.K)) ∧ ∀ K, SimV2 K (r K) op
theorem ip_addI : Cip .Add addI := ⟨⟨fun _ => _, fun _ => iop_add, fun _ => sim_addI⟩⟩
theorem ip_subI : Cip .Sub subOp := ⟨⟨fun _ => _, fun _ => iop_sub, fun _ => sim_sub⟩⟩
theorem ip_addS : Cip .Add addS := ⟨⟨fun _ => _, fun _ => iop_add_str, fun _ => sim_addS⟩⟩
theorem st_aug {i : Nat} {x : Str} {o : Operator} {op : Op2} {pos' : Pos} (ho : Cip o op) (hi : Γ.N[i]? = some x) (hx : Loc Γ.sc x) (h : SE Γ e m) (hf : fo x = true ∨ Γ.sc.names.lookup x = some .local := by first | exact .inl rfl | exact .inr rfl) :
    SS Γ fo (.AugAssign (.Name x pos') o e pos) (sAug i op m) :=
  ⟨fun W => by
    obtain ⟨r, h1, h2⟩ := ho.ex
    obtain ⟨t, s, p⟩ := h.run W
    refine ⟨tAug i t (fun x y H Q => r Γ.K x y H Q), ?_, fun X c hfo k => ?_⟩
    · intro Z F μ st env σ H D g re hp
      unfold sAug at hp
      cases e1 : env[i]? with
      | none => rw [e1] at hp; exact hp.elim
      | some oa =>
        cases oa with
        | none => rw [e1] at hp; exact hp.elim
        | some a =>
          rw [e1] at hp
          obtain ⟨v, hv, rv⟩ := re.at_ i a e1
          refine ⟨v, hv, ?_⟩
          have hp : ((m env st).toS env fun b st1 => match op a b st1 with | some (c, st2) => .nx (env.set i (some c)) st2 | none => .stuck).post (KS Γ.K Z F μ D W) := hp
          rw [Res.post_toS] at hp
          refine s Z F μ st env σ H _ g re (Res.post_mono hp (fun b st1 q => ?_) fun x st1 q F1 μ1 H1 d e1 g1 x1 => q F1 μ1 H1 σ d e1 g1 (re.mono e1) x1)
          intro F1 μ1 H1 y e2 g1 ry
          cases eo : op a b st1 with
          | none => rw [eo] at q; exact q.elim
          | some pr =>
            obtain ⟨c, st2⟩ := pr
            rw [eo] at q
            refine h2 Γ.K Z F1 μ1 st1 st2 H1 a b c v y _ g1 (rv.mono e2) ry eo ?_
            intro F2 μ2 H2 z e3 g2 rz
            exact KN.now ((show KN Γ.K Z F μ D.nx (env.set i (some c)) st2 from q).ext (e2.trans e3)) g2 ((re.mono (e2.trans e3)).set i rz)
    · have hip : PIp X o (fun x y H Q => r Γ.K x y H Q) := by
        intro pins s σ H x y v u Q I rx ry q
        have := h1 X
        rw [c.K] at this
        exact this pins s σ H x y v u Q I rx ry q
      exact ps_aug c.nd (c.name hi) (by rw [c.sc]; exact hx) (p X c k) hip (hf.imp (hfo x) fun h => by rw [c.sc]; exact h)⟩

/-! ### loops -/
open Classical in
noncomputable def forL (src : Src) (all : List A) (g : MG) (body : MS) : List A → AEnv → Store → SRes
  | [], env, st => if srcOk src all st then .nx env st else .stuck
  | x :: xs, env, st => if srcOk src all st then (match g x env with
    | some env1 => (match body env1 st with
      | .nx e s => forL src all g body xs e s
      | .ct e s => forL src all g body xs e s
      | .bk e s => .nx e s
      | r => r)
    | none => .stuck) else .stuck
noncomputable def sFor (mi : MI) (g : MG) (body : MS) : MS := fun env st => (mi env st).toS env fun p st1 => forL p.2 p.1 g body p.1 env st1
theorem sim_for {K : PySem.W.Frag} {W : WX} {wi : TI} {tg : TG} {tb : TS} {mi : MI} {g : MG} {own : List Nat} {body : MS} (hi : SimI K W wi mi) (hg : SimG K tg g own) (hb : SimS K W tb body) : SimS K W (tFor wi tg tb) (sFor mi g body) := by
  intro Z F μ st env σ H D gd re hp
  unfold sFor at hp
  rw [Res.post_toS] at hp
  refine hi Z F μ st env σ H _ gd re (Res.post_mono hp (fun p st1 q => ?_) fun x st1 q F1 μ1 H1 d e1 g1 x1 => q F1 μ1 H1 σ d e1 g1 (re.mono e1) x1)
  obtain ⟨xs, src⟩ := p
  intro F1 μ1 H1 e1 g1 J hJ
  refine ⟨fun i m σ' H' => m = xs.length - i ∧ i ≤ xs.length ∧ ∃ F' μ' env' st', Ext F1 F' μ1 μ' ∧ Good K Z F' μ' st' H' ∧ REnv K F' μ' env' σ' ∧ (forL src xs g body (xs.drop i) env' st').post (KS K Z F' μ' D W), ⟨xs.length, ?_⟩, ?_⟩
  · exact ⟨rfl, Nat.zero_le _, F1, μ1, env, st1, Ext.refl, g1, re.mono e1, KS.ext e1 q⟩
  · rintro i m σ' H' ⟨rfl, hil, F', μ', env', st', e2, g2, re2, hp2⟩
    have chk : srcOk src xs st' := by
      cases ed : xs.drop i with
      | nil =>
        rw [ed] at hp2
        by_cases h : srcOk src xs st'
        · exact h
        · rw [forL, if_neg h] at hp2; exact hp2.elim
      | cons y ys =>
        rw [ed] at hp2
        by_cases h : srcOk src xs st'
        · exact h
        · rw [forL, if_neg h] at hp2; exact hp2.elim
    obtain ⟨j1, j2⟩ := hJ Z i F' μ' st' H' e2 g2 chk
    by_cases hl : i < xs.length
    · refine .inr ?_
      have ed : xs.drop i = xs[i] :: xs.drop (i + 1) := List.drop_eq_getElem_cons hl
      rw [ed, forL, if_pos chk] at hp2
      obtain ⟨hgo, hy⟩ := j1 xs[i] (List.getElem?_eq_getElem hl)
      cases eg : g xs[i] env' with
      | none => rw [eg] at hp2; exact hp2.elim
      | some env1 =>
        rw [eg] at hp2
        dsimp only at hp2
        let N : St → Hp → Prop := fun σ'' H'' => ∃ F' μ' env' st', Ext F1 F' μ1 μ' ∧ Good K Z F' μ' st' H'' ∧ REnv K F' μ' env' σ'' ∧ (forL src xs g body (xs.drop (i + 1)) env' st').post (KS K Z F' μ' D W)
        refine ⟨hgo, N, ?_, ?_⟩
        · rintro σ'' H'' ⟨F3, μ3, env3, st3, e3, g3, re3, hp3⟩
          exact ⟨xs.length - (i + 1), by omega, rfl, hl, F3, μ3, env3, st3, e3, g3, re3, hp3⟩
        · intro x H2 yd
          obtain ⟨F2, e3, g3, rx⟩ := hy x H2 yd
          refine hg Z F2 μ' st' env' env1 σ' H2 x xs[i] _ g3 (re2.mono e3) rx eg fun σ3 re3 _ => ?_
          refine hb Z F2 μ' st' env1 σ3 H2 _ g3 re3 ?_
          have hp3 := KS.ext e3 hp2
          cases eb : body env1 st' with
          | nx ee ss =>
            rw [eb] at hp3
            intro F4 μ4 H4 σ4 e4 g4 re4
            exact ⟨F4, μ4, ee, ss, e2.trans (e3.trans e4), g4, re4, KS.ext e4 hp3⟩
          | ct ee ss =>
            rw [eb] at hp3
            intro F4 μ4 H4 σ4 e4 g4 re4
            exact ⟨F4, μ4, ee, ss, e2.trans (e3.trans e4), g4, re4, KS.ext e4 hp3⟩
          | bk ee ss => rw [eb] at hp3; exact hp3
          | rt a ss => rw [eb] at hp3; exact hp3
          | exc x ee ss => rw [eb] at hp3; exact hp3
          | stuck => rw [eb] at hp3; exact hp3.elim
    · have hil' : i = xs.length := by omega
      subst hil'
      refine .inl ⟨j2 (Nat.le_refl _), ?_⟩
      rw [List.drop_length, forL, if_pos chk] at hp2
      exact KN.now (show KN K Z F' μ' D.nx env' st' from hp2) g2 re2
theorem st_for {tg iter : Expr} {mi : MI} {g : MG} {own : List Nat} (hi : SI Γ tg iter mi) (hg : SG Γ fo tg g own) (hb : SB Γ fo ss ma) (hs : ∀ env x, foldedSetIterable iter env x = pure x := by intro _ _; rfl) (cm : Γ.calm = true := by rfl) : SS Γ fo (.For tg iter ss [] pos) (sFor mi g ma) :=
  ⟨fun W => by
    obtain ⟨wi, h1, h2⟩ := hi.run W
    obtain ⟨u, h3, h4⟩ := hg.run
    obtain ⟨tb, h5, h6⟩ := hb.run W
    exact ⟨_, sim_for h1 h3 h5, fun X c hf k => ps_for c.own (c.calm cm) (h2 X c k) (h4 X c hf) (h6 X c hf k) (hs _)⟩⟩
/-- while, at most so many turns -/
def whL (p : AEnv → Store → Res Bool) (body : MS) : Nat → AEnv → Store → SRes
  | 0, _, _ => .stuck
  | n + 1, env, st => (p env st).toS env fun c st1 => if c then (match body env st1 with
    | .nx e s => whL p body n e s
    | .ct e s => whL p body n e s
    | .bk e s => .nx e s
    | r => r) else .nx env st1
/-- more turns than any while takes -/
def fuelW : Nat := 2 ^ 64
def sWhile (p : AEnv → Store → Res Bool) (body : MS) : MS := fun env st => whL p body fuelW env st
theorem sim_while {K : PySem.W.Frag} {W : WX} {tc : TT} {tb : TS} {p : AEnv → Store → Res Bool} {body : MS} (hc : Sim K RepB W tc p) (hb : SimS K W tb body) : SimS K W (tWhile tc tb) (sWhile p body) := by
  intro Z F μ st env σ H D gd re hp
  refine ⟨fun m σ' H' => ∃ F' μ' env' st', Ext F F' μ μ' ∧ Good K Z F' μ' st' H' ∧ REnv K F' μ' env' σ' ∧ (whL p body m env' st').post (KS K Z F' μ' D W), ⟨fuelW, F, μ, env, st, Ext.refl, gd, re, hp⟩, ?_⟩
  rintro m σ' H' ⟨F', μ', env', st', e2, g2, re2, hp2⟩
  cases m with
  | zero => exact hp2.elim
  | succ n =>
    rw [whL, Res.post_toS] at hp2
    refine hc Z F' μ' st' env' σ' H' _ g2 re2 (Res.post_mono hp2 (fun c st1 q => ?_) fun x st1 q F1 μ1 H1 d e1 g1 x1 => q F1 μ1 H1 σ' d e1 g1 (re2.mono e1) x1)
    intro F3 μ3 H3 b e3 g3 rb
    cases (rb : c = b)
    cases c with
    | false => rw [if_neg Bool.false_ne_true]; exact KN.now ((show KN K Z F' μ' D.nx env' st1 from q).ext e3) g3 (re2.mono e3)
    | true =>
      rw [if_pos rfl]
      refine ⟨fun σ'' H'' => ∃ F' μ' env' st', Ext F F' μ μ' ∧ Good K Z F' μ' st' H'' ∧ REnv K F' μ' env' σ'' ∧ (whL p body n env' st').post (KS K Z F' μ' D W), fun σ'' H'' h => ⟨n, Nat.lt_succ_self _, h⟩, ?_⟩
      refine hb Z F3 μ3 st1 env' σ' H3 _ g3 (re2.mono e3) ?_
      have hp3 := KS.ext e3 (show (match body env' st1 with | .nx e s => whL p body n e s | .ct e s => whL p body n e s | .bk e s => SRes.nx e s | r => r).post (KS K Z F' μ' D W) from q)
      cases eb : body env' st1 with
      | nx ee ss =>
        rw [eb] at hp3
        intro F4 μ4 H4 σ4 e4 g4 re4
        exact ⟨F4, μ4, ee, ss, e2.trans (e3.trans e4), g4, re4, KS.ext e4 hp3⟩
      | ct ee ss =>
        rw [eb] at hp3
        intro F4 μ4 H4 σ4 e4 g4 re4
        exact ⟨F4, μ4, ee, ss, e2.trans (e3.trans e4), g4, re4, KS.ext e4 hp3⟩
      | bk ee ss => rw [eb] at hp3; exact hp3
      | rt a ss => rw [eb] at hp3; exact hp3
      | exc x ee ss => rw [eb] at hp3; exact hp3
      | stuck => rw [eb] at hp3; exact hp3.elim
theorem st_while {c : Expr} {p : AEnv → Store → Res Bool} (hc : ST Γ c p) (hb : SB Γ fo ss ma) : SS Γ fo (.While c ss [] pos) (sWhile p ma) :=
  ⟨fun W => by
    obtain ⟨tc, h1, h2⟩ := hc.run W
    obtain ⟨tb, h5, h6⟩ := hb.run W
    exact ⟨_, sim_while h1 h5, fun X c hf k => ps_while c.own (h2 X c k) (h6 X c hf k)⟩⟩
end
end SL

set_option Elab.async false
set_option linter.all false
set_option maxRecDepth 100000
set_option maxHeartbeats 4000000
/-! SLh: comprehensions; lists of a range; what a def's body is worth. -/
namespace SL
open PySem PySem.Spec L2
open PyProof.Rows hiding St
/-- the place of a comprehension's block -/
def G.blk (Γ : G) (scope : Scope) : G := { Γ with sc := relS scope Γ.sc, st := false, hx := none }
def blkFo (scope : Scope) : Str → Bool := fun x => scope.names.lookup x == some .cell
theorem CtxOk.blk {Γ : G} {X : Cx} (c : CtxOk Γ X) (scope : Scope) (s : Shared) (H : Hp) (C : Addr) (cl : List (Str × Addr)) (fp : List Addr) : CtxOk (Γ.blk scope) (X.blk s H scope (compEnvC scope cl C X.env) fp) where
  prog := c.prog
  w := c.w
  K := c.K
  mg := c.mg
  base := c.base
  N := c.N
  sc := by
    show relabel scope X.env = relS scope Γ.sc
    unfold relabel relS Env.kindOf
    rw [c.sc]
  calm := c.calm
  room := c.room
  units := c.units
  stk := fun z => Bool.noConfusion z
  hx := fun _ _ _ z => nomatch z
  nd := c.nd
  own := PassesOwn.never
def noX {α : Type} (r : Res α) : Res α := match r with
  | .exc _ _ => .stuck
  | r => r
@[simp] theorem noX_ok {α : Type} {a : α} {st : Store} : noX (.ok a st) = .ok a st := (rfl)
theorem noX_post {α : Type} {r : Res α} {P : α → Store → Prop} {E E' : Exc → Store → Prop} (h : (noX r).post P E) : r.post P E' := by
  cases r with
  | ok a st => exact h
  | exc e st => exact h.elim
  | stuck => exact h
def wipeA (env : AEnv) : List Nat → AEnv
  | [] => env
  | v :: vs => (wipeA env vs).set v none
theorem REnv.wipe {K : PySem.W.Frag} {F : Hp} {μ : List Addr} {env : AEnv} {σ : St} (r : REnv K F μ env σ) : ∀ vs : List Nat, REnv K F μ (wipeA env vs) (L2.wipe σ vs)
  | [] => r
  | v :: vs => (r.wipe vs).unset v
theorem wipe_wipe (σ : St) (vs : List Nat) : wipe (wipe σ vs) vs = wipe σ vs := by
  apply List.ext_getElem?
  intro i
  rw [wipe_at, wipe_at, wipe_length]
  by_cases h : i ∈ vs ∧ i < σ.length
  · rw [if_pos h, if_pos h]
  · rw [if_neg h]
open Classical in
noncomputable def lcL (src : Src) (all : List A) (g : MG) (mt : AEnv → Store → Res Bool) (me : AEnv → Store → Res A) (env0 : AEnv) : List A → List A → Store → Res (List A)
  | [], acc, st => if srcOk src all st then .ok acc st else .stuck
  | x :: xs, acc, st => if srcOk src all st then (match g x env0 with
    | none => .stuck
    | some env1 => (noX (mt env1 st)).bind fun b st1 => if b then (noX (me env1 st1)).bind fun y st2 => if acc.length < sizeLine then lcL src all g mt me env0 xs (acc ++ [y]) st2 else .stuck
      else lcL src all g mt me env0 xs acc st1) else .stuck
noncomputable def eLc (mk : Bool) (mi : MI) (g : MG) (own : List Nat) (mt : AEnv → Store → Res Bool) (me : AEnv → Store → Res A) : AEnv → Store → Res A := fun env st => (mi env st).bind fun p st1 =>
  (lcL p.2 p.1 g mt me (wipeA env own) p.1 [] st1).bind fun acc st2 => .ok (newL mk acc st2).1 (newL mk acc st2).2
abbrev W0 : WX := fun _ _ _ _ => False
theorem sim_lc {K : PySem.W.Frag} {W : WX} {mk : Bool} {wi : TI} {tg : TG} {tt : TT} {te : TE} {mi : MI} {g : MG} {own gown : List Nat} {mt : AEnv → Store → Res Bool} {me : AEnv → Store → Res A} (hi : SimI K W wi mi) (hg : SimG K tg g gown) (hsub : ∀ i ∈ gown, i ∈ own)
    (ht : Sim K RepB W0 tt mt) (he : Sim K Rep W0 te me) : Sim K Rep W (tLc wi tg tt te own) (eLc mk mi g own mt me) := by
  intro Z F μ st env σ H Q gd re hp
  unfold eLc at hp
  rw [Res.post_bind] at hp
  refine hi Z F μ st env σ H _ gd re (Res.post_mono hp (fun p st1 q => ?_) fun _ _ q => q)
  obtain ⟨xs, src⟩ := p
  intro F1 μ1 H1 e1 g1 J hJ D hD
  have hZ : Z D = none := g1.noz hD
  rw [Res.post_bind] at q
  refine ⟨fun i m H' => m = xs.length - i ∧ i ≤ xs.length ∧ ∃ F' μ' st' acc vs, Ext F1 F' μ1 μ' ∧ Good K (upd Z D (.lst vs)) F' μ' st' H' ∧ Reps K F' μ' acc vs ∧
    (lcL src xs g mt me (wipeA env own) (xs.drop i) acc st').post (fun acc' st'' => Kont K Z Rep F' μ' Q (newL mk acc' st'').1 (newL mk acc' st'').2) (fun _ _ => True), ⟨xs.length, ?_⟩, ?_⟩
  · refine ⟨rfl, Nat.zero_le _, F1, μ1, st1, [], [], Ext.refl, g1.apart hD rfl, .nil, ?_⟩
    exact Res.post_mono q (fun acc st2 q => Kont.ext e1 q) fun _ _ _ => trivial
  · rintro i m H' ⟨rfl, hil, F', μ', st', acc, vs, e2, g2, ra, hp2⟩
    have chk : srcOk src xs st' := by
      cases ed : xs.drop i with
      | nil =>
        rw [ed] at hp2
        by_cases h : srcOk src xs st'
        · exact h
        · rw [lcL, if_neg h] at hp2; exact hp2.elim
      | cons y ys =>
        rw [ed] at hp2
        by_cases h : srcOk src xs st'
        · exact h
        · rw [lcL, if_neg h] at hp2; exact hp2.elim
    obtain ⟨j1, j2⟩ := hJ _ i F' μ' st' H' e2 g2 chk
    have re2 : REnv K F' μ' (wipeA env own) (wipe σ own) := (re.mono (e1.trans e2)).wipe own
    by_cases hl : i < xs.length
    · refine .inr ?_
      have ed : xs.drop i = xs[i] :: xs.drop (i + 1) := List.drop_eq_getElem_cons hl
      rw [ed, lcL, if_pos chk] at hp2
      obtain ⟨hgo, hy⟩ := j1 xs[i] (List.getElem?_eq_getElem hl)
      cases eg : g xs[i] (wipeA env own) with
      | none => rw [eg] at hp2; exact hp2.elim
      | some env1 =>
        rw [eg] at hp2
        dsimp only at hp2
        let Nx : Hp → Prop := fun H'' => ∃ F' μ' st' acc vs, Ext F1 F' μ1 μ' ∧ Good K (upd Z D (.lst vs)) F' μ' st' H'' ∧ Reps K F' μ' acc vs ∧
          (lcL src xs g mt me (wipeA env own) (xs.drop (i + 1)) acc st').post (fun acc' st'' => Kont K Z Rep F' μ' Q (newL mk acc' st'').1 (newL mk acc' st'').2) (fun _ _ => True)
        refine ⟨hgo, Nx, fun H'' h => ⟨xs.length - (i + 1), by omega, rfl, hl, h⟩, ?_⟩
        intro x H2 yd
        obtain ⟨F2, e3, g3, rx⟩ := hy x H2 yd
        refine hg _ F2 μ' st' _ env1 _ H2 x xs[i] _ g3 (re2.mono e3) rx eg fun σ3 re3 df => ⟨?_, ?_⟩
        · rw [df.wipe hsub, wipe_wipe]
        · rw [Res.post_bind] at hp2
          refine ht _ F2 μ' st' env1 σ3 H2 _ g3 re3 (Res.post_mono (noX_post (E' := fun _ _ => False) hp2) (fun b st2 q => ?_) fun _ _ z => z.elim)
          intro F4 μ4 H4 b' e4 g4 rb
          cases (rb : b = b')
          cases b with
          | false =>
            rw [if_neg Bool.false_ne_true]
            refine ⟨F4, μ4, st2, acc, vs, e2.trans (e3.trans e4), g4, ra.mono (e3.trans e4), ?_⟩
            exact Res.post_mono (show (lcL src xs g mt me (wipeA env own) (xs.drop (i + 1)) acc st2).post _ _ from q) (fun a s q => Kont.ext (e3.trans e4) q) fun _ _ _ => trivial
          | true =>
            rw [if_pos rfl]
            have q : ((noX (me env1 st2)).bind fun y st3 => if acc.length < sizeLine then lcL src xs g mt me (wipeA env own) (xs.drop (i + 1)) (acc ++ [y]) st3 else .stuck).post (fun acc' st'' => Kont K Z Rep F' μ' Q (newL mk acc' st'').1 (newL mk acc' st'').2) (fun _ _ => True) := q
            rw [Res.post_bind] at q
            refine he _ F4 μ4 st2 env1 σ3 H4 _ g4 (re3.mono e4) (Res.post_mono (noX_post (E' := fun _ _ => False) q) (fun y st3 q => ?_) fun _ _ z => z.elim)
            intro F5 μ5 H5 v e5 g5 rv
            by_cases hacc : acc.length < sizeLine
            · rw [if_pos hacc] at q
              refine ⟨vs, g5.zub _ _ upd_same, by rw [← ra.length]; exact hacc, ?_⟩
              have e35 := e3.trans (e4.trans e5)
              refine ⟨F5, μ5, st3, acc ++ [y], vs ++ [v], e2.trans e35, g5.zset rfl rfl, (ra.mono e35).append (.cons rv .nil), ?_⟩
              exact Res.post_mono q (fun a s q => Kont.ext e35 q) fun _ _ _ => trivial
            · rw [if_neg hacc] at q; exact q.elim
    · have hil' : i = xs.length := by omega
      subst hil'
      refine .inl ⟨j2 (Nat.le_refl _), ?_⟩
      rw [List.drop_length, lcL, if_pos chk] at hp2
      have k : Kont K Z Rep F' μ' Q (newL mk acc st').1 (newL mk acc st').2 := hp2
      cases mk with
      | false =>
        obtain ⟨g3, e3⟩ := g2.zknown hZ
        exact (k.ext e3).now g3 (.lst upd_same (ra.mono e3))
      | true =>
        obtain ⟨g3, e3⟩ := g2.zpush (c := .lst acc) hZ ⟨vs, g2.zub _ _ upd_same, ra⟩
        exact (k.ext e3).now g3 (.cell (by rw [← g2.len, List.getElem?_append_right (Nat.le_refl _), Nat.sub_self]; rfl))
/-- a clause's tests -/
structure STs (Γ : G) (ifs : List Expr) (m : AEnv → Store → Res Bool) : Prop where
  run : ∀ W : WX, ∃ t : TT, Sim Γ.K RepB W t m ∧ ∀ X, CtxOk Γ X → Takes X W → PTs X ifs t
def tYesM : AEnv → Store → Res Bool := fun _ st => .ok true st
section
variable {Γ : G} {fo : Str → Bool} {elt tg iter : Expr} {ifs : List Expr} {scope : Scope} {pos spos py p : Pos} {mi : MI} {g : MG} {own : List (Str × Nat)} {gown : List Nat} {mt : AEnv → Store → Res Bool} {me : AEnv → Store → Res A}
theorem ts_nil : STs Γ [] tYesM := ⟨fun W => ⟨tYes, fun Z F μ st env σ H Q g re h => Kont.now (show Kont Γ.K Z RepB F μ Q true st from h) g rfl, fun X c t => pts_nil⟩⟩
theorem ts_one {c : Expr} (h : ST Γ c mt) : STs Γ [c] mt := ⟨fun W => let ⟨t, h1, h2⟩ := h.run W; ⟨t, h1, fun X c k => pts_one (h2 X c k)⟩⟩
theorem s_lc {mk : Bool} (hi : SI Γ tg iter mi) (ok : blkC Γ.N Γ.sc scope own = true) (hg : SG (Γ.blk scope) (blkFo scope) tg g gown) (hsub : ∀ i ∈ gown, i ∈ own.map (·.2)) (ht : STs (Γ.blk scope) ifs mt) (he : SE (Γ.blk scope) elt me)
    (hs : ∀ env x, foldedSetIterable iter env x = pure x := by intro _ _; rfl) (cm : Γ.calm = true := by rfl) : SE Γ (.ListComp elt [⟨tg, iter, ifs, 0⟩] scope pos) (eLc mk mi g (own.map (·.2)) mt me) :=
  ⟨fun W => by
    obtain ⟨wi, h1, h2⟩ := hi.run W
    obtain ⟨u, h3, h4⟩ := hg.run
    obtain ⟨tt, h5, h6⟩ := ht.run W0
    obtain ⟨te, h7, h8⟩ := he.run W0
    refine ⟨_, sim_lc (mk := mk) h1 h3 hsub h5 h7, fun X c k => ?_⟩
    exact pe_lc (c.calm cm) c.nd (h2 X c k) (by rw [c.N, c.sc]; exact blkOk_by ok) (fun s H C cl fp => h4 _ (c.blk scope s H C cl fp) fun x h => h) (fun s H C cl fp => h6 _ (c.blk scope s H C cl fp) takes0) (fun s H C cl fp => h8 _ (c.blk scope s H C cl fp) takes0) (hs _)⟩
theorem st_setLc {mk : Bool} {i : Nat} {y : Str} (hy : Γ.N[i]? = some y) (hyl : Γ.sc.names.lookup y = some .local) (hk : Γ.sc.kind = .function) (hl : (py.line == pos.line) = true) (hn : (scope.names.any fun (n, k) => n == y && (k == .local || k == .cell)) = false)
    (hi : SI Γ tg iter mi) (ok : blkC Γ.N Γ.sc scope own = true) (hg : SG (Γ.blk scope) (blkFo scope) tg g gown) (hsub : ∀ i ∈ gown, i ∈ own.map (·.2)) (ht : STs (Γ.blk scope) ifs mt) (he : SE (Γ.blk scope) elt me)
    (hs : ∀ env x, foldedSetIterable iter env x = pure x := by intro _ _; rfl) (cm : Γ.calm = true := by rfl) : SS Γ fo (.Assign [.Name y py] (.ListComp elt [⟨tg, iter, ifs, 0⟩] scope pos) spos) (sAsg (gN i) (eLc mk mi g (own.map (·.2)) mt me)) :=
  ⟨fun W => by
    obtain ⟨wi, h1, h2⟩ := hi.run W
    obtain ⟨u, h3, h4⟩ := hg.run
    obtain ⟨tt, h5, h6⟩ := ht.run W0
    obtain ⟨te, h7, h8⟩ := he.run W0
    refine ⟨_, sim_asg (sim_lc (mk := mk) h1 h3 hsub h5 h7) (sim_gN i), fun X c hfo k => ?_⟩
    exact ps_setLc (c.calm cm) c.nd (c.name hy) (by rw [c.sc]; exact hyl) (sw_true (by rw [c.sc]; exact hk) (by rw [c.sc]; exact hyl) hl hn) (h2 X c k) (by rw [c.N, c.sc]; exact blkOk_by ok) (fun s H C cl fp => h4 _ (c.blk scope s H C cl fp) fun x h => h) (fun s H C cl fp => h6 _ (c.blk scope s H C cl fp) takes0) (fun s H C cl fp => h8 _ (c.blk scope s H C cl fp) takes0) (hs _)⟩
/-- where the target is captured by some block: an ordinary store -/
theorem sw_cell {X : Cx} (c : CtxOk Γ X) {y : Str} {gs : List Comprehension} {l : Nat} (hy : Γ.sc.names.lookup y = some .cell) : swapsWith (.ListComp elt gs scope pos) (some (.Name y py)) l X.env = pure false := by
  have e : (X.env.kindOf y == some NameKind.local) = false := by unfold Env.kindOf; rw [c.sc, hy]; rfl
  show (pure (X.env.blockKind == .function && X.env.kindOf y == some .local && py.line == pos.line && !(scope.names.any fun (n, k) => n == y && (k == .local || k == .cell))) : Sem Bool) = pure false
  rw [e, Bool.and_false, Bool.false_and, Bool.false_and]
/-! list(range(..)), tuple(range(..)) -/
def rgPair : List A → Option (Int × Int)
  | [.int j] => some ((0 : Int), j)
  | [.int i, .int j] => some (i, j)
  | _ => none
def eRg (mk : Option Bool) (ms : AEnv → Store → Res (List A)) : AEnv → Store → Res A := fun env st => (ms env st).bind fun as st1 =>
  match rgPair as with
  | some (i, j) => if -(2 ^ 62) ≤ i ∧ i < 2 ^ 62 ∧ -(2 ^ 62) ≤ j ∧ j < 2 ^ 62 ∧ (j - i).toNat ≤ 2 ^ 24 then (match mk with
    | some mk => .ok (newL mk (rgA i j) st1).1 (newL mk (rgA i j) st1).2
    | none => .ok (.tup (rgA i j)) st1) else .stuck
  | none => .stuck
theorem rgA_reps {K : PySem.W.Frag} {F : Hp} {μ : List Addr} (i j : Int) : Reps K F μ (rgA i j) (rgV i j) := by
  unfold rgA rgV
  generalize List.range (j - i).toNat = l
  induction l with
  | nil => exact .nil
  | cons n l ih => exact .cons (.int _) ih
/-- the two ends of a range -/
structure SR (Γ : G) (e : Expr) (ms : AEnv → Store → Res (List A)) : Prop where
  run : ∀ W : WX, ∃ t : St → Hp → (Int → Int → Hp → Prop) → Prop, (∀ (Z F : Hp) (μ : List Addr) (st : Store) (env : AEnv) (σ : St) (H : Hp) (Q : Int → Int → Hp → Prop), Good Γ.K Z F μ st H → REnv Γ.K F μ env σ →
    (ms env st).post (fun as st1 => ∀ F' μ' H', Ext F F' μ μ' → Good Γ.K Z F' μ' st1 H' → ∃ i j, rgPair as = some (i, j) ∧ Q i j H') (KX Γ.K Z F μ σ W) → t σ H Q) ∧
    ∀ X, CtxOk Γ X → Takes X W → PRg X e t
theorem r_1 {a : Expr} {ma : AEnv → Store → Res A} (hg : Γ.sc.names.lookup ("range" : Str) = some .globalImplicit) (hm : Γ.mg "range" = none) (ha : SE Γ a ma) (hs : ∀ env, starEach [a] env = (false, eval a env) :: starEach [] env := by intro _; rfl) :
    SR Γ (.Call (.Name "range" p) [a] [] pos) (aCons ma aNil) :=
  ⟨fun W => by
    obtain ⟨t, h1, h2⟩ := ha.run W
    refine ⟨tRg1 t, fun Z F μ st env σ H Q g re hp => ?_, fun X c k => prg_1 (c.gl hg) (c.mgn hm) (h2 X c k) (hs _)⟩
    unfold aCons aNil at hp
    rw [Res.post_bind] at hp
    refine h1 Z F μ st env σ H _ g re (Res.post_mono hp (fun a st1 q => ?_) fun _ _ q => q)
    intro F1 μ1 H1 x e1 g1 ra
    obtain ⟨i, j, e, k⟩ := q F1 μ1 H1 e1 g1
    cases a with
    | int n => cases ra; cases e; exact ⟨_, rfl, k⟩
    | _ => cases e⟩
theorem r_2 {a b : Expr} {ma mb : AEnv → Store → Res A} (hg : Γ.sc.names.lookup ("range" : Str) = some .globalImplicit) (hm : Γ.mg "range" = none) (ha : SE Γ a ma) (hb : SE Γ b mb) (hs : ∀ env, starEach [a, b] env = (false, eval a env) :: starEach [b] env := by intro _; rfl)
    (hs2 : ∀ env, starEach [b] env = (false, eval b env) :: starEach [] env := by intro _; rfl) (hp : ∀ env, (backTo pos (starEach [b] env)).any (·.1) = false := by intro _; rfl) :
    SR Γ (.Call (.Name "range" p) [a, b] [] pos) (aCons ma (aCons mb aNil)) :=
  ⟨fun W => by
    obtain ⟨t, h1, h2⟩ := ha.run W
    obtain ⟨u, h3, h4⟩ := hb.run W
    refine ⟨tRg2 t u, fun Z F μ st env σ H Q g re hp => ?_, fun X c k => prg_2 (c.gl hg) (c.mgn hm) (h2 X c k) (h4 X c k) (hs _) (hs2 _) (hp _)⟩
    unfold aCons aNil at hp
    rw [Res.post_bind] at hp
    refine h1 Z F μ st env σ H _ g re (Res.post_mono hp (fun a st1 q => ?_) fun _ _ q => q)
    intro F1 μ1 H1 x e1 g1 ra
    simp only [Res.post_bind] at q
    refine h3 Z F1 μ1 st1 env σ H1 _ g1 (re.mono e1) (Res.post_mono q (fun b st2 q => ?_) fun _ _ q => q.ext e1)
    intro F2 μ2 H2 y e2 g2 rb
    obtain ⟨i, j, e, k⟩ := q F2 μ2 H2 (e1.trans e2) g2
    cases a with
    | int n =>
      cases b with
      | int m => cases ra; cases rb; cases e; exact ⟨_, _, rfl, rfl, k⟩
      | _ => cases e
    | _ => cases b <;> cases e⟩
variable {e : Expr} {ms : AEnv → Store → Res (List A)}
theorem sim_rg {W : WX} {mk : Option Bool} {t : St → Hp → (Int → Int → Hp → Prop) → Prop} (h : ∀ (Z F : Hp) (μ : List Addr) (st : Store) (env : AEnv) (σ : St) (H : Hp) (Q : Int → Int → Hp → Prop), Good Γ.K Z F μ st H → REnv Γ.K F μ env σ →
    (ms env st).post (fun as st1 => ∀ F' μ' H', Ext F F' μ μ' → Good Γ.K Z F' μ' st1 H' → ∃ i j, rgPair as = some (i, j) ∧ Q i j H') (KX Γ.K Z F μ σ W) → t σ H Q) :
    Sim Γ.K Rep W (match mk with | some _ => tLstRg t | none => tTupRg t) (eRg mk ms) := by
  intro Z F μ st env σ H Q g re hp
  unfold eRg at hp
  rw [Res.post_bind] at hp
  have key : (ms env st).post (fun as st1 => ∀ F' μ' H', Ext F F' μ μ' → Good Γ.K Z F' μ' st1 H' → ∃ i j, rgPair as = some (i, j) ∧
      (RgOk i j ∧ ∀ q, H' q = none → Q (.ref q) (upd H' q (match mk with | some _ => .lst (rgV i j) | none => .tup (rgV i j))))) (KX Γ.K Z F μ σ W) := by
    refine Res.post_mono hp (fun as st1 q => ?_) fun _ _ q => q
    intro F1 μ1 H1 e1 g1
    split at q
    · rename_i i j hr
      split at q
      · rename_i hb
        refine ⟨i, j, hr, hb, fun p hp' => ?_⟩
        cases mk with
        | some mk =>
          have q : Kont Γ.K Z Rep F μ Q (newL mk (rgA i j) st1).1 (newL mk (rgA i j) st1).2 := q
          exact newL_ok (mk := mk) g1 hp' (rgA_reps i j) (q.ext e1)
        | none =>
          have q : Kont Γ.K Z Rep F μ Q (.tup (rgA i j)) st1 := q
          exact newT_ok g1 hp' (rgA_reps i j) (q.ext e1)
      · exact q.elim
    · exact q.elim
  cases mk with
  | some mk => exact h Z F μ st env σ H _ g re key
  | none => exact h Z F μ st env σ H _ g re key
theorem s_listRg {mk : Bool} (hg : Γ.sc.names.lookup ("list" : Str) = some .globalImplicit) (hm : Γ.mg "list" = none) (h : SR Γ e ms) (na : ∀ env, starEach [e] env = (false, eval e env) :: starEach [] env := by intro _; rfl) (cm : Γ.calm = true := by rfl) : SE Γ (.Call (.Name "list" p) [e] [] pos) (eRg (some mk) ms) :=
  ⟨fun W => let ⟨t, h1, h2⟩ := h.run W; ⟨tLstRg t, sim_rg (mk := some mk) h1, fun X c k => pe_listRg (c.calm cm) (c.gl hg) (c.mgn hm) (h2 X c k) (na _)⟩⟩
theorem s_tupRg (hg : Γ.sc.names.lookup ("tuple" : Str) = some .globalImplicit) (hm : Γ.mg "tuple" = none) (h : SR Γ e ms) (na : ∀ env, starEach [e] env = (false, eval e env) :: starEach [] env := by intro _; rfl) (cm : Γ.calm = true := by rfl) : SE Γ (.Call (.Name "tuple" p) [e] [] pos) (eRg none ms) :=
  ⟨fun W => let ⟨t, h1, h2⟩ := h.run W; ⟨tTupRg t, sim_rg (mk := none) h1, fun X c k => pe_tupRg (c.calm cm) (c.gl hg) (c.mgn hm) (h2 X c k) (na _)⟩⟩
end
end SL

set_option Elab.async false
set_option linter.all false
set_option maxRecDepth 100000
set_option maxHeartbeats 4000000
/-! SLi: what a def is worth: its cells go, or become data; the law's end. -/
namespace SL
open PySem PySem.Spec L2
open PyProof.Rows hiding St
mutual
def A.bel (n : Nat) : A → Bool
  | .cell c => decide (c < n)
  | .lst xs => belowL n xs
  | .slst xs => belowL n xs
  | .tup xs => belowL n xs
  | .obj _ _ vs => belowL n vs
  | .dct _ vs => belowL n vs
  | .xcp _ _ _ _ vs => belowL n vs
  | .non => true
  | .bl _ => true
  | .int _ => true
  | .str _ => true
  | .ty _ => true
  | .glo _ => true
def belowL (n : Nat) : List A → Bool
  | [] => true
  | x :: xs => x.bel n && belowL n xs
end
def C.bel (n : Nat) : C → Bool
  | .lst xs => belowL n xs
  | .dct _ vs => belowL n vs
  | .obj _ _ vs => belowL n vs
  | .dead => true
section
variable {K : PySem.W.Frag} {Z F : Hp} {μ : List Addr}
theorem take_get {α : Type} {l : List α} {n i : Nat} (h : i < n) : (l.take n)[i]? = l[i]? := by rw [List.getElem?_take]; simp [h]
mutual
theorem Rep.cut {n : Nat} : ∀ {a : A} {v : V}, Rep K F μ a v → a.bel n = true → Rep K F (μ.take n) a v
  | _, _, .non, _ => .non
  | _, _, .bl b, _ => .bl b
  | _, _, .int i, _ => .int i
  | _, _, .str s, _ => .str s
  | _, _, .ty n, _ => .ty n
  | _, _, .glo x, _ => .glo x
  | _, _, .lst s r, h => .lst s (Reps.cut r (by simpa [A.bel] using h))
  | _, _, .slst s r, h => .slst s (Reps.cut r (by simpa [A.bel] using h))
  | _, _, .tup s r, h => .tup s (Reps.cut r (by simpa [A.bel] using h))
  | _, _, .cell e, h => .cell (by rw [take_get (by simpa [A.bel] using h)]; exact e)
  | _, _, .obj h1 h2 h3 r, h => .obj h1 h2 h3 (Reps.cut r (by simpa [A.bel] using h))
  | _, _, .dct h1 h3 r, h => .dct h1 h3 (Reps.cut r (by simpa [A.bel] using h))
  | _, _, .xcp0, _ => .xcp0
  | _, _, .xcpD h1 h3 r, h => .xcpD h1 h3 (Reps.cut r (by simpa [A.bel] using h))
theorem Reps.cut {n : Nat} : ∀ {as : List A} {vs : List V}, Reps K F μ as vs → belowL n as = true → Reps K F (μ.take n) as vs
  | _, _, .nil, _ => .nil
  | _, _, .cons r t, h => by
    rw [belowL, Bool.and_eq_true] at h
    exact .cons (Rep.cut r h.1) (Reps.cut t h.2)
end
mutual
theorem Rep.bel : ∀ {a : A} {v : V}, Rep K F μ a v → a.bel μ.length = true
  | _, _, .non => by simp [A.bel]
  | _, _, .bl b => by simp [A.bel]
  | _, _, .int i => by simp [A.bel]
  | _, _, .str s => by simp [A.bel]
  | _, _, .ty n => by simp [A.bel]
  | _, _, .glo x => by simp [A.bel]
  | _, _, .lst s r => by simp only [A.bel]; exact Reps.bel r
  | _, _, .slst s r => by simp only [A.bel]; exact Reps.bel r
  | _, _, .tup s r => by simp only [A.bel]; exact Reps.bel r
  | _, _, .cell e => by simp only [A.bel, decide_eq_true_eq]; exact (List.getElem?_eq_some_iff.mp e).1
  | _, _, .obj h1 h2 h3 r => by simp only [A.bel]; exact Reps.bel r
  | _, _, .dct h1 h3 r => by simp only [A.bel]; exact Reps.bel r
  | _, _, .xcp0 => by simp [A.bel, belowL]
  | _, _, .xcpD h1 h3 r => by simp only [A.bel]; exact Reps.bel r
theorem Reps.bel : ∀ {as : List A} {vs : List V}, Reps K F μ as vs → belowL μ.length as = true
  | _, _, .nil => by simp [belowL]
  | _, _, .cons r t => by rw [belowL, Rep.bel r, Reps.bel t]; rfl
end
theorem CRep.cut {n : Nat} {H : Hp} {c : C} {a : Addr} (h : CRep K F μ H c a) (b : c.bel n = true) : CRep K F (μ.take n) H c a := by
  cases c with
  | lst xs => obtain ⟨vs, h, r⟩ := h; exact ⟨vs, h, r.cut b⟩
  | dct ks xs => obtain ⟨kvs, h, q, r⟩ := h; exact ⟨kvs, h, q, r.cut b⟩
  | obj c ns xs => obtain ⟨dx, fs, h, h2, q, r⟩ := h; exact ⟨dx, fs, h, h2, q, r.cut b⟩
  | dead => trivial
theorem CRep.bel {H : Hp} {c : C} {a : Addr} (h : CRep K F μ H c a) : c.bel μ.length = true := by
  cases c with
  | lst xs => obtain ⟨vs, h, r⟩ := h; exact r.bel
  | dct ks xs => obtain ⟨kvs, h, q, r⟩ := h; exact r.bel
  | obj c ns xs => obtain ⟨dx, fs, h, h2, q, r⟩ := h; exact r.bel
  | dead => rfl
/-- the cells of the caller stand as they stood, or hold nothing of the callee's -/
def okS (n : Nat) (st0 st : Store) : Prop := ∀ i, i < n → st[i]? = st0[i]? ∨ ∃ c, st[i]? = some c ∧ c.bel n = true
theorem Good.trunc {st : Store} {H : Hp} {n : Nat} (g : Good K Z F μ st H) (h : ∀ i c, i < n → st[i]? = some c → c ≠ .dead → c.bel n = true) : Good K Z F (μ.take n) (st.take n) H := by
  refine { zub := g.zub, zf := g.zf, zc := g.zc, sub := g.sub, len := by rw [List.length_take, List.length_take, g.len], cell := fun i c hi hc => ?_, inj := fun i j a c d h1 n1 h2 n2 m1 m2 => ?_ }
  · have hin : i < n := by have := (List.getElem?_eq_some_iff.mp hi).1; rw [List.length_take] at this; omega
    rw [take_get hin] at hi
    obtain ⟨a, h1, h2, h3⟩ := g.cell i c hi hc
    exact ⟨a, by rw [take_get hin]; exact h1, h2, h3.cut (h i c hin hi hc)⟩
  · have hin : i < n := by have := (List.getElem?_eq_some_iff.mp h1).1; rw [List.length_take] at this; omega
    have hjn : j < n := by have := (List.getElem?_eq_some_iff.mp h2).1; rw [List.length_take] at this; omega
    rw [take_get hin] at h1 m1
    rw [take_get hjn] at h2 m2
    exact g.inj i j a c d h1 n1 h2 n2 m1 m2
end

/-! ### cells become data -/
def frzL (f : A → Store → Option (A × Store)) : List A → Store → Option (List A × Store)
  | [], st => some ([], st)
  | x :: xs, st => match f x st with
    | some (y, st1) => (match frzL f xs st1 with
      | some (ys, st2) => some (y :: ys, st2)
      | none => none)
    | none => none
def frzA (n : Nat) : Nat → A → Store → Option (A × Store)
  | 0, a, st => if a.bel n = true then some (a, st) else none
  | k + 1, a, st => if a.bel n = true then some (a, st) else match a with
    | .cell c => (match st[c]? with
      | some (.lst xs) => (frzL (frzA n k) xs (st.set c .dead)).map fun p => (.lst p.1, p.2)
      | some (.dct ks xs) => (frzL (frzA n k) xs (st.set c .dead)).map fun p => (.dct ks p.1, p.2)
      | some (.obj cn ns xs) => (frzL (frzA n k) xs (st.set c .dead)).map fun p => (.obj cn ns p.1, p.2)
      | _ => none)
    | .lst xs => (frzL (frzA n k) xs st).map fun p => (.lst p.1, p.2)
    | .tup xs => (frzL (frzA n k) xs st).map fun p => (.tup p.1, p.2)
    | .obj cn ns xs => (frzL (frzA n k) xs st).map fun p => (.obj cn ns p.1, p.2)
    | _ => none
section
variable {K : PySem.W.Frag} {Z : Hp} {μ : List Addr}
theorem frzL_ok {f : A → Store → Option (A × Store)} {H : Hp} (h : ∀ (F : Hp) (st st' : Store) (a b : A) (v : V), Good K Z F μ st H → Rep K F μ a v → f a st = some (b, st') → ∃ F', Ext F F' μ μ ∧ Good K Z F' μ st' H ∧ Rep K F' μ b v) :
    ∀ (xs : List A) (F : Hp) (st st' : Store) (ys : List A) (vs : List V), Good K Z F μ st H → Reps K F μ xs vs → frzL f xs st = some (ys, st') → ∃ F', Ext F F' μ μ ∧ Good K Z F' μ st' H ∧ Reps K F' μ ys vs
  | [], F, st, st', ys, vs, g, r, e => by cases e; cases r; exact ⟨F, Ext.refl, g, .nil⟩
  | x :: xs, F, st, st', ys, _, g, .cons r t, e => by
    unfold frzL at e
    cases e1 : f x st with
    | none => rw [e1] at e; cases e
    | some p =>
      obtain ⟨y, st1⟩ := p
      rw [e1] at e
      dsimp only at e
      cases e2 : frzL f xs st1 with
      | none => rw [e2] at e; cases e
      | some q =>
        obtain ⟨zs, st2⟩ := q
        rw [e2] at e; cases e
        obtain ⟨F1, x1, g1, r1⟩ := h F st st1 x y _ g r e1
        obtain ⟨F2, x2, g2, r2⟩ := frzL_ok h xs F1 st1 _ zs _ g1 (t.mono x1) e2
        exact ⟨F2, x1.trans x2, g2, .cons (r1.mono x2) r2⟩
theorem frzA_ok {H : Hp} {n : Nat} : ∀ (k : Nat) (F : Hp) (st st' : Store) (a b : A) (v : V), Good K Z F μ st H → Rep K F μ a v → frzA n k a st = some (b, st') → ∃ F', Ext F F' μ μ ∧ Good K Z F' μ st' H ∧ Rep K F' μ b v := by
  intro k
  induction k with
  | zero =>
    intro F st st' a b v g r e
    unfold frzA at e
    split at e
    · cases e; exact ⟨F, Ext.refl, g, r⟩
    · cases e
  | succ k ih =>
    intro F st st' a b v g r e
    unfold frzA at e
    split at e
    · cases e; exact ⟨F, Ext.refl, g, r⟩
    · cases a with
      | cell c =>
        dsimp only at e
        cases r with
        | cell hc =>
          rename_i ad
          cases ec : st[c]? with
          | none => rw [ec] at e; cases e
          | some cc =>
            rw [ec] at e
            cases cc with
            | lst xs =>
              dsimp only at e
              obtain ⟨a2, m2, _, vs, h4, h5⟩ := g.cell c _ ec (by intro z; cases z)
              rw [hc] at m2; cases m2
              obtain ⟨g1, x1⟩ := g.know (o := .lst vs) ec (by intro z; cases z) hc h4
              cases el : frzL (frzA n k) xs (st.set c .dead) with
              | none => rw [el] at e; cases e
              | some p =>
                rw [el] at e; cases e
                obtain ⟨F2, x2, g2, r2⟩ := frzL_ok ih xs _ _ p.2 p.1 vs g1 (h5.mono x1) el
                exact ⟨F2, x1.trans x2, g2, .lst (x2.f _ _ upd_same) r2⟩
            | dct ks xs =>
              dsimp only at e
              obtain ⟨a2, m2, _, kvs, h4, h6, h5⟩ := g.cell c _ ec (by intro z; cases z)
              rw [hc] at m2; cases m2
              obtain ⟨g1, x1⟩ := g.know (o := .dK kvs) ec (by intro z; cases z) hc h4
              cases el : frzL (frzA n k) xs (st.set c .dead) with
              | none => rw [el] at e; cases e
              | some p =>
                rw [el] at e; cases e
                obtain ⟨F2, x2, g2, r2⟩ := frzL_ok ih xs _ _ p.2 p.1 _ g1 (h5.mono x1) el
                exact ⟨F2, x1.trans x2, g2, .dct (x2.f _ _ upd_same) h6 r2⟩
            | obj cn ns xs =>
              dsimp only at e
              obtain ⟨a2, m2, ⟨hF, hZ⟩, dx, fs, h4, h7, h6, h5⟩ := g.cell c _ ec (by intro z; cases z)
              rw [hc] at m2; cases m2
              obtain ⟨g1, x1⟩ := g.know (o := .ins (He.ga K cn) dx fs) ec (by intro z; cases z) hc h4
              have hzd : Z dx = none := by
                cases ez : Z dx with
                | none => rfl
                | some u =>
                  have c1 := g.zc _ _ ez
                  have c2 := g.zub _ _ ez
                  rw [h7] at c2; cases c2; cases c1
              have hfd : upd F ad (.ins (He.ga K cn) dx fs) dx = none ∨ upd F ad (.ins (He.ga K cn) dx fs) dx = some (.own ad) := by
                cases ef : upd F ad (.ins (He.ga K cn) dx fs) dx with
                | none => exact .inl rfl
                | some u => have := g1.sub _ _ ef; rw [h7] at this; exact .inr this.symm
              obtain ⟨g2, x2⟩ := g1.knowO (q := dx) (u := .own ad) h7 rfl hzd hfd
              cases el : frzL (frzA n k) xs (st.set c .dead) with
              | none => rw [el] at e; cases e
              | some p =>
                rw [el] at e; cases e
                obtain ⟨F2, x3, g3, r2⟩ := frzL_ok ih xs _ _ p.2 p.1 _ g2 (h5.mono (x1.trans x2)) el
                exact ⟨F2, x1.trans (x2.trans x3), g3, .obj ((x2.trans x3).f _ _ upd_same) (x3.f _ _ upd_same) h6 r2⟩
            | dead => cases e
      | lst xs =>
        dsimp only at e
        cases r with
        | lst h1 h2 =>
          cases el : frzL (frzA n k) xs st with
          | none => rw [el] at e; cases e
          | some p =>
            rw [el] at e; cases e
            obtain ⟨F2, x2, g2, r2⟩ := frzL_ok ih xs _ _ p.2 p.1 _ g h2 el
            exact ⟨F2, x2, g2, .lst (x2.f _ _ h1) r2⟩
      | tup xs =>
        dsimp only at e
        cases r with
        | tup h1 h2 =>
          cases el : frzL (frzA n k) xs st with
          | none => rw [el] at e; cases e
          | some p =>
            rw [el] at e; cases e
            obtain ⟨F2, x2, g2, r2⟩ := frzL_ok ih xs _ _ p.2 p.1 _ g h2 el
            exact ⟨F2, x2, g2, .tup (SqT.mono x2.f h1) r2⟩
      | obj cn ns xs =>
        dsimp only at e
        cases r with
        | obj h1 h3 h4 h2 =>
          cases el : frzL (frzA n k) xs st with
          | none => rw [el] at e; cases e
          | some p =>
            rw [el] at e; cases e
            obtain ⟨F2, x2, g2, r2⟩ := frzL_ok ih xs _ _ p.2 p.1 _ g h2 el
            exact ⟨F2, x2, g2, .obj (x2.f _ _ h1) (x2.f _ _ h3) h4 r2⟩
      | _ => cases e
end
end SL

set_option Elab.async false
set_option linter.all false
set_option maxRecDepth 100000
set_option maxHeartbeats 4000000
/-! SLj: a def by its body; the law. -/
namespace SL
open PySem PySem.Spec L2
open PyProof.Rows hiding St
def C.live : C → Bool
  | .dead => false
  | _ => true
theorem C.live_ne {c : C} (h : c.live = true) : c ≠ .dead := by intro e; subst e; cases h
noncomputable instance (n : Nat) (st0 st : Store) : Decidable (okS n st0 st) := Classical.propDecidable _
/-- a def hands back a value: what is the def's own becomes data (rc: or one new cell stays) -/
noncomputable def finA (rc : Bool) (n : Nat) (st0 : Store) (a : A) (st : Store) : Res A :=
  match rc, a with
  | true, .cell c => if n ≤ c then (match st[c]? with
    | some cc => if cc.live = true ∧ cc.bel n = true ∧ okS n st0 st then .ok (.cell n) (st.take n ++ [cc]) else .stuck
    | none => .stuck) else .stuck
  | _, a => match frzA n 8 a st with
    | some (b, st1) => if b.bel n = true ∧ okS n st0 st1 then .ok b (st1.take n) else .stuck
    | none => .stuck
noncomputable def fin (rc : Bool) (n : Nat) (st0 : Store) (r : SRes) : Res A := match r with
  | .nx _ st => finA false n st0 .non st
  | .rt a st => finA rc n st0 a st
  | .exc e _ st => if belowL n e.vs = true ∧ okS n st0 st then .exc e (st.take n) else .stuck
  | _ => .stuck
noncomputable def fnM (rc : Bool) (np ns : Nat) (body : MS) : List A → Store → Res A := fun as st =>
  if as.length = np then fin rc st.length st (body (as.map some ++ List.replicate (ns - np) none) st) else .stuck
section
variable {K : PySem.W.Frag} {Z F F' : Hp} {μ μ' : List Addr} {st0 st : Store} {H H' : Hp}
theorem okS_bel (g0 : Good K Z F μ st0 H) (ok : okS st0.length st0 st) : ∀ i c, i < st0.length → st[i]? = some c → c ≠ .dead → c.bel st0.length = true := by
  intro i c hi hc hd
  rcases ok i hi with h | ⟨c', h, hb⟩
  · rw [h] at hc
    obtain ⟨a, _, _, h3⟩ := g0.cell i c hc hd
    rw [← g0.len]
    exact h3.bel
  · rw [h] at hc; cases hc; exact hb
theorem pre_take (e : Ext F F' μ μ') : μ'.take μ.length = μ := by
  apply List.ext_getElem?
  intro i
  by_cases h : i < μ.length
  · rw [take_get h]
    exact (e.m i _ (List.getElem?_eq_getElem h)).trans (List.getElem?_eq_getElem h).symm
  · rw [List.getElem?_eq_none (by rw [List.length_take]; omega), List.getElem?_eq_none (by omega)]
theorem good_le (e : Ext F F' μ μ') (g0 : Good K Z F μ st0 H) (g : Good K Z F' μ' st H') : st0.length ≤ st.length := by
  rw [← g0.len, ← g.len]
  by_cases h : μ.length ≤ μ'.length
  · exact h
  · have hl : μ'.length < μ.length := by omega
    have := e.m μ'.length _ (List.getElem?_eq_getElem hl)
    rw [List.getElem?_eq_none (Nat.le_refl _)] at this
    cases this
theorem finA_ok {rc : Bool} {a : A} {v : V} {Q : VK} {E : Exc → Store → Prop} (g0 : Good K Z F μ st0 H) (e : Ext F F' μ μ') (g : Good K Z F' μ' st H') (r : Rep K F' μ' a v) (h : (finA rc st0.length st0 a st).post (Kont K Z Rep F μ Q) E) : Q v H' := by
  have gen : (match frzA st0.length 8 a st with | some (b, st1) => if b.bel st0.length = true ∧ okS st0.length st0 st1 then Res.ok b (st1.take st0.length) else .stuck | none => .stuck : Res A).post (Kont K Z Rep F μ Q) E → Q v H' := by
    intro h
    cases ef : frzA st0.length 8 a st with
    | none => rw [ef] at h; exact h.elim
    | some p =>
      obtain ⟨b, st1⟩ := p
      rw [ef] at h
      dsimp only at h
      split at h
      · rename_i hb
        obtain ⟨F2, x2, g2, r2⟩ := frzA_ok 8 F' st st1 a b v g r ef
        have k : Kont K Z Rep F μ Q b (st1.take st0.length) := h
        have hm := pre_take e
        have g3 := g2.trunc (okS_bel g0 hb.2)
        rw [← g0.len, hm] at g3
        have r3 := r2.cut hb.1
        rw [← g0.len, hm] at r3
        rw [← g0.len] at k
        exact k F2 μ H' v ⟨fun a o q => x2.f _ _ (e.f _ _ q), fun _ _ q => q⟩ g3 r3
      · exact h.elim
  unfold finA at h
  split at h
  · rename_i c
    split at h
    · rename_i hn
      split at h
      · rename_i cc hcc
        split at h
        · rename_i hb
          have hb1 := C.live_ne hb.1
          have k : Kont K Z Rep F μ Q (.cell st0.length) (st.take st0.length ++ [cc]) := h
          obtain ⟨a2, m2, ⟨hF2, hZ2⟩, hr2⟩ := g.cell c cc hcc hb1
          cases r with
          | cell hc =>
            rw [hc] at m2; cases m2
            have hm := pre_take e
            have g3 := g.trunc (okS_bel g0 hb.2.2)
            rw [← g0.len, hm] at g3
            have hr3 := hr2.cut hb.2.1
            rw [← g0.len, hm] at hr3
            obtain ⟨o, ho, hco⟩ := hr2.o hb1
            -- the cell laid anew behind the caller's
            have hlen : (st.take st0.length).length = st0.length := by rw [List.length_take]; have := good_le e g0 g; omega
            have g4 : Good K Z F' (μ ++ [a2]) (st.take st0.length ++ [cc]) H' := by
              rw [← g0.len] at hlen ⊢
              refine { zub := g3.zub, zf := g3.zf, zc := g3.zc, sub := g3.sub, len := by rw [List.length_append, List.length_append, hlen]; rfl, cell := fun i d hi hd => ?_, inj := fun i j a d d' hi hd hj hd' ei ej => ?_ }
              · by_cases hl : i < (st.take μ.length).length
                · rw [List.getElem?_append_left hl] at hi
                  obtain ⟨b, h1, h2, h3⟩ := g3.cell i d hi hd
                  exact ⟨b, ext_push.m (F := F') (F' := F') i b h1, h2, h3.mono ext_push fun _ _ q => q⟩
                · have hi' := (List.getElem?_eq_some_iff.mp hi).1
                  rw [List.length_append] at hi'
                  have ei : i = (st.take μ.length).length := by simp at hi' hl ⊢; omega
                  subst ei
                  rw [List.getElem?_append_right (Nat.le_refl _), Nat.sub_self] at hi
                  simp at hi; subst hi
                  refine ⟨_, ?_, ⟨hF2, hZ2⟩, hr3.mono ext_push fun _ _ q => q⟩
                  rw [hlen, List.getElem?_append_right (Nat.le_refl _), Nat.sub_self]; rfl
              · have key : ∀ (i : Nat) (d : C), (st.take μ.length ++ [cc])[i]? = some d → d ≠ .dead → ∀ b, (μ ++ [a2])[i]? = some b → (i < μ.length ∧ st[i]? = some d ∧ μ'[i]? = some b) ∨ (i = μ.length ∧ μ'[c]? = some b) := by
                  intro i d hi hd b hb'
                  by_cases hl : i < μ.length
                  · rw [List.getElem?_append_left (by rw [hlen]; exact hl), take_get hl] at hi
                    rw [List.getElem?_append_left hl] at hb'
                    exact .inl ⟨hl, hi, e.m _ _ hb'⟩
                  · have hi' := (List.getElem?_eq_some_iff.mp hi).1
                    rw [List.length_append, hlen] at hi'
                    have ei : i = μ.length := by simp at hi'; omega
                    subst ei
                    rw [List.getElem?_append_right (Nat.le_refl _), Nat.sub_self] at hb'
                    simp at hb'; subst hb'
                    exact .inr ⟨rfl, hc⟩
                have hn' : μ.length ≤ c := by rw [g0.len]; exact hn
                rcases key i d hi hd _ ei with ⟨l1, a1, b1⟩ | ⟨l1, b1⟩ <;> rcases key j d' hj hd' _ ej with ⟨l2, a2, b2⟩ | ⟨l2, b2⟩
                · exact g.inj i j a d d' a1 hd a2 hd' b1 b2
                · have := g.inj i c a d cc a1 hd hcc hb1 b1 b2; omega
                · have := g.inj j c a d' cc a2 hd' hcc hb1 b2 b1; omega
                · omega
            exact k F' (μ ++ [a2]) H' _ ⟨e.f, fun i b q => ext_push.m (F := F') (F' := F') i b q⟩ g4 (.cell (by rw [← g0.len, List.getElem?_append_right (Nat.le_refl _), Nat.sub_self]; rfl))
        · exact h.elim
      · exact h.elim
    · exact h.elim
  · exact gen h
end
section
variable {P : Program} {w : World} {K : PySem.W.Frag} {mg : Str → Option Value} {base : Heap}
theorem start_env {F : Hp} {μ : List Addr} {as : List A} {vs : List V} (r : Reps K F μ as vs) (N : List Str) : REnv K F μ (as.map some ++ List.replicate (N.length - as.length) none) (L2.start N vs) := by
  unfold L2.start
  rw [r.length]
  refine ⟨by simp [r.length], fun i a h => ?_⟩
  by_cases hl : i < as.length
  · rw [List.getElem?_append_left (by rw [List.length_map]; exact hl), List.getElem?_map] at h
    cases e : as[i]? with
    | none => rw [e] at h; cases h
    | some b =>
      rw [e] at h; cases h
      obtain ⟨v, h1, h2⟩ := r.get e
      exact ⟨v, by rw [List.getElem?_append_left (by rw [List.length_map, ← r.length]; exact hl), List.getElem?_map, h1]; rfl, h2⟩
  · rw [List.getElem?_append_right (by rw [List.length_map]; omega)] at h
    rw [List.getElem?_replicate] at h
    split at h <;> cases h
/-- the reading of a body, from the def's plain function -/
theorem body_ok {rc : Bool} {N : List Str} {np : Nat} {m : MS} {t : TS} {W : WX} {E : XK} (hW : ∀ cls d σ H, E cls d H → W cls d σ H) (h : SimS K W t m) {vs : List V} {H : Hp} {Q : VK}
    (hs : spM K np (fnM rc np N.length m) vs H Q E) : t { nx := fun _ H' => Q .non H', rt := Q } (L2.start N vs) H := by
  obtain ⟨hl, Z, F, μ, st, as, g, r, hp⟩ := hs
  have hal : as.length = np := by rw [r.length]; exact hl
  unfold fnM at hp
  rw [if_pos hal] at hp
  rw [← hal] at hp
  refine h Z F μ st _ (L2.start N vs) H _ g (start_env r N) ?_
  generalize m (as.map some ++ List.replicate (N.length - as.length) none) st = rr at hp ⊢
  cases rr with
  | nx env st' =>
    intro F' μ' H' σ' e g' re
    exact finA_ok (rc := false) (a := .non) (v := .non) g e g' .non hp
  | rt a st' =>
    intro F' μ' H' v e g' ra
    exact finA_ok g e g' ra hp
  | bk env st' => exact hp.elim
  | ct env st' => exact hp.elim
  | stuck => exact hp.elim
  | exc x env st' =>
    intro F' μ' H' σ' d e g' re xr
    have hp : (if belowL st.length x.vs = true ∧ okS st.length st st' then Res.exc x (st'.take st.length) else .stuck : Res A).post (Kont K Z Rep F μ Q) (fun e st' => ∀ F' μ' H' d, Ext F F' μ μ' → Good K Z F' μ' st' H' → XRep K F' μ' e d → E (.ref (He.ga K e.c)) d H') := hp
    split at hp
    · rename_i hb
      apply hW
      have hm := pre_take e
      have g3 := g'.trunc (okS_bel g hb.2)
      rw [← g.len, hm] at g3
      refine (show ∀ F' μ' H' d, Ext F F' μ μ' → Good K Z F' μ' (st'.take st.length) H' → XRep K F' μ' x d → E (.ref (He.ga K x.c)) d H' from hp) F' μ H' d ⟨e.f, fun _ _ q => q⟩ (by rw [← g.len]; exact g3) ?_
      rcases xr with xr | ⟨dd, fs, h1, h2, h3, h4⟩
      · exact .inl xr
      · refine .inr ⟨dd, fs, h1, h2, h3, ?_⟩
        have := h4.cut hb.1
        rw [← g.len, hm] at this
        exact this
    · exact hp.elim
/-- THE RULE for a def -/
theorem fnS_of {rc : Bool} {x qual : Str} {params : Arguments} {body : List Stmt} {scope : Scope} {f : Addr} {fd : FuncData} {N ps : List Str} {k : Nat} {m : MS} (F : FunD K x qual params body scope [] [] f fd) (S : FnScope N ps scope)
    (hB : Binds K fd ps []) (h : SB ⟨P, w, K, mg, base, N, scope, k, true, true, none⟩ (fun _ => true) body m) : FnS P w K mg base (k + 1) f ps (fnM rc ps.length N.length m) where
  ex := by
    refine ⟨fd, F.ok S (fun vs H Q E hs => hs.1) (fun cdv A outer s H vs Q E hr hs => ?_), hB⟩
    obtain ⟨t, h1, h2⟩ := h.run (fun cls d _ H => E cls d H)
    refine ⟨t, h2 _ ?_ (fun _ _ => rfl) (takes_of rfl rfl rfl rfl), body_ok (fun _ _ _ _ z => z) h1 hs⟩
    exact { prog := rfl, w := rfl, K := rfl, mg := rfl, base := rfl, N := rfl, sc := rfl, calm := fun _ => rfl, room := fun _ => hr, units := hr.units, stk := fun _ => ⟨rfl, rfl⟩, hx := (fun _ _ _ z => nomatch z), nd := S.nd, own := passes_of rfl }
  kp := F.kp
  ar := fun as st hne => by unfold fnM; rw [if_neg hne]
/-- a def that isn't called so deep -/
theorem fnS_zero {fd : FuncData} {f : Addr} {ps : List Str} (hB : Binds K fd ps []) (kp : PySem.W.keepIn K (.ref f) = true) (k : Nat) : FnS P w K mg base k f ps (fun _ _ => .stuck) where
  ex := ⟨fd, ⟨fun vs H Q E hs => hs.1, fun A outer s H args us vs Q E _ _ _ _ hs => by obtain ⟨_, _, _, _, _, _, _, _, z⟩ := hs; exact z.elim⟩, hB⟩
  kp := kp
  ar := fun _ _ _ => rfl
/-- the law -/
theorem law_of {x qual : Str} {params : Arguments} {body : List Stmt} {scope : Scope} {f : Addr} {fd : FuncData} {N ps : List Str} {k : Nat} {m : MS} (F : FunD K x qual params body scope [] [] f fd) (S : FnScope N ps scope)
    (h : SB ⟨P, w, K, mg, base, N, scope, k, true, true, none⟩ (fun _ => true) body m) : FnOk P w K mg base CX0 (k + 1) f fd ps (fun vs H Q _ => spM K ps.length (fnM false ps.length N.length m) vs H Q E0) := by
  refine F.ok S (fun vs H Q E hs => hs.1) (fun cdv A outer s H vs Q E hr hs => ?_)
  obtain ⟨t, h1, h2⟩ := h.run W0
  refine ⟨t, PSs.nox (h2 _ ?_ (fun _ _ => rfl) takes0), body_ok (fun _ _ _ _ z => z) h1 hs⟩
  exact { prog := rfl, w := rfl, K := rfl, mg := rfl, base := rfl, N := rfl, sc := rfl, calm := fun _ => rfl, room := fun _ => hr, units := hr.units, stk := fun _ => ⟨rfl, rfl⟩, hx := (fun _ _ _ z => nomatch z), nd := S.nd, own := PassesOwn.never }
/-- the law at a script, from its plain function -/
theorem law_sp {M : List A → Store → Res A} {H : Hp} {a : Addr} {ns : List Int} (hS : SqL K H a (ns.map V.int)) (h : ∃ st, M [.slst (ns.map A.int)] [] = .ok (.bl true) st) : spM K 1 M [.ref a] H (fun v _ => v = .bl true) E0 := by
  obtain ⟨st, h⟩ := h
  refine ⟨rfl, fun _ => none, H, [], [], [.slst (ns.map A.int)], ?_, .cons (.slst hS (Reps.ints ns)) .nil, ?_⟩
  · exact { zub := fun _ _ q => (by cases q), zf := fun _ _ q => (by cases q), zc := fun _ _ q => (by cases q), sub := fun _ _ q => q, len := rfl, cell := fun i c q => (by simp at q), inj := fun i j a c d q => (by simp at q) }
  · rw [h]
    intro F' μ' H' b e g r
    cases r; rfl
end
end SL

set_option Elab.async false
set_option linter.all false
set_option maxRecDepth 100000
set_option maxHeartbeats 4000000
/-! SLk: two stores at once. -/
namespace SL
open PySem PySem.Spec L2
open PyProof.Rows hiding St
section
variable {Γ : G} {fo : Str → Bool} {pos : Pos} {a b : Expr}
theorem sw_sub2 {o1 i1 o2 i2 : Expr} {p1 p2 pt pv : Pos} {k kv : Nat} (env : Env) : swappedStores [.Tuple [.Subscript o1 i1 p1, .Subscript o2 i2 p2] k pt] (.Tuple [a, b] kv pv) env = pure none := by
  simp only [swappedStores]
  by_cases h : (env.blockKind != ScopeKind.function) = true
  · simp [h]
  · simp [h]
def sSub2 (op : A → A → A → Store → Option Store) (ms : AEnv → Store → Res (List A)) (mo1 mi1 mo2 mi2 : AEnv → Store → Res A) : MS := fun env st => (ms env st).toS env fun as st1 => match as with
  | [v, w] => (mo1 env st1).toS env fun o1 st2 => (mi1 env st2).toS env fun i1 st3 => match op o1 i1 v st3 with
    | some st4 => (mo2 env st4).toS env fun o2 st5 => (mi2 env st5).toS env fun i2 st6 => match op o2 i2 w st6 with
      | some st7 => .nx env st7
      | none => .stuck
    | none => .stuck
  | _ => .stuck
def SubAss (o i : Expr) (sp : Pos) : Prop := ∀ env v, assign (.Subscript o i sp) env v = (do
      let ov ← holding [v] (eval o env)
      let iv ← holding [v, ov] (eval i env)
      standAt sp
      holding [v, ov, iv] (setItem ov iv v)
      release [v, ov, iv] [])
theorem st_sub2 {op : A → A → A → Store → Option Store} {o1 i1 o2 i2 : Expr} {ms : AEnv → Store → Res (List A)} {mo1 mi1 mo2 mi2 : AEnv → Store → Res A} {p1 p2 pt pv : Pos} {k kv : Nat} (hop : Cset op) (h : SA Γ [a, b] ms) (ho1 : SE Γ o1 mo1) (hi1 : SE Γ i1 mi1) (ho2 : SE Γ o2 mo2) (hi2 : SE Γ i2 mi2)
    (ha1 : SubAss o1 i1 p1 := by intro _ _; rfl) (ha2 : SubAss o2 i2 p2 := by intro _ _; rfl) (cm : Γ.calm = true := by rfl) :
    SS Γ fo (.Assign [.Tuple [.Subscript o1 i1 p1, .Subscript o2 i2 p2] k pt] (.Tuple [a, b] kv pv) pos) (sSub2 op ms mo1 mi1 mo2 mi2) :=
  ⟨fun W => by
    obtain ⟨r, h1, h2⟩ := hop.ex
    obtain ⟨t, s0, p0⟩ := h.run W
    obtain ⟨t1, s1, q1⟩ := ho1.run W
    obtain ⟨t2, s2, q2⟩ := hi1.run W
    obtain ⟨t3, s3, q3⟩ := ho2.run W
    obtain ⟨t4, s4, q4⟩ := hi2.run W
    refine ⟨tAsg (tTup t) (gTup Γ.K 2 (gCons (gSub t1 t2 (r Γ.K)) (gCons (gSub t3 t4 (r Γ.K)) gNil))), ?_, fun X c hf kk => ?_⟩
    · intro Z F μ st env σ H D g re hp
      unfold sSub2 at hp
      rw [Res.post_toS] at hp
      refine s0 Z F μ st env σ H _ g re (Res.post_mono hp (fun as st1 q => ?_) fun x st1 q F1 μ1 H1 d e1 g1 x1 => q F1 μ1 H1 σ d e1 g1 (re.mono e1) x1)
      intro F1 μ1 H1 vs e1 g1 rs
      split at q
      · rename_i v w
        obtain ⟨vv, wv, rfl, rv, rw'⟩ := rs.two
        refine ⟨by show 2 ≤ sizeLine; rw [sizeLine_eq]; decide, fun p hp => ⟨p, [vv, wv], rfl, SqT.of upd_same, rfl, ?_⟩⟩
        obtain ⟨g1', e1'⟩ := g1.known (p := p) (o := .tup [vv, wv]) hp
        have e01 := e1.trans e1'
        refine ⟨vv, [wv], rfl, ?_⟩
        rw [Res.post_toS] at q
        refine s1 Z _ μ1 st1 env σ _ _ g1' (re.mono e01) (Res.post_mono q (fun o1 st2 q => ?_) fun x st2 q F2 μ2 H2 d e2 g2 x1 => q F2 μ2 H2 σ d (e01.trans e2) g2 (re.mono (e01.trans e2)) x1)
        intro F2 μ2 H2 ov e2 g2 ro
        have e02 := e01.trans e2
        rw [Res.post_toS] at q
        refine s2 Z F2 μ2 st2 env σ H2 _ g2 (re.mono e02) (Res.post_mono q (fun i1 st3 q => ?_) fun x st3 q F3 μ3 H3 d e3 g3 x1 => q F3 μ3 H3 σ d (e02.trans e3) g3 (re.mono (e02.trans e3)) x1)
        intro F3 μ3 H3 iv e3 g3 ri
        have e03 := e02.trans e3
        cases eo : op o1 i1 v st3 with
        | none => rw [eo] at q; exact q.elim
        | some st4 =>
          rw [eo] at q
          dsimp only at q
          refine h2 Γ.K Z F3 μ3 st3 st4 H3 o1 i1 v ov iv vv _ g3 (ro.mono e3) ri (rv.mono (e1'.trans (e2.trans e3))) eo fun F4 H4 e4 g4 => ?_
          have e04 := e03.trans e4
          refine ⟨wv, [], rfl, ?_⟩
          rw [Res.post_toS] at q
          refine s3 Z F4 μ3 st4 env σ H4 _ g4 (re.mono e04) (Res.post_mono q (fun o2 st5 q => ?_) fun x st5 q F5 μ5 H5 d e5 g5 x1 => q F5 μ5 H5 σ d (e04.trans e5) g5 (re.mono (e04.trans e5)) x1)
          intro F5 μ5 H5 ov2 e5 g5 ro2
          have e05 := e04.trans e5
          rw [Res.post_toS] at q
          refine s4 Z F5 μ5 st5 env σ H5 _ g5 (re.mono e05) (Res.post_mono q (fun i2 st6 q => ?_) fun x st6 q F6 μ6 H6 d e6 g6 x1 => q F6 μ6 H6 σ d (e05.trans e6) g6 (re.mono (e05.trans e6)) x1)
          intro F6 μ6 H6 iv2 e6 g6 ri2
          have e06 := e05.trans e6
          cases eo2 : op o2 i2 w st6 with
          | none => rw [eo2] at q; exact q.elim
          | some st7 =>
            rw [eo2] at q
            refine h2 Γ.K Z F6 μ6 st6 st7 H6 o2 i2 w ov2 iv2 wv _ g6 (ro2.mono e6) ri2 (rw'.mono (e1'.trans (e2.trans (e3.trans (e4.trans (e5.trans e6)))))) eo2 fun F7 H7 e7 g7 => ?_
            exact ⟨rfl, KN.now ((show KN Γ.K Z F μ D.nx env st7 from q).ext (e06.trans e7)) g7 (re.mono (e06.trans e7))⟩
      · exact q.elim
    · rw [← c.K]
      exact ps_asg (pe_tup (p0 X c kk)) (pg_tup (c.calm cm) (pgs_cons (pg_sub (q1 X c kk) (q2 X c kk) (h1 Γ X c) (ha1 _)) (pgs_cons (pg_sub (q3 X c kk) (q4 X c kk) (h1 Γ X c) (ha2 _)) pgs_nil))) (hs := by rfl) (hw := sw_sub2 _) (h1 := by rfl)⟩
end
end SL

set_option Elab.async false
set_option linter.all false
set_option maxRecDepth 100000
set_option maxHeartbeats 4000000
/-! SLm: words for the plain functions. -/
namespace SL
open PySem PySem.Spec L2
open PyProof.Rows hiding St
section
variable {i j : Nat} {env : AEnv} {st : Store} {a b : A} {ma mb mc : AEnv → Store → Res A} {ms : AEnv → Store → Res (List A)} {p q : AEnv → Store → Res Bool}
@[simp] theorem eVar_ap : eVar i env st = match env[i]? with | some (some a) => .ok a st | _ => .stuck := (rfl)
@[simp] theorem eC_ap : eC a env st = .ok a st := (rfl)
@[simp] theorem eBin_ap {op : Op2} : eBin op ma mb env st = (ma env st).bind fun a st1 => (mb env st1).bind fun b st2 => Res.of (op a b st2) := (rfl)
@[simp] theorem eUn_ap {op : Op1} : eUn op ma env st = (ma env st).bind fun a st1 => Res.of (op a st1) := (rfl)
@[simp] theorem aNil_ap : aNil env st = .ok [] st := (rfl)
@[simp] theorem aCons_ap : aCons ma ms env st = (ma env st).bind fun a st1 => (ms env st1).bind fun as st2 => .ok (a :: as) st2 := (rfl)
@[simp] theorem eTup_ap : eTup ms env st = (ms env st).bind fun xs st1 => if xs.length ≤ sizeLine then .ok (.tup xs) st1 else .stuck := (rfl)
@[simp] theorem eLst_ap {mk : Bool} : eLst mk ms env st = (ms env st).bind fun xs st1 => if xs.length ≤ sizeLine then .ok (newL mk xs st1).1 (newL mk xs st1).2 else .stuck := (rfl)
@[simp] theorem newL_t {xs : List A} : newL true xs st = (.cell st.length, st ++ [.lst xs]) := (rfl)
@[simp] theorem newL_f {xs : List A} : newL false xs st = (.lst xs, st) := (rfl)
@[simp] theorem eCB_ap {op : OpN} : eCB op ms env st = (ms env st).bind fun xs st1 => Res.of (op xs st1) := (rfl)
@[simp] theorem one1_ap {op : Op1} : one1 op [a] st = op a st := (rfl)
@[simp] theorem two2_ap {op : Op2} : two2 op [a, b] st = op a b st := (rfl)
@[simp] theorem eCall_ap {M : List A → Store → Res A} : eCall M ms env st = (ms env st).bind fun as st1 => M as st1 := (rfl)
@[simp] theorem eM_ap {T : String} {op : A → OpN} : eM T op ma ms env st = (ma env st).bind fun a st1 => if tyVA T a st1 then (ms env st1).bind fun as st2 => Res.of (op a as st2) else .stuck := (rfl)
@[simp] theorem tOf_ap : tOf ma env st = (ma env st).bind asB := (rfl)
@[simp] theorem asB_bl {k : Bool} : asB (.bl k) st = .ok k st := (rfl)
@[simp] theorem tTru_ap : tTru ma env st = (ma env st).bind fun a st1 => match truA st1 a with | some b => .ok b st1 | none => .stuck := (rfl)
@[simp] theorem tAndM_ap : tAndM p q env st = (p env st).bind fun c st1 => if c then q env st1 else .ok false st1 := (rfl)
@[simp] theorem tOrM_ap : tOrM p q env st = (p env st).bind fun c st1 => if c then .ok true st1 else q env st1 := (rfl)
@[simp] theorem tNotM_ap : tNotM p env st = (p env st).bind fun c st1 => .ok (!c) st1 := (rfl)
@[simp] theorem tYesM_ap : tYesM env st = .ok true st := (rfl)
@[simp] theorem eAndV_ap : eAndV ma mb env st = (ma env st).bind fun a st1 => (asB a st1).bind fun c st2 => if c then mb env st2 else .ok (.bl false) st2 := (rfl)
@[simp] theorem eOrV_ap : eOrV ma mb env st = (ma env st).bind fun a st1 => (asB a st1).bind fun c st2 => if c then .ok (.bl true) st2 else mb env st2 := (rfl)
@[simp] theorem eNotV_ap : eNotV ma env st = (ma env st).bind fun a st1 => (asB a st1).bind fun c st2 => .ok (.bl (!c)) st2 := (rfl)
@[simp] theorem eIf_ap : eIf p ma mb env st = (p env st).bind fun c st1 => if c then ma env st1 else mb env st1 := (rfl)
@[simp] theorem eSl_ap {mk : Bool} {ml mh : AEnv → Store → Res (Option Int)} : eSl mk ma ml mh env st = (ma env st).bind fun a st1 => (ml env st1).bind fun lo st2 => (mh env st2).bind fun hi st3 => Res.of (slOp mk a lo hi st3) := (rfl)
@[simp] theorem oNone_ap : oNone env st = .ok none st := (rfl)
@[simp] theorem oSome_ap : oSome ma env st = (ma env st).bind fun a st1 => match a with | .int i => .ok (some i) st1 | _ => .stuck := (rfl)
@[simp] theorem eIsiT_ap : eIsiT ma ms env st = (ma env st).bind fun a st1 => (ms env st1).bind fun cs st2 =>
  if cs.length ≤ sizeLine then Res.of ((tyName a st2).bind fun n => (isiTys n cs).map fun b => (.bl b, st2)) else .stuck := (rfl)
@[simp] theorem mSeq_ap : mSeq ma env st = (ma env st).bind fun a st1 => match seqR a st1 with | some xs => .ok (xs, srcOf a xs) st1 | none => .stuck := (rfl)
@[simp] theorem eLc_ap {mk : Bool} {mi : MI} {g : MG} {own : List Nat} : eLc mk mi g own p ma env st = (mi env st).bind fun r st1 =>
  (lcL r.2 r.1 g p ma (wipeA env own) r.1 [] st1).bind fun acc st2 => .ok (newL mk acc st2).1 (newL mk acc st2).2 := (rfl)
@[simp] theorem gN_ap : gN i a env = some (env.set i (some a)) := (rfl)
@[simp] theorem wipeA_nil : wipeA env [] = env := (rfl)
@[simp] theorem wipeA_cons {vs : List Nat} : wipeA env (i :: vs) = (wipeA env vs).set i none := (rfl)
variable {x y : MS} {g : MG}
@[simp] theorem sNil_ap : sNil env st = .nx env st := (rfl)
@[simp] theorem sSeq_ap : sSeq x y env st = (x env st).bind y := (rfl)
@[simp] theorem sAsg_ap : sAsg g ma env st = (ma env st).toS env fun a st1 => match g a env with | some env1 => .nx env1 st1 | none => .stuck := (rfl)
@[simp] theorem sEx_ap : sEx ma env st = (ma env st).toS env fun _ st1 => .nx env st1 := (rfl)
@[simp] theorem sRet_ap : sRet ma env st = (ma env st).toS env fun a st1 => .rt a st1 := (rfl)
@[simp] theorem sRetN_ap : sRetN env st = .rt .non st := (rfl)
@[simp] theorem sIf_ap : sIf p x y env st = (p env st).toS env fun c st1 => if c then x env st1 else y env st1 := (rfl)
@[simp] theorem sBk_ap : sBk env st = .bk env st := (rfl)
@[simp] theorem sCt_ap : sCt env st = .ct env st := (rfl)
@[simp] theorem sFor_ap {mi : MI} : sFor mi g x env st = (mi env st).toS env fun r st1 => forL r.2 r.1 g x r.1 env st1 := (rfl)
@[simp] theorem sAug_ap {op : Op2} : sAug i op ma env st = match env[i]? with
  | some (some a) => (ma env st).toS env fun b st1 => match op a b st1 with
    | some (c, st2) => .nx (env.set i (some c)) st2
    | none => .stuck
  | _ => .stuck := (rfl)
@[simp] theorem sSub_ap {op : A → A → A → Store → Option Store} : sSub op ma mb mc env st = (ma env st).toS env fun v st1 => (mb env st1).toS env fun o st2 => (mc env st2).toS env fun i st3 => match op o i v st3 with
  | some st4 => .nx env st4
  | none => .stuck := (rfl)
@[simp] theorem sSub2_ap {op : A → A → A → Store → Option Store} {mo1 mi1 mo2 mi2 : AEnv → Store → Res A} : sSub2 op ms mo1 mi1 mo2 mi2 env st = (ms env st).toS env fun as st1 => match as with
  | [v, w] => (mo1 env st1).toS env fun o1 st2 => (mi1 env st2).toS env fun i1 st3 => match op o1 i1 v st3 with
    | some st4 => (mo2 env st4).toS env fun o2 st5 => (mi2 env st5).toS env fun i2 st6 => match op o2 i2 w st6 with
      | some st7 => .nx env st7
      | none => .stuck
    | none => .stuck
  | _ => .stuck := (rfl)
@[simp] theorem sPar_ap : sPar i j ms env st = (ms env st).toS env fun as st1 => match as with
  | [a, b] => .nx ((env.set i (some a)).set j (some b)) st1
  | _ => .stuck := (rfl)
/-! operations upon what they fit -/
@[simp] theorem addOp_ii {mk : Bool} {m n : Int} : addOp mk (.int m) (.int n) st = some (.int (m + n), st) := (rfl)
@[simp] theorem subOp_ii {m n : Int} : subOp (.int m) (.int n) st = some (.int (m - n), st) := (rfl)
@[simp] theorem addI_ii {m n : Int} : addI (.int m) (.int n) st = some (.int (m + n), st) := (rfl)
@[simp] theorem negOp_i {m : Int} : negOp (.int m) st = some (.int (-m), st) := (rfl)
theorem mulOp_ii {mk : Bool} {m n : Int} (h : CMulW m n) : mulOp mk (.int m) (.int n) st = some (.int (m * n), st) := by
  simp [mulOp, mulI, iiOp, gd, h]
theorem modOp_ii {m n : Int} (h : n ≠ 0) : modOp (.int m) (.int n) st = some (.int (m.fmod n), st) := by
  simp [modOp, iiOp, gd, h]
theorem fdivOp_ii {m n : Int} (h : CDivN m n) : fdivOp (.int m) (.int n) st = some (.int (m.fdiv n), st) := by
  simp [fdivOp, fdivN, iiOp, gd, h]
theorem fdivOp_L {m n : Int} (h : n ≠ 0) (h2 : n.natAbs.log2 < 9000) : fdivOp (.int m) (.int n) st = some (.int (m.fdiv n), st) := by
  by_cases c : CDivN m n
  · exact fdivOp_ii c
  · have c2 : CDivL m n := ⟨h, h2⟩
    simp [fdivOp, fdivN, fdivW, iiOp, gd, c, c2]
theorem powOp_ii {m n : Int} (h : CPow m n) : powOp (.int m) (.int n) st = some (.int (m ^ n.toNat), st) := by
  simp [powOp, iiOp, gd, h]
@[simp] theorem ltOp_ii {m n : Int} : ltOp (.int m) (.int n) st = some (.bl (decide (m < n)), st) := (rfl)
@[simp] theorem leOp_ii {m n : Int} : leOp (.int m) (.int n) st = some (.bl (decide (m ≤ n)), st) := (rfl)
@[simp] theorem gtOp_ii {m n : Int} : gtOp (.int m) (.int n) st = some (.bl (decide (n < m)), st) := (rfl)
@[simp] theorem geOp_ii {m n : Int} : geOp (.int m) (.int n) st = some (.bl (decide (n ≤ m)), st) := (rfl)
@[simp] theorem eqOp_ii {m n : Int} : eqOp (.int m) (.int n) st = some (.bl (decide (m = n)), st) := (rfl)
@[simp] theorem neOp_ii {m n : Int} : neOp (.int m) (.int n) st = some (.bl (!decide (m = n)), st) := (rfl)
@[simp] theorem eqOp_ss {m n : Str} : eqOp (.str m) (.str n) st = some (.bl (decide (m = n)), st) := (rfl)
@[simp] theorem neOp_ss {m n : Str} : neOp (.str m) (.str n) st = some (.bl (!decide (m = n)), st) := (rfl)
@[simp] theorem absA_i {m : Int} : absA (.int m) st = some (.int (if m < 0 then -m else m), st) := (rfl)
@[simp] theorem intA_i {m : Int} : intA (.int m) st = some (.int m, st) := (rfl)
@[simp] theorem intA_b {k : Bool} : intA (.bl k) st = some (.int (if k then 1 else 0), st) := (rfl)
@[simp] theorem truA_b {k : Bool} : truA st (.bl k) = some k := (rfl)
@[simp] theorem truA_i {m : Int} : truA st (.int m) = some (m != 0) := (rfl)
variable {xs ys : List A}
@[simp] theorem seqR_lst : seqR (.lst xs) st = some xs := (rfl)
@[simp] theorem seqR_slst : seqR (.slst xs) st = some xs := (rfl)
@[simp] theorem seqR_tup : seqR (.tup xs) st = some xs := (rfl)
theorem seqR_cell {c : Nat} (h : st[c]? = some (.lst xs)) : seqR (.cell c) st = some xs := by simp [seqR, tupR, lstR, lstH, h]
@[simp] theorem srcOf_lst {ys : List A} : srcOf (.lst xs) ys = none := (rfl)
@[simp] theorem srcOf_slst {ys : List A} : srcOf (.slst xs) ys = none := (rfl)
@[simp] theorem srcOf_tup {ys : List A} : srcOf (.tup xs) ys = none := (rfl)
@[simp] theorem truA_lst : truA st (.lst xs) = some (!xs.isEmpty) := (rfl)
@[simp] theorem truA_tup : truA st (.tup xs) = some (!xs.isEmpty) := (rfl)
@[simp] theorem lenA_lst : lenA (.lst xs) st = some (.int xs.length, st) := (rfl)
@[simp] theorem lenA_slst : lenA (.slst xs) st = some (.int xs.length, st) := (rfl)
@[simp] theorem lenA_tup : lenA (.tup xs) st = some (.int xs.length, st) := (rfl)
theorem lenA_cell {c : Nat} (h : st[c]? = some (.lst xs)) : lenA (.cell c) st = some (.int xs.length, st) := by simp [lenA, seqR_cell h]
@[simp] theorem listA_lst {mk : Bool} : listA mk (.lst xs) st = some (newL mk xs st) := (rfl)
@[simp] theorem listA_tup {mk : Bool} : listA mk (.tup xs) st = some (newL mk xs st) := (rfl)
@[simp] theorem listA_slst {mk : Bool} : listA mk (.slst xs) st = some (newL mk xs st) := (rfl)
theorem listA_cell {mk : Bool} {c : Nat} (h : st[c]? = some (.lst xs)) : listA mk (.cell c) st = some (newL mk xs st) := by simp [listA, seqR_cell h]
@[simp] theorem tupleA_lst : tupleA (.lst xs) st = some (.tup xs, st) := (rfl)
@[simp] theorem tupleA_tup : tupleA (.tup xs) st = some (.tup xs, st) := (rfl)
theorem tupleA_cell {c : Nat} (h : st[c]? = some (.lst xs)) : tupleA (.cell c) st = some (.tup xs, st) := by simp [tupleA, lstR, lstH, h]
theorem ixOp_at {a : A} {k : Int} {v : A} (h : seqR a st = some xs) (h2 : atI xs k = some v) : ixOp a (.int k) st = some (v, st) := by simp [ixOp, ixL, h, h2]
theorem atI_of {α : Type} {l : List α} {k : Int} {v : α} (h0 : 0 ≤ k) (h : l[k.toNat]? = some v) : atI l k = some v := by
  have : ((k.toNat : Nat) : Int) = k := Int.toNat_of_nonneg h0
  rw [← this]
  exact atI_nat h
/-! cells -/
@[simp] theorem get_app_len {c : C} {l : List C} {n : Nat} (h : n = st.length) : (st ++ c :: l)[n]? = some c := by subst h; simp
theorem cellL_ok' {c : Nat} (h : st[c]? = some (.lst xs)) : cellL (.cell c) st = some (c, xs) := by simp [cellL, h]
theorem tyVA_cell {c : Nat} (h : st[c]? = some (.lst xs)) : tyVA "list" (.cell c) st = true := by simp [tyVA, lstR, lstH, h]
theorem appendM_c {c : Nat} {v : A} (h : st[c]? = some (.lst xs)) (hl : xs.length < sizeLine) : appendM (.cell c) [v] st = some (.non, st.set c (.lst (xs ++ [v]))) := by simp [appendM, cellL_ok' h, hl]
theorem popM_c {c : Nat} {v : A} (h : st[c]? = some (.lst (xs ++ [v]))) : popM (.cell c) [] st = some (v, st.set c (.lst xs)) := by simp [popM, cellL_ok' h]
theorem popM_at {c : Nat} {k : Int} {v : A} (h : st[c]? = some (.lst xs)) (h0 : 0 ≤ k) (h1 : k < 2 ^ 63) (hv : xs[k.toNat]? = some v) : popM (.cell c) [.int k] st = some (v, st.set c (.lst (xs.eraseIdx k.toNat))) := by
  have hl : k.toNat < xs.length := (List.getElem?_eq_some_iff.mp hv).1
  have hi : seqIndex? k xs.length = some k.toNat := by
    unfold seqIndex?
    have h2 : ¬ k < 0 := by omega
    have h3 : k < xs.length := by omega
    simp [h2, h3, h0]
  simp only [popM, cellL_ok' h]
  rw [if_pos ⟨by omega, h1⟩, hi]
  simp [hv]
theorem reverseM_c {c : Nat} (h : st[c]? = some (.lst xs)) : reverseM (.cell c) [] st = some (.non, st.set c (.lst xs.reverse)) := by simp [reverseM, cellL_ok' h]
theorem setL_c {c : Nat} {k : Int} {v : A} (h : st[c]? = some (.lst xs)) (h0 : 0 ≤ k) (h1 : k < xs.length) : setL (.cell c) (.int k) v st = some (st.set c (.lst (xs.set k.toNat v))) := by
  simp [setL, cellL_ok' h, ixN, h0, h1]
/-! ranges -/
theorem mRng1_ap {m : Int} (h : (ms env st) = .ok [.int m] st) (h1 : -(2 ^ 62) ≤ m) (h2 : m < 2 ^ 62) : mRng1 ms env st = .ok (rgA 0 m, none) st := by
  simp only [mRng1, h, Res.bind_ok]; rw [if_pos ⟨h1, h2⟩]
theorem mRng2_ap {m n : Int} (h : (ms env st) = .ok [.int m, .int n] st) (h1 : -(2 ^ 62) ≤ m) (h2 : m < 2 ^ 62) (h3 : -(2 ^ 62) ≤ n) (h4 : n < 2 ^ 62) : mRng2 ms env st = .ok (rgA m n, none) st := by
  simp only [mRng2, h, Res.bind_ok]; rw [if_pos ⟨h1, h2, h3, h4⟩]
theorem rgA_nat (n : Nat) : rgA 0 (n : Int) = (List.range n).map fun i => A.int ((i : Nat) : Int) := by
  unfold rgA
  simp
theorem rgA_ints (n : Nat) : rgA 0 (n : Int) = ((List.range n).map fun i => ((i : Nat) : Int)).map A.int := by
  rw [rgA_nat, List.map_map]; rfl
/-! a def's end -/
theorem okS_same {st : Store} : okS st.length st st := fun _ _ => .inl rfl
theorem okS_app {l : List C} : okS st.length st (st ++ l) := fun i hi => .inl (List.getElem?_append_left hi)
theorem okS_set {c : Nat} {k : C} {l : List C} (h : k.bel st.length = true) : okS st.length st (st.set c k ++ l) := fun i hi => by
  rw [List.getElem?_append_left (by rw [List.length_set]; exact hi)]
  by_cases e : c = i
  · subst e; exact .inr ⟨k, by rw [List.getElem?_set_self hi], h⟩
  · exact .inl (List.getElem?_set_ne e)
@[simp] theorem bel_ints (n : Nat) (l : List Int) : belowL n (l.map A.int) = true := by
  induction l with
  | nil => rfl
  | cons x l ih => rw [List.map_cons, belowL, ih]; simp [A.bel]
/-- a value without cells goes out, nothing else changed -/
theorem finA_pure {rc : Bool} {a : A} {l : List C} (h : a.bel st.length = true) (hc : ∀ c, a ≠ .cell c) : finA rc st.length st a (st ++ l) = .ok a st := by
  have gen : (match frzA st.length 8 a (st ++ l) with | some (b, st1) => if b.bel st.length = true ∧ okS st.length st st1 then Res.ok b (st1.take st.length) else .stuck | none => .stuck : Res A) = .ok a st := by
    have e : frzA st.length 8 a (st ++ l) = some (a, st ++ l) := by unfold frzA; rw [if_pos h]
    rw [e]
    dsimp only
    rw [if_pos ⟨h, okS_app⟩]
    simp
  cases rc with
  | false => exact gen
  | true =>
    cases a with
    | cell c => exact absurd rfl (hc c)
    | _ => exact gen
/-- the same where the caller's cell c was written -/
theorem finA_set {rc : Bool} {a : A} {l : List C} {c : Nat} {k : C} (h : a.bel st.length = true) (hc : ∀ c, a ≠ .cell c) (hk : k.bel st.length = true) : finA rc st.length st a (st.set c k ++ l) = .ok a (st.set c k) := by
  have gen : (match frzA st.length 8 a (st.set c k ++ l) with | some (b, st1) => if b.bel st.length = true ∧ okS st.length st st1 then Res.ok b (st1.take st.length) else .stuck | none => .stuck : Res A) = .ok a (st.set c k) := by
    have e : frzA st.length 8 a (st.set c k ++ l) = some (a, st.set c k ++ l) := by unfold frzA; rw [if_pos h]
    rw [e]
    dsimp only
    rw [if_pos ⟨h, okS_set hk⟩]
    congr 1
    have : st.length = (st.set c k).length := by simp
    rw [this, List.take_left]
  cases rc with
  | false => exact gen
  | true =>
    cases a with
    | cell c => exact absurd rfl (hc c)
    | _ => exact gen
/-- a new list goes out as data -/
theorem finA_lst {l : List C} {n : Nat} {zs : List A} (hn : st.length ≤ n) (h : (st ++ l)[n]? = some (.lst zs)) (hb : belowL st.length zs = true) : finA false st.length st (.cell n) (st ++ l) = .ok (.lst zs) st := by
  have hnb : A.bel st.length (.cell n) = false := by simp [A.bel]; omega
  have e2 : ∀ (k : Nat) (ys : List A) (s : Store), belowL st.length ys = true → frzL (frzA st.length k) ys s = some (ys, s) := by
    intro k ys
    induction ys with
    | nil => intro s _; rfl
    | cons y ys ih =>
      intro s hb
      rw [belowL, Bool.and_eq_true] at hb
      unfold frzL
      have e : frzA st.length k y s = some (y, s) := by cases k <;> (unfold frzA; rw [if_pos hb.1])
      rw [e]
      dsimp only
      rw [ih s hb.2]
  have e : frzA st.length 8 (.cell n) (st ++ l) = some (.lst zs, (st ++ l).set n .dead) := by
    unfold frzA
    rw [if_neg (by rw [hnb]; decide)]
    dsimp only
    rw [h]
    dsimp only
    rw [e2 _ _ _ hb]
    rfl
  unfold finA
  dsimp only
  rw [e]
  dsimp only
  have hs : (st ++ l).set n .dead = st ++ l.set (n - st.length) .dead := by rw [List.set_append_right _ _ hn]
  rw [hs, if_pos ⟨by simp only [A.bel]; exact hb, okS_app⟩]
  simp
end
/-! ### loops -/
/-- by an invariant over the turns; the end is told by P -/
theorem forL_post {src : Src} {all : List A} {g : MG} {body : MS} {P : SPost} (I : Nat → AEnv → Store → Prop) (hsrc : ∀ i e s, I i e s → srcOk src all s) : ∀ (xs : List A) (k : Nat) (env : AEnv) (st : Store), I k env st →
    (∀ i x e s, xs[i]? = some x → I (k + i) e s → ∃ e1, g x e = some e1 ∧ (body e1 s).post { nx := I (k + i + 1), ct := I (k + i + 1), bk := P.nx, rt := P.rt, ex := P.ex }) →
    (∀ e s, I (k + xs.length) e s → P.nx e s) → (forL src all g body xs env st).post P
  | [], k, env, st, h0, hs, hd => by
    rw [forL, if_pos (hsrc _ _ _ h0)]
    exact hd _ _ h0
  | x :: xs, k, env, st, h0, hs, hd => by
    rw [forL, if_pos (hsrc _ _ _ h0)]
    obtain ⟨e1, h1, h2⟩ := hs 0 x env st rfl h0
    rw [h1]
    dsimp only
    have ih := forL_post (g := g) (body := body) (P := P) I hsrc xs (k + 1)
    have hs' : ∀ i y e s, xs[i]? = some y → I (k + 1 + i) e s → ∃ e1, g y e = some e1 ∧ (body e1 s).post { nx := I (k + 1 + i + 1), ct := I (k + 1 + i + 1), bk := P.nx, rt := P.rt, ex := P.ex } := fun i y e s hy hi => by
      have := hs (i + 1) y e s (by rw [List.getElem?_cons_succ]; exact hy) (by rw [show k + (i + 1) = k + 1 + i by omega]; exact hi)
      rw [show k + (i + 1) + 1 = k + 1 + i + 1 by omega] at this
      exact this
    have hd' : ∀ e s, I (k + 1 + xs.length) e s → P.nx e s := fun e s h => hd e s (by rw [List.length_cons, show k + (xs.length + 1) = k + 1 + xs.length by omega]; exact h)
    cases eb : body e1 st with
    | nx e s => rw [eb] at h2; exact ih e s h2 hs' hd'
    | ct e s => rw [eb] at h2; exact ih e s h2 hs' hd'
    | bk e s => rw [eb] at h2; exact h2
    | rt a s => rw [eb] at h2; exact h2
    | exc x e s => rw [eb] at h2; exact h2
    | stuck => rw [eb] at h2; exact h2.elim
/-- a loop that runs through -/
theorem forL_inv {all : List A} {g : MG} {body : MS} {xs : List A} {env : AEnv} {st : Store} (I : Nat → AEnv → Store → Prop) (h0 : I 0 env st)
    (hs : ∀ i x e s, xs[i]? = some x → I i e s → ∃ e1, g x e = some e1 ∧ ∃ e2 s2, (body e1 s = .nx e2 s2 ∨ body e1 s = .ct e2 s2) ∧ I (i + 1) e2 s2) : ∃ e s, forL none all g body xs env st = .nx e s ∧ I xs.length e s := by
  have h := forL_post (src := none) (all := all) (g := g) (body := body) (P := ⟨fun e s => I xs.length e s, fun _ _ => False, fun _ _ => False, fun _ _ => False, fun _ _ _ => False⟩) I (fun _ _ _ _ => trivial) xs 0 env st h0
    (fun i x e s hx hi => by
      rw [Nat.zero_add] at hi ⊢
      obtain ⟨e1, h1, e2, s2, h2, h3⟩ := hs i x e s hx hi
      refine ⟨e1, h1, ?_⟩
      rcases h2 with h2 | h2 <;> rw [h2] <;> exact h3)
    (fun e s h => by rw [Nat.zero_add] at h; exact h)
  cases e : forL none all g body xs env st with
  | nx e' s => rw [e] at h; exact ⟨e', s, rfl, h⟩
  | ct e' s => rw [e] at h; exact h.elim
  | bk e' s => rw [e] at h; exact h.elim
  | rt a s => rw [e] at h; exact h.elim
  | exc x e' s => rw [e] at h; exact h.elim
  | stuck => rw [e] at h; exact h.elim
/-- a comprehension that maps -/
theorem lcL_map {all : List A} {g : MG} {me : AEnv → Store → Res A} {mt : AEnv → Store → Res Bool} {env0 : AEnv} {st : Store} (t : A → Bool) (f : A → A) : ∀ (xs acc : List A), (∀ x ∈ xs, ∃ e1, g x env0 = some e1 ∧ mt e1 st = .ok (t x) st ∧ (t x = true → me e1 st = .ok (f x) st)) →
    acc.length + xs.length ≤ sizeLine → lcL none all g mt me env0 xs acc st = .ok (acc ++ (xs.filter t).map f) st
  | [], acc, _, _ => by rw [lcL, if_pos (show srcOk none all st from trivial)]; simp
  | x :: xs, acc, h, hl => by
    rw [lcL, if_pos (show srcOk none all st from trivial)]
    obtain ⟨e1, h1, h2, h3⟩ := h x (by simp)
    rw [h1]
    dsimp only
    rw [h2]
    simp only [noX_ok, Res.bind_ok]
    rw [List.length_cons] at hl
    cases ht : t x with
    | true =>
      rw [if_pos rfl, h3 ht]
      simp only [noX_ok, Res.bind_ok]
      rw [if_pos (by omega), lcL_map t f xs (acc ++ [f x]) (fun y hy => h y (by simp [hy])) (by simp; omega)]
      simp [ht]
    | false =>
      rw [if_neg Bool.false_ne_true, lcL_map t f xs acc (fun y hy => h y (by simp [hy])) (by omega)]
      simp [ht]
/-- a while, by a measure -/
theorem whL_inv {p : AEnv → Store → Res Bool} {body : MS} {P : SPost} (I : Nat → AEnv → Store → Prop)
    (hs : ∀ m e s, I m e s → ∃ c, p e s = .ok c s ∧ (c = true → ∃ n, m = n + 1 ∧ (body e s).post { nx := I n, ct := I n, bk := P.nx, rt := P.rt, ex := P.ex }) ∧ (c = false → P.nx e s)) : ∀ (k m : Nat) (env : AEnv) (st : Store), m < k → I m env st → (whL p body k env st).post P
  | 0, m, _, _, h, _ => absurd h (Nat.not_lt_zero _)
  | k + 1, m, env, st, h, h0 => by
    rw [whL]
    obtain ⟨c, h1, h2, h3⟩ := hs m env st h0
    rw [h1]
    simp only [Res.toS_ok]
    cases c with
    | false => rw [if_neg Bool.false_ne_true]; exact h3 rfl
    | true =>
      rw [if_pos rfl]
      obtain ⟨n, rfl, h4⟩ := h2 rfl
      cases eb : body env st with
      | nx e s => rw [eb] at h4; exact whL_inv I hs k n e s (by omega) h4
      | ct e s => rw [eb] at h4; exact whL_inv I hs k n e s (by omega) h4
      | bk e s => rw [eb] at h4; exact h4
      | rt a s => rw [eb] at h4; exact h4
      | exc x e s => rw [eb] at h4; exact h4
      | stuck => rw [eb] at h4; exact h4.elim
end SL
namespace SL
open PySem PySem.Spec L2
open PyProof.Rows hiding St
/-- it goes on to the next turn -/
def NxP (r : SRes) (P : AEnv → Store → Prop) : Prop := match r with
  | .nx e s => P e s
  | .ct e s => P e s
  | _ => False
@[simp] theorem NxP_nx {e : AEnv} {s : Store} {P : AEnv → Store → Prop} : NxP (.nx e s) P = P e s := (rfl)
@[simp] theorem NxP_ct {e : AEnv} {s : Store} {P : AEnv → Store → Prop} : NxP (.ct e s) P = P e s := (rfl)
theorem NxP.of {r : SRes} {P : AEnv → Store → Prop} (h : NxP r P) : ∃ e s, (r = .nx e s ∨ r = .ct e s) ∧ P e s := by
  cases r with
  | nx e s => exact ⟨e, s, .inl rfl, h⟩
  | ct e s => exact ⟨e, s, .inr rfl, h⟩
  | _ => exact h.elim
/-- a loop that runs through -/
theorem for_inv {all : List A} {g : MG} {body : MS} {xs : List A} {env : AEnv} {st : Store} (I : Nat → AEnv → Store → Prop) (h0 : I 0 env st)
    (hs : ∀ i x e s, xs[i]? = some x → I i e s → ∃ e1, g x e = some e1 ∧ NxP (body e1 s) (I (i + 1))) : ∃ e s, forL none all g body xs env st = .nx e s ∧ I xs.length e s :=
  forL_inv I h0 fun i x e s hx hi => by
    obtain ⟨e1, h1, h2⟩ := hs i x e s hx hi
    obtain ⟨e2, s2, h3, h4⟩ := h2.of
    exact ⟨e1, h1, e2, s2, h3, h4⟩
end SL
namespace SL
open PySem PySem.Spec L2
open PyProof.Rows hiding St
/-- one new cell goes out -/
theorem finA_cell {st : Store} {l : List C} {n : Nat} {c : C} (hn : st.length ≤ n) (h : (st ++ l)[n]? = some c) (hl : c.live = true) (hb : c.bel st.length = true) : finA true st.length st (.cell n) (st ++ l) = .ok (.cell st.length) (st ++ [c]) := by
  unfold finA
  dsimp only
  rw [if_pos hn, h]
  dsimp only
  rw [if_pos ⟨hl, hb, okS_app⟩]
  simp
/-- a def's call, by its body -/
theorem fnM_rt {rc : Bool} {np ns : Nat} {body : MS} {as : List A} {st st' : Store} {a b : A} {s : Store} (hl : as.length = np) (hb : body (as.map some ++ List.replicate (ns - np) none) st = .rt a st') (hf : finA rc st.length st a st' = .ok b s) : fnM rc np ns body as st = .ok b s := by
  unfold fnM
  rw [if_pos hl, hb]
  exact hf
theorem fnM_nx {rc : Bool} {np ns : Nat} {body : MS} {as : List A} {st st' : Store} {e : AEnv} {b : A} {s : Store} (hl : as.length = np) (hb : body (as.map some ++ List.replicate (ns - np) none) st = .nx e st') (hf : finA false st.length st .non st' = .ok b s) : fnM rc np ns body as st = .ok b s := by
  unfold fnM
  rw [if_pos hl, hb]
  exact hf
end SL

set_option Elab.async false
set_option linter.all false
set_option maxRecDepth 100000
set_option maxHeartbeats 4000000
/-! SLn: lists of numbers; equal data. -/
namespace SL
open PySem PySem.Spec L2
open PyProof.Rows hiding St
abbrev ti (l : List Int) : A := .tup (l.map A.int)
abbrev lI (l : List Int) : A := .lst (l.map A.int)
theorem rgA_intsG (a b : Int) : rgA a b = ((List.range (b - a).toNat).map fun i => a + ((i : Nat) : Int)).map A.int := by
  unfold rgA; rw [List.map_map]; rfl
theorem get_getD {l : List Int} {k : Nat} (h : k < l.length) : (l.map A.int)[k]? = some (.int (l.getD k 0)) := by
  rw [List.getElem?_map, List.getElem?_eq_getElem h, List.getD_eq_getElem?_getD, List.getElem?_eq_getElem h]; rfl
theorem ix_ints {st : Store} {a : A} {l : List Int} {k : Int} (h : seqR a st = some (l.map A.int)) (h0 : 0 ≤ k) (h1 : k < l.length) : ixOp a (.int k) st = some (.int (l.getD k.toNat 0), st) :=
  ixOp_at h (atI_of h0 (get_getD (by omega)))
theorem ix_ti {st : Store} {l : List Int} {k : Int} (h0 : 0 ≤ k) (h1 : k < l.length) : ixOp (.tup (l.map A.int)) (.int k) st = some (.int (l.getD k.toNat 0), st) := ix_ints rfl h0 h1
theorem ix_lI {st : Store} {l : List Int} {k : Int} (h0 : 0 ≤ k) (h1 : k < l.length) : ixOp (.lst (l.map A.int)) (.int k) st = some (.int (l.getD k.toNat 0), st) := ix_ints rfl h0 h1
theorem ix_li {st : Store} {c : Nat} {l : List Int} {k : Int} (h : st[c]? = some (.lst (l.map A.int))) (h0 : 0 ≤ k) (h1 : k < l.length) : ixOp (.cell c) (.int k) st = some (.int (l.getD k.toNat 0), st) := ix_ints (seqR_cell h) h0 h1
theorem appendM_li {st : Store} {c : Nat} {l : List Int} {v : Int} (h : st[c]? = some (.lst (l.map A.int))) (hl : l.length < sizeLine) : appendM (.cell c) [.int v] st = some (.non, st.set c (.lst ((l ++ [v]).map A.int))) := by
  rw [appendM_c h (by simpa using hl)]; simp
theorem setL_li {st : Store} {c : Nat} {l : List Int} {k v : Int} (h : st[c]? = some (.lst (l.map A.int))) (h0 : 0 ≤ k) (h1 : k < l.length) : setL (.cell c) (.int k) (.int v) st = some (st.set c (.lst ((l.set k.toNat v).map A.int))) := by
  rw [setL_c h h0 (by simpa using h1)]; simp
theorem eraseIdx_mapA : ∀ (l : List Int) (k : Nat), (l.map A.int).eraseIdx k = (l.eraseIdx k).map A.int
  | [], _ => by simp
  | x :: l, 0 => by simp
  | x :: l, k + 1 => by simp [eraseIdx_mapA l k]
theorem popM_li {st : Store} {c : Nat} {k : Int} {l : List Int} (h : st[c]? = some (.lst (l.map A.int))) (h0 : 0 ≤ k) (h1 : k < l.length) (h2 : l.length < 2 ^ 62) : popM (.cell c) [.int k] st = some (.int (l.getD k.toNat 0), st.set c (.lst ((l.eraseIdx k.toNat).map A.int))) := by
  rw [popM_at h h0 (by omega) (get_getD (l := l) (by omega)), eraseIdx_mapA]
/-! data without cells -/
theorem belowL_all {n : Nat} : ∀ {xs : List A}, (∀ x ∈ xs, x.bel n = true) → belowL n xs = true
  | [], _ => by simp [belowL]
  | x :: xs, h => by rw [belowL, h x (by simp), belowL_all fun y hy => h y (by simp [hy])]; rfl
theorem bel_int {n : Nat} {i : Int} : (A.int i).bel n = true := by simp [A.bel]
theorem bel_tup {n : Nat} {xs : List A} (h : ∀ x ∈ xs, x.bel n = true) : (A.tup xs).bel n = true := by simp only [A.bel]; exact belowL_all h
theorem bel_lst {n : Nat} {xs : List A} (h : ∀ x ∈ xs, x.bel n = true) : (A.lst xs).bel n = true := by simp only [A.bel]; exact belowL_all h
theorem bel_ti {n : Nat} {l : List Int} : (A.tup (l.map A.int)).bel n = true := by simp only [A.bel]; exact bel_ints n l
theorem bel_lI {n : Nat} {l : List Int} : (A.lst (l.map A.int)).bel n = true := by simp only [A.bel]; exact bel_ints n l
theorem fin_ti {rc : Bool} {st : Store} {l : List C} {p : List Int} : finA rc st.length st (ti p) (st ++ l) = .ok (ti p) st := finA_pure bel_ti (by intro c h; cases h)
theorem fin_ti0 {rc : Bool} {st : Store} {p : List Int} : finA rc st.length st (ti p) st = .ok (ti p) st := by
  have := fin_ti (rc := rc) (st := st) (l := []) (p := p); simpa using this
theorem fin_lI {rc : Bool} {st : Store} {l : List C} {p : List Int} : finA rc st.length st (lI p) (st ++ l) = .ok (lI p) st := finA_pure bel_lI (by intro c h; cases h)
theorem fin_lI0 {rc : Bool} {st : Store} {p : List Int} : finA rc st.length st (lI p) st = .ok (lI p) st := by
  have := fin_lI (rc := rc) (st := st) (l := []) (p := p); simpa using this
theorem fin_pure0 {rc : Bool} {st : Store} {a : A} (h : a.bel st.length = true) (hc : ∀ c, a ≠ .cell c) : finA rc st.length st a st = .ok a st := by
  have := finA_pure (rc := rc) (st := st) (l := []) h hc; simpa using this
theorem fin_int0 {rc : Bool} {st : Store} {i : Int} : finA rc st.length st (.int i) st = .ok (.int i) st := fin_pure0 bel_int (by intro c h; cases h)
theorem fin_bl0 {rc : Bool} {st : Store} {i : Bool} : finA rc st.length st (.bl i) st = .ok (.bl i) st := fin_pure0 (by simp [A.bel]) (by intro c h; cases h)
theorem fin_lIc {st : Store} {l : List C} {n : Nat} {zs : List Int} (hn : st.length ≤ n) (h : (st ++ l)[n]? = some (.lst (zs.map A.int))) : finA false st.length st (.cell n) (st ++ l) = .ok (lI zs) st := finA_lst hn h (bel_ints _ _)
/-! equal data -/
/-- data, at most so deep -/
def Dt (st : Store) (n : Nat) (a : A) : Prop := ∃ d, toD st n a = some d ∧ d.canLay0 = true ∧ d.depth ≤ n + 1
theorem dt_int {st : Store} {n : Nat} {i : Int} : Dt st n (.int i) := ⟨.int i, by cases n <;> rfl, rfl, by simp [PyData.depth]⟩
theorem dt_bl {st : Store} {n : Nat} {i : Bool} : Dt st n (.bl i) := ⟨.bool i, by cases n <;> rfl, rfl, by simp [PyData.depth]⟩
theorem dt_non {st : Store} {n : Nat} : Dt st n .non := ⟨.none, by cases n <;> rfl, rfl, by simp [PyData.depth]⟩
theorem dt_str {st : Store} {n : Nat} {x : Str} (h : PyData.canLay0 (.str x) = true) : Dt st n (.str x) := ⟨.str x, by cases n <;> rfl, h, by simp [PyData.depth]⟩
theorem dt_all {st : Store} {n : Nat} : ∀ {xs : List A}, (∀ x ∈ xs, Dt st n x) → ∃ ds, optAll (toD st n) xs = some ds ∧ PyData.canLayAll0 ds = true ∧ PyData.depthAll ds ≤ n + 1
  | [], _ => ⟨[], rfl, rfl, by simp [PyData.depthAll]⟩
  | x :: xs, h => by
    obtain ⟨d, h1, h2, h3⟩ := h x (by simp)
    obtain ⟨ds, h4, h5, h6⟩ := dt_all (xs := xs) fun y hy => h y (by simp [hy])
    exact ⟨d :: ds, by rw [optAll, h1, h4], by simp [PyData.canLayAll0, h2, h5], by simp only [PyData.depthAll]; omega⟩
theorem dt_lst {st : Store} {n : Nat} {xs : List A} (h : ∀ x ∈ xs, Dt st n x) : Dt st (n + 1) (.lst xs) := by
  obtain ⟨ds, h4, h5, h6⟩ := dt_all h
  exact ⟨.list ds, by rw [toD, h4]; rfl, by simpa [PyData.canLay0] using h5, by simp only [PyData.depth]; omega⟩
theorem dt_tup {st : Store} {n : Nat} {xs : List A} (h : ∀ x ∈ xs, Dt st n x) : Dt st (n + 1) (.tup xs) := by
  obtain ⟨ds, h4, h5, h6⟩ := dt_all h
  exact ⟨.tuple ds, by rw [toD, h4]; rfl, by simpa [PyData.canLay0] using h5, by simp only [PyData.depth]; omega⟩
theorem neOp_same {st : Store} {a : A} (h : Dt st 50 a) : neOp a a st = some (.bl false, st) := by
  obtain ⟨d, h1, h2, h3⟩ := h
  have hs : SeqAt.shaped d = true := by
    show (d.canLay0 && decide (d.depth ≤ 64)) = true
    rw [h2, decide_eq_true (by omega)]; rfl
  have e : eqD true a a st = some (.bl false, st) := by
    have hr : PyData.eqv d d = true := by first | exact PySem.SeqAt.eqv_refl d h2 | exact PySem.eqv_refl d h2 | exact PyProof.P3.eqv_refl d h2
    unfold eqD; rw [h1]; dsimp only; rw [if_pos ⟨hs, hs⟩, hr]; rfl
  unfold neOp
  rw [e]
  cases a <;> simp [eqSc]
theorem eqOp_same {st : Store} {a : A} (h : Dt st 50 a) : eqOp a a st = some (.bl true, st) := by
  obtain ⟨d, h1, h2, h3⟩ := h
  have hs : SeqAt.shaped d = true := by
    show (d.canLay0 && decide (d.depth ≤ 64)) = true
    rw [h2, decide_eq_true (by omega)]; rfl
  have e : eqD false a a st = some (.bl true, st) := by
    have hr : PyData.eqv d d = true := by first | exact PySem.SeqAt.eqv_refl d h2 | exact PySem.eqv_refl d h2 | exact PyProof.P3.eqv_refl d h2
    unfold eqD; rw [h1]; dsimp only; rw [if_pos ⟨hs, hs⟩, hr]; rfl
  unfold eqOp
  rw [e]
  cases a <;> simp [eqSc]
theorem dt_ti {st : Store} {n : Nat} {l : List Int} : Dt st (n + 1) (.tup (l.map A.int)) := dt_tup fun x hx => by
  obtain ⟨i, _, rfl⟩ := List.mem_map.mp hx; exact dt_int
theorem dt_lI {st : Store} {n : Nat} {l : List Int} : Dt st (n + 1) (.lst (l.map A.int)) := dt_lst fun x hx => by
  obtain ⟨i, _, rfl⟩ := List.mem_map.mp hx; exact dt_int
theorem neOp_ti {st : Store} {l : List Int} : neOp (.tup (l.map A.int)) (.tup (l.map A.int)) st = some (.bl false, st) := neOp_same dt_ti
theorem filT {α : Type} : ∀ l : List α, l.filter (fun _ => true) = l
  | [] => rfl
  | x :: l => by rw [List.filter_cons, filT l]; rfl
/-- a comprehension over numbers that maps and keeps the store -/
theorem eLc_ints {mi : MI} {i : Nat} {own : List Nat} {p : AEnv → Store → Res Bool} {ma : AEnv → Store → Res A} {env : AEnv} {st : Store} {mk : Bool} {xs : List Int} (t : Int → Bool) (f : Int → Int) (hmi : mi env st = .ok (xs.map A.int, none) st) (hl : xs.length ≤ sizeLine)
    (h : ∀ x ∈ xs, p ((wipeA env own).set i (some (.int x))) st = .ok (t x) st ∧ (t x = true → ma ((wipeA env own).set i (some (.int x))) st = .ok (.int (f x)) st)) :
    eLc mk mi (gN i) own p ma env st = .ok (newL mk (((xs.filter t).map f).map A.int) st).1 (newL mk (((xs.filter t).map f).map A.int) st).2 := by
  rw [eLc_ap, hmi]
  simp only [Res.bind_ok]
  have := lcL_map (all := xs.map A.int) (g := gN i) (me := ma) (mt := p) (env0 := wipeA env own) (st := st) (fun a => match a with | .int x => t x | _ => false) (fun a => match a with | .int x => .int (f x) | a => a) (xs.map A.int) [] (fun a ha => by
    obtain ⟨x, hx, rfl⟩ := List.mem_map.mp ha
    obtain ⟨h1, h2⟩ := h x hx
    exact ⟨_, rfl, h1, h2⟩) (by simpa using hl)
  rw [this]
  simp only [Res.bind_ok, List.nil_append, List.filter_map, List.map_map]
  rfl
end SL

set_option Elab.async false
set_option linter.all false
set_option maxRecDepth 100000
set_option maxHeartbeats 4000000
/-! SLp: own exceptions: raised, caught. -/
namespace SL
open PySem PySem.Spec L2
open PyProof.Rows hiding St
/-! ### an expression that makes an exception -/
structure SMk (Γ : G) (e : Expr) (m : AEnv → Store → Res Exc) : Prop where
  run : ∀ W : WX, ∃ t : L2.St → Hp → XK → Prop, (∀ (Z F : Hp) (μ : List Addr) (st : Store) (env : AEnv) (σ : L2.St) (H : Hp) (Q : XK), Good Γ.K Z F μ st H → REnv Γ.K F μ env σ →
      (m env st).post (fun x st1 => ∀ F' μ' H' d, Ext F F' μ μ' → Good Γ.K Z F' μ' st1 H' → XRep Γ.K F' μ' x d → Q (.ref (He.ga Γ.K x.c)) d H') (KX Γ.K Z F μ σ W) → t σ H Q) ∧
    ∀ X, CtxOk Γ X → Takes X W → PMk X e t
def sRaise (m : AEnv → Store → Res Exc) : MS := fun env st => (m env st).toS env fun x st1 => .exc x env st1
theorem st_raise {Γ : G} {fo : Str → Bool} {e : Expr} {m : AEnv → Store → Res Exc} {pos : Pos} (h : SMk Γ e m) (cm : Γ.calm = true := by rfl) : SS Γ fo (.Raise (some e) none pos) (sRaise m) :=
  ⟨fun W => by
    obtain ⟨t, h1, h2⟩ := h.run W
    refine ⟨fun _ σ H => t σ H fun cls d H' => W cls d σ H', fun Z F μ st env σ H D g re hp => ?_, fun X c hf k => ps_raise (c.calm cm) k (h2 X c k)⟩
    unfold sRaise at hp
    rw [Res.post_toS] at hp
    refine h1 Z F μ st env σ H _ g re (Res.post_mono hp (fun x st1 q => ?_) fun x st1 q => ?_)
    · intro F' μ' H' d e' g' xr
      exact (show KXS Γ.K Z F μ W x env st1 from q) F' μ' H' σ d e' g' (re.mono e') xr
    · intro F' μ' H' d e' g' xr
      exact (show KXS Γ.K Z F μ W x env st1 from q) F' μ' H' σ d e' g' (re.mono e') xr⟩
/-! ### a class over KnotError, its __init__: Base.__init__(self, lit + what); self.what = what -/
/-- what the written part says of the base class -/
structure KBase (K : PySem.W.Frag) (B : Addr) : Prop where
  ga : PySem.W.specialIn K (.ref B) "__getattribute__" = some (some (.builtin "type.__getattribute__"))
  ty : PySem.W.typeIn K (.ref B) = some (.type "type")
  rd : PySem.W.readsIn K B (.type "type") = true
  fi : PySem.W.findCls K (.ref B) (.type "type") "__init__" = some (.val (.builtin "ValueError.__init__"))
def kBaseB (K : PySem.W.Frag) (B : Addr) : Bool := decide (PySem.W.specialIn K (.ref B) "__getattribute__" = some (some (.builtin "type.__getattribute__"))) && (decide (PySem.W.typeIn K (.ref B) = some (.type "type")) && (PySem.W.readsIn K B (.type "type") && (match PySem.W.findCls K (.ref B) (.type "type") "__init__" with
  | some (.val (.builtin x)) => decide (x = "ValueError.__init__")
  | _ => false)))
theorem kBaseB_ok {K : PySem.W.Frag} {B : Addr} (h : kBaseB K B = true) : KBase K B := by
  unfold kBaseB at h
  obtain ⟨h1, h⟩ := Bool.and_eq_true_iff.mp h
  obtain ⟨h2, h⟩ := Bool.and_eq_true_iff.mp h
  obtain ⟨h3, h4⟩ := Bool.and_eq_true_iff.mp h
  refine ⟨of_decide_eq_true h1, of_decide_eq_true h2, h3, ?_⟩
  split at h4
  · rename_i x e
    rw [e, of_decide_eq_true h4]
  · cases h4
section
variable {X : Cx} {e : Expr} {es : List Expr} {ta : TA} {B : Addr} {x : Str} {p1 p2 pos : Pos}
/-- Base.__init__(self, ..), Base an own class over ValueError -/
theorem pe_kinit {pl : Sem Bool} (hg : Gl X x) (hm : X.mg x = some (.ref B)) (kb : KBase X.K B) (ha : PA X (e :: es) ta) (hdb : (x == ("__debug__" : Str)) = false := by decide)
    (hc : eval (.Call (.Attribute (.Name x p1) "__init__" p2) (e :: es) [] pos) X.env = (do
      let ov ← eval (.Name x p1) X.env
      standAt p2.atName
      let (f, first) ← holding [ov] (getMethod ov "__init__" pl)
      callWith pos f first (backTo pos (starEach (e :: es) X.env)) (backToKw pos (keywordEach [] X.env))) := by rfl)
    (he : starEach (e :: es) X.env = (false, eval e X.env) :: starEach es X.env := by rfl) (hpl : (backTo pos (starEach es X.env)).any (·.1) = false := by rfl) :
    PE X (.Call (.Attribute (.Name x p1) "__init__" p2) (e :: es) [] pos) (tVeI X.K ta) := by
  refine ⟨fun pins s σ H Q I h => PySem.W.methodCall_KW (ld_glob I hg hm ?_ hdb) hc⟩
  obtain ⟨m, fr⟩ := I.fr
  refine PySem.W.method_of_cls fr I.ok.mod.kin kb.ga (PySem.W.cls_val fr I.ok.mod.kin kb.ty kb.rd kb.fi (by decide +kernel) ?_)
  refine PyProof.Rows.callWith_method1 (thn (ha.run pos pins _ σ H _ (I.tok _) h) fun us s1 hh => ?_) he hpl
  obtain ⟨vs, H1, I1, r1, a, C, ws, ev, hl, T, ea, q⟩ := hh
  subst ev
  cases r1 with
  | @cons _ u0 _ ur ra rw' =>
    obtain rfl : u0 = Value.ref a := ra
    refine oinit_ok T I1 ea ?_ fun s' J => ⟨.non, H1, J, rfl, q⟩
    have := Paired.length rw'
    rw [sizeLine_eq]
    omega
end
/-- the promise of such an __init__ -/
def spW (K : PySem.W.Frag) (C : Addr) : Sp := fun vs H Q _ => ∃ (a : Addr) (s : Str), vs = [.ref a, .str s] ∧ s.length < 1000 ∧ H a = some (exo a C none) ∧
  ∀ dx, H dx = none → dx ≠ a → Q .non (upd (upd H dx (exd dx [("what", .str s)])) a (exo a C (some dx)))
/-- such a class -/
structure KExc (P : Program) (w : World) (K : PySem.W.Frag) (mg : Str → Option Value) (base : Heap) (C : Addr) : Prop where
  oex : OexC K C
  nw : PySem.W.findIn K (.ref C) "what" = some none
  fi : ∃ fI fd, PySem.W.findIn K (.ref C) "__init__" = some (some (.ref fI)) ∧ PySem.W.typeIn K (.ref fI) = some (.type "function") ∧ FnOk P w K mg base (L2.CX P w) 1 fI fd ["self", "what"] (spW K C) ∧ Binds K fd ["self", "what"] []
abbrev kinitBody (bn lit : Str) (p1 p2 p3 p4 p5 p6 p7 p8 p9 p10 p11 p12 : Pos) (j : Nat) : List Stmt :=
  [.Expr (.Call (.Attribute (.Name bn p1) "__init__" p2) [.Name "self" p3, .BinOp (.Constant (.str lit) j p4) .Add (.Name "what" p5) p6] [] p7) p8,
   .Assign [.Attribute (.Name "self" p9) "what" p10] (.Name "what" p11) p12]
theorem kexc_of {P : Program} {w : World} {K : PySem.W.Frag} {mg : Str → Option Value} {base : Heap} {C B fI : Addr} {fd : FuncData} {qual bn lit : Str} {params : Arguments} {scope : Scope} {p1 p2 p3 p4 p5 p6 p7 p8 p9 p10 p11 p12 : Pos} {j : Nat} {pl : Env → Sem Bool}
    (F : FunD K "__init__" qual params (kinitBody bn lit p1 p2 p3 p4 p5 p6 p7 p8 p9 p10 p11 p12 j) scope [] [] fI fd) (S : FnScope ["self", "what"] ["self", "what"] scope) (hB : Binds K fd ["self", "what"] [])
    (oex : OexC K C) (nw : PySem.W.findIn K (.ref C) "what" = some none) (fi : PySem.W.findIn K (.ref C) "__init__" = some (some (.ref fI))) (ft : PySem.W.typeIn K (.ref fI) = some (.type "function"))
    (kb : KBase K B) (hm : mg bn = some (.ref B)) (hg : scope.names.lookup bn = some .globalImplicit) (vs : Vis scope "self") (vw : Vis scope "what") (hlit : lit.length < 1000)
    (hdb : (bn == ("__debug__" : Str)) = false)
    (hc : ∀ env, eval (.Call (.Attribute (.Name bn p1) "__init__" p2) [.Name "self" p3, .BinOp (.Constant (.str lit) j p4) .Add (.Name "what" p5) p6] [] p7) env = (do
      let ov ← eval (.Name bn p1) env
      standAt p2.atName
      let (f, first) ← holding [ov] (getMethod ov "__init__" (pl env))
      callWith p7 f first (backTo p7 (starEach [.Name "self" p3, .BinOp (.Constant (.str lit) j p4) .Add (.Name "what" p5) p6] env)) (backToKw p7 (keywordEach [] env))) := by intro _; rfl) : KExc P w K mg base C where
  oex := oex
  nw := nw
  fi := by
    refine ⟨fI, fd, fi, ft, F.ok S (fun vs H Q E hs => ?_) (fun cdv A outer s H vs' Q E hr hs => ?_), hB⟩
    · obtain ⟨a, s, rfl, _⟩ := hs; rfl
    · obtain ⟨a, s, rfl, hsl, ha, hq⟩ := hs
      refine ⟨_, pss_cons (ps_expr (pe_kinit (pl := pl _) hg hm kb (pa_cons (pv 0 rfl vs) (pa_cons (pe_op op_add_str pe_str (pv 1 rfl vw)) pa_nil)) hdb (hc _))) (pss_one (ps_ost (pv 0 rfl vs) (pv 1 rfl vw))), ?_⟩
      refine ⟨.ref a, rfl, .str s, rfl, lit, s, rfl, rfl, by rw [sizeLine_eq]; omega, a, C, [.str (lit ++ s)], rfl, by simp, oex, ha, .str s, rfl, .ref a, rfl, a, C, rfl, oex, nw, .inl ⟨ha, hq⟩⟩
section
variable {Γ : G} {e : Expr} {es : List Expr} {m : AEnv → Store → Res A} {pos p : Pos}
/-- C(what) -/
def mkWhat (c : Str) (m : AEnv → Store → Res A) : AEnv → Store → Res Exc := fun env st => (m env st).bind fun a st1 => match a with
  | .str s => if s.length < 1000 then .ok ⟨c, ["what"], [.str s]⟩ st1 else .stuck
  | _ => .stuck
theorem mk_what {x : Str} (ke : KExc Γ.P Γ.w Γ.K Γ.mg Γ.base (He.ga Γ.K x)) (hg : Γ.sc.names.lookup x = some .globalImplicit) (hm : Γ.mg x = some (.ref (He.ga Γ.K x))) (ha : SE Γ e m) (hk : 2 ≤ Γ.k) (hdb : (x == ("__debug__" : Str)) = false := by decide)
    (he : ∀ env, starEach [e] env = (false, eval e env) :: starEach [] env := by intro _; rfl) (hpl : ∀ env, (backTo pos (starEach [] env)).any (·.1) = false := by intro _; rfl) (cm : Γ.calm = true := by rfl) :
    SMk Γ (.Call (.Name x p) [e] [] pos) (mkWhat x m) :=
  ⟨fun W => by
    obtain ⟨t, h1, h2⟩ := ha.run W
    obtain ⟨fI, fd, f1, f2, f3, f4⟩ := ke.fi
    refine ⟨tMkO (He.ga Γ.K x) (spW Γ.K (He.ga Γ.K x)) [] (tCons t tNil), fun Z F μ st env σ H Q g re hp => ?_, fun X c tk => ?_⟩
    · unfold mkWhat at hp
      rw [Res.post_bind] at hp
      refine h1 Z F μ st env σ H _ g re (Res.post_mono hp (fun a st1 q => ?_) fun _ _ q => q)
      intro F1 μ1 H1 v e1 g1 ra
      cases a with
      | str s =>
        cases ra
        dsimp only at q
        by_cases hl : s.length < 1000
        · rw [if_pos hl] at q
          refine ⟨by simp, fun a hna => ⟨a, s, rfl, hl, upd_same, fun dx hdx hda => ?_⟩⟩
          refine ⟨rfl, dx, [("what", .str s)], upd_same, ?_, ?_, ?_⟩
          · rw [upd_ne hda, upd_same]
          · rw [upd_ne hda] at hdx; exact hdx
          · have hd1 : H1 dx = none := by rw [upd_ne hda] at hdx; exact hdx
            have eq : upd (del (upd (upd (upd H1 a (exo a (He.ga Γ.K x) none)) dx (exd dx [("what", .str s)])) a (exo a (He.ga Γ.K x) (some dx))) a) dx (.xd [("what", .str s)]) = upd H1 dx (.xd [("what", .str s)]) := by
              funext b
              by_cases hb : b = dx
              · subst hb; rw [upd_same, upd_same]
              · rw [upd_ne hb, upd_ne hb]
                by_cases hb2 : b = a
                · subst hb2; rw [del_same, hna]
                · rw [del_ne hb2, upd_ne hb2, upd_ne hb, upd_ne hb2]
            rw [eq]
            obtain ⟨g2, e2⟩ := g1.known (p := dx) (o := .xd [("what", .str s)]) hd1
            exact (show ∀ F' μ' H' d, Ext F F' μ μ' → Good Γ.K Z F' μ' st1 H' → XRep Γ.K F' μ' ⟨x, ["what"], [.str s]⟩ d → Q (.ref (He.ga Γ.K x)) d H' from q) _ μ1 _ (some dx) (e1.trans e2) g2 (.inr ⟨dx, [("what", .str s)], rfl, upd_same, rfl, .cons (.str s) .nil⟩)
        · rw [if_neg hl] at q; exact q.elim
      | _ => exact q.elim
    · have hr := c.room cm
      have f3' : FnOk X.prog X.w X.K X.mg X.base (L2.CX X.prog X.w) 1 fI fd ["self", "what"] (spW Γ.K (He.ga Γ.K x)) := by rw [c.prog, c.w, c.K, c.mg, c.base]; exact f3
      exact pmk_oex (C := He.ga Γ.K x) (fI := fI) (k := 1) (fd := fd) (ps := ["self", "what"]) (ds := []) (dvs := []) (by rw [c.K]; exact ke.oex) (by rw [c.K]; exact f1) (by rw [c.K]; exact f2) f3' (hr.mono hk) (by rw [c.K]; exact f4) .nil (fun _ _ _ _ _ _ _ z => by obtain ⟨_, _, _, _, _, _, _, _, _, _, _, _, _, z⟩ := z) (c.gl hg) (by rw [c.mg]; exact hm) (pa_cons (h2 X c tk) pa_nil (he _)) hdb (he _) (hpl _)⟩
end
end SL

set_option Elab.async false
set_option linter.all false
set_option maxRecDepth 100000
set_option maxHeartbeats 4000000
/-! SLq: try, except; what a caught exception holds. -/
namespace SL
open PySem PySem.Spec L2
open PyProof.Rows hiding St
/-- within an except suite: the exception at a, its class c, its dict d -/
def G.hot (Γ : G) (a : Addr) (c : Str) (d : Option Addr) : G := { Γ with calm := false, st := false, hx := some (a, c, d) }
theorem CtxOk.hot {Γ : G} {X : Cx} (k : CtxOk Γ X) {a : Addr} {c : Str} {d : Option Addr} {oe : Obj} {pn : List (Addr × Obj)} (hz : Zc (.ref (He.ga Γ.K c)) d oe) (hf : ∃ vs, oe.data = .fields vs) : CtxOk (Γ.hot a c d) (X.suite a ((a, oe) :: pn)) where
  prog := k.prog
  w := k.w
  K := k.K
  mg := k.mg
  base := k.base
  N := k.N
  sc := k.sc
  calm := fun z => Bool.noConfusion z
  room := fun z => Bool.noConfusion z
  units := k.units
  stk := fun z => Bool.noConfusion z
  hx := fun a' c' d' z => by
    have z' : some (a, c, d) = some (a', c', d') := z
    cases z'
    exact ⟨X, oe, pn, rfl, hz, hf⟩
  nd := k.nd
  own := PassesOwn.never
theorem CtxOk.tr {Γ : G} {X : Cx} (k : CtxOk Γ X) {pn : List (Addr × Obj)} {xe : Value → Shared → Prop} (ho : PassesOwn (model X.prog X.w) X.A X.env xe) (hx : Γ.hx = none) : CtxOk Γ (X.tr pn xe) where
  prog := k.prog
  w := k.w
  K := k.K
  mg := k.mg
  base := k.base
  N := k.N
  sc := k.sc
  calm := k.calm
  room := k.room
  units := k.units
  stk := k.stk
  hx := fun a' c' d' z => by rw [hx] at z; cases z
  nd := k.nd
  own := ho
/-- e.f of the exception in hand -/
def eXf (cs : List Str) (f : Str) (a0 : Addr) (c0 : Str) (d0 : Option Addr) (m : AEnv → Store → Res A) : AEnv → Store → Res A := fun env st => (m env st).bind fun v st1 => match v with
  | .xcp a d c ns vs => if a = a0 ∧ c = c0 ∧ d = d0 ∧ c ∈ cs then (match (ns.zip vs).lookup f with
    | some x => .ok x st1
    | none => .stuck) else .stuck
  | _ => .stuck
theorem lookup_reps {K : PySem.W.Frag} {F : Hp} {μ : List Addr} {f : Str} : ∀ {fs : List (Str × V)} {ns : List Str} {xs : List A} {x : A}, fs.map (·.1) = ns → Reps K F μ xs (fs.map (·.2)) → (ns.zip xs).lookup f = some x → ∃ v, fs.lookup f = some v ∧ Rep K F μ x v
  | [], ns, xs, x, h1, h2, h3 => by subst h1; simp at h3
  | (g, w) :: fs, ns, xs, x, h1, h2, h3 => by
    subst h1
    cases h2 with
    | @cons y _ ys _ r t =>
      rw [List.map_cons, List.zip_cons_cons, List.lookup_cons] at h3
      rw [List.lookup_cons]
      cases e : (f == g) with
      | true => rw [e] at h3; cases h3; exact ⟨w, rfl, r⟩
      | false => rw [e] at h3; exact lookup_reps rfl t h3
theorem s_xf {Γ : G} {e : Expr} {n : Str} {pos : Pos} {m : AEnv → Store → Res A} {a0 : Addr} {c0 : Str} {d0 : Option Addr} (cs : List Str) (h : SE (Γ.hot a0 c0 d0) e m) (hcs : ∀ c ∈ cs, XfC Γ.K (He.ga Γ.K c) ∧ PySem.W.findIn Γ.K (.ref (He.ga Γ.K c)) n = some none)
    (hb : ∀ env, attributeBase e n env (eval e env) = eval e env := by intro _; rfl) : SE (Γ.hot a0 c0 d0) (.Attribute e n pos) (eXf cs n a0 c0 d0 m) :=
  ⟨fun W => by
    obtain ⟨t, h1, h2⟩ := h.run W
    refine ⟨fun σ H Q => c0 ∈ cs ∧ tXf a0 (.ref (He.ga Γ.K c0)) d0 (He.ga Γ.K c0) n t σ H Q ∨ c0 ∉ cs ∧ t σ H (fun _ _ => False), fun Z F μ st env σ H Q g re hp => ?_, fun X k tk => ?_⟩
    · by_cases hc : c0 ∈ cs
      · refine .inl ⟨hc, ?_⟩
        unfold eXf at hp
        rw [Res.post_bind] at hp
        refine h1 Z F μ st env σ H _ g re (Res.post_mono hp (fun v st1 q => ?_) fun _ _ q => q)
        intro F1 μ1 H1 b e1 g1 rb
        cases v with
        | xcp a d c ns vs =>
          dsimp only at q
          by_cases hh : a = a0 ∧ c = c0 ∧ d = d0 ∧ c ∈ cs
          · rw [if_pos hh] at q
            obtain ⟨rfl, rfl, rfl, _⟩ := hh
            cases rb with
            | xcp0 => simp at q; exact q.elim
            | xcpD r1 r2 r3 =>
              rename_i dd fs
              cases el : (ns.zip vs).lookup n with
              | none => rw [el] at q; exact q.elim
              | some x =>
                rw [el] at q
                obtain ⟨w, hw, rw'⟩ := lookup_reps r2 r3 el
                exact ⟨rfl, rfl, dd, fs, w, rfl, g1.sub _ _ r1, hw, (show Kont Γ.K Z Rep F μ Q x st1 from q) F1 μ1 H1 w e1 g1 rw'⟩
          · rw [if_neg hh] at q; exact q.elim
        | _ => exact q.elim
      · refine .inr ⟨hc, ?_⟩
        unfold eXf at hp
        rw [Res.post_bind] at hp
        refine h1 Z F μ st env σ H _ g re (Res.post_mono hp (fun v st1 q => ?_) fun _ _ q => q)
        cases v with
        | xcp a d c ns vs =>
          dsimp only at q
          rw [if_neg (show ¬ (a = a0 ∧ c = c0 ∧ d = d0 ∧ c ∈ cs) from fun z => hc (z.2.1 ▸ z.2.2.2))] at q
          exact q.elim
        | _ => exact q.elim
    · obtain ⟨X', oe, pn, rfl, hz, hf⟩ := k.hx a0 c0 d0 rfl
      refine ⟨fun pins s σ H Q I hh => ?_⟩
      rcases hh with ⟨hc, hh⟩ | hh
      · have kK : (X'.suite a0 ((a0, oe) :: pn)).K = Γ.K := k.K
        have T := hcs c0 hc
        exact (pe_xf (X := X') (a := a0) (C := He.ga Γ.K c0) (by rw [show X'.K = Γ.K from kK]; exact T.1) (by rw [show X'.K = Γ.K from kK]; exact T.2) hz hf (h2 _ k tk) (hb _)).run pins s σ H Q I hh
      · exact attr_of (hb _) (thn ((h2 _ k tk).run pins s σ H _ I hh.2) fun u s1 z => by obtain ⟨_, _, _, _, z⟩ := z; exact z.elim)⟩
/-! ### try: body, except C as n: suite -/
def clr (i : Nat) (r : SRes) : SRes := match r with
  | .nx e s => .nx (e.set i none) s
  | .bk e s => .bk (e.set i none) s
  | .ct e s => .ct (e.set i none) s
  | .rt a s => .rt a s
  | .exc _ _ _ => .stuck
  | .stuck => .stuck
def noXS (r : SRes) : SRes := match r with
  | .exc _ _ _ => .stuck
  | r => r
/-- tbl: the classes that may come, whether the clause takes them; the suite is run with any exception of that class and these fields in slot i -/
noncomputable def sTryAs (tbl : List (Str × Bool)) (i : Nat) (body : MS) (ms : Addr → Str → Option Addr → MS) : MS := open Classical in fun env st => match body env st with
  | .exc x e s => (match tbl.lookup x.c with
    | some true => if ∀ a d, clr i (ms a x.c d (e.set i (some (.xcp a d x.c x.ns x.vs))) s) = clr i (ms 0 x.c none (e.set i (some (.xcp 0 none x.c x.ns x.vs))) s) then clr i (ms 0 x.c none (e.set i (some (.xcp 0 none x.c x.ns x.vs))) s) else .stuck
    | some false => .exc x e s
    | none => .stuck)
  | r => r
noncomputable def sTryNo (tbl : List (Str × Bool)) (body : MS) (ms : Addr → Str → Option Addr → MS) : MS := open Classical in fun env st => match body env st with
  | .exc x e s => (match tbl.lookup x.c with
    | some true => if ∀ a d, noXS (ms a x.c d e s) = noXS (ms 0 x.c none e s) then noXS (ms 0 x.c none e s) else .stuck
    | some false => .exc x e s
    | none => .stuck)
  | r => r
theorem lookup_mem' {α β : Type} [BEq α] [LawfulBEq α] {x : α} {y : β} : ∀ {l : List (α × β)}, l.lookup x = some y → (x, y) ∈ l
  | [], h => by cases h
  | (a, b) :: l, h => by
    rw [List.lookup_cons] at h
    cases e : (x == a) with
    | true => rw [e] at h; cases h; rw [eq_of_beq e]; exact List.mem_cons_self
    | false => rw [e] at h; exact List.mem_cons_of_mem _ (lookup_mem' h)
theorem XRep.xcp {K : PySem.W.Frag} {F : Hp} {μ : List Addr} {x : Exc} {d : Option Addr} (h : XRep K F μ x d) (a : Addr) : Rep K F μ (.xcp a d x.c x.ns x.vs) (.ref a) := by
  rcases h with ⟨rfl, h1, h2⟩ | ⟨dd, fs, rfl, h1, h2, h3⟩
  · rw [h1, h2]; exact .xcp0
  · exact .xcpD h1 h2 h3
theorem REnv.unset' {K : PySem.W.Frag} {F : Hp} {μ : List Addr} {env : AEnv} {σ : L2.St} (r : REnv K F μ env σ) (i : Nat) : REnv K F μ (env.set i none) (σ.set i none) := by
  refine ⟨by rw [List.length_set, List.length_set]; exact r.len, fun j b hj => ?_⟩
  by_cases e : i = j
  · subst e
    by_cases hl : i < env.length
    · rw [List.getElem?_set_self hl] at hj; cases hj
    · rw [List.getElem?_eq_none (by rw [List.length_set]; omega)] at hj; cases hj
  · rw [List.getElem?_set_ne e] at hj ⊢
    exact r.at_ j b hj
section
variable {Γ : G} {fo : Str → Bool} {x n : Str} {i : Nat} {body suite : List Stmt} {b₀ : Stmt} {np pos pos' : Pos} {m : MS} {ms : Addr → Str → Option Addr → MS} {tbl : List (Str × Bool)}
theorem st_tryAs (hi : Γ.N[i]? = some n) (hl : Γ.sc.names.lookup n = some .local) (hg : Γ.sc.names.lookup x = some .globalImplicit) (hm : Γ.mg x = some (.ref (He.ga Γ.K x))) (hdb : (x == ("__debug__" : Str)) = false)
    (htb : ∀ p ∈ tbl, PySem.W.exmOne Γ.K (.ref (He.ga Γ.K p.1)) (.ref (He.ga Γ.K x)) = some p.2) (hb : SB Γ fo body m) (hsu : ∀ a c d, SB (Γ.hot a c d) fo (b₀ :: suite) (ms a c d)) (hst : Γ.st = true := by rfl) (hhx : Γ.hx = none := by rfl) :
    SS Γ fo (.Try body [.ExceptHandler (some (.Name x np)) (some n) (b₀ :: suite) pos'] [] [] pos) (sTryAs tbl i m ms) :=
  ⟨fun W => by
    classical
    let ts : Addr → Value → Option Addr → TS := fun a cls d D σ H => ∃ c, cls = .ref (He.ga Γ.K c) ∧ Classical.choose ((hsu a c d).run W0) D σ H
    have hts : ∀ a c d, SimS Γ.K W0 (Classical.choose ((hsu a c d).run W0)) (ms a c d) ∧ ∀ X, CtxOk (Γ.hot a c d) X → (∀ x, fo x = true → X.fn x = true) → Takes X W0 → PSs X (b₀ :: suite) (Classical.choose ((hsu a c d).run W0)) := fun a c d => Classical.choose_spec ((hsu a c d).run W0)
    let tb : WX → TS := fun W => Classical.choose (hb.run W)
    have htbs : ∀ W, SimS Γ.K W (tb W) m ∧ ∀ X, CtxOk Γ X → (∀ x, fo x = true → X.fn x = true) → Takes X W → PSs X body (tb W) := fun W => Classical.choose_spec (hb.run W)
    refine ⟨fun D σ H => tb (wAs Γ.K (.ref (He.ga Γ.K x)) i ts W D) D σ H, fun Z F μ st env σ H D g re hp => ?_, fun X c hf k => ?_⟩
    · refine (htbs _).1 Z F μ st env σ H D g re ?_
      unfold sTryAs at hp
      generalize m env st = r at hp ⊢
      cases r with
      | nx e s => exact hp
      | rt a s => exact hp
      | bk e s => exact hp
      | ct e s => exact hp
      | stuck => exact hp
      | exc y e s =>
        intro F' μ' H' σ' d e' g' re' xr
        dsimp only at hp
        cases hlk : tbl.lookup y.c with
        | none => rw [hlk] at hp; exact hp.elim
        | some b =>
          rw [hlk] at hp
          refine ⟨b, htb _ (lookup_mem' hlk), fun hbt a hna => ?_, fun hbf => ?_⟩
          · subst hbt
            dsimp only at hp
            split at hp
            · rename_i hall
              rw [← hall a d] at hp
              refine ⟨y.c, rfl, (hts a y.c d).1 Z F' μ' s _ _ H' _ g' (re'.set i (xr.xcp a)) ?_⟩
              have hp2 := KS.ext e' hp
              generalize ms a y.c d (e.set i (some (.xcp a d y.c y.ns y.vs))) s = r2 at hp2 ⊢
              cases r2 with
              | nx e2 s2 =>
                intro F3 μ3 H3 σ3 e3 g3 re3
                exact (show KN Γ.K Z F' μ' D.nx (e2.set i none) s2 from hp2) F3 μ3 H3 _ e3 g3 (re3.unset' i)
              | rt a s2 => exact hp2
              | bk e2 s2 =>
                intro F3 μ3 H3 σ3 e3 g3 re3
                exact (show KN Γ.K Z F' μ' D.bk (e2.set i none) s2 from hp2) F3 μ3 H3 _ e3 g3 (re3.unset' i)
              | ct e2 s2 =>
                intro F3 μ3 H3 σ3 e3 g3 re3
                exact (show KN Γ.K Z F' μ' D.ct (e2.set i none) s2 from hp2) F3 μ3 H3 _ e3 g3 (re3.unset' i)
              | exc _ _ _ => exact hp2.elim
              | stuck => exact hp2.elim
            · exact hp.elim
          · subst hbf
            exact (show KXS Γ.K Z F μ W y e s from hp) F' μ' H' σ' d e' g' re' xr
    · obtain ⟨k1, k2⟩ := c.stk hst
      have hK := c.K
      rw [← hK]
      refine ps_try_as (i := i) k1 k2 c.nd (c.name hi) (by unfold Env.kindOf; rw [c.sc]; exact hl) ⟨c.gl hg, hdb, .inl (by rw [c.mg, hK]; exact hm)⟩ k (fun W' pn xe tk ho => (htbs W').2 _ (c.tr ho hhx) hf tk) (fun a oe cls d pn hz hfl => ⟨fun pins s σ H D I hh => ?_⟩)
      obtain ⟨c', rfl, hh⟩ := hh
      exact ((hts a c' d).2 _ (c.hot hz hfl) hf takes0).run pins s σ H D I hh⟩
theorem st_tryNo (hg : Γ.sc.names.lookup x = some .globalImplicit) (hm : Γ.mg x = some (.ref (He.ga Γ.K x))) (hdb : (x == ("__debug__" : Str)) = false)
    (htb : ∀ p ∈ tbl, PySem.W.exmOne Γ.K (.ref (He.ga Γ.K p.1)) (.ref (He.ga Γ.K x)) = some p.2) (hb : SB Γ fo body m) (hsu : ∀ a c d, SB (Γ.hot a c d) fo (b₀ :: suite) (ms a c d)) (hst : Γ.st = true := by rfl) (hhx : Γ.hx = none := by rfl) :
    SS Γ fo (.Try body [.ExceptHandler (some (.Name x np)) none (b₀ :: suite) pos'] [] [] pos) (sTryNo tbl m ms) :=
  ⟨fun W => by
    classical
    let ts : Addr → Value → Option Addr → TS := fun a cls d D σ H => ∃ c, cls = .ref (He.ga Γ.K c) ∧ Classical.choose ((hsu a c d).run W0) D σ H
    have hts : ∀ a c d, SimS Γ.K W0 (Classical.choose ((hsu a c d).run W0)) (ms a c d) ∧ ∀ X, CtxOk (Γ.hot a c d) X → (∀ x, fo x = true → X.fn x = true) → Takes X W0 → PSs X (b₀ :: suite) (Classical.choose ((hsu a c d).run W0)) := fun a c d => Classical.choose_spec ((hsu a c d).run W0)
    let tb : WX → TS := fun W => Classical.choose (hb.run W)
    have htbs : ∀ W, SimS Γ.K W (tb W) m ∧ ∀ X, CtxOk Γ X → (∀ x, fo x = true → X.fn x = true) → Takes X W → PSs X body (tb W) := fun W => Classical.choose_spec (hb.run W)
    refine ⟨fun D σ H => tb (wOnly Γ.K (.ref (He.ga Γ.K x)) ts W D) D σ H, fun Z F μ st env σ H D g re hp => ?_, fun X c hf k => ?_⟩
    · refine (htbs _).1 Z F μ st env σ H D g re ?_
      unfold sTryNo at hp
      generalize m env st = r at hp ⊢
      cases r with
      | nx e s => exact hp
      | rt a s => exact hp
      | bk e s => exact hp
      | ct e s => exact hp
      | stuck => exact hp
      | exc y e s =>
        intro F' μ' H' σ' d e' g' re' xr
        dsimp only at hp
        cases hlk : tbl.lookup y.c with
        | none => rw [hlk] at hp; exact hp.elim
        | some b =>
          rw [hlk] at hp
          refine ⟨b, htb _ (lookup_mem' hlk), fun hbt a hna => ?_, fun hbf => ?_⟩
          · subst hbt
            dsimp only at hp
            split at hp
            · rename_i hall
              rw [← hall a d] at hp
              refine ⟨y.c, rfl, (hts a y.c d).1 Z F' μ' s _ _ H' _ g' re' ?_⟩
              have hp2 := KS.ext e' hp
              generalize ms a y.c d e s = r2 at hp2 ⊢
              cases r2 with
              | exc _ _ _ => exact hp2.elim
              | _ => exact hp2
            · exact hp.elim
          · subst hbf
            exact (show KXS Γ.K Z F μ W y e s from hp) F' μ' H' σ' d e' g' re' xr
    · obtain ⟨k1, k2⟩ := c.stk hst
      have hK := c.K
      rw [← hK]
      refine ps_try_only k1 k2 ⟨c.gl hg, hdb, .inl (by rw [c.mg, hK]; exact hm)⟩ k (fun W' pn xe tk ho => (htbs W').2 _ (c.tr ho hhx) hf tk) (fun a oe cls d pn hz hfl => ⟨fun pins s σ H D I hh => ?_⟩)
      obtain ⟨c', rfl, hh⟩ := hh
      exact ((hts a c' d).2 _ (c.hot hz hfl) hf takes0).run pins s σ H D I hh⟩
end
end SL

set_option Elab.async false
set_option linter.all false
set_option maxRecDepth 100000
set_option maxHeartbeats 4000000
/-! SLr: the head's facts of own exceptions and classes, by a hook with one more Bool. -/
namespace SL
open PySem PySem.Spec L2
open PyProof.Rows hiding St
open He (ga ma)
inductive Fb where
  | oex (x : Str)
  | kbase (x : Str)
  | xf (x : Str)
  | ini (x : Str)
  | vals (x : Str) (kvs : List (Str × He.Dv))
  | bfn (x : Str) (id : String)
def oexB (K : PySem.W.Frag) (C : Addr) : Bool := match K.lookup C with
  | some ⟨.type T, _, .cls cd, sl⟩ => (match cd.mro, sl.toList with
    | .ref C' :: bm, [_, _, _, _, some (.builtin n), _] => decide (T = "type") && (decide (C' = C) && (decide (n = "ValueError.__new__") && (cd.hasDict && (!cd.hasDel && PySem.HandSPX.refsVE bm))))
    | _, _ => false)
  | _ => false
def Fb.ok (K : PySem.W.Frag) : Fb → Bool
  | .oex x => oexB K (ga K x) && (He.eqO (PySem.W.findIn K (.ref (ga K x)) "__setattr__") (some (some (.builtin "object.__setattr__"))) && (decide (PySem.W.subIn K (.ref (ga K x)) (.type "BaseException") = some true) && (decide (PySem.W.typeIn K (.ref (ga K x)) = some (.type "type")) && PySem.W.keepIn K (.ref (ga K x)))))
  | .kbase x => kBaseB K (ga K x)
  | .xf x => xfB K (ga K x)
  | .ini x => He.eqO (PySem.W.findIn K (.ref (ga K x)) "__init__") (some (some (.ref (ma K (ga K x) "__init__")))) && decide (PySem.W.typeIn K (.ref (ma K (ga K x) "__init__")) = some (.type "function"))
  | .vals x kvs => He.valsB K (ga K x) kvs
  | .bfn x id => He.eqO (PySem.W.nsIn K mainGlobals x) (some (some (.builtin id)))
theorem and2 {a b : Bool} (h : (a && b) = true) : a = true ∧ b = true := Bool.and_eq_true_iff.mp h
theorem oexB_ok {K : PySem.W.Frag} {C : Addr} (h : oexB K C = true) : ∃ nm q N bs bm sn sub ab col dd k0 k1 k2 k3 k5, K.lookup C = some (excClassObj nm q C N bs bm true sn sub ab col dd k0 k1 k2 k3 k5 "ValueError.__new__") ∧ PySem.HandSPX.refsVE bm = true := by
  unfold oexB at h
  split at h
  · rename_i T dd cd sl e
    obtain ⟨nm, bs, mro, ns, qn, hd, sn, sb, ab, col, dl⟩ := cd
    dsimp only at h
    split at h
    · rename_i C' bm k0 k1 k2 k3 n k5 e2
      obtain ⟨h1, h⟩ := and2 h
      obtain ⟨h2, h⟩ := and2 h
      obtain ⟨h3, h⟩ := and2 h
      obtain ⟨h4, h⟩ := and2 h
      obtain ⟨h5, h6⟩ := and2 h
      have h4 : hd = true := h4
      have h5 : dl = false := by simpa using h5
      have e3 := of_decide_eq_true h1
      have e4 := of_decide_eq_true h2
      have e5 := of_decide_eq_true h3
      subst e3 e4 e5 h4 h5
      refine ⟨nm, qn, ns, bs, bm, sn, sb, ab, col, dd, k0, k1, k2, k3, k5, ?_, h6⟩
      rw [e]
      have : sl = #[k0, k1, k2, k3, some (.builtin "ValueError.__new__"), k5] := by
        apply Array.toList_inj.mp
        rw [e2]
      rw [this]
    · cases h
  · cases h
theorem oex_ok {K : PySem.W.Frag} {x : Str} (h : (Fb.oex x).ok K = true) : OexC K (ga K x) := by
  obtain ⟨h1, h⟩ := and2 h
  obtain ⟨h2, h⟩ := and2 h
  obtain ⟨h3, h⟩ := and2 h
  obtain ⟨h4, h5⟩ := and2 h
  exact ⟨oexB_ok h1, He.eqO_ok h2, of_decide_eq_true h3, of_decide_eq_true h4, h5⟩
theorem kbase_ok {K : PySem.W.Frag} {x : Str} (h : (Fb.kbase x).ok K = true) : KBase K (ga K x) := kBaseB_ok h
theorem xf_ok {K : PySem.W.Frag} {x : Str} (h : (Fb.xf x).ok K = true) : XfC K (ga K x) := xfB_ok h
theorem ini_ok {K : PySem.W.Frag} {x : Str} (h : (Fb.ini x).ok K = true) : PySem.W.findIn K (.ref (ga K x)) "__init__" = some (some (.ref (ma K (ga K x) "__init__"))) ∧ PySem.W.typeIn K (.ref (ma K (ga K x) "__init__")) = some (.type "function") := by
  obtain ⟨h1, h2⟩ := and2 h
  exact ⟨He.eqO_ok h1, of_decide_eq_true h2⟩
theorem vals_ok {K : PySem.W.Frag} {x : Str} {kvs : List (Str × He.Dv)} (h : (Fb.vals x kvs).ok K = true) : He.valsB K (ga K x) kvs = true := h
theorem bfn_ok {K : PySem.W.Frag} {h : Heap} {mg : Str → Option Value} (X : K.In h) (G : h.Ns mainGlobals mg) {x : Str} {id : String} (c : (Fb.bfn x id).ok K = true) : mg x = some (.builtin id) := PySem.W.mg_of X G (He.eqO_ok c)
/-! ### the hook -/
abbrev AlS : Type := He.AlT × Bool
def obsS (n : Nat) (fa : List He.Fa) (fn : List He.DefD) (ts : List He.Tab) (fb : List Fb) (g : Addr → Option Obj) : AlS := (He.obsT fa fn ts (He.frG g (cStatics :: He.asD g n)), fb.all fun f => f.ok (He.frG g (cStatics :: He.asD g n)))
structure SaysS (fa : List He.Fa) (fn : List He.DefD) (ts : List He.Tab) (fb : List Fb) (w : World) (K : PySem.W.Frag) : Prop where
  t : He.SaysT fa fn ts w K
  b : (fb.all fun f => f.ok K) = true
section
variable {fa : List He.Fa} {fn : List He.DefD} {ts : List He.Tab} {fb : List Fb} {w : World} {K : PySem.W.Frag}
theorem SaysS.fbs (c : SaysS fa fn ts fb w K) (i : Nat) {f : Fb} (h : fb[i]? = some f := by rfl) : f.ok K = true :=
  List.all_eq_true.mp c.b f (List.mem_of_getElem? h)
theorem SaysS.fact (c : SaysS fa fn ts fb w K) (i : Nat) {f : He.Fa} (h : fa[i]? = some f := by rfl) : f.ok K = true := c.t.d.fact i h
theorem SaysS.def_ (c : SaysS fa fn ts fb w K) (i : Nat) {d : He.DefD} (h : fn[i]? = some d := by rfl) : ∃ fd, FunD K d.name d.qual d.params d.body d.scope (d.dvs K) (d.kws K) (He.fAd K d.at_) fd := c.t.d.def_ i h
end
def hookS (n : Nat) (fa : List He.Fa) (fn : List He.DefD) (ts : List He.Tab) (fb : List Fb) : PySem.W.Hook where
  α := AlS
  obs := fun s => obsS n fa fn ts fb s.heap.get?
  val := fun w => (He.valT fn ts w, true)
  says := fun w h => ∃ K : PySem.W.Frag, K.In h ∧ SaysS fa fn ts fb w K
  of := fun _ _ e => ⟨_, He.frG_in, ⟨congrArg (fun z : AlS => z.1) e, congrArg (fun z : AlS => z.2) e⟩⟩
  keeps := fun _ _ _ z k => let ⟨K, hK, c⟩ := z; ⟨K, PySem.W.Frag.In.keeps hK k, c⟩
theorem obsS_eq {n : Nat} {fa : List He.Fa} {fn : List He.DefD} {ts : List He.Tab} {fb : List Fb} {g : Addr → Option Obj} {s : Shared} (h : ∀ a, g a = s.heap.get? a) : obsS n fa fn ts fb g = (hookS n fa fn ts fb).obs s := by
  have e : g = s.heap.get? := funext h
  rw [e] <;> rfl
/-! ### the text of a class -/
def clsBody (s : Stmt) : List Stmt := match s with
  | .ClassDef _ _ _ b _ _ _ _ _ _ _ => b
  | _ => []
def meth (s : Stmt) (i : Nat) : Stmt := (clsBody s).getD i (.Pass ⟨0, 0, 0, 0⟩)
/-! ### a dict of the module, its keys texts, its values numbers -/
def wixOp (d : Str) (tbl : List (Str × Int)) : Op2 := fun a b st => match a, b with
  | .glo x, .str z => if x = d then (tbl.lookup z).map fun i => (.int i, st) else none
  | _, _ => none
/-- what the written part says of it -/
def WDct (K : PySem.W.Frag) (w : World) (d : Str) (tbl : List (Str × Int)) : Prop := ∀ p ∈ tbl, KDct K w (He.ga K d) p.1 (.int p.2)
theorem wdct_of {K : PySem.W.Frag} {w : World} {d : Str} {tbl : List (Str × Int)} {es : Array DictEntry} {n : Nat} (D : KDict K w (He.ga K d) es n) (h : He.valsB K (He.ga K d) (tbl.map fun p => (p.1, .int p.2)) = true) : WDct K w d tbl := by
  intro p hp
  obtain ⟨u, h1, h2⟩ := He.valsB_ok h (List.mem_map.mpr ⟨p, hp, rfl⟩)
  exact ⟨es, n, u, D.at_, D.lit, h1, h2⟩
theorem s_wix {Γ : G} {a b : Expr} {ma mb : AEnv → Store → Res A} {pos : Pos} {d : Str} {tbl : List (Str × Int)} (h : WDct Γ.K Γ.w d tbl) (ha : SE Γ a ma) (hb : SE Γ b mb) (hs : PlainIx b := by intro _ _; rfl) : SE Γ (.Subscript a b pos) (eBin (wixOp d tbl) ma mb) :=
  ⟨fun W => by
    obtain ⟨ta, sa, pa⟩ := ha.run W
    obtain ⟨tb, sb, pb⟩ := hb.run W
    have sw : SimV2 Γ.K (rIxD Γ.K Γ.w) (wixOp d tbl) := by
      intro Z F μ st st' H a b c x y Q g ra rb e k
      cases a with
      | glo z =>
        cases b with
        | str z' =>
          cases ra; cases rb
          have e : (if z = d then (tbl.lookup z').map (fun i => (A.int i, st)) else none) = some (c, st') := e
          by_cases hz : z = d
          · rw [if_pos hz] at e
            cases el : tbl.lookup z' with
            | none => rw [el] at e; cases e
            | some i =>
              rw [el] at e; cases e
              subst hz
              exact ⟨_, z', _, rfl, rfl, h _ (lookup_mem' el), k.same g (.int _)⟩
          · rw [if_neg hz] at e; cases e
        | _ => cases e
      | _ => cases e
    refine ⟨_, sim_bin sw sa sb, fun X c t => ?_⟩
    rw [← c.K, ← c.w]
    exact pe_ix ix_kdict (pa X c t) (pb X c t) hs⟩
/-! max, min of two numbers -/
def maxA : Op2 := iiOp fun i j => some (.int (if j > i then j else i))
def minA : Op2 := iiOp fun i j => some (.int (if j < i then j else i))
theorem cb_max2 : Cb (.builtin "max") (two2 maxA) := cb2 (r := fun _ xs H Q => ∃ i j, xs = [.int i, .int j] ∧ Q (.int (if j > i then j else i)) H) (fun _ _ c cm => call_max2 (c.calm cm)) fun K Z F μ st st' H a b c x y Q g ra rb e k => by
  cases a with
  | int i =>
    cases b with
    | int j => cases ra; cases rb; cases e; exact ⟨i, j, rfl, k.same g (.int _)⟩
    | _ => cases e
  | _ => cases e
theorem cb_min2 : Cb (.builtin "min") (two2 minA) := cb2 (r := fun _ xs H Q => ∃ i j, xs = [.int i, .int j] ∧ Q (.int (if j < i then j else i)) H) (fun _ _ c cm => call_min2 (c.calm cm)) fun K Z F μ st st' H a b c x y Q g ra rb e k => by
  cases a with
  | int i =>
    cases b with
    | int j => cases ra; cases rb; cases e; exact ⟨i, j, rfl, k.same g (.int _)⟩
    | _ => cases e
  | _ => cases e
end SL

set_option Elab.async false
set_option linter.all false
set_option maxRecDepth 100000
set_option maxHeartbeats 4000000
/-! SLs: words for the plain functions: exceptions, slices, sums and equality of lists of numbers. -/
namespace SL
open PySem PySem.Spec L2
open PyProof.Rows hiding St
section
variable {env : AEnv} {st : Store} {xs ys : List A}
@[simp] theorem sRaise_ap {m : AEnv → Store → Res Exc} : sRaise m env st = (m env st).toS env fun x st1 => .exc x env st1 := (rfl)
@[simp] theorem mkWhat_ap {c : Str} {m : AEnv → Store → Res A} : mkWhat c m env st = (m env st).bind fun a st1 => match a with
  | .str s => if s.length < 1000 then .ok ⟨c, ["what"], [.str s]⟩ st1 else .stuck
  | _ => .stuck := (rfl)
theorem sTryNo_ok {tbl : List (Str × Bool)} {body : MS} {ms : Addr → Str → Option Addr → MS} {r : SRes} (h : body env st = r) (hr : ∀ x e s, r ≠ .exc x e s) : sTryNo tbl body ms env st = r := by
  unfold sTryNo; rw [h]; cases r <;> first | rfl | exact absurd rfl (hr _ _ _)
theorem sTryAs_ok {tbl : List (Str × Bool)} {i : Nat} {body : MS} {ms : Addr → Str → Option Addr → MS} {r : SRes} (h : body env st = r) (hr : ∀ x e s, r ≠ .exc x e s) : sTryAs tbl i body ms env st = r := by
  unfold sTryAs; rw [h]; cases r <;> first | rfl | exact absurd rfl (hr _ _ _)
theorem sTryNo_exc {tbl : List (Str × Bool)} {body : MS} {ms : Addr → Str → Option Addr → MS} {x : Exc} {e : AEnv} {s : Store} {r : SRes} (h : body env st = .exc x e s) (ht : tbl.lookup x.c = some true) (hm : ∀ a d, noXS (ms a x.c d e s) = r) : sTryNo tbl body ms env st = r := by
  unfold sTryNo; rw [h]; dsimp only; rw [ht]; dsimp only; rw [if_pos (fun a d => by rw [hm, hm]), hm]
theorem sTryAs_exc {tbl : List (Str × Bool)} {i : Nat} {body : MS} {ms : Addr → Str → Option Addr → MS} {x : Exc} {e : AEnv} {s : Store} {r : SRes} (h : body env st = .exc x e s) (ht : tbl.lookup x.c = some true) (hm : ∀ a d, clr i (ms a x.c d (e.set i (some (.xcp a d x.c x.ns x.vs))) s) = r) : sTryAs tbl i body ms env st = r := by
  unfold sTryAs; rw [h]; dsimp only; rw [ht]; dsimp only; rw [if_pos (fun a d => by rw [hm, hm]), hm]
@[simp] theorem eXf_ap {cs : List Str} {f : Str} {a0 : Addr} {c0 : Str} {d0 : Option Addr} {m : AEnv → Store → Res A} : eXf cs f a0 c0 d0 m env st = (m env st).bind fun v st1 => match v with
  | .xcp a d c ns vs => if a = a0 ∧ c = c0 ∧ d = d0 ∧ c ∈ cs then (match (ns.zip vs).lookup f with
    | some x => .ok x st1
    | none => .stuck) else .stuck
  | _ => .stuck := (rfl)
@[simp] theorem maxA_ii {i j : Int} : maxA (.int i) (.int j) st = some (.int (if j > i then j else i), st) := (rfl)
@[simp] theorem minA_ii {i j : Int} : minA (.int i) (.int j) st = some (.int (if j < i then j else i), st) := (rfl)
@[simp] theorem wixOp_ap {d z : Str} {tbl : List (Str × Int)} : wixOp d tbl (.glo d) (.str z) st = (tbl.lookup z).map fun i => (.int i, st) := by simp [wixOp]
/-! + and slices of lists -/
theorem addOp_l (h : xs.length + ys.length ≤ sizeLine) : addOp false (.lst xs) (.lst ys) st = some (.lst (xs ++ ys), st) := by
  have e : addL false (.lst xs) (.lst ys) st = some (.lst (xs ++ ys), st) := by
    simp only [addL, lstH]
    rw [if_pos h]; rfl
  simp [addOp, addI, addS, iiOp, e]
theorem sl_take {k : Int} (h0 : 0 ≤ k) (h1 : k ≤ xs.length) : slOp false (.lst xs) none (some k) st = some (.lst (xs.take k.toNat), st) := by
  have e : cutA xs none (some k) = xs.take k.toNat := by
    obtain ⟨n, rfl⟩ := Int.eq_ofNat_of_zero_le h0
    unfold cutA
    rw [HT.sIx_none, HT.sIx_nat, List.drop_zero, Nat.sub_zero, Nat.min_eq_left (by omega)]
    simp
  show (lstR (.lst xs) st).map (fun ys => newL false (cutA ys none (some k)) st) = _
  simp [lstR, lstH, e]
theorem sl_drop {k : Int} (h0 : 0 ≤ k) (h1 : k ≤ xs.length) : slOp false (.lst xs) (some k) none st = some (.lst (xs.drop k.toNat), st) := by
  have e : cutA xs (some k) none = xs.drop k.toNat := by
    obtain ⟨n, rfl⟩ := Int.eq_ofNat_of_zero_le h0
    unfold cutA
    rw [HT.sIx_none, HT.sIx_nat, Nat.min_eq_left (by omega)]
    rw [List.take_of_length_le (by rw [List.length_drop]; omega)]
    simp
  show (lstR (.lst xs) st).map (fun ys => newL false (cutA ys (some k) none) st) = _
  simp [lstR, lstH, e]
theorem sl_mid {k j : Int} (h0 : 0 ≤ k) (h1 : k ≤ j) (h2 : j ≤ xs.length) : slOp false (.lst xs) (some k) (some j) st = some (.lst ((xs.drop k.toNat).take (j - k).toNat), st) := by
  have e : cutA xs (some k) (some j) = (xs.drop k.toNat).take (j - k).toNat := by
    obtain ⟨n, rfl⟩ := Int.eq_ofNat_of_zero_le h0
    obtain ⟨m, rfl⟩ := Int.eq_ofNat_of_zero_le (Int.le_trans h0 h1)
    unfold cutA
    rw [HT.sIx_nat, HT.sIx_nat, Nat.min_eq_left (by omega), Nat.min_eq_left (by omega)]
    congr 1
    omega
  show (lstR (.lst xs) st).map (fun ys => newL false (cutA ys (some k) (some j)) st) = _
  simp [lstR, lstH, e]
end
/-! equality of lists of numbers -/
theorem toD_ints {st : Store} (n : Nat) : ∀ l : List Int, optAll (toD st n) (l.map A.int) = some (l.map PyData.int)
  | [] => rfl
  | x :: l => by
    have e : toD st n (.int x) = some (.int x) := by cases n <;> rfl
    rw [List.map_cons, optAll, e, toD_ints n l]; rfl
theorem eqv_ints : ∀ a b : List Int, PyData.eqvAll (a.map PyData.int) (b.map PyData.int) = decide (a = b)
  | [], [] => by simp [PyData.eqvAll]
  | [], _ :: _ => by simp [PyData.eqvAll]
  | _ :: _, [] => by simp [PyData.eqvAll]
  | x :: a, y :: b => by
    simp only [List.map_cons, PyData.eqvAll, eqv_ints a b, PyData.eqv]
    by_cases h : x = y
    · subst h; simp
    · simp [h]
theorem shaped_lI (a : List Int) : SeqAt.shaped (.list (a.map PyData.int)) = true := PySem.W.shaped_ints a
theorem eqOp_lI {st : Store} {a b : List Int} : eqOp (.lst (a.map A.int)) (.lst (b.map A.int)) st = some (.bl (decide (a = b)), st) := by
  have e : eqD false (.lst (a.map A.int)) (.lst (b.map A.int)) st = some (.bl (decide (a = b)), st) := by
    unfold eqD
    simp only [toD, toD_ints, Option.map_some]
    rw [if_pos ⟨shaped_lI a, shaped_lI b⟩, PyData.eqv, eqv_ints]; rfl
  simp [eqOp, eqSc, e]
theorem neOp_lI {st : Store} {a b : List Int} : neOp (.lst (a.map A.int)) (.lst (b.map A.int)) st = some (.bl (!decide (a = b)), st) := by
  have e : eqD true (.lst (a.map A.int)) (.lst (b.map A.int)) st = some (.bl (!decide (a = b)), st) := by
    unfold eqD
    simp only [toD, toD_ints, Option.map_some]
    rw [if_pos ⟨shaped_lI a, shaped_lI b⟩, PyData.eqv, eqv_ints]; rfl
  simp [neOp, eqSc, e]
end SL
namespace SL
open PySem PySem.Spec L2
open PyProof.Rows hiding St
/-- a def that raises -/
theorem fnM_exc {rc : Bool} {np ns : Nat} {body : MS} {as : List A} {st : Store} {l : List C} {x : Exc} {e : AEnv} (hl : as.length = np) (hb : body (as.map some ++ List.replicate (ns - np) none) st = .exc x e (st ++ l)) (hv : belowL st.length x.vs = true) : fnM rc np ns body as st = .exc x st := by
  unfold fnM
  rw [if_pos hl, hb]
  show (if belowL st.length x.vs = true ∧ okS st.length st (st ++ l) then Res.exc x ((st ++ l).take st.length) else .stuck : Res A) = _
  rw [if_pos ⟨hv, okS_app⟩, List.take_left]
theorem fnM_exc0 {rc : Bool} {np ns : Nat} {body : MS} {as : List A} {st : Store} {x : Exc} {e : AEnv} (hl : as.length = np) (hb : body (as.map some ++ List.replicate (ns - np) none) st = .exc x e st) (hv : belowL st.length x.vs = true) : fnM rc np ns body as st = .exc x st :=
  fnM_exc (l := []) hl (by rw [List.append_nil]; exact hb) hv
@[simp] theorem eChain_ap {op op' : Op2} {ma mb mc : AEnv → Store → Res A} {env : AEnv} {st : Store} : eChain op op' ma mb mc env st = (ma env st).bind fun a st1 => (mb env st1).bind fun b st2 => (Res.of (op a b st2)).bind fun v st3 => (asB v st3).bind fun k st4 => if k then (mc env st4).bind fun c st5 => Res.of (op' b c st5) else .ok (.bl false) st4 := (rfl)
end SL

set_option Elab.async false
set_option linter.all false
set_option maxRecDepth 100000
set_option maxHeartbeats 4000000
/-! SLt: own classes: attributes, methods, instances. -/
namespace SL
open PySem PySem.Spec L2
open PyProof.Rows hiding St
section
variable {X : Cx} {CX : CXT} {k : Nat} {f C : Addr} {fd : FuncData} {ps : List Str} {sp : Sp} {E : L2.St → XK} {x m : Str} {p pos apos : Pos} {e o : Expr} {es : List Expr} {ta : TE} {t : TA}
/-! ### the calls, the exceptions let out by the slots -/
def tMethE (C : Addr) (m : Str) (sp : Sp) (E : L2.St → XK) (ta : TE) (t : TA) : TE := fun σ H Q => ta σ H fun x H1 => ∃ a dx fs, x = .ref a ∧ H1 a = some (.ins C dx fs) ∧ fs.lookup m = none ∧ t σ H1 fun vs H2 => sp (x :: vs) H2 Q (E σ)
def tMakeE (C : Addr) (sp : Sp) (E : L2.St → XK) (t : TA) : TE := fun σ H Q => t σ H fun vs H1 => ∀ x dx, H1 x = none → H1 dx = none → dx ≠ x →
  sp (.ref x :: vs) (upd (upd H1 dx (.own x)) x (.ins C dx [])) (fun v H2 => v = .non ∧ Q (.ref x) H2) (E σ)
theorem pe_methE {pl : Sem Bool} (he : PE X o ta) (c : Cls X.K C) (hm : Meth X.K C m f) (F : FnOk X.prog X.w X.K X.mg X.base CX k f fd ps sp) (hr : Room k X.A) (hb : Binds X.K fd ps []) (hx : ∀ σ, PassesAt CX X σ (E σ)) (ha : PA X (e :: es) t)
    (hst : starEach (e :: es) X.env = (false, eval e X.env) :: starEach es X.env) (hpl : (backTo pos (starEach es X.env)).any (·.1) = false)
    (ht : eval (.Call (.Attribute o m apos) (e :: es) [] pos) X.env = (do
      let ov ← eval o X.env
      standAt apos.atName
      let (f, first) ← holding [ov] (getMethod ov m pl)
      callWith pos f first (backTo pos (starEach (e :: es) X.env)) (backToKw pos (keywordEach [] X.env)))) :
    PE X (.Call (.Attribute o m apos) (e :: es) [] pos) (tMethE C m sp E ta t) := by
  refine ⟨fun pins s σ H Q I h => ?_⟩
  refine PySem.W.methodCall_KW (pl := pl) (thn (he.run pins s σ H _ I h) fun u s1 ⟨x, H1, I1, rx, a, dx, fs, ex, ea, l, q⟩ => ?_) ht
  subst ex
  obtain rfl : u = Value.ref a := rx
  refine getmeth_ok I1 ea c hm l ?_
  refine PySem.W.callWith_K (first := [.ref a]) (h₀ := X.base) I.ok.mod.kin hm.kp (thn (ha.run pos pins s1 σ H1 _ I1 q) fun us s2 ⟨vs, H2, I2, r, q2⟩ => ⟨I2.kIn, ?_⟩) hst hpl
  exact run_fnS (us := .ref a :: us) (vs := .ref a :: vs) F hr hb (hx σ) I2 (.cons rfl r) q2
theorem pe_methE0 {pl : Sem Bool} (he : PE X o ta) (c : Cls X.K C) (hm : Meth X.K C m f) (F : FnOk X.prog X.w X.K X.mg X.base CX k f fd ps sp) (hr : Room k X.A) (hb : Binds X.K fd ps []) (hx : ∀ σ, PassesAt CX X σ (E σ))
    (ht : eval (.Call (.Attribute o m apos) [] [] pos) X.env = (do
      let ov ← eval o X.env
      standAt apos.atName
      let (f, first) ← holding [ov] (getMethod ov m pl)
      callWith pos f first (backTo pos (starEach [] X.env)) (backToKw pos (keywordEach [] X.env)))) :
    PE X (.Call (.Attribute o m apos) [] [] pos) (tMethE C m sp E ta tNil) := by
  refine ⟨fun pins s σ H Q I h => ?_⟩
  refine PySem.W.methodCall_KW (pl := pl) (thn (he.run pins s σ H _ I h) fun u s1 ⟨x, H1, I1, rx, a, dx, fs, ex, ea, l, q⟩ => ?_) ht
  subst ex
  obtain rfl : u = Value.ref a := rx
  refine getmeth_ok I1 ea c hm l ?_
  exact PySem.W.callWith_K0 (first := [.ref a]) I1.kIn hm.kp (run_fnS (us := [.ref a]) (vs := [.ref a]) F hr hb (hx σ) I1 (.cons rfl .nil) q)
theorem pe_makeE (M : Mk X.K C f) (F : FnOk X.prog X.w X.K X.mg X.base CX k f fd ps sp) (hr : Room (k + 1) X.A) (hg : Gl X x) (hm : X.mg x = some (.ref C)) (hb : Binds X.K fd ps []) (hx : ∀ σ, PassesAt CX X σ (E σ))
    (ha : PA X (e :: es) t) (hdb : (x == ("__debug__" : Str)) = false) (he : starEach (e :: es) X.env = (false, eval e X.env) :: starEach es X.env) (hpl : (backTo pos (starEach es X.env)).any (·.1) = false) :
    PE X (.Call (.Name x p) (e :: es) [] pos) (tMakeE C sp E t) := by
  refine ⟨fun pins s σ H Q I h => ?_⟩
  refine wpAny_Call_Name_kw (ld_glob I hg hm ?_ hdb)
  refine PySem.W.callWith_K (h₀ := X.base) I.ok.mod.kin M.kp (thn (ha.run pos pins s σ H _ I h) fun us s1 ⟨vs, H1, I1, r, q⟩ => ⟨I1.kIn, ?_⟩) he hpl
  have hq := q (s1.heap.objs.size + 1) s1.heap.objs.size (I1.hok.fresh (Nat.le_succ _)) (I1.hok.fresh (Nat.le_refl _)) (Nat.ne_of_lt (Nat.lt_succ_self _))
  have I2 := Inv.made (C := C) I1
  have r2 : Vals (V.ref (s1.heap.objs.size + 1) :: vs) (Value.ref (s1.heap.objs.size + 1) :: us) := .cons rfl r
  have hl : (Value.ref (s1.heap.objs.size + 1) :: us ++ []).length = ps.length := by
    rw [List.append_nil]
    have e := r2.length
    rw [F.len _ _ _ _ hq] at e
    exact e.symm
  have b := hb _ (Value.ref (s1.heap.objs.size + 1) :: us) I2.kIn hl
  rw [List.append_nil] at b
  refine wpAny_call (make_map (f := f) I1.kIn M.makes M.init (beq_iff_eq.mp M.fn) (codeAny_mono (F.run _ X.stack _ _ ⟨Value.ref (s1.heap.objs.size + 1) :: us, []⟩ (Value.ref (s1.heap.objs.size + 1) :: us) _ _ (E σ) (hr.make C us [])
    (I2.env0.make C us []) b r2 hq) fun r s' hq' => ?_))
  cases r with
  | error e => exact hx σ pins _ _ e s' I2 hq'
  | ok fl =>
    cases fl with
    | ret u =>
      obtain ⟨v, H', I3, rv, ev, q3⟩ := I2.after hq'
      subst ev
      exact ⟨rv, ⟨V.ref (s1.heap.objs.size + 1), H', I3, rfl, q3⟩⟩
    | next => exact False.elim hq'
    | brk => exact False.elim hq'
    | cont => exact False.elim hq'
end
/-! ### attributes -/
def insA (a : A) (st : Store) : Option (Str × List Str × List A) := match a with
  | .obj c ns xs => some (c, ns, xs)
  | .cell n => match st[n]? with
    | some (.obj c ns xs) => some (c, ns, xs)
    | _ => none
  | _ => none
theorem insA_ok {K : PySem.W.Frag} {Z F : Hp} {μ : List Addr} {st : Store} {H : Hp} {a : A} {c : Str} {ns : List Str} {xs : List A} {v : V} (g : Good K Z F μ st H) (r : Rep K F μ a v) (h : insA a st = some (c, ns, xs)) :
    ∃ (p dx : Addr) (fs : List (Str × V)), v = .ref p ∧ H p = some (.ins (He.ga K c) dx fs) ∧ fs.map (·.1) = ns ∧ Reps K F μ xs (fs.map (·.2)) := by
  cases a with
  | obj c ns xs =>
    cases h
    cases r with
    | obj h1 h2 h3 r => exact ⟨_, _, _, rfl, g.sub _ _ h1, h3, r⟩
  | cell n =>
    cases r with
    | cell hc =>
      cases e : st[n]? with
      | none => simp only [insA, e] at h; cases h
      | some cc =>
        simp only [insA, e] at h
        cases cc with
        | obj c ns xs =>
          cases h
          obtain ⟨a2, m2, _, dx, fs, h4, h7, h6, h5⟩ := g.cell n _ e (by intro z; cases z)
          rw [hc] at m2; cases m2
          exact ⟨_, _, _, rfl, h4, h6, h5⟩
        | _ => cases h
  | _ => cases h
def fldOp (cs : List Str) (f : Str) : Op1 := fun a st => match insA a st with
  | some (c, ns, xs) => if c ∈ cs then ((ns.zip xs).lookup f).map fun v => (v, st) else none
  | none => none
section
variable {Γ : G} {fo : Str → Bool} {e o a b : Expr} {es : List Expr} {m mo ma : AEnv → Store → Res A} {ms : AEnv → Store → Res (List A)} {pos apos p : Pos}
/-- e.f -/
theorem s_fld {f : Str} (cs : List Str) (h : SE Γ e m) (hcs : ∀ c ∈ cs, Cls Γ.K (He.ga Γ.K c) ∧ NoAttr Γ.K (He.ga Γ.K c) f)
    (hb : ∀ env, attributeBase e f env (eval e env) = eval e env := by intro _; rfl) : SE Γ (.Attribute e f pos) (eUn (fldOp cs f) m) :=
  ⟨fun W => by
    obtain ⟨t, s1, p1⟩ := h.run W
    refine ⟨tFld Γ.K t f, ?_, fun X c tk => by rw [← c.K]; exact pe_fld (p1 X c tk) (hb _)⟩
    refine Sim.bind (k := fun x σ H Q => ∃ a C dx fs v, x = .ref a ∧ H a = some (.ins C dx fs) ∧ Cls Γ.K C ∧ NoAttr Γ.K C f ∧ fs.lookup f = some v ∧ Q v H) (m' := fun a env st1 => Res.of (fldOp cs f a st1)) s1 fun Z F μ st env σ H Q a x g re ra hp => ?_
    obtain ⟨c, st3, e, k⟩ := Res.post_of hp
    unfold fldOp at e
    cases ei : insA a st with
    | none => rw [ei] at e; cases e
    | some q =>
      obtain ⟨cn, ns, xs⟩ := q
      rw [ei] at e
      dsimp only at e
      split at e
      · rename_i hc
        obtain ⟨p, dx, fs, rfl, h1, h2, h3⟩ := insA_ok g ra ei
        cases el : (ns.zip xs).lookup f with
        | none => rw [el] at e; cases e
        | some w =>
          rw [el] at e; cases e
          obtain ⟨v, hv, rv⟩ := lookup_reps h2 h3 el
          exact ⟨p, _, dx, fs, v, rfl, h1, (hcs _ hc).1, (hcs _ hc).2, hv, k.now g rv⟩
      · cases e⟩
/-! ### methods -/
/-- o.m(..), o an instance of the class c -/
def eMeth (c : Str) (mn : Str) (M : List A → Store → Res A) (mo : AEnv → Store → Res A) (ms : AEnv → Store → Res (List A)) : AEnv → Store → Res A := fun env st => (mo env st).bind fun a st1 => match insA a st1 with
  | some (c', ns, xs) => if c' = c ∧ (ns.zip xs).lookup mn = none ∧ ns.length = xs.length then (ms env st1).bind fun as st2 => M (a :: as) st2 else .stuck
  | none => .stuck
theorem lookup_none {K : PySem.W.Frag} {F : Hp} {μ : List Addr} {f : Str} : ∀ {fs : List (Str × V)} {ns : List Str} {xs : List A}, fs.map (·.1) = ns → Reps K F μ xs (fs.map (·.2)) → (ns.zip xs).lookup f = none → fs.lookup f = none
  | [], ns, xs, h1, h2, h3 => rfl
  | (g, w) :: fs, ns, xs, h1, h2, h3 => by
    subst h1
    cases h2 with
    | @cons y _ ys _ r t =>
      rw [List.map_cons, List.zip_cons_cons, List.lookup_cons] at h3
      rw [List.lookup_cons]
      cases e : (f == g) with
      | true => rw [e] at h3; cases h3
      | false => rw [e] at h3; exact lookup_none rfl t h3
theorem sim_meth {K : PySem.W.Frag} {W : WX} {c mn : Str} {n : Nat} {M : List A → Store → Res A} {ta : TE} {t : TA} (ar : ∀ as st, as.length ≠ n → M as st = .stuck) (ho : Sim K Rep W ta mo) (ha : Sim K Reps W t ms) : Sim K Rep W (tMethE (He.ga K c) mn (spM K n M) (WE W) ta t) (eMeth c mn M mo ms) := by
  intro Z F μ st env σ H Q g re hp
  unfold eMeth at hp
  rw [Res.post_bind] at hp
  refine ho Z F μ st env σ H _ g re (Res.post_mono hp (fun a st1 q => ?_) fun _ _ q => q)
  intro F1 μ1 H1 x e1 g1 ra
  cases ei : insA a st1 with
  | none => rw [ei] at q; exact q.elim
  | some z =>
    obtain ⟨c', ns, xs⟩ := z
    rw [ei] at q
    dsimp only at q
    split at q
    · rename_i hc
      obtain ⟨rfl, hl, _⟩ := hc
      obtain ⟨p, dx, fs, rfl, h1, h2, h3⟩ := insA_ok g1 ra ei
      refine ⟨p, dx, fs, rfl, h1, lookup_none h2 h3 hl, ?_⟩
      rw [Res.post_bind] at q
      refine ha Z F1 μ1 st1 env σ H1 _ g1 (re.mono e1) (Res.post_mono q (fun as st2 q => ?_) fun _ _ q => q.ext e1)
      intro F2 μ2 H2 vs e2 g2 rs
      have rr : Reps K F2 μ2 (a :: as) (.ref p :: vs) := .cons (ra.mono e2) rs
      refine ⟨?_, Z, F2, μ2, st2, a :: as, g2, rr, post_ext (e1.trans e2) q⟩
      rw [← rr.length]
      by_cases h : (a :: as).length = n
      · exact h
      · rw [ar _ _ h] at q; exact q.elim
    · exact q.elim
theorem s_meth {j : Nat} {c mn : Str} {fa : Addr} {ps : List Str} {M : List A → Store → Res A} {pl : Env → Sem Bool} (F : FnS Γ.P Γ.w Γ.K Γ.mg Γ.base j fa ps M) (hj : j ≤ Γ.k) (hc : Cls Γ.K (He.ga Γ.K c)) (hm : Meth Γ.K (He.ga Γ.K c) mn fa)
    (ho : SE Γ o mo) (ha : SA Γ (e :: es) ms) (he : ∀ env, starEach (e :: es) env = (false, eval e env) :: starEach es env := by intro _; rfl)
    (hpl : ∀ env, (backTo pos (starEach es env)).any (·.1) = false := by intro _; rfl)
    (ht : ∀ env, eval (.Call (.Attribute o mn apos) (e :: es) [] pos) env = (do
      let ov ← eval o env
      standAt apos.atName
      let (f, first) ← holding [ov] (getMethod ov mn (pl env))
      callWith pos f first (backTo pos (starEach (e :: es) env)) (backToKw pos (keywordEach [] env))) := by intro _; rfl)
    (cm : Γ.calm = true := by rfl) : SE Γ (.Call (.Attribute o mn apos) (e :: es) [] pos) (eMeth c mn M mo ms) :=
  ⟨fun W => by
    obtain ⟨fd, h1, h2⟩ := F.ex
    obtain ⟨to, so, po⟩ := ho.run W
    obtain ⟨ta, sa, pa⟩ := ha.run W
    refine ⟨_, sim_meth (c := c) F.ar so sa, fun X cx t => ?_⟩
    have h1' : FnOk X.prog X.w X.K X.mg X.base (L2.CX X.prog X.w) j fa fd ps (spM Γ.K ps.length M) := by
      rw [cx.prog, cx.w, cx.K, cx.mg, cx.base]; exact h1
    exact pe_methE (po X cx t) (by rw [cx.K]; exact hc) (by rw [cx.K]; exact hm) h1' ((cx.room cm).mono hj) (by rw [cx.K]; exact h2) (fun σ => passAt t σ) (pa X cx t) (he _) (hpl _) (ht _)⟩
theorem sim_aNil {K : PySem.W.Frag} {W : WX} : Sim K Reps W tNil aNil := fun Z F μ st env σ H Q g re hp => (show Kont K Z Reps F μ Q [] st from hp).now g .nil
theorem s_meth0 {j : Nat} {c mn : Str} {fa : Addr} {ps : List Str} {M : List A → Store → Res A} {pl : Env → Sem Bool} (F : FnS Γ.P Γ.w Γ.K Γ.mg Γ.base j fa ps M) (hj : j ≤ Γ.k) (hc : Cls Γ.K (He.ga Γ.K c)) (hm : Meth Γ.K (He.ga Γ.K c) mn fa)
    (ho : SE Γ o mo)
    (ht : ∀ env, eval (.Call (.Attribute o mn apos) [] [] pos) env = (do
      let ov ← eval o env
      standAt apos.atName
      let (f, first) ← holding [ov] (getMethod ov mn (pl env))
      callWith pos f first (backTo pos (starEach [] env)) (backToKw pos (keywordEach [] env))) := by intro _; rfl)
    (cm : Γ.calm = true := by rfl) : SE Γ (.Call (.Attribute o mn apos) [] [] pos) (eMeth c mn M mo aNil) :=
  ⟨fun W => by
    obtain ⟨fd, h1, h2⟩ := F.ex
    obtain ⟨to, so, po⟩ := ho.run W
    refine ⟨_, sim_meth (c := c) F.ar so sim_aNil, fun X cx t => ?_⟩
    have h1' : FnOk X.prog X.w X.K X.mg X.base (L2.CX X.prog X.w) j fa fd ps (spM Γ.K ps.length M) := by
      rw [cx.prog, cx.w, cx.K, cx.mg, cx.base]; exact h1
    exact pe_methE0 (po X cx t) (by rw [cx.K]; exact hc) (by rw [cx.K]; exact hm) h1' ((cx.room cm).mono hj) (by rw [cx.K]; exact h2) (fun σ => passAt t σ) (ht _)⟩
/-! ### C(..): an instance that stays as its __init__ left it -/
noncomputable def mkIns (c : Str) (M : List A → Store → Res A) : List A → Store → Res A := fun as st => match M (.cell st.length :: as) (st ++ [.obj c [] []]) with
  | .ok .non st2 => (match st2[st.length]? with
    | some (.obj c' ns xs) => if c' = c ∧ belowL st.length xs = true ∧ okS st.length st st2 then .ok (.obj c ns xs) (st2.take st.length) else .stuck
    | _ => .stuck)
  | .exc x st2 => if belowL st.length x.vs = true ∧ okS st.length st st2 then .exc x (st2.take st.length) else .stuck
  | _ => .stuck
noncomputable def eMake (c : Str) (M : List A → Store → Res A) (ms : AEnv → Store → Res (List A)) : AEnv → Store → Res A := fun env st => (ms env st).bind fun as st1 => mkIns c M as st1
theorem sim_make {K : PySem.W.Frag} {W : WX} {c : Str} {n : Nat} {M : List A → Store → Res A} {t : TA} (ar : ∀ as st, as.length ≠ n → M as st = .stuck) (ha : Sim K Reps W t ms) : Sim K Rep W (tMakeE (He.ga K c) (spM K n M) (WE W) t) (eMake c M ms) := by
  intro Z F μ st env σ H Q g re hp
  unfold eMake at hp
  rw [Res.post_bind] at hp
  refine ha Z F μ st env σ H _ g re (Res.post_mono hp (fun as st1 q => ?_) fun _ _ q => q)
  intro F1 μ1 H1 vs e1 g1 rs x dx hx hdx hne
  obtain ⟨g2, e2⟩ := g1.known (p := dx) (o := .own x) hdx
  have hx2 : upd H1 dx (.own x) x = none := by rw [upd_ne (fun z => hne z.symm)]; exact hx
  have hcr : CRep K (upd F1 dx (.own x)) μ1 (upd (upd H1 dx (.own x)) x (.ins (He.ga K c) dx [])) (.obj c [] []) x := ⟨dx, [], upd_same, by rw [upd_ne hne, upd_same], rfl, .nil⟩
  obtain ⟨g3, e3⟩ := g2.push (p := x) (o := .ins (He.ga K c) dx []) (c := .obj c [] []) hx2 hcr
  have hlen : μ1.length = st1.length := g1.len
  have hxn : (μ1 ++ [x])[st1.length]? = some x := by rw [← hlen, List.getElem?_append_right (Nat.le_refl _), Nat.sub_self]; rfl
  have rr : Reps K (upd F1 dx (.own x)) (μ1 ++ [x]) (.cell st1.length :: as) (.ref x :: vs) := .cons (.cell hxn) (rs.mono (e2.trans e3))
  have e13 : Ext F (upd F1 dx (.own x)) μ (μ1 ++ [x]) := e1.trans (e2.trans e3)
  have e03 : Ext F1 (upd F1 dx (.own x)) μ1 (μ1 ++ [x]) := e2.trans e3
  unfold mkIns at q
  refine ⟨?_, Z, _, _, _, _, g3, rr, ?_⟩
  · rw [← rr.length]
    by_cases h : (A.cell st1.length :: as).length = n
    · exact h
    · rw [ar _ _ h] at q; exact q.elim
  · generalize M (.cell st1.length :: as) (st1 ++ [.obj c [] []]) = r at q ⊢
    cases r with
    | stuck => exact q.elim
    | exc y st2 =>
      intro F' μ' H' d e' g' xr
      dsimp only at q
      split at q
      · rename_i hb
        have eA : Ext F1 F' μ1 μ' := e03.trans e'
        have hm := pre_take eA
        have gt := g'.trunc (okS_bel g1 hb.2)
        rw [← g1.len, hm] at gt
        refine (show KX K Z F μ σ W y (st2.take st1.length) from q) F' μ1 H' d (e1.trans ⟨eA.f, fun _ _ z => z⟩) (by rw [← g1.len]; exact gt) ?_
        rcases xr with xr | ⟨dd, fs, h1, h2, h3, h4⟩
        · exact .inl xr
        · refine .inr ⟨dd, fs, h1, h2, h3, ?_⟩
          have := h4.cut hb.1
          rw [← g1.len, hm] at this
          exact this
      · exact q.elim
    | ok b st2 =>
      intro F' μ' H' bv e' g' rb
      cases b with
      | non =>
        cases rb
        refine ⟨rfl, ?_⟩
        dsimp only at q
        cases ec : st2[st1.length]? with
        | none => rw [ec] at q; exact q.elim
        | some cc =>
          rw [ec] at q
          cases cc with
          | obj c' ns xs =>
            dsimp only at q
            split at q
            · rename_i hb
              obtain ⟨rfl, hbx, hok⟩ := hb
              have hx' : μ'[st1.length]? = some x := e'.m _ _ hxn
              have eA : Ext F1 F' μ1 μ' := e03.trans e'
              have hm := pre_take eA
              obtain ⟨a2, m2, ⟨hF, hZ⟩, dx', fs, h4, h7, h6, h5⟩ := g'.cell st1.length _ ec (by intro z; cases z)
              rw [hx'] at m2; cases m2
              obtain ⟨gk, xk⟩ := g'.know (o := .ins (He.ga K c') dx' fs) ec (by intro z; cases z) hx' h4
              have hzd : Z dx' = none := by
                cases ez : Z dx' with
                | none => rfl
                | some u =>
                  have c1 := g'.zc _ _ ez
                  have c2 := g'.zub _ _ ez
                  rw [h7] at c2; cases c2; cases c1
              have hfd : upd F' x (.ins (He.ga K c') dx' fs) dx' = none ∨ upd F' x (.ins (He.ga K c') dx' fs) dx' = some (.own x) := by
                cases ef : upd F' x (.ins (He.ga K c') dx' fs) dx' with
                | none => exact .inl rfl
                | some u => have := gk.sub _ _ ef; rw [h7] at this; exact .inr this.symm
              obtain ⟨gl, xl⟩ := gk.knowO (q := dx') (u := .own x) h7 rfl hzd hfd
              have hbel : ∀ i d, i < st1.length → (st2.set st1.length .dead)[i]? = some d → d ≠ .dead → d.bel st1.length = true := fun i d hi hd hn => by
                rw [List.getElem?_set_ne (by omega)] at hd
                exact okS_bel g1 hok i d hi hd hn
              have gt := gl.trunc hbel
              have hst : (st2.set st1.length .dead).take st1.length = st2.take st1.length := by rw [List.take_set_of_le (Nat.le_refl _)]
              rw [hst, ← g1.len, hm] at gt
              have hr := (h5.mono (xk.trans xl)).cut hbx
              rw [← g1.len, hm] at hr
              have eF : Ext F (upd (upd F' x (.ins (He.ga K c') dx' fs)) dx' (.own x)) μ μ1 := e1.trans ⟨fun a o h => xl.f _ _ (xk.f _ _ (eA.f a o h)), fun _ _ z => z⟩
              exact (show Kont K Z Rep F μ Q (.obj c' ns xs) (st2.take st1.length) from q) _ μ1 H' _ eF (by rw [← g1.len]; exact gt) (.obj (xl.f _ _ upd_same) upd_same h6 hr)
            · exact q.elim
          | _ => exact q.elim
      | _ => exact q.elim
theorem s_make {j : Nat} {x : Str} {fa : Addr} {ps : List Str} {M : List A → Store → Res A} (F : FnS Γ.P Γ.w Γ.K Γ.mg Γ.base j fa ps M) (hj : j + 1 ≤ Γ.k) (mk : Mk Γ.K (He.ga Γ.K x) fa) (hg : Γ.sc.names.lookup x = some .globalImplicit) (hm : Γ.mg x = some (.ref (He.ga Γ.K x)))
    (ha : SA Γ (e :: es) ms) (hdb : (x == ("__debug__" : Str)) = false := by decide) (he : ∀ env, starEach (e :: es) env = (false, eval e env) :: starEach es env := by intro _; rfl)
    (hpl : ∀ env, (backTo pos (starEach es env)).any (·.1) = false := by intro _; rfl) (cm : Γ.calm = true := by rfl) : SE Γ (.Call (.Name x p) (e :: es) [] pos) (eMake x M ms) :=
  ⟨fun W => by
    obtain ⟨fd, h1, h2⟩ := F.ex
    obtain ⟨ta, sa, pa⟩ := ha.run W
    refine ⟨_, sim_make (c := x) F.ar sa, fun X c t => ?_⟩
    have h1' : FnOk X.prog X.w X.K X.mg X.base (L2.CX X.prog X.w) j fa fd ps (spM Γ.K ps.length M) := by
      rw [c.prog, c.w, c.K, c.mg, c.base]; exact h1
    exact pe_makeE (C := He.ga Γ.K x) (by rw [c.K]; exact mk) h1' ((c.room cm).mono hj) (c.gl hg) (by rw [c.mg]; exact hm) (by rw [c.K]; exact h2) (fun σ => passAt t σ) (pa X c t) hdb (he _) (hpl _)⟩
/-! ### o.f = e, of an instance that is the def's own or the caller's cell -/
def putN (f : Str) (v : A) : List Str → List A → List Str × List A
  | [], _ => ([f], [v])
  | g :: ns, x :: xs => if g = f then (g :: ns, v :: xs) else (g :: (putN f v ns xs).1, x :: (putN f v ns xs).2)
  | g :: ns, [] => (g :: ns, [])
theorem putN_ok {K : PySem.W.Frag} {F : Hp} {μ : List Addr} {f : Str} {v : A} {w : V} (rv : Rep K F μ v w) : ∀ {fs : List (Str × V)} {ns : List Str} {xs : List A}, fs.map (·.1) = ns → Reps K F μ xs (fs.map (·.2)) → (putF f w fs).map (·.1) = (putN f v ns xs).1 ∧ Reps K F μ (putN f v ns xs).2 ((putF f w fs).map (·.2))
  | [], _, xs, h1, h2 => by
    subst h1; cases h2
    exact ⟨rfl, .cons rv .nil⟩
  | (g, z) :: fs, _, _, h1, h2 => by
    subst h1
    cases h2 with
    | @cons y _ ys _ r t =>
      rw [List.map_cons]
      by_cases e : g = f
      · simp only [putN, putF, if_pos e]
        exact ⟨rfl, .cons rv t⟩
      · simp only [putN, putF, if_neg e]
        obtain ⟨h3, h4⟩ := putN_ok rv (fs := fs) rfl t
        exact ⟨by rw [List.map_cons, h3], .cons r h4⟩
def fldSet (cs : List Str) (f : Str) (o v : A) (st : Store) : Option Store := match o with
  | .cell n => (match st[n]? with
    | some (.obj c ns xs) => if c ∈ cs ∧ xs.length < 1000 then some (st.set n (.obj c (putN f v ns xs).1 (putN f v ns xs).2)) else none
    | _ => none)
  | _ => none
def sFldM (cs : List Str) (f : Str) (m mo : AEnv → Store → Res A) : MS := fun env st => (m env st).toS env fun v st1 => (mo env st1).toS env fun o st2 => match fldSet cs f o v st2 with
  | some st3 => .nx env st3
  | none => .stuck
theorem st_fldA {f : Str} {pos' : Pos} (cs : List Str) (h : SE Γ e m) (ho : SE Γ o mo) (hcs : ∀ c ∈ cs, Cls Γ.K (He.ga Γ.K c) ∧ NoAttr Γ.K (He.ga Γ.K c) f)
    (hs : ∀ env, swapsWith e (some (.Attribute o f pos')) pos.line env = pure false := by intro _; rfl) : SS Γ fo (.Assign [.Attribute o f pos'] e pos) (sFldM cs f m mo) :=
  ⟨fun W => by
    obtain ⟨t, s1, p1⟩ := h.run W
    obtain ⟨t2, s2, p2⟩ := ho.run W
    refine ⟨sFld Γ.K t2 t f, ?_, fun X c hf k => by rw [← c.K]; exact ps_fld (p2 X c k) (p1 X c k) (hs _)⟩
    intro Z F μ st env σ H D g re hp
    unfold sFldM at hp
    rw [Res.post_toS] at hp
    refine s1 Z F μ st env σ H _ g re (Res.post_mono hp (fun v st1 q => ?_) fun x st1 q F1 μ1 H1 d e1 g1 x1 => q F1 μ1 H1 σ d e1 g1 (re.mono e1) x1)
    intro F1 μ1 H1 vv e1 g1 rv
    rw [Res.post_toS] at q
    refine s2 Z F1 μ1 st1 env σ H1 _ g1 (re.mono e1) (Res.post_mono q (fun o st2 q => ?_) fun x st2 q F2 μ2 H2 d e2 g2 x1 => q F2 μ2 H2 σ d (e1.trans e2) g2 (re.mono (e1.trans e2)) x1)
    intro F2 μ2 H2 ov e2 g2 ro
    unfold fldSet at q
    cases o with
    | cell n =>
      cases ro with
      | cell hn =>
        rename_i ad
        dsimp only at q
        cases ec : st2[n]? with
        | none => rw [ec] at q; exact q.elim
        | some cc =>
          rw [ec] at q
          cases cc with
          | obj c ns xs =>
            dsimp only at q
            by_cases hc : c ∈ cs ∧ xs.length < 1000
            · rw [if_pos hc] at q
              obtain ⟨a2, m2, _, dx, fs, h4, h7, h6, h5⟩ := g2.cell n _ ec (by intro z; cases z)
              rw [hn] at m2; cases m2
              obtain ⟨k1, k2⟩ := putN_ok (f := f) (rv.mono e2) h6 h5
              have hl : fs.length < 1000 := by have := h5.length; rw [List.length_map] at this; omega
              refine ⟨ad, He.ga Γ.K c, dx, fs, rfl, h4, (hcs c hc.1).1, (hcs c hc.1).2, hl, ?_⟩
              have hda : dx ≠ ad := fun z => by subst z; rw [h4] at h7; cases h7
              have gw := g2.write (c := .obj c (putN f v ns xs).1 (putN f v ns xs).2) (o := .ins (He.ga Γ.K c) dx (putF f vv fs)) ec (by intro z; cases z) hn ⟨dx, putF f vv fs, upd_same, by rw [upd_ne hda]; exact h7, k1, k2⟩
              exact KN.now ((show KN Γ.K Z F μ D.nx env _ from q).ext (e1.trans e2)) gw (re.mono (e1.trans e2))
            · rw [if_neg hc] at q; exact q.elim
          | _ => exact q.elim
    | _ => exact q.elim⟩
end
end SL

set_option Elab.async false
set_option linter.all false
set_option maxRecDepth 100000
set_option maxHeartbeats 4000000
/-! SLu: try with several clauses, each with a name or without; xs[::-1]; len within a suite. -/
namespace SL
open PySem PySem.Spec L2
open PyProof.Rows hiding St
/-! ### several clauses -/
abbrev Cls3 := Value × Option Nat × (Addr → Value → Option Addr → TS)
/-- the ends behind a suite: the name goes -/
def unE : Option Nat → Ends → Ends
  | none, D => D
  | some i, D => { nx := fun σ H => D.nx (σ.set i none) H, rt := D.rt, bk := fun σ H => D.bk (σ.set i none) H, ct := fun σ H => D.ct (σ.set i none) H }
def putE : Option Nat → Addr → L2.St → L2.St
  | none, _, σ => σ
  | some i, a, σ => σ.set i (some (.ref a))
def wCl (K : PySem.W.Frag) (Wo : WX) (D : Ends) : List Cls3 → WX
  | [] => Wo
  | (c, oi, ts) :: r => fun cls d σ H => ∃ b, PySem.W.exmOne K cls c = some b ∧ (b = true → ∀ a, H a = none → ts a cls d (unE oi D) (putE oi a σ) H) ∧ (b = false → wCl K Wo D r cls d σ H)
inductive HdN (X : Cx) : List ExceptHandler → List Cls3 → Prop
  | nil : HdN X [] []
  | as {x n : Str} {c : Value} {i : Nat} {ts : Addr → Value → Option Addr → TS} {b₀ : Stmt} {su : List Stmt} {np q : Pos} {hds : List ExceptHandler} {l : List Cls3} (hi : X.N[i]? = some n) (hln : X.env.kindOf n = some .local) (hc : Names X x c)
      (hsu : ∀ (a : Addr) (oe : Obj) (cls : Value) (d : Option Addr) (pn : List (Addr × Obj)), Zc cls d oe → (∃ vs, oe.data = .fields vs) → PSs (X.suite a ((a, oe) :: pn)) (b₀ :: su) (ts a cls d)) (r : HdN X hds l) :
      HdN X (.ExceptHandler (some (.Name x np)) (some n) (b₀ :: su) q :: hds) ((c, some i, ts) :: l)
  | no {x : Str} {c : Value} {ts : Addr → Value → Option Addr → TS} {b₀ : Stmt} {su : List Stmt} {np q : Pos} {hds : List ExceptHandler} {l : List Cls3} (hc : Names X x c)
      (hsu : ∀ (a : Addr) (oe : Obj) (cls : Value) (d : Option Addr) (pn : List (Addr × Obj)), Zc cls d oe → (∃ vs, oe.data = .fields vs) → PSs (X.suite a ((a, oe) :: pn)) (b₀ :: su) (ts a cls d)) (r : HdN X hds l) :
      HdN X (.ExceptHandler (some (.Name x np)) none (b₀ :: su) q :: hds) ((c, none, ts) :: l)
theorem ps_tryN {X : Cx} {body : List Stmt} {h₀ : ExceptHandler} {hds : List ExceptHandler} {l : List Cls3} {pos : Pos} {tb : WX → TS} {Wo : WX} (hs : X.stack = X.env :: X.outer) (hf : X.env.frame = some X.env.locals) (hN : X.N.Nodup) (tk : Takes X Wo)
    (hb : ∀ (W : WX) (pn : List (Addr × Obj)) (xe : Value → Shared → Prop), Takes (X.tr pn xe) W → PassesOwn (model X.prog X.w) X.A X.env xe → PSs (X.tr pn xe) body (tb W))
    (hh : HdN X (h₀ :: hds) l) : PS X (.Try body (h₀ :: hds) [] [] pos) (fun D σ H => tb (wCl X.K Wo D l) D σ H) := by
  refine ⟨fun pins s σ H D I hw => ?_⟩
  have ok := I.ok
  have fr : X.A.frames = some (X.env :: X.outer) := ok.frames.trans (congrArg some hs)
  refine wpAny_Try_except (wpAny_mono ((hb _ (X.pn ++ pins) (fun e s₁ => wpAny (model X.prog X.w) X.A (noteFrame e X.env) (fun _ s₂ => wpAny (model X.prog X.w) X.A (setFlight e none) (fun _ s₃ =>
    wpAny (model X.prog X.w) X.A (handleBy e X.env (h₀ :: hds)) (SP X pins D) X.xe s₃) X.xe s₂) X.xe s₁) (fun u s' z => ?_) PassesOwn.looking).run [] s σ H D (I.toTry _) hw) (fun f s1 z => ?_) (fun _ _ z => z))
  · obtain ⟨a, B, sI, pins', σ', H', cls, d, rfl, J0, nb, up, sky, na, os, ag, w⟩ := z
    have J := J0.ofTry ok
    rw [hs] at sky
    show wpAny (model X.prog X.w) X.A (noteFrame (.ref a) X.env) _ _ _
    refine Sky.land Zc.steady fr hf sky fun h3 fl3 up3 => ?_
    have J3 : Inv X pins σ' H' { s' with heap := h3 } := J.landed nb fl3.1 (up.trans up3) os ag
    obtain ⟨o3, vs3, e3, z3, d3⟩ := fl3.there
    have nfr : a ∉ frs (X.env :: X.outer) := fun hm => by
      obtain ⟨_, o', e', hnf⟩ := fl3.2.2.1.mem hm
      rw [e3] at e'; cases e'
      exact hnf _ d3
    have nL : a ≠ X.env.locals := fun z => nfr (List.mem_filterMap.mpr ⟨X.env, List.mem_cons_self, by rw [hf, z]⟩)
    have nF : a ∉ X.fs := fun hm => by
      obtain ⟨e, he, q⟩ := List.mem_filterMap.mp hm
      exact nfr (List.mem_filterMap.mpr ⟨e, List.mem_cons_of_mem _ he, q⟩)
    have S3 := J3.suite e3 d3 na nL nF
    have isA : PySem.W.Looks (model X.prog X.w) h3 (typeOf (.ref a)) cls := fun A Q E s k q => wpAny_typeOf_ref (k _ _ e3) (by rw [z3.1]; exact q)
    have named : ∀ {x : Str} {c : Value} {np : Pos} {Q E : Value → Shared → Prop}, Names X x c → Q c { s' with heap := h3 } → wpAny (model X.prog X.w) (X.A.mark (some (.ref a))) (eval (.Name x np) X.env) Q E { s' with heap := h3 } := fun {x c np Q E} hc q => by
      obtain ⟨hg, hd, hm | ⟨hm, hv, hn⟩⟩ := hc
      · exact ld_glob (X := X.suite a ((a, o3) :: (X.pn ++ pins))) S3 hg hm q hd
      · exact ld_blt (X := X.suite a ((a, o3) :: (X.pn ++ pins))) S3 hg hm hv q hn hd
    have go : ∀ {hds' : List ExceptHandler} {l' : List Cls3}, HdN X hds' l' → wCl X.K Wo D l' cls d σ' H' → wpAny (model X.prog X.w) X.A (handleBy (.ref a) X.env hds') (SP X pins D) X.xe { s' with heap := h3 } := by
      intro hds' l' hk
      induction hk with
      | nil =>
        intro w
        refine wpAny_handleBy_nil ?_
        obtain ⟨_, _, _, oe, vs, T, oT, ts', he, hz, hd, h1, _⟩ := id fl3
        unfold PySem.passOn
        refine wpAny_bind (wpAny_field he hd h1 ?_)
        rw [if_neg (show ¬ ((Value.ref T == Value.none) = true) by simp)]
        have fin : wpAny (model X.prog X.w) X.A (setFlight (.ref a) X.env.frame) (fun _ s4 => wpAny (model X.prog X.w) X.A (throw (.ref a) : Sem Flow) (SP X pins D) X.xe s4) X.xe { s' with heap := h3 } := by
          rw [hf]
          refine HandSPX.setFlight_upZ fl3 fun h4 hh4 up4 => wpAny_throw (tk _ _ ?_)
          rw [← hs] at hh4
          exact ⟨a, B, sI, pins, σ', H', cls, d, rfl, J, nb, (up.trans up3).trans up4, .inr (.inr hh4), na, os, ag, w⟩
        first | exact wpAny_bind (wpAny_pure (wpAny_bind fin)) | exact wpAny_bind fin
      | @as x n c i ts b₀ su np q hds2 l2 hi hln hc hsu r ih =>
        intro ⟨b, hb1, hy, hno⟩
        refine wpAny_handleBy_cons (codeAny_handlers_test ?_) (by intro q; cases q)
        refine named hc ((PySem.W.exm_one (M := model X.prog X.w) J3.kIn isA hb1).here ?_)
        cases b with
        | false => exact ih (hno rfl)
        | true =>
          refine codeAny_handlers_suite_as (HandSPX.lands_againZ fl3 fun h4 fl4 up4 => ?_)
          have J4 : Inv X pins σ' H' { s' with heap := h4 } := J.landed nb fl4.1 ((up.trans up3).trans up4) os ag
          obtain ⟨o4, vs4, e4, z4, d4⟩ := fl4.there
          refine store_ok (X := X.suite a ((a, o4) :: (X.pn ++ pins))) (v := .ref a) (J4.suite e4 d4 na nL nF) hN hi (.inl hln) rfl (fun s5 S5 => ?_) (.inr hln)
          refine wpAny_mono ((hsu a o4 cls d (X.pn ++ pins) z4 ⟨_, d4⟩).run [] s5 _ H' _ S5 (hy rfl a na)) (fun f s6 hsp => ?_) (fun _ _ z => z.elim)
          have gone : ∀ {σ6 : L2.St} {H6 : Hp} {Q : Shared → Prop}, Inv (X.suite a ((a, o4) :: (X.pn ++ pins))) [] σ6 H6 s6 → (∀ s7, Inv X pins (σ6.set i none) H6 s7 → Q s7) →
              wpAny (model X.prog X.w) X.A (do bindName X.env n .none; unbindBehindTheSuite X.env n q) (fun _ s7 => Q s7) X.xe s6 := fun {σ6 H6 Q} S6 hq => gone_ok (S6.unsuite ok) hN hi hln hq
          cases f with
          | ret u => exact let ⟨v6, σ6, H6, S6, r6, q6⟩ := hsp; gone S6 fun s7 J7 => ⟨_, _, _, J7, r6, q6⟩
          | next => exact let ⟨σ6, H6, S6, q6⟩ := hsp; gone S6 fun s7 J7 => ⟨_, _, J7, q6⟩
          | brk => exact let ⟨σ6, H6, S6, q6⟩ := hsp; gone S6 fun s7 J7 => ⟨_, _, J7, q6⟩
          | cont => exact let ⟨σ6, H6, S6, q6⟩ := hsp; gone S6 fun s7 J7 => ⟨_, _, J7, q6⟩
      | @no x c ts b₀ su np q hds2 l2 hc hsu r ih =>
        intro ⟨b, hb1, hy, hno⟩
        refine wpAny_handleBy_cons (codeAny_handlers_test ?_) (by intro q; cases q)
        refine named hc ((PySem.W.exm_one (M := model X.prog X.w) J3.kIn isA hb1).here ?_)
        cases b with
        | false => exact ih (hno rfl)
        | true =>
          refine codeAny_handlers_suite (HandSPX.lands_againZ fl3 fun h4 fl4 up4 => ?_)
          have J4 : Inv X pins σ' H' { s' with heap := h4 } := J.landed nb fl4.1 ((up.trans up3).trans up4) os ag
          obtain ⟨o4, vs4, e4, z4, d4⟩ := fl4.there
          have S4 := J4.suite e4 d4 na nL nF
          refine wpAny_mono ((hsu a o4 cls d (X.pn ++ pins) z4 ⟨_, d4⟩).run [] _ _ H' _ S4 (hy rfl a na)) (fun f s6 hsp => ?_) (fun _ _ z => z.elim)
          cases f with
          | ret u => exact let ⟨v6, σ6, H6, S6, r6, q6⟩ := hsp; ⟨_, _, _, S6.unsuite ok, r6, q6⟩
          | next => exact let ⟨σ6, H6, S6, q6⟩ := hsp; ⟨_, _, S6.unsuite ok, q6⟩
          | brk => exact let ⟨σ6, H6, S6, q6⟩ := hsp; ⟨_, _, S6.unsuite ok, q6⟩
          | cont => exact let ⟨σ6, H6, S6, q6⟩ := hsp; ⟨_, _, S6.unsuite ok, q6⟩
    exact go hh w
  · cases f with
    | ret u => exact let ⟨v, σ', H', J', r, q⟩ := z; ⟨v, σ', H', J'.ofTry ok, r, q⟩
    | next => exact let ⟨σ', H', J', q⟩ := z; wpAny_execs_nil ⟨σ', H', J'.ofTry ok, q⟩
    | brk => exact let ⟨σ', H', J', q⟩ := z; ⟨σ', H', J'.ofTry ok, q⟩
    | cont => exact let ⟨σ', H', J', q⟩ := z; ⟨σ', H', J'.ofTry ok, q⟩
abbrev Cl := List (Str × Bool) × Option Nat × (Addr → Str → Option Addr → MS)
/-- the first clause that takes it -/
noncomputable def pick : List Cl → Exc → AEnv → Store → SRes
  | [], x, e, s => .exc x e s
  | (tbl, oi, ms) :: r, x, e, s => open Classical in match tbl.lookup x.c with
    | some true => (match oi with
      | some i => if ∀ a d, clr i (ms a x.c d (e.set i (some (.xcp a d x.c x.ns x.vs))) s) = clr i (ms 0 x.c none (e.set i (some (.xcp 0 none x.c x.ns x.vs))) s) then clr i (ms 0 x.c none (e.set i (some (.xcp 0 none x.c x.ns x.vs))) s) else .stuck
      | none => if ∀ a d, noXS (ms a x.c d e s) = noXS (ms 0 x.c none e s) then noXS (ms 0 x.c none e s) else .stuck)
    | some false => pick r x e s
    | none => .stuck
noncomputable def sTryM (cl : List Cl) (body : MS) : MS := fun env st => match body env st with
  | .exc x e s => pick cl x e s
  | r => r
structure SCl (Γ : G) (fo : Str → Bool) (hds : List ExceptHandler) (cl : List Cl) : Prop where
  run : ∃ l : List Cls3, (∀ (W : WX) (D : Ends) (Z F : Hp) (μ : List Addr) (st : Store) (env : AEnv) (σ : L2.St) (H : Hp) (x : Exc) (d : Option Addr), Good Γ.K Z F μ st H → REnv Γ.K F μ env σ → XRep Γ.K F μ x d → (pick cl x env st).post (KS Γ.K Z F μ D W) → wCl Γ.K W D l (.ref (He.ga Γ.K x.c)) d σ H) ∧
    ∀ X, CtxOk Γ X → (∀ x, fo x = true → X.fn x = true) → HdN X hds l
section
variable {Γ : G} {fo : Str → Bool} {x n : Str} {i : Nat} {body suite : List Stmt} {b₀ : Stmt} {np pos pos' : Pos} {m : MS} {ms : Addr → Str → Option Addr → MS} {tbl : List (Str × Bool)} {hds : List ExceptHandler} {cl : List Cl}
theorem cl_nil : SCl Γ fo [] [] := ⟨[], fun W D Z F μ st env σ H x d g re xr hp => (show KXS Γ.K Z F μ W x env st from hp) F μ H σ d Ext.refl g re xr, fun X c hf => .nil⟩
theorem cl_as (hi : Γ.N[i]? = some n) (hl : Γ.sc.names.lookup n = some .local) (hg : Γ.sc.names.lookup x = some .globalImplicit) (hm : Γ.mg x = some (.ref (He.ga Γ.K x))) (hdb : (x == ("__debug__" : Str)) = false)
    (htb : ∀ p ∈ tbl, PySem.W.exmOne Γ.K (.ref (He.ga Γ.K p.1)) (.ref (He.ga Γ.K x)) = some p.2) (hsu : ∀ a c d, SB (Γ.hot a c d) fo (b₀ :: suite) (ms a c d)) (hr : SCl Γ fo hds cl) : SCl Γ fo (.ExceptHandler (some (.Name x np)) (some n) (b₀ :: suite) pos' :: hds) ((tbl, some i, ms) :: cl) := by
  classical
  obtain ⟨l, r1, r2⟩ := hr.run
  let ts : Addr → Value → Option Addr → TS := fun a cls d D σ H => ∃ c, cls = .ref (He.ga Γ.K c) ∧ Classical.choose ((hsu a c d).run W0) D σ H
  have hts : ∀ a c d, SimS Γ.K W0 (Classical.choose ((hsu a c d).run W0)) (ms a c d) ∧ ∀ X, CtxOk (Γ.hot a c d) X → (∀ x, fo x = true → X.fn x = true) → Takes X W0 → PSs X (b₀ :: suite) (Classical.choose ((hsu a c d).run W0)) := fun a c d => Classical.choose_spec ((hsu a c d).run W0)
  refine ⟨(.ref (He.ga Γ.K x), some i, ts) :: l, fun W D Z F μ st env σ H y d g re xr hp => ?_, fun X c hf => ?_⟩
  · unfold pick at hp
    cases hlk : tbl.lookup y.c with
    | none => rw [hlk] at hp; exact hp.elim
    | some b =>
      rw [hlk] at hp
      refine ⟨b, htb _ (lookup_mem' hlk), fun hbt a hna => ?_, fun hbf => ?_⟩
      · subst hbt
        dsimp only at hp
        split at hp
        · rename_i hall
          rw [← hall a d] at hp
          refine ⟨y.c, rfl, (hts a y.c d).1 Z F μ st _ _ H _ g (re.set i (xr.xcp a)) ?_⟩
          generalize ms a y.c d (env.set i (some (.xcp a d y.c y.ns y.vs))) st = r2 at hp ⊢
          cases r2 with
          | nx e2 s2 =>
            intro F3 μ3 H3 σ3 e3 g3 re3
            exact (show KN Γ.K Z F μ D.nx (e2.set i none) s2 from hp) F3 μ3 H3 _ e3 g3 (re3.unset' i)
          | rt a s2 => exact hp
          | bk e2 s2 =>
            intro F3 μ3 H3 σ3 e3 g3 re3
            exact (show KN Γ.K Z F μ D.bk (e2.set i none) s2 from hp) F3 μ3 H3 _ e3 g3 (re3.unset' i)
          | ct e2 s2 =>
            intro F3 μ3 H3 σ3 e3 g3 re3
            exact (show KN Γ.K Z F μ D.ct (e2.set i none) s2 from hp) F3 μ3 H3 _ e3 g3 (re3.unset' i)
          | exc _ _ _ => exact hp.elim
          | stuck => exact hp.elim
        · exact hp.elim
      · subst hbf
        exact r1 W D Z F μ st env σ H y d g re xr hp
  · refine .as (c.name hi) (by unfold Env.kindOf; rw [c.sc]; exact hl) ⟨c.gl hg, hdb, .inl (by rw [c.mg]; exact hm)⟩ (fun a oe cls d pn hz hfl => ⟨fun pins s σ H D I hh => ?_⟩) (r2 X c hf)
    obtain ⟨c', rfl, hh⟩ := hh
    exact ((hts a c' d).2 _ (c.hot hz hfl) hf takes0).run pins s σ H D I hh
theorem cl_no (hg : Γ.sc.names.lookup x = some .globalImplicit) (hm : Γ.mg x = some (.ref (He.ga Γ.K x))) (hdb : (x == ("__debug__" : Str)) = false)
    (htb : ∀ p ∈ tbl, PySem.W.exmOne Γ.K (.ref (He.ga Γ.K p.1)) (.ref (He.ga Γ.K x)) = some p.2) (hsu : ∀ a c d, SB (Γ.hot a c d) fo (b₀ :: suite) (ms a c d)) (hr : SCl Γ fo hds cl) : SCl Γ fo (.ExceptHandler (some (.Name x np)) none (b₀ :: suite) pos' :: hds) ((tbl, none, ms) :: cl) := by
  classical
  obtain ⟨l, r1, r2⟩ := hr.run
  let ts : Addr → Value → Option Addr → TS := fun a cls d D σ H => ∃ c, cls = .ref (He.ga Γ.K c) ∧ Classical.choose ((hsu a c d).run W0) D σ H
  have hts : ∀ a c d, SimS Γ.K W0 (Classical.choose ((hsu a c d).run W0)) (ms a c d) ∧ ∀ X, CtxOk (Γ.hot a c d) X → (∀ x, fo x = true → X.fn x = true) → Takes X W0 → PSs X (b₀ :: suite) (Classical.choose ((hsu a c d).run W0)) := fun a c d => Classical.choose_spec ((hsu a c d).run W0)
  refine ⟨(.ref (He.ga Γ.K x), none, ts) :: l, fun W D Z F μ st env σ H y d g re xr hp => ?_, fun X c hf => ?_⟩
  · unfold pick at hp
    cases hlk : tbl.lookup y.c with
    | none => rw [hlk] at hp; exact hp.elim
    | some b =>
      rw [hlk] at hp
      refine ⟨b, htb _ (lookup_mem' hlk), fun hbt a hna => ?_, fun hbf => ?_⟩
      · subst hbt
        dsimp only at hp
        split at hp
        · rename_i hall
          rw [← hall a d] at hp
          refine ⟨y.c, rfl, (hts a y.c d).1 Z F μ st _ _ H _ g re ?_⟩
          generalize ms a y.c d env st = r2 at hp ⊢
          cases r2 with
          | exc _ _ _ => exact hp.elim
          | _ => exact hp
        · exact hp.elim
      · subst hbf
        exact r1 W D Z F μ st env σ H y d g re xr hp
  · refine .no ⟨c.gl hg, hdb, .inl (by rw [c.mg]; exact hm)⟩ (fun a oe cls d pn hz hfl => ⟨fun pins s σ H D I hh => ?_⟩) (r2 X c hf)
    obtain ⟨c', rfl, hh⟩ := hh
    exact ((hts a c' d).2 _ (c.hot hz hfl) hf takes0).run pins s σ H D I hh
theorem st_tryM {h₀ : ExceptHandler} (hb : SB Γ fo body m) (hc : SCl Γ fo (h₀ :: hds) cl) (hst : Γ.st = true := by rfl) (hhx : Γ.hx = none := by rfl) : SS Γ fo (.Try body (h₀ :: hds) [] [] pos) (sTryM cl m) :=
  ⟨fun W => by
    classical
    obtain ⟨l, r1, r2⟩ := hc.run
    let tb : WX → TS := fun W => Classical.choose (hb.run W)
    have htbs : ∀ W, SimS Γ.K W (tb W) m ∧ ∀ X, CtxOk Γ X → (∀ x, fo x = true → X.fn x = true) → Takes X W → PSs X body (tb W) := fun W => Classical.choose_spec (hb.run W)
    refine ⟨fun D σ H => tb (wCl Γ.K W D l) D σ H, fun Z F μ st env σ H D g re hp => ?_, fun X c hf k => ?_⟩
    · refine (htbs _).1 Z F μ st env σ H D g re ?_
      unfold sTryM at hp
      generalize m env st = r at hp ⊢
      cases r with
      | exc y e s =>
        intro F' μ' H' σ' d e' g' re' xr
        exact r1 W D Z F' μ' s e σ' H' y d g' re' xr (KS.ext e' hp)
      | _ => exact hp
    · obtain ⟨k1, k2⟩ := c.stk hst
      have hK := c.K
      rw [← hK]
      exact ps_tryN k1 k2 c.nd k (fun W' pn xe tk ho => (htbs W').2 _ (c.tr ho hhx) hf tk) (r2 X c hf)⟩
end
/-! ### xs[::-1] -/
def revL (mk : Bool) : Op1 := fun a st => match lstR a st with
  | some xs => some (newL mk xs.reverse st)
  | none => none
theorem Reps.rev {K : PySem.W.Frag} {F : Hp} {μ : List Addr} : ∀ {xs : List A} {vs : List V}, Reps K F μ xs vs → Reps K F μ xs.reverse vs.reverse
  | _, _, .nil => .nil
  | _, _, .cons r t => by rw [List.reverse_cons, List.reverse_cons]; exact (Reps.rev t).append (.cons r .nil)
section
variable {Γ : G} {fo : Str → Bool} {e : Expr} {es : List Expr} {m : AEnv → Store → Res A} {ms : AEnv → Store → Res (List A)} {pos p p1 p2 p3 : Pos} {k : Nat}
theorem s_rev {mk : Bool} (h : SE Γ e m) : SE Γ (.Subscript e (.Slice none none (some (.UnaryOp .USub (.Constant (.int 1) k p1) p2)) p3) pos) (eUn (revL mk) m) :=
  ⟨fun W => by
    obtain ⟨t, s1, q1⟩ := h.run W
    refine ⟨tRevL Γ.K t, ?_, fun X c tk => by rw [← c.K]; exact pe_revL (q1 X c tk)⟩
    refine Sim.bind (k := fun (x : V) σ H (Q : VK) => ∃ a xs, x = .ref a ∧ SqL Γ.K H a xs ∧ ∀ p, H p = none → Q (.ref p) (upd H p (.lst xs.reverse))) (m' := fun a env st1 => Res.of (revL mk a st1)) s1 fun Z F μ st env σ H Q a x g re ra hp => ?_
    obtain ⟨c, st3, e, k⟩ := Res.post_of hp
    unfold revL at e
    cases el : lstR a st with
    | none => rw [el] at e; cases e
    | some xs =>
      rw [el] at e
      have e2 : newL mk xs.reverse st = (c, st3) := Option.some.inj e
      obtain ⟨p, vs, rfl, h1, r1⟩ := lstR_ok g ra el
      refine ⟨p, vs, rfl, h1, fun q hq => newL_ok (mk := mk) g hq r1.rev ?_⟩
      rw [e2]; exact k⟩
/-! ### len, anywhere -/
theorem s_lenH (hg : Γ.sc.names.lookup ("len" : Str) = some .globalImplicit) (hm : Γ.mg "len" = none) (ha : SA Γ (e :: es) ms)
    (he : ∀ env, starEach (e :: es) env = (false, eval e env) :: starEach es env := by intro _; rfl) (hpl : ∀ env, (backTo pos (starEach es env)).any (·.1) = false := by intro _; rfl) : SE Γ (.Call (.Name "len" p) (e :: es) [] pos) (eCB (one1 lenA) ms) :=
  ⟨fun W => by
    obtain ⟨ta, sa, pa⟩ := ha.run W
    refine ⟨_, sim_cb (K := Γ.K) (r := fun xs H Q => ∃ x n, xs = [x] ∧ LenV Γ.K x H n ∧ Q (.int n) H) (fun Z F μ st st' H as c xs Q g ra e k => ?_) sa, fun X c t => ?_⟩
    · obtain ⟨r, h1, h2⟩ := (cb_len.ex)
      cases as with
      | nil => cases e
      | cons a as =>
        cases as with
        | cons b as => cases e
        | nil =>
          obtain ⟨x, rfl, ra1⟩ := ra.one
          have seq_len : (seqR a st).map (fun xs => (A.int xs.length, st)) = some (c, st') → ∃ x' n, [x] = [x'] ∧ LenV Γ.K x' H n ∧ Q (.int n) H := fun e => by
            cases e1 : seqR a st with
            | none => rw [e1] at e; cases e
            | some xs =>
              rw [e1] at e; cases e
              obtain ⟨p, vs, rfl, h1, r1⟩ := seqR_ok g ra1 e1
              refine ⟨_, xs.length, rfl, ?_, k.same g (.int _)⟩
              rcases h1 with h1 | h1
              · exact .inl ⟨vs, h1, r1.length⟩
              · exact .inr ⟨vs, h1, r1.length⟩
          cases a with
          | str y =>
            cases ra1
            have e : (if y.length ≤ sizeLine then some (A.int y.length, st) else none) = some (c, st') := e
            by_cases hl : y.length ≤ sizeLine
            · rw [if_pos hl] at e; cases e; exact ⟨V.str y, y.length, rfl, (show y.length ≤ sizeLine ∧ y.length = y.length from ⟨hl, rfl⟩), k.same g (.int _)⟩
            · rw [if_neg hl] at e; cases e
          | _ => exact seq_len e
    · rw [← c.K]
      exact pe_callB call_len (c.gl hg) (c.mgn hm) PySem.boot_len (pa X c t) (by decide) (by decide) (he _) (hpl _)⟩
end
/-! ### how these are computed -/
section
variable {env : AEnv} {st : Store} {m mo : AEnv → Store → Res A} {ms : AEnv → Store → Res (List A)} {cs : List Str} {f c mn : Str} {M : List A → Store → Res A}
theorem eMeth_ap : eMeth c mn M mo ms env st = (mo env st).bind fun a st1 => match insA a st1 with
  | some (c', ns, xs) => if c' = c ∧ (ns.zip xs).lookup mn = none ∧ ns.length = xs.length then (ms env st1).bind fun as st2 => M (a :: as) st2 else .stuck
  | none => .stuck := (rfl)
theorem eMake_ap : eMake c M ms env st = (ms env st).bind fun as st1 => mkIns c M as st1 := (rfl)
theorem sFldM_ap : sFldM cs f m mo env st = (m env st).toS env fun v st1 => (mo env st1).toS env fun o st2 => match fldSet cs f o v st2 with
  | some st3 => .nx env st3
  | none => .stuck := (rfl)
theorem mkIns_ok {as : List A} {ns : List Str} {xs : List A} (h : M (.cell st.length :: as) (st ++ [.obj c [] []]) = .ok .non (st ++ [.obj c ns xs])) (hb : belowL st.length xs = true) : mkIns c M as st = .ok (.obj c ns xs) st := by
  unfold mkIns
  rw [h]
  simp only [List.getElem?_append_right (Nat.le_refl _), Nat.sub_self, List.getElem?_cons_zero]
  rw [if_pos ⟨trivial, hb, okS_app⟩, List.take_left]
theorem mkIns_exc {as : List A} {x : Exc} {d : C} (h : M (.cell st.length :: as) (st ++ [.obj c [] []]) = .exc x (st ++ [d])) (hb : belowL st.length x.vs = true) : mkIns c M as st = .exc x st := by
  unfold mkIns
  rw [h]
  simp only
  rw [if_pos ⟨hb, okS_app⟩, List.take_left]
end
end SL

set_option Elab.async false
set_option linter.all false
set_option maxRecDepth 100000
set_option maxHeartbeats 4000000
/-! SLv: math.gcd; helpers for loops, comprehensions, several clauses. -/
namespace SL
open PySem PySem.Spec L2
open PyProof.Rows hiding St
def gcdA : Op2 := fun a b st => match a, b with
  | .int i, .int j => some (.int ((Nat.gcd i.natAbs j.natAbs : Nat) : Int), st)
  | _, _ => none
@[simp] theorem gcdA_ii {i j : Int} {st : Store} : gcdA (.int i) (.int j) st = some (.int ((Nat.gcd i.natAbs j.natAbs : Nat) : Int), st) := (rfl)
theorem s_gcd {Γ : G} {x : Str} {e : Expr} {es : List Expr} {ms : AEnv → Store → Res (List A)} {p pos : Pos} (hg : Γ.sc.names.lookup x = some .globalImplicit) (hm : Γ.mg x = some (.builtin "math.gcd")) (ha : SA Γ (e :: es) ms) (hdb : (x == ("__debug__" : Str)) = false := by decide)
    (he : ∀ env, starEach (e :: es) env = (false, eval e env) :: starEach es env := by intro _; rfl) (hpl : ∀ env, (backTo pos (starEach es env)).any (·.1) = false := by intro _; rfl) : SE Γ (.Call (.Name x p) (e :: es) [] pos) (eCB (two2 gcdA) ms) :=
  ⟨fun W => by
    obtain ⟨ta, sa, pa⟩ := ha.run W
    refine ⟨_, sim_cb (K := Γ.K) (r := rGcd) (fun Z F μ st st' H as c xs Q g ra e k => ?_) sa, fun X c t => ?_⟩
    · cases as with
      | nil => cases e
      | cons a as =>
        cases as with
        | nil => cases e
        | cons b as =>
          cases as with
          | cons c as => cases e
          | nil =>
            obtain ⟨x, y, rfl, ra1, rb1⟩ := ra.two
            cases a with
            | int i =>
              cases b with
              | int j => cases ra1; cases rb1; cases e; exact ⟨i, j, rfl, k.same g (.int _)⟩
              | _ => cases e
            | _ => cases e
    · exact pe_callBfun cr_gcd (c.gl hg) (by rw [c.mg]; exact hm) (pa X c t) hdb (he _) (hpl _)⟩
end SL

set_option Elab.async false
set_option linter.all false
set_option maxRecDepth 100000
set_option maxHeartbeats 4000000
/-! SLw: a, b = e1, e2 of names. -/
namespace SL
open PySem PySem.Spec L2
open PyProof.Rows hiding St
def nostar : Expr → Bool
  | .Starred .. => false
  | _ => true
def fn? (sc : Scope) : Bool := !((if sc.kind.isAnnotationScope then ScopeKind.function else sc.kind) != .function)
def swB (sc : Scope) (x y : Str) (px py : Pos) (a b : Expr) : Bool := fn? sc && (sc.names.lookup x == some .local && (sc.names.lookup y == some .local && (py.line == px.line && (px.line == px.line && (([x, y] : List Str).eraseDups.length == 2 && (nostar a && (nostar b && (!([a, b].all (foldedForSure 8)) && !([a, b].all (constantsAlone 8))))))))))
def swN (a b : Expr) : Bool := nostar a && (nostar b && [a, b].all (foldedForSure 8))
theorem star_any {a b : Expr} (ha : nostar a = true) (hb : nostar b = true) : ([a, b].any fun | .Starred .. => true | _ => false) = false := by
  cases a <;> cases b <;> first | rfl | (cases ha; done) | (cases hb; done)
theorem sw_par {Γ : G} {X : Cx} (c : CtxOk Γ X) {x y : Str} {px py pt pt2 : Pos} {a b : Expr} {kt k2} (h : swB Γ.sc x y px py a b = true) : swappedStores [.Tuple [.Name x px, .Name y py] kt pt] (.Tuple [a, b] k2 pt2) X.env = pure (some [x, y]) := by
  unfold swB fn? at h
  simp only [Bool.and_eq_true, Bool.not_eq_true'] at h
  obtain ⟨h1, h2, h3, h4, h5, h6, h7, h8, h9, h10⟩ := h
  have hs := star_any h7 h8
  simp only [swappedStores, Env.blockKind, Env.kindOf, c.sc]
  rw [h1]
  simp only [List.length_cons, List.length_nil, List.head?_cons, Option.map_some, Option.getD_some, Expr.pos, List.filterMap_cons, List.filterMap_nil, h2, h3, h4, h5, Bool.and_self, if_true, h9, h10]
  simp only [Bool.or_false, bne_self_eq_false, Bool.not_true, beq_self_eq_true, Bool.true_or, Bool.false_or]
  rw [if_neg Bool.false_ne_true]
  split
  · rename_i z
    exact absurd (hs.symm.trans z) Bool.false_ne_true
  have h6' : (([x, y] : List Str).eraseDups.length != 0 + 1 + 1) = false := by
    rw [show (([x, y] : List Str).eraseDups.length) = 2 from eq_of_beq h6]; rfl
  rw [h6']
  rfl
theorem sw_none {env : Env} {x y : Str} {px py pt pt2 : Pos} {a b : Expr} {kt k2} (h : swN a b = true) : swappedStores [.Tuple [.Name x px, .Name y py] kt pt] (.Tuple [a, b] k2 pt2) env = pure none := by
  unfold swN at h
  simp only [Bool.and_eq_true] at h
  obtain ⟨h7, h8, h9⟩ := h
  have hs := star_any h7 h8
  simp only [swappedStores]
  split
  · rfl
  · split
    · rfl
    · split
      · rfl
      · first | rfl | (rw [h9]; rfl)
end SL

set_option Elab.async false
set_option linter.all false
set_option maxRecDepth 100000
set_option maxHeartbeats 4000000
/-! printed by gen.py from the linked text: the defs' plain functions, and that each def keeps to its own -/
namespace Gk20
open PySem PySem.Spec L2 SL
open PyProof.Rows hiding St
def top (i : Nat) : Stmt := PySem.Challenge.pw_knotwork_k20_fractions_and_numbers.main.body.getD i (.Pass ⟨0, 0, 0, 0⟩)

abbrev s__law_deck : Stmt := top 15
abbrev s__law_take : Stmt := top 16
abbrev s__law_number : Stmt := top 23
abbrev s__law_divisor : Stmt := top 18
abbrev s__law_reduced : Stmt := top 19
abbrev s_reduced_fraction : Stmt := top 5
abbrev s__law_plain : Stmt := top 17
abbrev s_terms_of : Stmt := top 7
abbrev s__law_value : Stmt := top 20
abbrev s_value_of : Stmt := top 6
abbrev s__law_terms_right : Stmt := top 24
abbrev s_rational_expression : Stmt := top 8
abbrev s__law_nested : Stmt := top 21
abbrev s__law_quotients : Stmt := top 25
abbrev s__law_inverse : Stmt := top 26
abbrev s_check_bridge : Stmt := top 10
abbrev s_inverse_number : Stmt := top 11
abbrev s_least_number : Stmt := top 12
abbrev s_same_two_bridge : Stmt := top 13
abbrev s__law_both : Stmt := top 27
abbrev s__law_numbers_right : Stmt := top 28
abbrev s__law_refusal : Stmt := top 22
abbrev s_law : Stmt := top 29
abbrev s_InvalidTangle : Stmt := top 3
noncomputable def L1__law_deck : MS :=
  (sSeq (sEx (eM "list" appendM (eVar 3) (aCons (eBin modOp (eCB (one1 intA) (aCons (eVar 7) aNil)) (eC (.int 1000003))) aNil)))
  (sAsg (gN 7) (eBin fdivOp (eVar 7) (eC (.int 1000003)))))
noncomputable def L2__law_deck : MS :=
  (sSeq (sAsg (gN 4) (eBin modOp (eCB (one1 intA) (aCons (eBin (addOp false) (eBin (addOp false) (eBin (mulOp false) (eVar 4) (eC (.int 69621))) (eVar 8)) (eC (.int 1))) aNil)) (eC (.int 2147483629))))
  (sEx (eM "list" appendM (eVar 3) (aCons (eBin modOp (eCB (one1 intA) (aCons (eBin fdivOp (eVar 4) (eC (.int 5))) aNil)) (eC (.int 1000003))) aNil))))
noncomputable def L3__law_deck : MS :=
  (sSeq (sAsg (gN 6) (eC (.int 0)))
  (sSeq (sIf (tOf (eBin ltOp (eVar 5) (eCB (one1 lenA) (aCons (eVar 0) aNil)))) (sAsg (gN 6) (eBin ixOp (eVar 0) (eVar 5))) sNil)
  (sSeq (sAsg (gN 7) (eCB (one1 absA) (aCons (eVar 6) aNil)))
  (sIf (tOf (eBin geOp (eVar 7) (eBin powOp (eC (.int 10)) (eC (.int 30))))) (sFor (mRng1 (aCons (eVar 2) aNil)) (gN 8) L1__law_deck) (sSeq (sAsg (gN 4) (eBin modOp (eCB (one1 intA) (aCons (eBin (addOp false) (eBin (addOp false) (eBin (addOp false) (eBin (mulOp false) (eVar 4) (eC (.int 48271))) (eBin (mulOp false) (eC (.int 2)) (eVar 7))) (eCB (one1 intA) (aCons (eBin ltOp (eVar 6) (eC (.int 0))) aNil))) (eVar 5)) aNil)) (eC (.int 2147483647))))
  (sFor (mRng1 (aCons (eVar 2) aNil)) (gN 8) L2__law_deck))))))
noncomputable def B__law_deck : MS :=
  (sSeq (sAsg (gN 3) (eLst true aNil))
  (sSeq (sAsg (gN 4) (eBin (addOp false) (eC (.int 7)) (eCB (one1 lenA) (aCons (eVar 0) aNil))))
  (sSeq (sFor (mRng1 (aCons (eVar 1) aNil)) (gN 5) L3__law_deck)
  (sSeq (sEx (eM "list" reverseM (eVar 3) aNil))
  (sRet (eVar 3))))))
noncomputable def M__law_deck : List A → Store → Res A := fnM true 3 9 B__law_deck
noncomputable def B__law_take : MS :=
  (sSeq (sIf (tOf (eBin eqOp (eCB (one1 lenA) (aCons (eVar 0) aNil)) (eC (.int 0)))) (sRet (eC (.int 0))) sNil)
  (sRet (eBin modOp (eCB (one1 intA) (aCons (eM "list" popM (eVar 0) aNil) aNil)) (eVar 1))))
noncomputable def M__law_take : List A → Store → Res A := fnM false 2 2 B__law_take
noncomputable def B__law_number : MS :=
  (sSeq (sAsg (gN 1) (eBin subOp (eCall M__law_take (aCons (eVar 0) (aCons (eC (.int 41)) aNil))) (eC (.int 20))))
  (sSeq (sAsg (gN 2) (eBin (addOp false) (eBin (mulOp false) (eBin subOp (eCall M__law_take (aCons (eVar 0) (aCons (eC (.int 1000003)) aNil))) (eC (.int 500000))) (eBin powOp (eC (.int 10)) (eC (.int 12)))) (eCall M__law_take (aCons (eVar 0) (aCons (eC (.int 1000)) aNil)))))
  (sRet (eBin ixOp (eLst false (aCons (eVar 1) (aCons (eVar 1) (aCons (eVar 2) (aCons (eC (.int 0)) aNil))))) (eCall M__law_take (aCons (eVar 0) (aCons (eC (.int 4)) aNil)))))))
noncomputable def M__law_number : List A → Store → Res A := fnM false 1 3 B__law_number
noncomputable def L1__law_divisor : MS :=
  (sSeq (sIf (tOf (eBin eqOp (eVar 1) (eC (.int 0)))) sBk sNil)
  (sSeq (sAsg (gN 3) (eBin modOp (eCB (one1 intA) (aCons (eVar 0) aNil)) (eVar 1)))
  (sSeq (sAsg (gN 0) (eVar 1))
  (sAsg (gN 1) (eVar 3)))))
noncomputable def B__law_divisor : MS :=
  (sSeq (sAsg (gN 0) (eCB (one1 absA) (aCons (eVar 0) aNil)))
  (sSeq (sAsg (gN 1) (eCB (one1 absA) (aCons (eVar 1) aNil)))
  (sSeq (sFor (mRng1 (aCons (eC (.int 400)) aNil)) (gN 2) L1__law_divisor)
  (sRet (eVar 0)))))
noncomputable def M__law_divisor : List A → Store → Res A := fnM false 2 4 B__law_divisor
noncomputable def B__law_reduced : MS :=
  (sSeq (sAsg (gN 2) (eCall M__law_divisor (aCons (eVar 0) (aCons (eVar 1) aNil))))
  (sSeq (sIf (tOrM (tOf (eBin ltOp (eVar 1) (eC (.int 0)))) (tAndM (tOf (eBin eqOp (eVar 1) (eC (.int 0)))) (tOf (eBin ltOp (eVar 0) (eC (.int 0)))))) (sAsg (gN 2) (eUn negOp (eVar 2))) sNil)
  (sRet (eTup (aCons (eBin fdivOp (eVar 0) (eVar 2)) (aCons (eBin fdivOp (eVar 1) (eVar 2)) aNil))))))
noncomputable def M__law_reduced : List A → Store → Res A := fnM false 2 3 B__law_reduced
noncomputable def B_reduced_fraction : MS :=
  (sSeq (sIf (tAndM (tOf (eBin eqOp (eVar 0) (eC (.int 0)))) (tOf (eBin eqOp (eVar 1) (eC (.int 0))))) (sRaise (mkWhat "InvalidTangle" (eC (.str "fraction")))) sNil)
  (sSeq (sAsg (gN 2) (eCB (two2 gcdA) (aCons (eVar 0) (aCons (eVar 1) aNil))))
  (sSeq (sIf (tOrM (tOf (eBin ltOp (eVar 1) (eC (.int 0)))) (tAndM (tOf (eBin eqOp (eVar 1) (eC (.int 0)))) (tOf (eBin ltOp (eVar 0) (eC (.int 0)))))) (sAsg (gN 2) (eUn negOp (eVar 2))) sNil)
  (sRet (eTup (aCons (eBin fdivOp (eVar 0) (eVar 2)) (aCons (eBin fdivOp (eVar 1) (eVar 2)) aNil)))))))
noncomputable def M_reduced_fraction : List A → Store → Res A := fnM false 2 3 B_reduced_fraction
noncomputable def e1__law_plain (self : List A → Store → Res A) : AEnv → Store → Res A :=
  (eCall self (aCons (eVar 1) aNil))
noncomputable def B__law_plain (self : List A → Store → Res A) : MS :=
  (sSeq (sIf (tTru (eIsiT (eVar 0) (aCons (eC (.ty "tuple")) (aCons (eC (.ty "list")) aNil)))) (sRet (eBin (addOp false) (eLst false (aCons (eCB (two2 isiB) (aCons (eVar 0) (aCons (eC (.ty "list")) aNil))) aNil)) (eLc false (mSeq (eVar 0)) (gN 1) [1] tYesM (e1__law_plain self)))) sNil)
  (sSeq (sIf (tOrM (tOf (eBin (isNOp false) (eVar 0) (eC .non))) (tTru (eCB (two2 isiB) (aCons (eVar 0) (aCons (eC (.ty "bool")) aNil))))) (sRet (eBin ixOp (eLst false (aCons (eC (.str "None")) (aCons (eC (.str "False")) (aCons (eC (.str "True")) aNil)))) (eBin (addOp false) (eCB (one1 intA) (aCons (eBin (isNOp true) (eVar 0) (eC .non)) aNil)) (eCB (one1 intA) (aCons (eBin (isNOp false) (eVar 0) (eC (.bl true))) aNil))))) sNil)
  (sSeq (sIf (tTru (eIsiT (eVar 0) (aCons (eC (.ty "int")) (aCons (eC (.ty "str")) aNil)))) (sRet (eLst false (aCons (eCB (two2 isiB) (aCons (eVar 0) (aCons (eC (.ty "str")) aNil))) (aCons (eVar 0) aNil)))) sNil)
  (sRet (eC (.str "another"))))))
noncomputable def M__law_plain_ : Nat → List A → Store → Res A
  | 0 => fun _ _ => .stuck
  | n + 1 => fnM false 1 2 (B__law_plain (M__law_plain_ n))
noncomputable def M__law_plain : List A → Store → Res A := M__law_plain_ 45
noncomputable def p1_terms_of : AEnv → Store → Res Bool :=
  (tOf (eBin neOp (eVar 1) (eC (.int 0))))
noncomputable def W2_terms_of : MS :=
  (sSeq (sEx (eM "list" appendM (eVar 2) (aCons (eBin fdivOp (eVar 0) (eVar 1)) aNil)))
  (sPar 0 1 (aCons (eVar 1) (aCons (eBin modOp (eVar 0) (eVar 1)) aNil))))
noncomputable def B_terms_of : MS :=
  (sSeq (sIf (tOf (eBin eqOp (eVar 1) (eC (.int 0)))) (sRet (eLst false (aCons (eC (.int 0)) (aCons (eC (.int 0)) aNil)))) sNil)
  (sSeq (sAsg (gN 2) (eLst true aNil))
  (sSeq (sWhile p1_terms_of W2_terms_of)
  (sSeq (sEx (eM "list" reverseM (eVar 2) aNil))
  (sRet (eVar 2))))))
noncomputable def M_terms_of : List A → Store → Res A := fnM false 2 3 B_terms_of
noncomputable def L1__law_value : MS :=
  (sIf (tOf (eBin eqOp (eBin ixOp (eVar 1) (eC (.int 0))) (eC (.int 0)))) (sAsg (gN 1) (eTup (aCons (eC (.int 1)) (aCons (eC (.int 0)) aNil)))) (sIf (tOf (eBin eqOp (eBin ixOp (eVar 1) (eC (.int 1))) (eC (.int 0)))) (sAsg (gN 1) (eTup (aCons (eVar 2) (aCons (eC (.int 1)) aNil)))) (sAsg (gN 1) (eCall M__law_reduced (aCons (eBin (addOp false) (eBin (mulOp false) (eVar 2) (eBin ixOp (eVar 1) (eC (.int 0)))) (eBin ixOp (eVar 1) (eC (.int 1)))) (aCons (eBin ixOp (eVar 1) (eC (.int 0))) aNil))))))
noncomputable def B__law_value : MS :=
  (sSeq (sAsg (gN 1) (eTup (aCons (eBin ixOp (eVar 0) (eC (.int 0))) (aCons (eC (.int 1)) aNil))))
  (sSeq (sFor (mSeq (eSl false (eVar 0) (oSome (eC (.int 1))) oNone)) (gN 2) L1__law_value)
  (sRet (eVar 1))))
noncomputable def M__law_value : List A → Store → Res A := fnM false 1 3 B__law_value
noncomputable def L1_value_of : MS :=
  (sPar 1 2 (aCons (eBin (addOp false) (eVar 2) (eBin (mulOp false) (eVar 3) (eVar 1))) (aCons (eVar 1) aNil)))
noncomputable def B_value_of : MS :=
  (sSeq (sIf (tNotM (tTru (eVar 0))) (sRaise (mkWhat "InvalidTangle" (eC (.str "items")))) sNil)
  (sSeq (sPar 1 2 (aCons (eBin ixOp (eVar 0) (eC (.int 0))) (aCons (eC (.int 1)) aNil)))
  (sSeq (sFor (mSeq (eSl false (eVar 0) (oSome (eC (.int 1))) oNone)) (gN 3) L1_value_of)
  (sRet (eCall M_reduced_fraction (aCons (eVar 1) (aCons (eVar 2) aNil)))))))
noncomputable def M_value_of : List A → Store → Res A := fnM false 1 4 B_value_of
noncomputable def t1__law_terms_right : AEnv → Store → Res Bool :=
  (tOf (eBin ltOp (eVar 3) (eC (.int 1))))
noncomputable def e2__law_terms_right : AEnv → Store → Res A :=
  (eVar 3)
noncomputable def B__law_terms_right : MS :=
  (sSeq (sAsg (gN 2) (eCall M_terms_of (aCons (eVar 0) (aCons (eVar 1) aNil))))
  (sSeq (sIf (tOf (eBin eqOp (eVar 1) (eC (.int 0)))) (sRet (eBin eqOp (eCall M__law_plain (aCons (eVar 2) aNil)) (eCall M__law_plain (aCons (eLst false (aCons (eC (.int 0)) (aCons (eC (.int 0)) aNil))) aNil)))) sNil)
  (sSeq (sIf (tOrM (tNotM (tTru (eCB (two2 isiB) (aCons (eVar 2) (aCons (eC (.ty "list")) aNil))))) (tOrM (tOf (eBin eqOp (eCB (one1 lenA) (aCons (eVar 2) aNil)) (eC (.int 0)))) (tOf (eBin neOp (eBin ixOp (eVar 2) (eUn negOp (eC (.int 1)))) (eBin fdivOp (eVar 0) (eVar 1)))))) (sRet (eC (.bl false))) sNil)
  (sSeq (sIf (tOrM (tOf (eBin gtOp (eCB (one1 lenA) (aCons (eLc false (mSeq (eSl false (eVar 2) oNone (oSome (eUn negOp (eC (.int 1)))))) (gN 3) [3] t1__law_terms_right e2__law_terms_right) aNil)) (eC (.int 0)))) (tAndM (tOf (eBin gtOp (eCB (one1 lenA) (aCons (eVar 2) aNil)) (eC (.int 1)))) (tOf (eBin eqOp (eBin ixOp (eVar 2) (eC (.int 0))) (eC (.int 1)))))) (sRet (eC (.bl false))) sNil)
  (sRet (eAndV (eBin eqOp (eCall M__law_value (aCons (eVar 2) aNil)) (eTup (aCons (eVar 0) (aCons (eVar 1) aNil)))) (eBin eqOp (eCall M__law_plain (aCons (eCall M_value_of (aCons (eVar 2) aNil)) aNil)) (eCall M__law_plain (aCons (eTup (aCons (eVar 0) (aCons (eVar 1) aNil))) aNil)))))))))
noncomputable def M__law_terms_right : List A → Store → Res A := fnM false 2 4 B__law_terms_right
noncomputable def L1_rational_expression : MS :=
  (sAsg (gN 1) (eTup (aCons (eC (.str "sum")) (aCons (eTup (aCons (eC (.str "mirror")) (aCons (eTup (aCons (eC (.str "turn")) (aCons (eVar 1) aNil))) aNil))) (aCons (eTup (aCons (eC (.str "integer")) (aCons (eVar 2) aNil))) aNil)))))
noncomputable def B_rational_expression : MS :=
  (sSeq (sIf (tNotM (tTru (eVar 0))) (sRaise (mkWhat "InvalidTangle" (eC (.str "items")))) sNil)
  (sSeq (sAsg (gN 1) (eTup (aCons (eC (.str "integer")) (aCons (eBin ixOp (eVar 0) (eC (.int 0))) aNil))))
  (sSeq (sFor (mSeq (eSl false (eVar 0) (oSome (eC (.int 1))) oNone)) (gN 2) L1_rational_expression)
  (sRet (eVar 1)))))
noncomputable def M_rational_expression : List A → Store → Res A := fnM false 1 3 B_rational_expression
noncomputable def B__law_nested (self : List A → Store → Res A) : MS :=
  (sSeq (sAsg (gN 1) (eTup (aCons (eC (.str "integer")) (aCons (eBin ixOp (eVar 0) (eUn negOp (eC (.int 1)))) aNil))))
  (sSeq (sIf (tOf (eBin eqOp (eCB (one1 lenA) (aCons (eVar 0) aNil)) (eC (.int 1)))) (sRet (eVar 1)) sNil)
  (sRet (eTup (aCons (eC (.str "sum")) (aCons (eTup (aCons (eC (.str "mirror")) (aCons (eTup (aCons (eC (.str "turn")) (aCons (eCall self (aCons (eSl false (eVar 0) oNone (oSome (eUn negOp (eC (.int 1))))) aNil)) aNil))) aNil))) (aCons (eVar 1) aNil)))))))
noncomputable def M__law_nested_ : Nat → List A → Store → Res A
  | 0 => fun _ _ => .stuck
  | n + 1 => fnM false 1 2 (B__law_nested (M__law_nested_ n))
noncomputable def M__law_nested : List A → Store → Res A := M__law_nested_ 14
noncomputable def L1__law_quotients : MS :=
  (sSeq (sAsg (gN 7) (eBin (addOp false) (eC (.int 1)) (eBin ixOp (eLst false (aCons (eCall M__law_take (aCons (eVar 0) (aCons (eC (.int 3)) aNil))) (aCons (eCall M__law_take (aCons (eVar 0) (aCons (eC (.int 9)) aNil))) (aCons (eCall M__law_take (aCons (eVar 0) (aCons (eBin powOp (eC (.int 10)) (eC (.int 4))) aNil))) aNil)))) (eCall M__law_take (aCons (eVar 0) (aCons (eC (.int 3)) aNil))))))
  (sSeq (sPar 1 2 (aCons (eBin (addOp false) (eBin (mulOp false) (eVar 7) (eVar 1)) (eVar 2)) (aCons (eVar 1) aNil)))
  (sPar 3 4 (aCons (eBin (addOp false) (eBin (mulOp false) (eVar 7) (eVar 3)) (eVar 4)) (aCons (eVar 3) aNil)))))
noncomputable def B__law_quotients : MS :=
  (sSeq (sAsg (gT 2 (gsCons (gN 1) (gsCons (gN 2) gsNil))) (eTup (aCons (eC (.int 1)) (aCons (eC (.int 0)) aNil))))
  (sSeq (sAsg (gT 2 (gsCons (gN 3) (gsCons (gN 4) gsNil))) (eTup (aCons (eC (.int 0)) (aCons (eC (.int 1)) aNil))))
  (sSeq (sAsg (gN 5) (eCall M__law_take (aCons (eVar 0) (aCons (eC (.int 14)) aNil))))
  (sSeq (sFor (mRng1 (aCons (eVar 5) aNil)) (gN 6) L1__law_quotients)
  (sRet (eTup (aCons (eVar 1) (aCons (eVar 2) (aCons (eVar 3) (aCons (eVar 4) (aCons (eVar 5) aNil)))))))))))
noncomputable def M__law_quotients : List A → Store → Res A := fnM false 1 8 B__law_quotients
noncomputable def L1__law_inverse : MS :=
  (sIf (tOf (eBin eqOp (eBin modOp (eCB (one1 intA) (aCons (eBin subOp (eBin (mulOp false) (eVar 3) (eVar 1)) (eC (.int 1))) aNil)) (eVar 0)) (eC (.int 0)))) (sRet (eBin modOp (eCB (one1 intA) (aCons (eVar 3) aNil)) (eVar 0))) sNil)
noncomputable def B__law_inverse : MS :=
  (sSeq (sFor (mSeq (eVar 2)) (gN 3) L1__law_inverse)
  (sRet (eC .non)))
noncomputable def M__law_inverse : List A → Store → Res A := fnM false 3 4 B__law_inverse
noncomputable def B_check_bridge : MS :=
  (sIf (tOrM (tOf (eBin ltOp (eVar 0) (eC (.int 1)))) (tOf (eBin neOp (eCB (two2 gcdA) (aCons (eVar 0) (aCons (eVar 1) aNil))) (eC (.int 1))))) (sRaise (mkWhat "InvalidTangle" (eC (.str "fraction")))) sNil)
noncomputable def M_check_bridge : List A → Store → Res A := fnM false 2 2 B_check_bridge
noncomputable def p1_inverse_number : AEnv → Store → Res Bool :=
  (tOf (eBin neOp (eVar 3) (eC (.int 0))))
noncomputable def W2_inverse_number : MS :=
  (sSeq (sAsg (gN 6) (eBin fdivOp (eVar 2) (eVar 3)))
  (sSeq (sPar 2 3 (aCons (eVar 3) (aCons (eBin subOp (eVar 2) (eBin (mulOp false) (eVar 6) (eVar 3))) aNil)))
  (sPar 4 5 (aCons (eVar 5) (aCons (eBin subOp (eVar 4) (eBin (mulOp false) (eVar 6) (eVar 5))) aNil)))))
noncomputable def B_inverse_number : MS :=
  (sSeq (sPar 2 3 (aCons (eVar 0) (aCons (eBin modOp (eVar 1) (eVar 0)) aNil)))
  (sSeq (sPar 4 5 (aCons (eC (.int 0)) (aCons (eBin modOp (eC (.int 1)) (eVar 0)) aNil)))
  (sSeq (sWhile p1_inverse_number W2_inverse_number)
  (sRet (eBin modOp (eVar 4) (eVar 0))))))
noncomputable def M_inverse_number : List A → Store → Res A := fnM false 2 7 B_inverse_number
noncomputable def B_least_number : MS :=
  (sSeq (sEx (eCall M_check_bridge (aCons (eVar 0) (aCons (eVar 1) aNil))))
  (sRet (eCB (two2 minA) (aCons (eBin modOp (eVar 1) (eVar 0)) (aCons (eCall M_inverse_number (aCons (eVar 0) (aCons (eVar 1) aNil))) aNil)))))
noncomputable def M_least_number : List A → Store → Res A := fnM false 2 2 B_least_number
noncomputable def B_same_two_bridge : MS :=
  (sSeq (sAsg (gN 2) (eTup (aCons (eCall M_least_number (aCons (eBin ixOp (eVar 0) (eC (.int 0))) (aCons (eBin ixOp (eVar 0) (eC (.int 1))) aNil))) (aCons (eCall M_least_number (aCons (eBin ixOp (eVar 1) (eC (.int 0))) (aCons (eBin ixOp (eVar 1) (eC (.int 1))) aNil))) aNil))))
  (sRet (eAndV (eBin eqOp (eBin ixOp (eVar 0) (eC (.int 0))) (eBin ixOp (eVar 1) (eC (.int 0)))) (eBin eqOp (eBin ixOp (eVar 2) (eC (.int 0))) (eBin ixOp (eVar 2) (eC (.int 1)))))))
noncomputable def M_same_two_bridge : List A → Store → Res A := fnM false 2 3 B_same_two_bridge
noncomputable def B__law_both : MS :=
  (sRet (eLst false (aCons (eCall M_same_two_bridge (aCons (eVar 0) (aCons (eVar 1) aNil))) (aCons (eCall M_same_two_bridge (aCons (eVar 1) (aCons (eVar 0) aNil))) aNil))))
noncomputable def M__law_both : List A → Store → Res A := fnM false 2 2 B__law_both
noncomputable def L1__law_numbers_right : MS :=
  (sIf (tOf (eBin neOp (eCall M__law_plain (aCons (eCall M__law_both (aCons (eTup (aCons (eVar 6) (aCons (eVar 7) aNil))) (aCons (eTup (aCons (eVar 6) (aCons (eVar 11) aNil))) aNil))) aNil)) (eCall M__law_plain (aCons (eLst false (aCons (eC (.bl true)) (aCons (eC (.bl true)) aNil))) aNil)))) (sRet (eC (.bl false))) sNil)
noncomputable def L2__law_numbers_right : MS :=
  (sSeq (sAsg (gN 18) (eBin eqOp (eVar 12) (eVar 10)))
  (sIf (tOf (eBin neOp (eCall M__law_plain (aCons (eCall M__law_both (aCons (eTup (aCons (eVar 6) (aCons (eVar 7) aNil))) (aCons (eTup (aCons (eVar 6) (aCons (eVar 11) aNil))) aNil))) aNil)) (eCall M__law_plain (aCons (eLst false (aCons (eVar 18) (aCons (eVar 18) aNil))) aNil)))) (sRet (eC (.bl false))) sNil))
noncomputable def B__law_numbers_right : MS :=
  (sSeq (sAsg (gT 5 (gsCons (gN 1) (gsCons (gN 2) (gsCons (gN 3) (gsCons (gN 4) (gsCons (gN 5) gsNil)))))) (eCall M__law_quotients (aCons (eVar 0) aNil)))
  (sSeq (sAsg (gN 6) (eVar 1))
  (sSeq (sAsg (gN 7) (eBin (addOp false) (eBin ixOp (eLst false (aCons (eVar 2) (aCons (eVar 3) (aCons (eUn negOp (eVar 2)) (aCons (eUn negOp (eVar 3)) aNil))))) (eCall M__law_take (aCons (eVar 0) (aCons (eC (.int 4)) aNil)))) (eBin (mulOp false) (eVar 6) (eBin subOp (eCall M__law_take (aCons (eVar 0) (aCons (eC (.int 5)) aNil))) (eC (.int 2))))))
  (sSeq (sAsg (gN 8) (eLst false (aCons (eVar 2) (aCons (eVar 3) (aCons (eUn negOp (eVar 2)) (aCons (eUn negOp (eVar 3)) (aCons (eC (.int 1)) aNil)))))))
  (sSeq (sAsg (gN 9) (eCall M__law_inverse (aCons (eVar 6) (aCons (eVar 7) (aCons (eVar 8) aNil)))))
  (sSeq (sIf (tOf (eBin (isNOp false) (eVar 9) (eC .non))) (sRet (eC (.bl true))) sNil)
  (sSeq (sAsg (gN 10) (eCB (two2 minA) (aCons (eBin modOp (eCB (one1 intA) (aCons (eVar 7) aNil)) (eVar 6)) (aCons (eVar 9) aNil))))
  (sSeq (sIf (tOrM (tOf (eBin neOp (eCall M__law_plain (aCons (eCall M_least_number (aCons (eVar 6) (aCons (eVar 7) aNil))) aNil)) (eCall M__law_plain (aCons (eVar 10) aNil)))) (tOf (eBin neOp (eCall M__law_plain (aCons (eCall M_least_number (aCons (eVar 6) (aCons (eVar 9) aNil))) aNil)) (eCall M__law_plain (aCons (eVar 10) aNil))))) (sRet (eC (.bl false))) sNil)
  (sSeq (sFor (mSeq (eTup (aCons (eBin (addOp false) (eVar 7) (eVar 6)) (aCons (eBin subOp (eVar 7) (eBin (mulOp false) (eC (.int 3)) (eVar 6))) (aCons (eVar 9) (aCons (eBin subOp (eVar 9) (eVar 6)) aNil)))))) (gN 11) L1__law_numbers_right)
  (sSeq (sAsg (gN 12) (eCB (two2 minA) (aCons (eBin modOp (eCB (one1 intA) (aCons (eUn negOp (eVar 7)) aNil)) (eVar 6)) (aCons (eBin modOp (eCB (one1 intA) (aCons (eUn negOp (eVar 9)) aNil)) (eVar 6)) aNil))))
  (sSeq (sFor (mSeq (eTup (aCons (eUn negOp (eVar 7)) (aCons (eBin subOp (eVar 6) (eVar 9)) aNil)))) (gN 11) L2__law_numbers_right)
  (sSeq (sIf (tAndM (tOrM (tOf (eBin eqOp (eBin modOp (eCB (one1 intA) (aCons (eBin (addOp false) (eBin (mulOp false) (eVar 7) (eVar 7)) (eC (.int 1))) aNil)) (eVar 6)) (eC (.int 0)))) (tAndM (tOf (eBin eqOp (eBin modOp (eCB (one1 intA) (aCons (eBin subOp (eBin (mulOp false) (eVar 7) (eVar 7)) (eC (.int 1))) aNil)) (eVar 6)) (eC (.int 0)))) (tOf (eBin eqOp (eBin modOp (eCB (one1 intA) (aCons (eBin (mulOp false) (eC (.int 2)) (eVar 7)) aNil)) (eVar 6)) (eC (.int 0)))))) (tOf (eBin neOp (eVar 12) (eVar 10)))) (sRet (eC (.bl false))) sNil)
  (sSeq (sAsg (gT 5 (gsCons (gN 13) (gsCons (gN 14) (gsCons (gN 15) (gsCons (gN 16) (gsCons (gN 17) gsNil)))))) (eCall M__law_quotients (aCons (eVar 0) aNil)))
  (sSeq (sAsg (gN 18) (eAndV (eBin eqOp (eVar 13) (eVar 6)) (eBin eqOp (eCall M_least_number (aCons (eVar 13) (aCons (eVar 14) aNil))) (eVar 10))))
  (sRet (eBin eqOp (eCall M__law_plain (aCons (eCall M__law_both (aCons (eTup (aCons (eVar 6) (aCons (eVar 7) aNil))) (aCons (eTup (aCons (eVar 13) (aCons (eVar 14) aNil))) aNil))) aNil)) (eCall M__law_plain (aCons (eLst false (aCons (eVar 18) (aCons (eVar 18) aNil))) aNil))))))))))))))))))
noncomputable def M__law_numbers_right : List A → Store → Res A := fnM false 1 19 B__law_numbers_right
noncomputable def Y1__law_refusal : MS :=
  (sIf (tOf (eBin eqOp (eVar 0) (eC (.int 0)))) (sEx (eCall M_reduced_fraction (aCons (eC (.int 0)) (aCons (eC (.int 0)) aNil)))) (sIf (tOf (eBin eqOp (eVar 0) (eC (.int 1)))) (sEx (eCall M_value_of (aCons (eLst false aNil) aNil))) (sEx (eCall M_rational_expression (aCons (eLst false aNil) aNil)))))
noncomputable def X2__law_refusal : Addr → Str → Option Addr → MS :=
  fun a c d => (sRet (eXf ["InvalidTangle"] "what" a c d (eVar 1)))
noncomputable def B__law_refusal : MS :=
  (sSeq (sTryAs [("InvalidTangle", true)] 1 Y1__law_refusal X2__law_refusal)
  (sRet (eC .non)))
noncomputable def M__law_refusal : List A → Store → Res A := fnM false 1 2 B__law_refusal
noncomputable def e1_law : AEnv → Store → Res A :=
  (eBin subOp (eCall M__law_take (aCons (eVar 1) (aCons (eC (.int 9)) aNil))) (eC (.int 4)))
noncomputable def e2_law : AEnv → Store → Res A :=
  (eCall M__law_number (aCons (eVar 1) aNil))
noncomputable def L3_law : MS :=
  (sSeq (sAsg (gN 3) (eCall M__law_number (aCons (eVar 1) aNil)))
  (sSeq (sAsg (gN 4) (eCall M__law_number (aCons (eVar 1) aNil)))
  (sSeq (sIf (tOrM (tOf (eBin neOp (eVar 3) (eC (.int 0)))) (tOf (eBin neOp (eVar 4) (eC (.int 0))))) (sSeq (sAsg (gN 7) (eCall M__law_reduced (aCons (eVar 3) (aCons (eVar 4) aNil))))
  (sIf (tOrM (tOf (eBin neOp (eCall M__law_plain (aCons (eCall M_reduced_fraction (aCons (eVar 3) (aCons (eVar 4) aNil))) aNil)) (eCall M__law_plain (aCons (eVar 7) aNil)))) (tNotM (tTru (eCall M__law_terms_right (aCons (eBin ixOp (eVar 7) (eC (.int 0))) (aCons (eBin ixOp (eVar 7) (eC (.int 1))) aNil)))))) (sRet (eC (.bl false))) sNil)) sNil)
  (sSeq (sAsg (gN 5) (eLc false (mRng1 (aCons (eBin (addOp false) (eC (.int 1)) (eCall M__law_take (aCons (eVar 1) (aCons (eC (.int 12)) aNil)))) aNil)) (gN 8) [8] tYesM e1_law))
  (sSeq (sIf (tOf (eBin eqOp (eCall M__law_take (aCons (eVar 1) (aCons (eC (.int 3)) aNil))) (eC (.int 0)))) (sAsg (gN 5) (eLc false (mRng1 (aCons (eBin (addOp false) (eC (.int 1)) (eCall M__law_take (aCons (eVar 1) (aCons (eC (.int 5)) aNil)))) aNil)) (gN 8) [8] tYesM e2_law)) sNil)
  (sSeq (sAsg (gN 6) (eCB (one1 (listA false)) (aCons (eVar 5) aNil)))
  (sSeq (sIf (tOf (eBin neOp (eCall M__law_plain (aCons (eCall M_value_of (aCons (eVar 6) aNil)) aNil)) (eCall M__law_plain (aCons (eCall M__law_value (aCons (eVar 5) aNil)) aNil)))) (sRet (eC (.bl false))) sNil)
  (sIf (tOrM (tOf (eBin neOp (eCall M__law_plain (aCons (eCall M_rational_expression (aCons (eVar 6) aNil)) aNil)) (eCall M__law_plain (aCons (eCall M__law_nested (aCons (eVar 5) aNil)) aNil)))) (tOf (eBin neOp (eVar 6) (eVar 5)))) (sRet (eC (.bl false))) sNil))))))))
noncomputable def e4_law : AEnv → Store → Res A :=
  (eCall M__law_refusal (aCons (eVar 9) aNil))
noncomputable def B_law : MS :=
  (sSeq (sAsg (gN 1) (eCall M__law_deck (aCons (eVar 0) (aCons (eC (.int 50)) (aCons (eC (.int 14)) aNil)))))
  (sSeq (sFor (mRng1 (aCons (eC (.int 4)) aNil)) (gN 2) L3_law)
  (sSeq (sIf (tNotM (tTru (eCall M__law_numbers_right (aCons (eVar 1) aNil)))) (sRet (eC (.bl false))) sNil)
  (sRet (eBin eqOp (eLc false (mRng1 (aCons (eC (.int 3)) aNil)) (gN 9) [9] tYesM e4_law) (eLst false (aCons (eC (.str "fraction")) (aCons (eC (.str "items")) (aCons (eC (.str "items")) aNil)))))))))
noncomputable def M_law : List A → Store → Res A := fnM false 1 10 B_law
end Gk20

set_option Elab.async false
set_option linter.all false
set_option maxRecDepth 100000
set_option maxHeartbeats 4000000
namespace Gk20
open PySem PySem.Spec L2 SL
open PyProof.Rows hiding St
structure Txt (w : World) (K : PySem.W.Frag) (mg : Str → Option Value) : Prop where
  b_abs : mg "abs" = none
  b_bool : mg "bool" = none
  b_int : mg "int" = none
  b_isinstance : mg "isinstance" = none
  b_len : mg "len" = none
  b_list : mg "list" = none
  b_min : mg "min" = none
  b_range : mg "range" = none
  b_str : mg "str" = none
  b_tuple : mg "tuple" = none
  g__law_deck : mg "_law_deck" = some (.ref (He.ga K "_law_deck"))
  g__law_take : mg "_law_take" = some (.ref (He.ga K "_law_take"))
  g__law_number : mg "_law_number" = some (.ref (He.ga K "_law_number"))
  g__law_divisor : mg "_law_divisor" = some (.ref (He.ga K "_law_divisor"))
  g__law_reduced : mg "_law_reduced" = some (.ref (He.ga K "_law_reduced"))
  g_reduced_fraction : mg "reduced_fraction" = some (.ref (He.ga K "reduced_fraction"))
  g__law_plain : mg "_law_plain" = some (.ref (He.ga K "_law_plain"))
  g_terms_of : mg "terms_of" = some (.ref (He.ga K "terms_of"))
  g__law_value : mg "_law_value" = some (.ref (He.ga K "_law_value"))
  g_value_of : mg "value_of" = some (.ref (He.ga K "value_of"))
  g__law_terms_right : mg "_law_terms_right" = some (.ref (He.ga K "_law_terms_right"))
  g_rational_expression : mg "rational_expression" = some (.ref (He.ga K "rational_expression"))
  g__law_nested : mg "_law_nested" = some (.ref (He.ga K "_law_nested"))
  g__law_quotients : mg "_law_quotients" = some (.ref (He.ga K "_law_quotients"))
  g__law_inverse : mg "_law_inverse" = some (.ref (He.ga K "_law_inverse"))
  g_check_bridge : mg "check_bridge" = some (.ref (He.ga K "check_bridge"))
  g_inverse_number : mg "inverse_number" = some (.ref (He.ga K "inverse_number"))
  g_least_number : mg "least_number" = some (.ref (He.ga K "least_number"))
  g_same_two_bridge : mg "same_two_bridge" = some (.ref (He.ga K "same_two_bridge"))
  g__law_both : mg "_law_both" = some (.ref (He.ga K "_law_both"))
  g__law_numbers_right : mg "_law_numbers_right" = some (.ref (He.ga K "_law_numbers_right"))
  g__law_refusal : mg "_law_refusal" = some (.ref (He.ga K "_law_refusal"))
  g_law : mg "law" = some (.ref (He.ga K "law"))
  f_gcd : mg "gcd" = some (.builtin "math.gcd")
  g_KnotError : mg "KnotError" = some (.ref (He.ga K "KnotError"))
  g_InvalidTangle : mg "InvalidTangle" = some (.ref (He.ga K "InvalidTangle"))
  xm_InvalidTangle : ∀ p ∈ ([("InvalidTangle", true)] : List (Str × Bool)), PySem.W.exmOne K (.ref (He.ga K p.1)) (.ref (He.ga K "InvalidTangle")) = some p.2
  xf : ∀ c ∈ (["InvalidTangle"] : List Str), XfC K (He.ga K c) ∧ PySem.W.findIn K (.ref (He.ga K c)) "what" = some none
section
variable {P : Program} {w : World} {K : PySem.W.Frag} {mg : Str → Option Value} {base : Heap}
theorem sc__law_deck : FnScope ["script", "cells", "each", "deck", "seed", "k", "cell", "rest", "at"] ["script", "cells", "each"] (defScope s__law_deck) := ⟨rfl, rfl, rfl, by decide +kernel, rfl, by decide +kernel, by decide +kernel⟩
theorem ok__law_deck (T : Txt w K mg)   {fd : FuncData} (F : FunD K "_law_deck" "_law_deck" (defArgs s__law_deck) (defBody s__law_deck) (defScope s__law_deck) [] [] (He.ga K "_law_deck") fd) : FnS P w K mg base 1 (He.ga K "_law_deck") ["script", "cells", "each"] M__law_deck :=
  fnS_of (rc := true) (N := ["script", "cells", "each", "deck", "seed", "k", "cell", "rest", "at"]) (ps := ["script", "cells", "each"]) (k := 0) (m := B__law_deck) F sc__law_deck (F.bindsN fun _ _ _ _ _ _ us hl => match us, hl with | [_, _, _], _ => rfl) (by
    refine b_cons ?_ ?_
    · refine st_set (i := 3) rfl (.inl rfl) ?_
      refine s_lst (mk := true) ?_
      exact a_nil 
    · refine b_cons ?_ ?_
      · refine st_set (i := 4) rfl (.inl rfl) ?_
        refine s_add (mk := false) ?_ ?_
        · exact s_int 
        · refine s_cb (cb_len) rfl T.b_len PySem.boot_len ?_
          refine a_cons ?_ ?_
          · exact s_var (i := 0) rfl (.inl rfl)
          · exact a_nil 
      · refine b_cons ?_ ?_
        · refine st_for (own := [5]) ?_ ?_ ?_
          · refine i_rng1 rfl T.b_range ?_
            refine a_cons ?_ ?_
            · exact s_var (i := 1) rfl (.inl rfl)
            · exact a_nil 
          · exact g_name (i := 5) rfl (.inl rfl)
          · refine b_cons ?_ ?_
            · refine st_set (i := 6) rfl (.inl rfl) ?_
              exact s_int 
            · refine b_cons ?_ ?_
              · refine st_if ?_ ?_ ?_
                · refine t_c c_lt ?_ ?_
                  · exact s_var (i := 5) rfl (.inl rfl)
                  · refine s_cb (cb_len) rfl T.b_len PySem.boot_len ?_
                    refine a_cons ?_ ?_
                    · exact s_var (i := 0) rfl (.inl rfl)
                    · exact a_nil 
                · refine b_one ?_
                  refine st_set (i := 6) rfl (.inl rfl) ?_
                  refine s_ix ?_ ?_
                  · exact s_var (i := 0) rfl (.inl rfl)
                  · exact s_var (i := 5) rfl (.inl rfl)
                · exact b_nil 
              · refine b_cons ?_ ?_
                · refine st_set (i := 7) rfl (.inl rfl) ?_
                  refine s_cb (cb_abs) rfl T.b_abs PyProof.Rows.boot_abs ?_
                  refine a_cons ?_ ?_
                  · exact s_var (i := 6) rfl (.inl rfl)
                  · exact a_nil 
                · refine b_one ?_
                  refine st_if ?_ ?_ ?_
                  · refine t_c c_ge ?_ ?_
                    · exact s_var (i := 7) rfl (.inl rfl)
                    · refine s_pow ?_ ?_
                      · exact s_int 
                      · exact s_int 
                  · refine b_one ?_
                    refine st_for (own := [8]) ?_ ?_ ?_
                    · refine i_rng1 rfl T.b_range ?_
                      refine a_cons ?_ ?_
                      · exact s_var (i := 2) rfl (.inl rfl)
                      · exact a_nil 
                    · exact g_name (i := 8) rfl (.inl rfl)
                    · refine b_cons ?_ ?_
                      · refine st_ex ?_
                        refine s_m PySem.F.plainAttrs_list PySem.F.slot_list_append PySem.F.type_list_append m_append ?_ ?_
                        · exact s_var (i := 3) rfl (.inl rfl)
                        · refine a_cons ?_ ?_
                          · refine s_mod ?_ ?_
                            · refine s_cty (cb_int) rfl T.b_int PyProof.Rows.boot_int ?_
                              refine a_cons ?_ ?_
                              · exact s_var (i := 7) rfl (.inl rfl)
                              · exact a_nil 
                            · exact s_int 
                          · exact a_nil 
                      · refine b_one ?_
                        refine st_set (i := 7) rfl (.inl rfl) ?_
                        refine s_fdiv ?_ ?_
                        · exact s_var (i := 7) rfl (.inl rfl)
                        · exact s_int 
                  · refine b_cons ?_ ?_
                    · refine st_set (i := 4) rfl (.inl rfl) ?_
                      refine s_mod ?_ ?_
                      · refine s_cty (cb_int) rfl T.b_int PyProof.Rows.boot_int ?_
                        refine a_cons ?_ ?_
                        · refine s_add (mk := false) ?_ ?_
                          · refine s_add (mk := false) ?_ ?_
                            · refine s_add (mk := false) ?_ ?_
                              · refine s_mul (mk := false) ?_ ?_
                                · exact s_var (i := 4) rfl (.inl rfl)
                                · exact s_int 
                              · refine s_mul (mk := false) ?_ ?_
                                · exact s_int 
                                · exact s_var (i := 7) rfl (.inl rfl)
                            · refine s_cty (cb_int) rfl T.b_int PyProof.Rows.boot_int ?_
                              refine a_cons ?_ ?_
                              · refine s_c c_lt ?_ ?_
                                · exact s_var (i := 6) rfl (.inl rfl)
                                · exact s_int 
                              · exact a_nil 
                          · exact s_var (i := 5) rfl (.inl rfl)
                        · exact a_nil 
                      · exact s_int 
                    · refine b_one ?_
                      refine st_for (own := [8]) ?_ ?_ ?_
                      · refine i_rng1 rfl T.b_range ?_
                        refine a_cons ?_ ?_
                        · exact s_var (i := 2) rfl (.inl rfl)
                        · exact a_nil 
                      · exact g_name (i := 8) rfl (.inl rfl)
                      · refine b_cons ?_ ?_
                        · refine st_set (i := 4) rfl (.inl rfl) ?_
                          refine s_mod ?_ ?_
                          · refine s_cty (cb_int) rfl T.b_int PyProof.Rows.boot_int ?_
                            refine a_cons ?_ ?_
                            · refine s_add (mk := false) ?_ ?_
                              · refine s_add (mk := false) ?_ ?_
                                · refine s_mul (mk := false) ?_ ?_
                                  · exact s_var (i := 4) rfl (.inl rfl)
                                  · exact s_int 
                                · exact s_var (i := 8) rfl (.inl rfl)
                              · exact s_int 
                            · exact a_nil 
                          · exact s_int 
                        · refine b_one ?_
                          refine st_ex ?_
                          refine s_m PySem.F.plainAttrs_list PySem.F.slot_list_append PySem.F.type_list_append m_append ?_ ?_
                          · exact s_var (i := 3) rfl (.inl rfl)
                          · refine a_cons ?_ ?_
                            · refine s_mod ?_ ?_
                              · refine s_cty (cb_int) rfl T.b_int PyProof.Rows.boot_int ?_
                                refine a_cons ?_ ?_
                                · refine s_fdiv ?_ ?_
                                  · exact s_var (i := 4) rfl (.inl rfl)
                                  · exact s_int 
                                · exact a_nil 
                              · exact s_int 
                            · exact a_nil 
        · refine b_cons ?_ ?_
          · refine st_ex ?_
            refine s_m0 PySem.F.plainAttrs_list PySem.F.slot_list_reverse PySem.F.type_list_reverse m_reverse ?_
            exact s_var (i := 3) rfl (.inl rfl)
          · refine b_one ?_
            refine st_ret ?_
            exact s_var (i := 3) rfl (.inl rfl)
    )
theorem sc__law_take : FnScope ["deck", "many"] ["deck", "many"] (defScope s__law_take) := ⟨rfl, rfl, rfl, by decide +kernel, rfl, by decide +kernel, by decide +kernel⟩
theorem ok__law_take (T : Txt w K mg)   {fd : FuncData} (F : FunD K "_law_take" "_law_take" (defArgs s__law_take) (defBody s__law_take) (defScope s__law_take) [] [] (He.ga K "_law_take") fd) : FnS P w K mg base 1 (He.ga K "_law_take") ["deck", "many"] M__law_take :=
  fnS_of (rc := false) (N := ["deck", "many"]) (ps := ["deck", "many"]) (k := 0) (m := B__law_take) F sc__law_take (F.bindsN fun _ _ _ _ _ _ us hl => match us, hl with | [_, _], _ => rfl) (by
    refine b_cons ?_ ?_
    · refine st_if ?_ ?_ ?_
      · refine t_c c_eq ?_ ?_
        · refine s_cb (cb_len) rfl T.b_len PySem.boot_len ?_
          refine a_cons ?_ ?_
          · exact s_var (i := 0) rfl (.inl rfl)
          · exact a_nil 
        · exact s_int 
      · refine b_one ?_
        refine st_ret ?_
        exact s_int 
      · exact b_nil 
    · refine b_one ?_
      refine st_ret ?_
      refine s_mod ?_ ?_
      · refine s_cty (cb_int) rfl T.b_int PyProof.Rows.boot_int ?_
        refine a_cons ?_ ?_
        · refine s_m0 PySem.F.plainAttrs_list PySem.F.slot_list_pop PySem.F.type_list_pop m_pop ?_
          exact s_var (i := 0) rfl (.inl rfl)
        · exact a_nil 
      · exact s_var (i := 1) rfl (.inl rfl)
    )
theorem sc__law_number : FnScope ["deck", "small", "great"] ["deck"] (defScope s__law_number) := ⟨rfl, rfl, rfl, by decide +kernel, rfl, by decide +kernel, by decide +kernel⟩
theorem ok__law_number (T : Txt w K mg) (F__law_take : FnS P w K mg base 1 (He.ga K "_law_take") ["deck", "many"] M__law_take)  {fd : FuncData} (F : FunD K "_law_number" "_law_number" (defArgs s__law_number) (defBody s__law_number) (defScope s__law_number) [] [] (He.ga K "_law_number") fd) : FnS P w K mg base 2 (He.ga K "_law_number") ["deck"] M__law_number :=
  fnS_of (rc := false) (N := ["deck", "small", "great"]) (ps := ["deck"]) (k := 1) (m := B__law_number) F sc__law_number (F.bindsN fun _ _ _ _ _ _ us hl => match us, hl with | [_], _ => rfl) (by
    refine b_cons ?_ ?_
    · refine st_set (i := 1) rfl (.inl rfl) ?_
      refine s_sub ?_ ?_
      · refine s_call F__law_take (Nat.le_of_ble_eq_true rfl) rfl T.g__law_take ?_
        refine a_cons ?_ ?_
        · exact s_var (i := 0) rfl (.inl rfl)
        · refine a_cons ?_ ?_
          · exact s_int 
          · exact a_nil 
      · exact s_int 
    · refine b_cons ?_ ?_
      · refine st_set (i := 2) rfl (.inl rfl) ?_
        refine s_add (mk := false) ?_ ?_
        · refine s_mul (mk := false) ?_ ?_
          · refine s_sub ?_ ?_
            · refine s_call F__law_take (Nat.le_of_ble_eq_true rfl) rfl T.g__law_take ?_
              refine a_cons ?_ ?_
              · exact s_var (i := 0) rfl (.inl rfl)
              · refine a_cons ?_ ?_
                · exact s_int 
                · exact a_nil 
            · exact s_int 
          · refine s_pow ?_ ?_
            · exact s_int 
            · exact s_int 
        · refine s_call F__law_take (Nat.le_of_ble_eq_true rfl) rfl T.g__law_take ?_
          refine a_cons ?_ ?_
          · exact s_var (i := 0) rfl (.inl rfl)
          · refine a_cons ?_ ?_
            · exact s_int 
            · exact a_nil 
      · refine b_one ?_
        refine st_ret ?_
        refine s_ix ?_ ?_
        · refine s_lst (mk := false) ?_
          refine a_cons ?_ ?_
          · exact s_var (i := 1) rfl (.inl rfl)
          · refine a_cons ?_ ?_
            · exact s_var (i := 1) rfl (.inl rfl)
            · refine a_cons ?_ ?_
              · exact s_var (i := 2) rfl (.inl rfl)
              · refine a_cons ?_ ?_
                · exact s_int 
                · exact a_nil 
        · refine s_call F__law_take (Nat.le_of_ble_eq_true rfl) rfl T.g__law_take ?_
          refine a_cons ?_ ?_
          · exact s_var (i := 0) rfl (.inl rfl)
          · refine a_cons ?_ ?_
            · exact s_int 
            · exact a_nil 
    )
theorem sc__law_divisor : FnScope ["one", "other", "turn", "rest"] ["one", "other"] (defScope s__law_divisor) := ⟨rfl, rfl, rfl, by decide +kernel, rfl, by decide +kernel, by decide +kernel⟩
theorem ok__law_divisor (T : Txt w K mg)   {fd : FuncData} (F : FunD K "_law_divisor" "_law_divisor" (defArgs s__law_divisor) (defBody s__law_divisor) (defScope s__law_divisor) [] [] (He.ga K "_law_divisor") fd) : FnS P w K mg base 1 (He.ga K "_law_divisor") ["one", "other"] M__law_divisor :=
  fnS_of (rc := false) (N := ["one", "other", "turn", "rest"]) (ps := ["one", "other"]) (k := 0) (m := B__law_divisor) F sc__law_divisor (F.bindsN fun _ _ _ _ _ _ us hl => match us, hl with | [_, _], _ => rfl) (by
    refine b_cons ?_ ?_
    · refine st_set (i := 0) rfl (.inl rfl) ?_
      refine s_cb (cb_abs) rfl T.b_abs PyProof.Rows.boot_abs ?_
      refine a_cons ?_ ?_
      · exact s_var (i := 0) rfl (.inl rfl)
      · exact a_nil 
    · refine b_cons ?_ ?_
      · refine st_set (i := 1) rfl (.inl rfl) ?_
        refine s_cb (cb_abs) rfl T.b_abs PyProof.Rows.boot_abs ?_
        refine a_cons ?_ ?_
        · exact s_var (i := 1) rfl (.inl rfl)
        · exact a_nil 
      · refine b_cons ?_ ?_
        · refine st_for (own := [2]) ?_ ?_ ?_
          · refine i_rng1 rfl T.b_range ?_
            refine a_cons ?_ ?_
            · exact s_int 
            · exact a_nil 
          · exact g_name (i := 2) rfl (.inl rfl)
          · refine b_cons ?_ ?_
            · refine st_if ?_ ?_ ?_
              · refine t_c c_eq ?_ ?_
                · exact s_var (i := 1) rfl (.inl rfl)
                · exact s_int 
              · refine b_one ?_
                exact st_break 
              · exact b_nil 
            · refine b_cons ?_ ?_
              · refine st_set (i := 3) rfl (.inl rfl) ?_
                refine s_mod ?_ ?_
                · refine s_cty (cb_int) rfl T.b_int PyProof.Rows.boot_int ?_
                  refine a_cons ?_ ?_
                  · exact s_var (i := 0) rfl (.inl rfl)
                  · exact a_nil 
                · exact s_var (i := 1) rfl (.inl rfl)
              · refine b_cons ?_ ?_
                · refine st_set (i := 0) rfl (.inl rfl) ?_
                  exact s_var (i := 1) rfl (.inl rfl)
                · refine b_one ?_
                  refine st_set (i := 1) rfl (.inl rfl) ?_
                  exact s_var (i := 3) rfl (.inl rfl)
        · refine b_one ?_
          refine st_ret ?_
          exact s_var (i := 0) rfl (.inl rfl)
    )
theorem sc__law_reduced : FnScope ["n", "d", "common"] ["n", "d"] (defScope s__law_reduced) := ⟨rfl, rfl, rfl, by decide +kernel, rfl, by decide +kernel, by decide +kernel⟩
theorem ok__law_reduced (T : Txt w K mg) (F__law_divisor : FnS P w K mg base 1 (He.ga K "_law_divisor") ["one", "other"] M__law_divisor)  {fd : FuncData} (F : FunD K "_law_reduced" "_law_reduced" (defArgs s__law_reduced) (defBody s__law_reduced) (defScope s__law_reduced) [] [] (He.ga K "_law_reduced") fd) : FnS P w K mg base 2 (He.ga K "_law_reduced") ["n", "d"] M__law_reduced :=
  fnS_of (rc := false) (N := ["n", "d", "common"]) (ps := ["n", "d"]) (k := 1) (m := B__law_reduced) F sc__law_reduced (F.bindsN fun _ _ _ _ _ _ us hl => match us, hl with | [_, _], _ => rfl) (by
    refine b_cons ?_ ?_
    · refine st_set (i := 2) rfl (.inl rfl) ?_
      refine s_call F__law_divisor (Nat.le_of_ble_eq_true rfl) rfl T.g__law_divisor ?_
      refine a_cons ?_ ?_
      · exact s_var (i := 0) rfl (.inl rfl)
      · refine a_cons ?_ ?_
        · exact s_var (i := 1) rfl (.inl rfl)
        · exact a_nil 
    · refine b_cons ?_ ?_
      · refine st_if ?_ ?_ ?_
        · refine t_w ?_
          refine w_or ?_ ?_
          · refine t_c c_lt ?_ ?_
            · exact s_var (i := 1) rfl (.inl rfl)
            · exact s_int 
          · refine w_or1 ?_
            refine t_w ?_
            refine w_and ?_ ?_
            · refine t_c c_eq ?_ ?_
              · exact s_var (i := 1) rfl (.inl rfl)
              · exact s_int 
            · refine w_and1 ?_
              refine t_c c_lt ?_ ?_
              · exact s_var (i := 0) rfl (.inl rfl)
              · exact s_int 
        · refine b_one ?_
          refine st_set (i := 2) rfl (.inl rfl) ?_
          refine s_neg ?_
          exact s_var (i := 2) rfl (.inl rfl)
        · exact b_nil 
      · refine b_one ?_
        refine st_ret ?_
        refine s_tup ?_
        refine a_cons ?_ ?_
        · refine s_fdiv ?_ ?_
          · exact s_var (i := 0) rfl (.inl rfl)
          · exact s_var (i := 2) rfl (.inl rfl)
        · refine a_cons ?_ ?_
          · refine s_fdiv ?_ ?_
            · exact s_var (i := 1) rfl (.inl rfl)
            · exact s_var (i := 2) rfl (.inl rfl)
          · exact a_nil 
    )
theorem sc_reduced_fraction : FnScope ["n", "d", "common"] ["n", "d"] (defScope s_reduced_fraction) := ⟨rfl, rfl, rfl, by decide +kernel, rfl, by decide +kernel, by decide +kernel⟩
theorem ok_reduced_fraction (T : Txt w K mg)  (X_InvalidTangle : KExc P w K mg base (He.ga K "InvalidTangle")) {fd : FuncData} (F : FunD K "reduced_fraction" "reduced_fraction" (defArgs s_reduced_fraction) (defBody s_reduced_fraction) (defScope s_reduced_fraction) [] [] (He.ga K "reduced_fraction") fd) : FnS P w K mg base 3 (He.ga K "reduced_fraction") ["n", "d"] M_reduced_fraction :=
  fnS_of (rc := false) (N := ["n", "d", "common"]) (ps := ["n", "d"]) (k := 2) (m := B_reduced_fraction) F sc_reduced_fraction (F.bindsN fun _ _ _ _ _ _ us hl => match us, hl with | [_, _], _ => rfl) (by
    refine b_cons ?_ ?_
    · refine st_if ?_ ?_ ?_
      · refine t_w ?_
        refine w_and ?_ ?_
        · refine t_c c_eq ?_ ?_
          · exact s_var (i := 0) rfl (.inl rfl)
          · exact s_int 
        · refine w_and1 ?_
          refine t_c c_eq ?_ ?_
          · exact s_var (i := 1) rfl (.inl rfl)
          · exact s_int 
      · refine b_one ?_
        refine st_raise ?_
        refine mk_what X_InvalidTangle rfl T.g_InvalidTangle ?_ (Nat.le_of_ble_eq_true rfl)
        exact s_str 
      · exact b_nil 
    · refine b_cons ?_ ?_
      · refine st_set (i := 2) rfl (.inl rfl) ?_
        refine s_gcd rfl T.f_gcd ?_
        refine a_cons ?_ ?_
        · exact s_var (i := 0) rfl (.inl rfl)
        · refine a_cons ?_ ?_
          · exact s_var (i := 1) rfl (.inl rfl)
          · exact a_nil 
      · refine b_cons ?_ ?_
        · refine st_if ?_ ?_ ?_
          · refine t_w ?_
            refine w_or ?_ ?_
            · refine t_c c_lt ?_ ?_
              · exact s_var (i := 1) rfl (.inl rfl)
              · exact s_int 
            · refine w_or1 ?_
              refine t_w ?_
              refine w_and ?_ ?_
              · refine t_c c_eq ?_ ?_
                · exact s_var (i := 1) rfl (.inl rfl)
                · exact s_int 
              · refine w_and1 ?_
                refine t_c c_lt ?_ ?_
                · exact s_var (i := 0) rfl (.inl rfl)
                · exact s_int 
          · refine b_one ?_
            refine st_set (i := 2) rfl (.inl rfl) ?_
            refine s_neg ?_
            exact s_var (i := 2) rfl (.inl rfl)
          · exact b_nil 
        · refine b_one ?_
          refine st_ret ?_
          refine s_tup ?_
          refine a_cons ?_ ?_
          · refine s_fdiv ?_ ?_
            · exact s_var (i := 0) rfl (.inl rfl)
            · exact s_var (i := 2) rfl (.inl rfl)
          · refine a_cons ?_ ?_
            · refine s_fdiv ?_ ?_
              · exact s_var (i := 1) rfl (.inl rfl)
              · exact s_var (i := 2) rfl (.inl rfl)
            · exact a_nil 
    )
theorem sc__law_plain : FnScope ["value", "item"] ["value"] (defScope s__law_plain) := ⟨rfl, rfl, rfl, by decide +kernel, rfl, by decide +kernel, by decide +kernel⟩
theorem ok__law_plain_ (T : Txt w K mg)   {fd : FuncData} (F : FunD K "_law_plain" "_law_plain" (defArgs s__law_plain) (defBody s__law_plain) (defScope s__law_plain) [] [] (He.ga K "_law_plain") fd) : ∀ j : Nat, FnS P w K mg base (0 + j) (He.ga K "_law_plain") ["value"] (M__law_plain_ j)
  | 0 => fnS_zero (F.bindsN fun _ _ _ _ _ _ us hl => match us, hl with | [_], _ => rfl) F.kp _
  | j + 1 =>
    have F__law_plain := ok__law_plain_ T  F j
    fnS_of (rc := false) (N := ["value", "item"]) (ps := ["value"]) (k := 0 + j) (m := B__law_plain (M__law_plain_ j)) F sc__law_plain (F.bindsN fun _ _ _ _ _ _ us hl => match us, hl with | [_], _ => rfl) (by
      refine b_cons ?_ ?_
      · refine st_if ?_ ?_ ?_
        · refine t_tru ?_
          refine s_isiT ?_ ?_ rfl T.b_isinstance
          · exact s_var (i := 0) rfl (.inl rfl)
          · refine a_cons ?_ ?_
            · exact s_ty (n := "tuple") rfl T.b_tuple PyProof.Rows.boot_tuple
            · refine a_cons ?_ ?_
              · exact s_ty (n := "list") rfl T.b_list PyProof.Rows.boot_list
              · exact a_nil 
        · refine b_one ?_
          refine st_ret ?_
          refine s_add (mk := false) ?_ ?_
          · refine s_lst (mk := false) ?_
            refine a_cons ?_ ?_
            · refine s_cb cb_isi rfl T.b_isinstance PyProof.Rows.boot_isinstance ?_
              refine a_cons ?_ ?_
              · exact s_var (i := 0) rfl (.inl rfl)
              · refine a_cons ?_ ?_
                · exact s_ty (n := "list") rfl T.b_list PyProof.Rows.boot_list
                · exact a_nil 
            · exact a_nil 
          · refine s_lc (mk := false) (own := [("item", 1)]) (gown := [1]) ?_ (by kernel_rfl) ?_ (by decide) ?_ ?_
            · refine i_seq ?_
              exact s_var (i := 0) rfl (.inl rfl)
            · exact g_name (i := 1) rfl (.inl rfl)
            · exact ts_nil 
            · refine s_call F__law_plain (Nat.le_refl _) rfl T.g__law_plain ?_
              refine a_cons ?_ ?_
              · exact s_var (i := 1) rfl (.inl rfl)
              · exact a_nil 
        · exact b_nil 
      · refine b_cons ?_ ?_
        · refine st_if ?_ ?_ ?_
          · refine t_w ?_
            refine w_or ?_ ?_
            · refine t_c c_isN ?_ ?_
              · exact s_var (i := 0) rfl (.inl rfl)
              · exact s_non 
            · refine w_or1 ?_
              refine t_tru ?_
              refine s_cb cb_isi rfl T.b_isinstance PyProof.Rows.boot_isinstance ?_
              refine a_cons ?_ ?_
              · exact s_var (i := 0) rfl (.inl rfl)
              · refine a_cons ?_ ?_
                · exact s_ty (n := "bool") rfl T.b_bool PyProof.Rows.boot_bool
                · exact a_nil 
          · refine b_one ?_
            refine st_ret ?_
            refine s_ix ?_ ?_
            · refine s_lst (mk := false) ?_
              refine a_cons ?_ ?_
              · exact s_str 
              · refine a_cons ?_ ?_
                · exact s_str 
                · refine a_cons ?_ ?_
                  · exact s_str 
                  · exact a_nil 
            · refine s_add (mk := false) ?_ ?_
              · refine s_cty (cb_int) rfl T.b_int PyProof.Rows.boot_int ?_
                refine a_cons ?_ ?_
                · refine s_c c_notN ?_ ?_
                  · exact s_var (i := 0) rfl (.inl rfl)
                  · exact s_non 
                · exact a_nil 
              · refine s_cty (cb_int) rfl T.b_int PyProof.Rows.boot_int ?_
                refine a_cons ?_ ?_
                · refine s_c c_isN ?_ ?_
                  · exact s_var (i := 0) rfl (.inl rfl)
                  · exact s_bl 
                · exact a_nil 
          · exact b_nil 
        · refine b_cons ?_ ?_
          · refine st_if ?_ ?_ ?_
            · refine t_tru ?_
              refine s_isiT ?_ ?_ rfl T.b_isinstance
              · exact s_var (i := 0) rfl (.inl rfl)
              · refine a_cons ?_ ?_
                · exact s_ty (n := "int") rfl T.b_int PyProof.Rows.boot_int
                · refine a_cons ?_ ?_
                  · exact s_ty (n := "str") rfl T.b_str PyProof.Rows.boot_str
                  · exact a_nil 
            · refine b_one ?_
              refine st_ret ?_
              refine s_lst (mk := false) ?_
              refine a_cons ?_ ?_
              · refine s_cb cb_isi rfl T.b_isinstance PyProof.Rows.boot_isinstance ?_
                refine a_cons ?_ ?_
                · exact s_var (i := 0) rfl (.inl rfl)
                · refine a_cons ?_ ?_
                  · exact s_ty (n := "str") rfl T.b_str PyProof.Rows.boot_str
                  · exact a_nil 
              · refine a_cons ?_ ?_
                · exact s_var (i := 0) rfl (.inl rfl)
                · exact a_nil 
            · exact b_nil 
          · refine b_one ?_
            refine st_ret ?_
            exact s_str 
      )
theorem ok__law_plain (T : Txt w K mg)   {fd : FuncData} (F : FunD K "_law_plain" "_law_plain" (defArgs s__law_plain) (defBody s__law_plain) (defScope s__law_plain) [] [] (He.ga K "_law_plain") fd) : FnS P w K mg base 45 (He.ga K "_law_plain") ["value"] M__law_plain := ok__law_plain_ T  F 45
theorem sc_terms_of : FnScope ["p", "q", "terms"] ["p", "q"] (defScope s_terms_of) := ⟨rfl, rfl, rfl, by decide +kernel, rfl, by decide +kernel, by decide +kernel⟩
theorem ok_terms_of (T : Txt w K mg)   {fd : FuncData} (F : FunD K "terms_of" "terms_of" (defArgs s_terms_of) (defBody s_terms_of) (defScope s_terms_of) [] [] (He.ga K "terms_of") fd) : FnS P w K mg base 1 (He.ga K "terms_of") ["p", "q"] M_terms_of :=
  fnS_of (rc := false) (N := ["p", "q", "terms"]) (ps := ["p", "q"]) (k := 0) (m := B_terms_of) F sc_terms_of (F.bindsN fun _ _ _ _ _ _ us hl => match us, hl with | [_, _], _ => rfl) (by
    refine b_cons ?_ ?_
    · refine st_if ?_ ?_ ?_
      · refine t_c c_eq ?_ ?_
        · exact s_var (i := 1) rfl (.inl rfl)
        · exact s_int 
      · refine b_one ?_
        refine st_ret ?_
        refine s_lst (mk := false) ?_
        refine a_cons ?_ ?_
        · exact s_int 
        · refine a_cons ?_ ?_
          · exact s_int 
          · exact a_nil 
      · exact b_nil 
    · refine b_cons ?_ ?_
      · refine st_set (i := 2) rfl (.inl rfl) ?_
        refine s_lst (mk := true) ?_
        exact a_nil 
      · refine b_cons ?_ ?_
        · refine st_while ?_ ?_
          · refine t_c c_ne ?_ ?_
            · exact s_var (i := 1) rfl (.inl rfl)
            · exact s_int 
          · refine b_cons ?_ ?_
            · refine st_ex ?_
              refine s_m PySem.F.plainAttrs_list PySem.F.slot_list_append PySem.F.type_list_append m_append ?_ ?_
              · exact s_var (i := 2) rfl (.inl rfl)
              · refine a_cons ?_ ?_
                · refine s_fdiv ?_ ?_
                  · exact s_var (i := 0) rfl (.inl rfl)
                  · exact s_var (i := 1) rfl (.inl rfl)
                · exact a_nil 
            · refine b_one ?_
              refine st_par (i := 0) (j := 1) rfl rfl (by decide) rfl rfl ?_ (fun X c => sw_par c (by kernel_rfl))
              refine a_cons ?_ ?_
              · exact s_var (i := 1) rfl (.inl rfl)
              · refine a_cons ?_ ?_
                · refine s_mod ?_ ?_
                  · exact s_var (i := 0) rfl (.inl rfl)
                  · exact s_var (i := 1) rfl (.inl rfl)
                · exact a_nil 
        · refine b_cons ?_ ?_
          · refine st_ex ?_
            refine s_m0 PySem.F.plainAttrs_list PySem.F.slot_list_reverse PySem.F.type_list_reverse m_reverse ?_
            exact s_var (i := 2) rfl (.inl rfl)
          · refine b_one ?_
            refine st_ret ?_
            exact s_var (i := 2) rfl (.inl rfl)
    )
theorem sc__law_value : FnScope ["items", "value", "item"] ["items"] (defScope s__law_value) := ⟨rfl, rfl, rfl, by decide +kernel, rfl, by decide +kernel, by decide +kernel⟩
theorem ok__law_value (T : Txt w K mg) (F__law_reduced : FnS P w K mg base 2 (He.ga K "_law_reduced") ["n", "d"] M__law_reduced)  {fd : FuncData} (F : FunD K "_law_value" "_law_value" (defArgs s__law_value) (defBody s__law_value) (defScope s__law_value) [] [] (He.ga K "_law_value") fd) : FnS P w K mg base 3 (He.ga K "_law_value") ["items"] M__law_value :=
  fnS_of (rc := false) (N := ["items", "value", "item"]) (ps := ["items"]) (k := 2) (m := B__law_value) F sc__law_value (F.bindsN fun _ _ _ _ _ _ us hl => match us, hl with | [_], _ => rfl) (by
    refine b_cons ?_ ?_
    · refine st_set (i := 1) rfl (.inl rfl) ?_
      refine s_tup ?_
      refine a_cons ?_ ?_
      · refine s_ix ?_ ?_
        · exact s_var (i := 0) rfl (.inl rfl)
        · exact s_int 
      · refine a_cons ?_ ?_
        · exact s_int 
        · exact a_nil 
    · refine b_cons ?_ ?_
      · refine st_for (own := [2]) ?_ ?_ ?_
        · refine i_seq ?_
          refine s_sl (mk := false) ?_ ?_ ?_
          · exact s_var (i := 0) rfl (.inl rfl)
          · refine o_some ?_
            exact s_int 
          · exact o_none 
        · exact g_name (i := 2) rfl (.inl rfl)
        · refine b_one ?_
          refine st_if ?_ ?_ ?_
          · refine t_c c_eq ?_ ?_
            · refine s_ix ?_ ?_
              · exact s_var (i := 1) rfl (.inl rfl)
              · exact s_int 
            · exact s_int 
          · refine b_one ?_
            refine st_set (i := 1) rfl (.inl rfl) ?_
            refine s_tup ?_
            refine a_cons ?_ ?_
            · exact s_int 
            · refine a_cons ?_ ?_
              · exact s_int 
              · exact a_nil 
          · refine b_one ?_
            refine st_if ?_ ?_ ?_
            · refine t_c c_eq ?_ ?_
              · refine s_ix ?_ ?_
                · exact s_var (i := 1) rfl (.inl rfl)
                · exact s_int 
              · exact s_int 
            · refine b_one ?_
              refine st_set (i := 1) rfl (.inl rfl) ?_
              refine s_tup ?_
              refine a_cons ?_ ?_
              · exact s_var (i := 2) rfl (.inl rfl)
              · refine a_cons ?_ ?_
                · exact s_int 
                · exact a_nil 
            · refine b_one ?_
              refine st_set (i := 1) rfl (.inl rfl) ?_
              refine s_call F__law_reduced (Nat.le_of_ble_eq_true rfl) rfl T.g__law_reduced ?_
              refine a_cons ?_ ?_
              · refine s_add (mk := false) ?_ ?_
                · refine s_mul (mk := false) ?_ ?_
                  · exact s_var (i := 2) rfl (.inl rfl)
                  · refine s_ix ?_ ?_
                    · exact s_var (i := 1) rfl (.inl rfl)
                    · exact s_int 
                · refine s_ix ?_ ?_
                  · exact s_var (i := 1) rfl (.inl rfl)
                  · exact s_int 
              · refine a_cons ?_ ?_
                · refine s_ix ?_ ?_
                  · exact s_var (i := 1) rfl (.inl rfl)
                  · exact s_int 
                · exact a_nil 
      · refine b_one ?_
        refine st_ret ?_
        exact s_var (i := 1) rfl (.inl rfl)
    )
theorem sc_value_of : FnScope ["items", "n", "d", "item"] ["items"] (defScope s_value_of) := ⟨rfl, rfl, rfl, by decide +kernel, rfl, by decide +kernel, by decide +kernel⟩
theorem ok_value_of (T : Txt w K mg) (F_reduced_fraction : FnS P w K mg base 3 (He.ga K "reduced_fraction") ["n", "d"] M_reduced_fraction) (X_InvalidTangle : KExc P w K mg base (He.ga K "InvalidTangle")) {fd : FuncData} (F : FunD K "value_of" "value_of" (defArgs s_value_of) (defBody s_value_of) (defScope s_value_of) [] [] (He.ga K "value_of") fd) : FnS P w K mg base 4 (He.ga K "value_of") ["items"] M_value_of :=
  fnS_of (rc := false) (N := ["items", "n", "d", "item"]) (ps := ["items"]) (k := 3) (m := B_value_of) F sc_value_of (F.bindsN fun _ _ _ _ _ _ us hl => match us, hl with | [_], _ => rfl) (by
    refine b_cons ?_ ?_
    · refine st_if ?_ ?_ ?_
      · refine t_not ?_
        refine t_tru ?_
        exact s_var (i := 0) rfl (.inl rfl)
      · refine b_one ?_
        refine st_raise ?_
        refine mk_what X_InvalidTangle rfl T.g_InvalidTangle ?_ (Nat.le_of_ble_eq_true rfl)
        exact s_str 
      · exact b_nil 
    · refine b_cons ?_ ?_
      · refine st_par (i := 1) (j := 2) rfl rfl (by decide) rfl rfl ?_ (fun X c => sw_par c (by kernel_rfl))
        refine a_cons ?_ ?_
        · refine s_ix ?_ ?_
          · exact s_var (i := 0) rfl (.inl rfl)
          · exact s_int 
        · refine a_cons ?_ ?_
          · exact s_int 
          · exact a_nil 
      · refine b_cons ?_ ?_
        · refine st_for (own := [3]) ?_ ?_ ?_
          · refine i_seq ?_
            refine s_sl (mk := false) ?_ ?_ ?_
            · exact s_var (i := 0) rfl (.inl rfl)
            · refine o_some ?_
              exact s_int 
            · exact o_none 
          · exact g_name (i := 3) rfl (.inl rfl)
          · refine b_one ?_
            refine st_par (i := 1) (j := 2) rfl rfl (by decide) rfl rfl ?_ (fun X c => sw_par c (by kernel_rfl))
            refine a_cons ?_ ?_
            · refine s_add (mk := false) ?_ ?_
              · exact s_var (i := 2) rfl (.inl rfl)
              · refine s_mul (mk := false) ?_ ?_
                · exact s_var (i := 3) rfl (.inl rfl)
                · exact s_var (i := 1) rfl (.inl rfl)
            · refine a_cons ?_ ?_
              · exact s_var (i := 1) rfl (.inl rfl)
              · exact a_nil 
        · refine b_one ?_
          refine st_ret ?_
          refine s_call F_reduced_fraction (Nat.le_of_ble_eq_true rfl) rfl T.g_reduced_fraction ?_
          refine a_cons ?_ ?_
          · exact s_var (i := 1) rfl (.inl rfl)
          · refine a_cons ?_ ?_
            · exact s_var (i := 2) rfl (.inl rfl)
            · exact a_nil 
    )
theorem sc__law_terms_right : FnScope ["p", "q", "terms", "term"] ["p", "q"] (defScope s__law_terms_right) := ⟨rfl, rfl, rfl, by decide +kernel, rfl, by decide +kernel, by decide +kernel⟩
theorem ok__law_terms_right (T : Txt w K mg) (F_terms_of : FnS P w K mg base 1 (He.ga K "terms_of") ["p", "q"] M_terms_of) (F__law_plain : FnS P w K mg base 45 (He.ga K "_law_plain") ["value"] M__law_plain) (F__law_value : FnS P w K mg base 3 (He.ga K "_law_value") ["items"] M__law_value) (F_value_of : FnS P w K mg base 4 (He.ga K "value_of") ["items"] M_value_of)  {fd : FuncData} (F : FunD K "_law_terms_right" "_law_terms_right" (defArgs s__law_terms_right) (defBody s__law_terms_right) (defScope s__law_terms_right) [] [] (He.ga K "_law_terms_right") fd) : FnS P w K mg base 46 (He.ga K "_law_terms_right") ["p", "q"] M__law_terms_right :=
  fnS_of (rc := false) (N := ["p", "q", "terms", "term"]) (ps := ["p", "q"]) (k := 45) (m := B__law_terms_right) F sc__law_terms_right (F.bindsN fun _ _ _ _ _ _ us hl => match us, hl with | [_, _], _ => rfl) (by
    refine b_cons ?_ ?_
    · refine st_set (i := 2) rfl (.inl rfl) ?_
      refine s_call F_terms_of (Nat.le_of_ble_eq_true rfl) rfl T.g_terms_of ?_
      refine a_cons ?_ ?_
      · exact s_var (i := 0) rfl (.inl rfl)
      · refine a_cons ?_ ?_
        · exact s_var (i := 1) rfl (.inl rfl)
        · exact a_nil 
    · refine b_cons ?_ ?_
      · refine st_if ?_ ?_ ?_
        · refine t_c c_eq ?_ ?_
          · exact s_var (i := 1) rfl (.inl rfl)
          · exact s_int 
        · refine b_one ?_
          refine st_ret ?_
          refine s_c c_eq ?_ ?_
          · refine s_call F__law_plain (Nat.le_of_ble_eq_true rfl) rfl T.g__law_plain ?_
            refine a_cons ?_ ?_
            · exact s_var (i := 2) rfl (.inl rfl)
            · exact a_nil 
          · refine s_call F__law_plain (Nat.le_of_ble_eq_true rfl) rfl T.g__law_plain ?_
            refine a_cons ?_ ?_
            · refine s_lst (mk := false) ?_
              refine a_cons ?_ ?_
              · exact s_int 
              · refine a_cons ?_ ?_
                · exact s_int 
                · exact a_nil 
            · exact a_nil 
        · exact b_nil 
      · refine b_cons ?_ ?_
        · refine st_if ?_ ?_ ?_
          · refine t_w ?_
            refine w_or ?_ ?_
            · refine t_not ?_
              refine t_tru ?_
              refine s_cb cb_isi rfl T.b_isinstance PyProof.Rows.boot_isinstance ?_
              refine a_cons ?_ ?_
              · exact s_var (i := 2) rfl (.inl rfl)
              · refine a_cons ?_ ?_
                · exact s_ty (n := "list") rfl T.b_list PyProof.Rows.boot_list
                · exact a_nil 
            · refine w_or ?_ ?_
              · refine t_c c_eq ?_ ?_
                · refine s_cb (cb_len) rfl T.b_len PySem.boot_len ?_
                  refine a_cons ?_ ?_
                  · exact s_var (i := 2) rfl (.inl rfl)
                  · exact a_nil 
                · exact s_int 
              · refine w_or1 ?_
                refine t_c c_ne ?_ ?_
                · refine s_ix ?_ ?_
                  · exact s_var (i := 2) rfl (.inl rfl)
                  · refine s_neg ?_
                    exact s_int 
                · refine s_fdiv ?_ ?_
                  · exact s_var (i := 0) rfl (.inl rfl)
                  · exact s_var (i := 1) rfl (.inl rfl)
          · refine b_one ?_
            refine st_ret ?_
            exact s_bl 
          · exact b_nil 
        · refine b_cons ?_ ?_
          · refine st_if ?_ ?_ ?_
            · refine t_w ?_
              refine w_or ?_ ?_
              · refine t_c c_gt ?_ ?_
                · refine s_cb (cb_len) rfl T.b_len PySem.boot_len ?_
                  refine a_cons ?_ ?_
                  · refine s_lc (mk := false) (own := [("term", 3)]) (gown := [3]) ?_ (by kernel_rfl) ?_ (by decide) ?_ ?_
                    · refine i_seq ?_
                      refine s_sl (mk := false) ?_ ?_ ?_
                      · exact s_var (i := 2) rfl (.inl rfl)
                      · exact o_none 
                      · refine o_some ?_
                        refine s_neg ?_
                        exact s_int 
                    · exact g_name (i := 3) rfl (.inl rfl)
                    · refine ts_one ?_
                      refine t_c c_lt ?_ ?_
                      · exact s_var (i := 3) rfl (.inl rfl)
                      · exact s_int 
                    · exact s_var (i := 3) rfl (.inl rfl)
                  · exact a_nil 
                · exact s_int 
              · refine w_or1 ?_
                refine t_w ?_
                refine w_and ?_ ?_
                · refine t_c c_gt ?_ ?_
                  · refine s_cb (cb_len) rfl T.b_len PySem.boot_len ?_
                    refine a_cons ?_ ?_
                    · exact s_var (i := 2) rfl (.inl rfl)
                    · exact a_nil 
                  · exact s_int 
                · refine w_and1 ?_
                  refine t_c c_eq ?_ ?_
                  · refine s_ix ?_ ?_
                    · exact s_var (i := 2) rfl (.inl rfl)
                    · exact s_int 
                  · exact s_int 
            · refine b_one ?_
              refine st_ret ?_
              exact s_bl 
            · exact b_nil 
          · refine b_one ?_
            refine st_ret ?_
            refine s_and ?_ ?_
            · refine s_c c_eq ?_ ?_
              · refine s_call F__law_value (Nat.le_of_ble_eq_true rfl) rfl T.g__law_value ?_
                refine a_cons ?_ ?_
                · exact s_var (i := 2) rfl (.inl rfl)
                · exact a_nil 
              · refine s_tup ?_
                refine a_cons ?_ ?_
                · exact s_var (i := 0) rfl (.inl rfl)
                · refine a_cons ?_ ?_
                  · exact s_var (i := 1) rfl (.inl rfl)
                  · exact a_nil 
            · refine s_one ?_
              refine s_c c_eq ?_ ?_
              · refine s_call F__law_plain (Nat.le_of_ble_eq_true rfl) rfl T.g__law_plain ?_
                refine a_cons ?_ ?_
                · refine s_call F_value_of (Nat.le_of_ble_eq_true rfl) rfl T.g_value_of ?_
                  refine a_cons ?_ ?_
                  · exact s_var (i := 2) rfl (.inl rfl)
                  · exact a_nil 
                · exact a_nil 
              · refine s_call F__law_plain (Nat.le_of_ble_eq_true rfl) rfl T.g__law_plain ?_
                refine a_cons ?_ ?_
                · refine s_tup ?_
                  refine a_cons ?_ ?_
                  · exact s_var (i := 0) rfl (.inl rfl)
                  · refine a_cons ?_ ?_
                    · exact s_var (i := 1) rfl (.inl rfl)
                    · exact a_nil 
                · exact a_nil 
    )
theorem sc_rational_expression : FnScope ["items", "expression", "item"] ["items"] (defScope s_rational_expression) := ⟨rfl, rfl, rfl, by decide +kernel, rfl, by decide +kernel, by decide +kernel⟩
theorem ok_rational_expression (T : Txt w K mg)  (X_InvalidTangle : KExc P w K mg base (He.ga K "InvalidTangle")) {fd : FuncData} (F : FunD K "rational_expression" "rational_expression" (defArgs s_rational_expression) (defBody s_rational_expression) (defScope s_rational_expression) [] [] (He.ga K "rational_expression") fd) : FnS P w K mg base 3 (He.ga K "rational_expression") ["items"] M_rational_expression :=
  fnS_of (rc := false) (N := ["items", "expression", "item"]) (ps := ["items"]) (k := 2) (m := B_rational_expression) F sc_rational_expression (F.bindsN fun _ _ _ _ _ _ us hl => match us, hl with | [_], _ => rfl) (by
    refine b_cons ?_ ?_
    · refine st_if ?_ ?_ ?_
      · refine t_not ?_
        refine t_tru ?_
        exact s_var (i := 0) rfl (.inl rfl)
      · refine b_one ?_
        refine st_raise ?_
        refine mk_what X_InvalidTangle rfl T.g_InvalidTangle ?_ (Nat.le_of_ble_eq_true rfl)
        exact s_str 
      · exact b_nil 
    · refine b_cons ?_ ?_
      · refine st_set (i := 1) rfl (.inl rfl) ?_
        refine s_tup ?_
        refine a_cons ?_ ?_
        · exact s_str 
        · refine a_cons ?_ ?_
          · refine s_ix ?_ ?_
            · exact s_var (i := 0) rfl (.inl rfl)
            · exact s_int 
          · exact a_nil 
      · refine b_cons ?_ ?_
        · refine st_for (own := [2]) ?_ ?_ ?_
          · refine i_seq ?_
            refine s_sl (mk := false) ?_ ?_ ?_
            · exact s_var (i := 0) rfl (.inl rfl)
            · refine o_some ?_
              exact s_int 
            · exact o_none 
          · exact g_name (i := 2) rfl (.inl rfl)
          · refine b_one ?_
            refine st_set (i := 1) rfl (.inl rfl) ?_
            refine s_tup ?_
            refine a_cons ?_ ?_
            · exact s_str 
            · refine a_cons ?_ ?_
              · refine s_tup ?_
                refine a_cons ?_ ?_
                · exact s_str 
                · refine a_cons ?_ ?_
                  · refine s_tup ?_
                    refine a_cons ?_ ?_
                    · exact s_str 
                    · refine a_cons ?_ ?_
                      · exact s_var (i := 1) rfl (.inl rfl)
                      · exact a_nil 
                  · exact a_nil 
              · refine a_cons ?_ ?_
                · refine s_tup ?_
                  refine a_cons ?_ ?_
                  · exact s_str 
                  · refine a_cons ?_ ?_
                    · exact s_var (i := 2) rfl (.inl rfl)
                    · exact a_nil 
                · exact a_nil 
        · refine b_one ?_
          refine st_ret ?_
          exact s_var (i := 1) rfl (.inl rfl)
    )
theorem sc__law_nested : FnScope ["items", "found"] ["items"] (defScope s__law_nested) := ⟨rfl, rfl, rfl, by decide +kernel, rfl, by decide +kernel, by decide +kernel⟩
theorem ok__law_nested_ (T : Txt w K mg)   {fd : FuncData} (F : FunD K "_law_nested" "_law_nested" (defArgs s__law_nested) (defBody s__law_nested) (defScope s__law_nested) [] [] (He.ga K "_law_nested") fd) : ∀ j : Nat, FnS P w K mg base (0 + j) (He.ga K "_law_nested") ["items"] (M__law_nested_ j)
  | 0 => fnS_zero (F.bindsN fun _ _ _ _ _ _ us hl => match us, hl with | [_], _ => rfl) F.kp _
  | j + 1 =>
    have F__law_nested := ok__law_nested_ T  F j
    fnS_of (rc := false) (N := ["items", "found"]) (ps := ["items"]) (k := 0 + j) (m := B__law_nested (M__law_nested_ j)) F sc__law_nested (F.bindsN fun _ _ _ _ _ _ us hl => match us, hl with | [_], _ => rfl) (by
      refine b_cons ?_ ?_
      · refine st_set (i := 1) rfl (.inl rfl) ?_
        refine s_tup ?_
        refine a_cons ?_ ?_
        · exact s_str 
        · refine a_cons ?_ ?_
          · refine s_ix ?_ ?_
            · exact s_var (i := 0) rfl (.inl rfl)
            · refine s_neg ?_
              exact s_int 
          · exact a_nil 
      · refine b_cons ?_ ?_
        · refine st_if ?_ ?_ ?_
          · refine t_c c_eq ?_ ?_
            · refine s_cb (cb_len) rfl T.b_len PySem.boot_len ?_
              refine a_cons ?_ ?_
              · exact s_var (i := 0) rfl (.inl rfl)
              · exact a_nil 
            · exact s_int 
          · refine b_one ?_
            refine st_ret ?_
            exact s_var (i := 1) rfl (.inl rfl)
          · exact b_nil 
        · refine b_one ?_
          refine st_ret ?_
          refine s_tup ?_
          refine a_cons ?_ ?_
          · exact s_str 
          · refine a_cons ?_ ?_
            · refine s_tup ?_
              refine a_cons ?_ ?_
              · exact s_str 
              · refine a_cons ?_ ?_
                · refine s_tup ?_
                  refine a_cons ?_ ?_
                  · exact s_str 
                  · refine a_cons ?_ ?_
                    · refine s_call F__law_nested (Nat.le_refl _) rfl T.g__law_nested ?_
                      refine a_cons ?_ ?_
                      · refine s_sl (mk := false) ?_ ?_ ?_
                        · exact s_var (i := 0) rfl (.inl rfl)
                        · exact o_none 
                        · refine o_some ?_
                          refine s_neg ?_
                          exact s_int 
                      · exact a_nil 
                    · exact a_nil 
                · exact a_nil 
            · refine a_cons ?_ ?_
              · exact s_var (i := 1) rfl (.inl rfl)
              · exact a_nil 
      )
theorem ok__law_nested (T : Txt w K mg)   {fd : FuncData} (F : FunD K "_law_nested" "_law_nested" (defArgs s__law_nested) (defBody s__law_nested) (defScope s__law_nested) [] [] (He.ga K "_law_nested") fd) : FnS P w K mg base 14 (He.ga K "_law_nested") ["items"] M__law_nested := ok__law_nested_ T  F 14
theorem sc__law_quotients : FnScope ["deck", "n", "d", "m", "e", "many", "turn", "term"] ["deck"] (defScope s__law_quotients) := ⟨rfl, rfl, rfl, by decide +kernel, rfl, by decide +kernel, by decide +kernel⟩
theorem ok__law_quotients (T : Txt w K mg) (F__law_take : FnS P w K mg base 1 (He.ga K "_law_take") ["deck", "many"] M__law_take)  {fd : FuncData} (F : FunD K "_law_quotients" "_law_quotients" (defArgs s__law_quotients) (defBody s__law_quotients) (defScope s__law_quotients) [] [] (He.ga K "_law_quotients") fd) : FnS P w K mg base 2 (He.ga K "_law_quotients") ["deck"] M__law_quotients :=
  fnS_of (rc := false) (N := ["deck", "n", "d", "m", "e", "many", "turn", "term"]) (ps := ["deck"]) (k := 1) (m := B__law_quotients) F sc__law_quotients (F.bindsN fun _ _ _ _ _ _ us hl => match us, hl with | [_], _ => rfl) (by
    refine b_cons ?_ ?_
    · refine st_asg (own := [1, 2]) ?_ ?_ (hw := fun _ => sw_none (by kernel_rfl))
      · refine s_tup ?_
        refine a_cons ?_ ?_
        · exact s_int 
        · refine a_cons ?_ ?_
          · exact s_int 
          · exact a_nil 
      · refine g_tup ?_
        refine gs_cons (own := [1]) (own' := [2]) ?_ ?_
        · exact g_name (i := 1) rfl (.inl rfl)
        · refine gs_cons (own := [2]) (own' := []) ?_ ?_
          · exact g_name (i := 2) rfl (.inl rfl)
          · exact gs_nil 
    · refine b_cons ?_ ?_
      · refine st_asg (own := [3, 4]) ?_ ?_ (hw := fun _ => sw_none (by kernel_rfl))
        · refine s_tup ?_
          refine a_cons ?_ ?_
          · exact s_int 
          · refine a_cons ?_ ?_
            · exact s_int 
            · exact a_nil 
        · refine g_tup ?_
          refine gs_cons (own := [3]) (own' := [4]) ?_ ?_
          · exact g_name (i := 3) rfl (.inl rfl)
          · refine gs_cons (own := [4]) (own' := []) ?_ ?_
            · exact g_name (i := 4) rfl (.inl rfl)
            · exact gs_nil 
      · refine b_cons ?_ ?_
        · refine st_set (i := 5) rfl (.inl rfl) ?_
          refine s_call F__law_take (Nat.le_of_ble_eq_true rfl) rfl T.g__law_take ?_
          refine a_cons ?_ ?_
          · exact s_var (i := 0) rfl (.inl rfl)
          · refine a_cons ?_ ?_
            · exact s_int 
            · exact a_nil 
        · refine b_cons ?_ ?_
          · refine st_for (own := [6]) ?_ ?_ ?_
            · refine i_rng1 rfl T.b_range ?_
              refine a_cons ?_ ?_
              · exact s_var (i := 5) rfl (.inl rfl)
              · exact a_nil 
            · exact g_name (i := 6) rfl (.inl rfl)
            · refine b_cons ?_ ?_
              · refine st_set (i := 7) rfl (.inl rfl) ?_
                refine s_add (mk := false) ?_ ?_
                · exact s_int 
                · refine s_ix ?_ ?_
                  · refine s_lst (mk := false) ?_
                    refine a_cons ?_ ?_
                    · refine s_call F__law_take (Nat.le_of_ble_eq_true rfl) rfl T.g__law_take ?_
                      refine a_cons ?_ ?_
                      · exact s_var (i := 0) rfl (.inl rfl)
                      · refine a_cons ?_ ?_
                        · exact s_int 
                        · exact a_nil 
                    · refine a_cons ?_ ?_
                      · refine s_call F__law_take (Nat.le_of_ble_eq_true rfl) rfl T.g__law_take ?_
                        refine a_cons ?_ ?_
                        · exact s_var (i := 0) rfl (.inl rfl)
                        · refine a_cons ?_ ?_
                          · exact s_int 
                          · exact a_nil 
                      · refine a_cons ?_ ?_
                        · refine s_call F__law_take (Nat.le_of_ble_eq_true rfl) rfl T.g__law_take ?_
                          refine a_cons ?_ ?_
                          · exact s_var (i := 0) rfl (.inl rfl)
                          · refine a_cons ?_ ?_
                            · refine s_pow ?_ ?_
                              · exact s_int 
                              · exact s_int 
                            · exact a_nil 
                        · exact a_nil 
                  · refine s_call F__law_take (Nat.le_of_ble_eq_true rfl) rfl T.g__law_take ?_
                    refine a_cons ?_ ?_
                    · exact s_var (i := 0) rfl (.inl rfl)
                    · refine a_cons ?_ ?_
                      · exact s_int 
                      · exact a_nil 
              · refine b_cons ?_ ?_
                · refine st_par (i := 1) (j := 2) rfl rfl (by decide) rfl rfl ?_ (fun X c => sw_par c (by kernel_rfl))
                  refine a_cons ?_ ?_
                  · refine s_add (mk := false) ?_ ?_
                    · refine s_mul (mk := false) ?_ ?_
                      · exact s_var (i := 7) rfl (.inl rfl)
                      · exact s_var (i := 1) rfl (.inl rfl)
                    · exact s_var (i := 2) rfl (.inl rfl)
                  · refine a_cons ?_ ?_
                    · exact s_var (i := 1) rfl (.inl rfl)
                    · exact a_nil 
                · refine b_one ?_
                  refine st_par (i := 3) (j := 4) rfl rfl (by decide) rfl rfl ?_ (fun X c => sw_par c (by kernel_rfl))
                  refine a_cons ?_ ?_
                  · refine s_add (mk := false) ?_ ?_
                    · refine s_mul (mk := false) ?_ ?_
                      · exact s_var (i := 7) rfl (.inl rfl)
                      · exact s_var (i := 3) rfl (.inl rfl)
                    · exact s_var (i := 4) rfl (.inl rfl)
                  · refine a_cons ?_ ?_
                    · exact s_var (i := 3) rfl (.inl rfl)
                    · exact a_nil 
          · refine b_one ?_
            refine st_ret ?_
            refine s_tup ?_
            refine a_cons ?_ ?_
            · exact s_var (i := 1) rfl (.inl rfl)
            · refine a_cons ?_ ?_
              · exact s_var (i := 2) rfl (.inl rfl)
              · refine a_cons ?_ ?_
                · exact s_var (i := 3) rfl (.inl rfl)
                · refine a_cons ?_ ?_
                  · exact s_var (i := 4) rfl (.inl rfl)
                  · refine a_cons ?_ ?_
                    · exact s_var (i := 5) rfl (.inl rfl)
                    · exact a_nil 
    )
theorem sc__law_inverse : FnScope ["p", "q", "numbers", "number"] ["p", "q", "numbers"] (defScope s__law_inverse) := ⟨rfl, rfl, rfl, by decide +kernel, rfl, by decide +kernel, by decide +kernel⟩
theorem ok__law_inverse (T : Txt w K mg)   {fd : FuncData} (F : FunD K "_law_inverse" "_law_inverse" (defArgs s__law_inverse) (defBody s__law_inverse) (defScope s__law_inverse) [] [] (He.ga K "_law_inverse") fd) : FnS P w K mg base 1 (He.ga K "_law_inverse") ["p", "q", "numbers"] M__law_inverse :=
  fnS_of (rc := false) (N := ["p", "q", "numbers", "number"]) (ps := ["p", "q", "numbers"]) (k := 0) (m := B__law_inverse) F sc__law_inverse (F.bindsN fun _ _ _ _ _ _ us hl => match us, hl with | [_, _, _], _ => rfl) (by
    refine b_cons ?_ ?_
    · refine st_for (own := [3]) ?_ ?_ ?_
      · refine i_seq ?_
        exact s_var (i := 2) rfl (.inl rfl)
      · exact g_name (i := 3) rfl (.inl rfl)
      · refine b_one ?_
        refine st_if ?_ ?_ ?_
        · refine t_c c_eq ?_ ?_
          · refine s_mod ?_ ?_
            · refine s_cty (cb_int) rfl T.b_int PyProof.Rows.boot_int ?_
              refine a_cons ?_ ?_
              · refine s_sub ?_ ?_
                · refine s_mul (mk := false) ?_ ?_
                  · exact s_var (i := 3) rfl (.inl rfl)
                  · exact s_var (i := 1) rfl (.inl rfl)
                · exact s_int 
              · exact a_nil 
            · exact s_var (i := 0) rfl (.inl rfl)
          · exact s_int 
        · refine b_one ?_
          refine st_ret ?_
          refine s_mod ?_ ?_
          · refine s_cty (cb_int) rfl T.b_int PyProof.Rows.boot_int ?_
            refine a_cons ?_ ?_
            · exact s_var (i := 3) rfl (.inl rfl)
            · exact a_nil 
          · exact s_var (i := 0) rfl (.inl rfl)
        · exact b_nil 
    · refine b_one ?_
      refine st_ret ?_
      exact s_non 
    )
theorem sc_check_bridge : FnScope ["p", "q"] ["p", "q"] (defScope s_check_bridge) := ⟨rfl, rfl, rfl, by decide +kernel, rfl, by decide +kernel, by decide +kernel⟩
theorem ok_check_bridge (T : Txt w K mg)  (X_InvalidTangle : KExc P w K mg base (He.ga K "InvalidTangle")) {fd : FuncData} (F : FunD K "check_bridge" "check_bridge" (defArgs s_check_bridge) (defBody s_check_bridge) (defScope s_check_bridge) [] [] (He.ga K "check_bridge") fd) : FnS P w K mg base 3 (He.ga K "check_bridge") ["p", "q"] M_check_bridge :=
  fnS_of (rc := false) (N := ["p", "q"]) (ps := ["p", "q"]) (k := 2) (m := B_check_bridge) F sc_check_bridge (F.bindsN fun _ _ _ _ _ _ us hl => match us, hl with | [_, _], _ => rfl) (by
    refine b_one ?_
    refine st_if ?_ ?_ ?_
    · refine t_w ?_
      refine w_or ?_ ?_
      · refine t_c c_lt ?_ ?_
        · exact s_var (i := 0) rfl (.inl rfl)
        · exact s_int 
      · refine w_or1 ?_
        refine t_c c_ne ?_ ?_
        · refine s_gcd rfl T.f_gcd ?_
          refine a_cons ?_ ?_
          · exact s_var (i := 0) rfl (.inl rfl)
          · refine a_cons ?_ ?_
            · exact s_var (i := 1) rfl (.inl rfl)
            · exact a_nil 
        · exact s_int 
    · refine b_one ?_
      refine st_raise ?_
      refine mk_what X_InvalidTangle rfl T.g_InvalidTangle ?_ (Nat.le_of_ble_eq_true rfl)
      exact s_str 
    · exact b_nil 
    )
theorem sc_inverse_number : FnScope ["p", "q", "first", "second", "before", "now", "times"] ["p", "q"] (defScope s_inverse_number) := ⟨rfl, rfl, rfl, by decide +kernel, rfl, by decide +kernel, by decide +kernel⟩
theorem ok_inverse_number (T : Txt w K mg)   {fd : FuncData} (F : FunD K "inverse_number" "inverse_number" (defArgs s_inverse_number) (defBody s_inverse_number) (defScope s_inverse_number) [] [] (He.ga K "inverse_number") fd) : FnS P w K mg base 1 (He.ga K "inverse_number") ["p", "q"] M_inverse_number :=
  fnS_of (rc := false) (N := ["p", "q", "first", "second", "before", "now", "times"]) (ps := ["p", "q"]) (k := 0) (m := B_inverse_number) F sc_inverse_number (F.bindsN fun _ _ _ _ _ _ us hl => match us, hl with | [_, _], _ => rfl) (by
    refine b_cons ?_ ?_
    · refine st_par (i := 2) (j := 3) rfl rfl (by decide) rfl rfl ?_ (fun X c => sw_par c (by kernel_rfl))
      refine a_cons ?_ ?_
      · exact s_var (i := 0) rfl (.inl rfl)
      · refine a_cons ?_ ?_
        · refine s_mod ?_ ?_
          · exact s_var (i := 1) rfl (.inl rfl)
          · exact s_var (i := 0) rfl (.inl rfl)
        · exact a_nil 
    · refine b_cons ?_ ?_
      · refine st_par (i := 4) (j := 5) rfl rfl (by decide) rfl rfl ?_ (fun X c => sw_par c (by kernel_rfl))
        refine a_cons ?_ ?_
        · exact s_int 
        · refine a_cons ?_ ?_
          · refine s_mod ?_ ?_
            · exact s_int 
            · exact s_var (i := 0) rfl (.inl rfl)
          · exact a_nil 
      · refine b_cons ?_ ?_
        · refine st_while ?_ ?_
          · refine t_c c_ne ?_ ?_
            · exact s_var (i := 3) rfl (.inl rfl)
            · exact s_int 
          · refine b_cons ?_ ?_
            · refine st_set (i := 6) rfl (.inl rfl) ?_
              refine s_fdiv ?_ ?_
              · exact s_var (i := 2) rfl (.inl rfl)
              · exact s_var (i := 3) rfl (.inl rfl)
            · refine b_cons ?_ ?_
              · refine st_par (i := 2) (j := 3) rfl rfl (by decide) rfl rfl ?_ (fun X c => sw_par c (by kernel_rfl))
                refine a_cons ?_ ?_
                · exact s_var (i := 3) rfl (.inl rfl)
                · refine a_cons ?_ ?_
                  · refine s_sub ?_ ?_
                    · exact s_var (i := 2) rfl (.inl rfl)
                    · refine s_mul (mk := false) ?_ ?_
                      · exact s_var (i := 6) rfl (.inl rfl)
                      · exact s_var (i := 3) rfl (.inl rfl)
                  · exact a_nil 
              · refine b_one ?_
                refine st_par (i := 4) (j := 5) rfl rfl (by decide) rfl rfl ?_ (fun X c => sw_par c (by kernel_rfl))
                refine a_cons ?_ ?_
                · exact s_var (i := 5) rfl (.inl rfl)
                · refine a_cons ?_ ?_
                  · refine s_sub ?_ ?_
                    · exact s_var (i := 4) rfl (.inl rfl)
                    · refine s_mul (mk := false) ?_ ?_
                      · exact s_var (i := 6) rfl (.inl rfl)
                      · exact s_var (i := 5) rfl (.inl rfl)
                  · exact a_nil 
        · refine b_one ?_
          refine st_ret ?_
          refine s_mod ?_ ?_
          · exact s_var (i := 4) rfl (.inl rfl)
          · exact s_var (i := 0) rfl (.inl rfl)
    )
theorem sc_least_number : FnScope ["p", "q"] ["p", "q"] (defScope s_least_number) := ⟨rfl, rfl, rfl, by decide +kernel, rfl, by decide +kernel, by decide +kernel⟩
theorem ok_least_number (T : Txt w K mg) (F_check_bridge : FnS P w K mg base 3 (He.ga K "check_bridge") ["p", "q"] M_check_bridge) (F_inverse_number : FnS P w K mg base 1 (He.ga K "inverse_number") ["p", "q"] M_inverse_number)  {fd : FuncData} (F : FunD K "least_number" "least_number" (defArgs s_least_number) (defBody s_least_number) (defScope s_least_number) [] [] (He.ga K "least_number") fd) : FnS P w K mg base 4 (He.ga K "least_number") ["p", "q"] M_least_number :=
  fnS_of (rc := false) (N := ["p", "q"]) (ps := ["p", "q"]) (k := 3) (m := B_least_number) F sc_least_number (F.bindsN fun _ _ _ _ _ _ us hl => match us, hl with | [_, _], _ => rfl) (by
    refine b_cons ?_ ?_
    · refine st_ex ?_
      refine s_call F_check_bridge (Nat.le_of_ble_eq_true rfl) rfl T.g_check_bridge ?_
      refine a_cons ?_ ?_
      · exact s_var (i := 0) rfl (.inl rfl)
      · refine a_cons ?_ ?_
        · exact s_var (i := 1) rfl (.inl rfl)
        · exact a_nil 
    · refine b_one ?_
      refine st_ret ?_
      refine s_cb cb_min2 rfl T.b_min PyProof.Rows.boot_min ?_
      refine a_cons ?_ ?_
      · refine s_mod ?_ ?_
        · exact s_var (i := 1) rfl (.inl rfl)
        · exact s_var (i := 0) rfl (.inl rfl)
      · refine a_cons ?_ ?_
        · refine s_call F_inverse_number (Nat.le_of_ble_eq_true rfl) rfl T.g_inverse_number ?_
          refine a_cons ?_ ?_
          · exact s_var (i := 0) rfl (.inl rfl)
          · refine a_cons ?_ ?_
            · exact s_var (i := 1) rfl (.inl rfl)
            · exact a_nil 
        · exact a_nil 
    )
theorem sc_same_two_bridge : FnScope ["first", "second", "numbers"] ["first", "second"] (defScope s_same_two_bridge) := ⟨rfl, rfl, rfl, by decide +kernel, rfl, by decide +kernel, by decide +kernel⟩
theorem ok_same_two_bridge (T : Txt w K mg) (F_least_number : FnS P w K mg base 4 (He.ga K "least_number") ["p", "q"] M_least_number)  {fd : FuncData} (F : FunD K "same_two_bridge" "same_two_bridge" (defArgs s_same_two_bridge) (defBody s_same_two_bridge) (defScope s_same_two_bridge) [] [] (He.ga K "same_two_bridge") fd) : FnS P w K mg base 5 (He.ga K "same_two_bridge") ["first", "second"] M_same_two_bridge :=
  fnS_of (rc := false) (N := ["first", "second", "numbers"]) (ps := ["first", "second"]) (k := 4) (m := B_same_two_bridge) F sc_same_two_bridge (F.bindsN fun _ _ _ _ _ _ us hl => match us, hl with | [_, _], _ => rfl) (by
    refine b_cons ?_ ?_
    · refine st_set (i := 2) rfl (.inl rfl) ?_
      refine s_tup ?_
      refine a_cons ?_ ?_
      · refine s_call F_least_number (Nat.le_of_ble_eq_true rfl) rfl T.g_least_number ?_
        refine a_cons ?_ ?_
        · refine s_ix ?_ ?_
          · exact s_var (i := 0) rfl (.inl rfl)
          · exact s_int 
        · refine a_cons ?_ ?_
          · refine s_ix ?_ ?_
            · exact s_var (i := 0) rfl (.inl rfl)
            · exact s_int 
          · exact a_nil 
      · refine a_cons ?_ ?_
        · refine s_call F_least_number (Nat.le_of_ble_eq_true rfl) rfl T.g_least_number ?_
          refine a_cons ?_ ?_
          · refine s_ix ?_ ?_
            · exact s_var (i := 1) rfl (.inl rfl)
            · exact s_int 
          · refine a_cons ?_ ?_
            · refine s_ix ?_ ?_
              · exact s_var (i := 1) rfl (.inl rfl)
              · exact s_int 
            · exact a_nil 
        · exact a_nil 
    · refine b_one ?_
      refine st_ret ?_
      refine s_and ?_ ?_
      · refine s_c c_eq ?_ ?_
        · refine s_ix ?_ ?_
          · exact s_var (i := 0) rfl (.inl rfl)
          · exact s_int 
        · refine s_ix ?_ ?_
          · exact s_var (i := 1) rfl (.inl rfl)
          · exact s_int 
      · refine s_one ?_
        refine s_c c_eq ?_ ?_
        · refine s_ix ?_ ?_
          · exact s_var (i := 2) rfl (.inl rfl)
          · exact s_int 
        · refine s_ix ?_ ?_
          · exact s_var (i := 2) rfl (.inl rfl)
          · exact s_int 
    )
theorem sc__law_both : FnScope ["first", "second"] ["first", "second"] (defScope s__law_both) := ⟨rfl, rfl, rfl, by decide +kernel, rfl, by decide +kernel, by decide +kernel⟩
theorem ok__law_both (T : Txt w K mg) (F_same_two_bridge : FnS P w K mg base 5 (He.ga K "same_two_bridge") ["first", "second"] M_same_two_bridge)  {fd : FuncData} (F : FunD K "_law_both" "_law_both" (defArgs s__law_both) (defBody s__law_both) (defScope s__law_both) [] [] (He.ga K "_law_both") fd) : FnS P w K mg base 6 (He.ga K "_law_both") ["first", "second"] M__law_both :=
  fnS_of (rc := false) (N := ["first", "second"]) (ps := ["first", "second"]) (k := 5) (m := B__law_both) F sc__law_both (F.bindsN fun _ _ _ _ _ _ us hl => match us, hl with | [_, _], _ => rfl) (by
    refine b_one ?_
    refine st_ret ?_
    refine s_lst (mk := false) ?_
    refine a_cons ?_ ?_
    · refine s_call F_same_two_bridge (Nat.le_of_ble_eq_true rfl) rfl T.g_same_two_bridge ?_
      refine a_cons ?_ ?_
      · exact s_var (i := 0) rfl (.inl rfl)
      · refine a_cons ?_ ?_
        · exact s_var (i := 1) rfl (.inl rfl)
        · exact a_nil 
    · refine a_cons ?_ ?_
      · refine s_call F_same_two_bridge (Nat.le_of_ble_eq_true rfl) rfl T.g_same_two_bridge ?_
        refine a_cons ?_ ?_
        · exact s_var (i := 1) rfl (.inl rfl)
        · refine a_cons ?_ ?_
          · exact s_var (i := 0) rfl (.inl rfl)
          · exact a_nil 
      · exact a_nil 
    )
theorem sc__law_numbers_right : FnScope ["deck", "n", "d", "m", "e", "many", "p", "q", "numbers", "inverse", "least", "other", "mirror", "r", "s", "t", "u", "more", "due"] ["deck"] (defScope s__law_numbers_right) := ⟨rfl, rfl, rfl, by decide +kernel, rfl, by decide +kernel, by decide +kernel⟩
theorem ok__law_numbers_right (T : Txt w K mg) (F__law_quotients : FnS P w K mg base 2 (He.ga K "_law_quotients") ["deck"] M__law_quotients) (F__law_take : FnS P w K mg base 1 (He.ga K "_law_take") ["deck", "many"] M__law_take) (F__law_inverse : FnS P w K mg base 1 (He.ga K "_law_inverse") ["p", "q", "numbers"] M__law_inverse) (F_least_number : FnS P w K mg base 4 (He.ga K "least_number") ["p", "q"] M_least_number) (F__law_plain : FnS P w K mg base 45 (He.ga K "_law_plain") ["value"] M__law_plain) (F__law_both : FnS P w K mg base 6 (He.ga K "_law_both") ["first", "second"] M__law_both)  {fd : FuncData} (F : FunD K "_law_numbers_right" "_law_numbers_right" (defArgs s__law_numbers_right) (defBody s__law_numbers_right) (defScope s__law_numbers_right) [] [] (He.ga K "_law_numbers_right") fd) : FnS P w K mg base 46 (He.ga K "_law_numbers_right") ["deck"] M__law_numbers_right :=
  fnS_of (rc := false) (N := ["deck", "n", "d", "m", "e", "many", "p", "q", "numbers", "inverse", "least", "other", "mirror", "r", "s", "t", "u", "more", "due"]) (ps := ["deck"]) (k := 45) (m := B__law_numbers_right) F sc__law_numbers_right (F.bindsN fun _ _ _ _ _ _ us hl => match us, hl with | [_], _ => rfl) (by
    refine b_cons ?_ ?_
    · refine st_asg (own := [1, 2, 3, 4, 5]) ?_ ?_
      · refine s_call F__law_quotients (Nat.le_of_ble_eq_true rfl) rfl T.g__law_quotients ?_
        refine a_cons ?_ ?_
        · exact s_var (i := 0) rfl (.inl rfl)
        · exact a_nil 
      · refine g_tup ?_
        refine gs_cons (own := [1]) (own' := [2, 3, 4, 5]) ?_ ?_
        · exact g_name (i := 1) rfl (.inl rfl)
        · refine gs_cons (own := [2]) (own' := [3, 4, 5]) ?_ ?_
          · exact g_name (i := 2) rfl (.inl rfl)
          · refine gs_cons (own := [3]) (own' := [4, 5]) ?_ ?_
            · exact g_name (i := 3) rfl (.inl rfl)
            · refine gs_cons (own := [4]) (own' := [5]) ?_ ?_
              · exact g_name (i := 4) rfl (.inl rfl)
              · refine gs_cons (own := [5]) (own' := []) ?_ ?_
                · exact g_name (i := 5) rfl (.inl rfl)
                · exact gs_nil 
    · refine b_cons ?_ ?_
      · refine st_set (i := 6) rfl (.inl rfl) ?_
        exact s_var (i := 1) rfl (.inl rfl)
      · refine b_cons ?_ ?_
        · refine st_set (i := 7) rfl (.inl rfl) ?_
          refine s_add (mk := false) ?_ ?_
          · refine s_ix ?_ ?_
            · refine s_lst (mk := false) ?_
              refine a_cons ?_ ?_
              · exact s_var (i := 2) rfl (.inl rfl)
              · refine a_cons ?_ ?_
                · exact s_var (i := 3) rfl (.inl rfl)
                · refine a_cons ?_ ?_
                  · refine s_neg ?_
                    exact s_var (i := 2) rfl (.inl rfl)
                  · refine a_cons ?_ ?_
                    · refine s_neg ?_
                      exact s_var (i := 3) rfl (.inl rfl)
                    · exact a_nil 
            · refine s_call F__law_take (Nat.le_of_ble_eq_true rfl) rfl T.g__law_take ?_
              refine a_cons ?_ ?_
              · exact s_var (i := 0) rfl (.inl rfl)
              · refine a_cons ?_ ?_
                · exact s_int 
                · exact a_nil 
          · refine s_mul (mk := false) ?_ ?_
            · exact s_var (i := 6) rfl (.inl rfl)
            · refine s_sub ?_ ?_
              · refine s_call F__law_take (Nat.le_of_ble_eq_true rfl) rfl T.g__law_take ?_
                refine a_cons ?_ ?_
                · exact s_var (i := 0) rfl (.inl rfl)
                · refine a_cons ?_ ?_
                  · exact s_int 
                  · exact a_nil 
              · exact s_int 
        · refine b_cons ?_ ?_
          · refine st_set (i := 8) rfl (.inl rfl) ?_
            refine s_lst (mk := false) ?_
            refine a_cons ?_ ?_
            · exact s_var (i := 2) rfl (.inl rfl)
            · refine a_cons ?_ ?_
              · exact s_var (i := 3) rfl (.inl rfl)
              · refine a_cons ?_ ?_
                · refine s_neg ?_
                  exact s_var (i := 2) rfl (.inl rfl)
                · refine a_cons ?_ ?_
                  · refine s_neg ?_
                    exact s_var (i := 3) rfl (.inl rfl)
                  · refine a_cons ?_ ?_
                    · exact s_int 
                    · exact a_nil 
          · refine b_cons ?_ ?_
            · refine st_set (i := 9) rfl (.inl rfl) ?_
              refine s_call F__law_inverse (Nat.le_of_ble_eq_true rfl) rfl T.g__law_inverse ?_
              refine a_cons ?_ ?_
              · exact s_var (i := 6) rfl (.inl rfl)
              · refine a_cons ?_ ?_
                · exact s_var (i := 7) rfl (.inl rfl)
                · refine a_cons ?_ ?_
                  · exact s_var (i := 8) rfl (.inl rfl)
                  · exact a_nil 
            · refine b_cons ?_ ?_
              · refine st_if ?_ ?_ ?_
                · refine t_c c_isN ?_ ?_
                  · exact s_var (i := 9) rfl (.inl rfl)
                  · exact s_non 
                · refine b_one ?_
                  refine st_ret ?_
                  exact s_bl 
                · exact b_nil 
              · refine b_cons ?_ ?_
                · refine st_set (i := 10) rfl (.inl rfl) ?_
                  refine s_cb cb_min2 rfl T.b_min PyProof.Rows.boot_min ?_
                  refine a_cons ?_ ?_
                  · refine s_mod ?_ ?_
                    · refine s_cty (cb_int) rfl T.b_int PyProof.Rows.boot_int ?_
                      refine a_cons ?_ ?_
                      · exact s_var (i := 7) rfl (.inl rfl)
                      · exact a_nil 
                    · exact s_var (i := 6) rfl (.inl rfl)
                  · refine a_cons ?_ ?_
                    · exact s_var (i := 9) rfl (.inl rfl)
                    · exact a_nil 
                · refine b_cons ?_ ?_
                  · refine st_if ?_ ?_ ?_
                    · refine t_w ?_
                      refine w_or ?_ ?_
                      · refine t_c c_ne ?_ ?_
                        · refine s_call F__law_plain (Nat.le_of_ble_eq_true rfl) rfl T.g__law_plain ?_
                          refine a_cons ?_ ?_
                          · refine s_call F_least_number (Nat.le_of_ble_eq_true rfl) rfl T.g_least_number ?_
                            refine a_cons ?_ ?_
                            · exact s_var (i := 6) rfl (.inl rfl)
                            · refine a_cons ?_ ?_
                              · exact s_var (i := 7) rfl (.inl rfl)
                              · exact a_nil 
                          · exact a_nil 
                        · refine s_call F__law_plain (Nat.le_of_ble_eq_true rfl) rfl T.g__law_plain ?_
                          refine a_cons ?_ ?_
                          · exact s_var (i := 10) rfl (.inl rfl)
                          · exact a_nil 
                      · refine w_or1 ?_
                        refine t_c c_ne ?_ ?_
                        · refine s_call F__law_plain (Nat.le_of_ble_eq_true rfl) rfl T.g__law_plain ?_
                          refine a_cons ?_ ?_
                          · refine s_call F_least_number (Nat.le_of_ble_eq_true rfl) rfl T.g_least_number ?_
                            refine a_cons ?_ ?_
                            · exact s_var (i := 6) rfl (.inl rfl)
                            · refine a_cons ?_ ?_
                              · exact s_var (i := 9) rfl (.inl rfl)
                              · exact a_nil 
                          · exact a_nil 
                        · refine s_call F__law_plain (Nat.le_of_ble_eq_true rfl) rfl T.g__law_plain ?_
                          refine a_cons ?_ ?_
                          · exact s_var (i := 10) rfl (.inl rfl)
                          · exact a_nil 
                    · refine b_one ?_
                      refine st_ret ?_
                      exact s_bl 
                    · exact b_nil 
                  · refine b_cons ?_ ?_
                    · refine st_for (own := [11]) ?_ ?_ ?_
                      · refine i_seq ?_
                        refine s_tup ?_
                        refine a_cons ?_ ?_
                        · refine s_add (mk := false) ?_ ?_
                          · exact s_var (i := 7) rfl (.inl rfl)
                          · exact s_var (i := 6) rfl (.inl rfl)
                        · refine a_cons ?_ ?_
                          · refine s_sub ?_ ?_
                            · exact s_var (i := 7) rfl (.inl rfl)
                            · refine s_mul (mk := false) ?_ ?_
                              · exact s_int 
                              · exact s_var (i := 6) rfl (.inl rfl)
                          · refine a_cons ?_ ?_
                            · exact s_var (i := 9) rfl (.inl rfl)
                            · refine a_cons ?_ ?_
                              · refine s_sub ?_ ?_
                                · exact s_var (i := 9) rfl (.inl rfl)
                                · exact s_var (i := 6) rfl (.inl rfl)
                              · exact a_nil 
                      · exact g_name (i := 11) rfl (.inl rfl)
                      · refine b_one ?_
                        refine st_if ?_ ?_ ?_
                        · refine t_c c_ne ?_ ?_
                          · refine s_call F__law_plain (Nat.le_of_ble_eq_true rfl) rfl T.g__law_plain ?_
                            refine a_cons ?_ ?_
                            · refine s_call F__law_both (Nat.le_of_ble_eq_true rfl) rfl T.g__law_both ?_
                              refine a_cons ?_ ?_
                              · refine s_tup ?_
                                refine a_cons ?_ ?_
                                · exact s_var (i := 6) rfl (.inl rfl)
                                · refine a_cons ?_ ?_
                                  · exact s_var (i := 7) rfl (.inl rfl)
                                  · exact a_nil 
                              · refine a_cons ?_ ?_
                                · refine s_tup ?_
                                  refine a_cons ?_ ?_
                                  · exact s_var (i := 6) rfl (.inl rfl)
                                  · refine a_cons ?_ ?_
                                    · exact s_var (i := 11) rfl (.inl rfl)
                                    · exact a_nil 
                                · exact a_nil 
                            · exact a_nil 
                          · refine s_call F__law_plain (Nat.le_of_ble_eq_true rfl) rfl T.g__law_plain ?_
                            refine a_cons ?_ ?_
                            · refine s_lst (mk := false) ?_
                              refine a_cons ?_ ?_
                              · exact s_bl 
                              · refine a_cons ?_ ?_
                                · exact s_bl 
                                · exact a_nil 
                            · exact a_nil 
                        · refine b_one ?_
                          refine st_ret ?_
                          exact s_bl 
                        · exact b_nil 
                    · refine b_cons ?_ ?_
                      · refine st_set (i := 12) rfl (.inl rfl) ?_
                        refine s_cb cb_min2 rfl T.b_min PyProof.Rows.boot_min ?_
                        refine a_cons ?_ ?_
                        · refine s_mod ?_ ?_
                          · refine s_cty (cb_int) rfl T.b_int PyProof.Rows.boot_int ?_
                            refine a_cons ?_ ?_
                            · refine s_neg ?_
                              exact s_var (i := 7) rfl (.inl rfl)
                            · exact a_nil 
                          · exact s_var (i := 6) rfl (.inl rfl)
                        · refine a_cons ?_ ?_
                          · refine s_mod ?_ ?_
                            · refine s_cty (cb_int) rfl T.b_int PyProof.Rows.boot_int ?_
                              refine a_cons ?_ ?_
                              · refine s_neg ?_
                                exact s_var (i := 9) rfl (.inl rfl)
                              · exact a_nil 
                            · exact s_var (i := 6) rfl (.inl rfl)
                          · exact a_nil 
                      · refine b_cons ?_ ?_
                        · refine st_for (own := [11]) ?_ ?_ ?_
                          · refine i_seq ?_
                            refine s_tup ?_
                            refine a_cons ?_ ?_
                            · refine s_neg ?_
                              exact s_var (i := 7) rfl (.inl rfl)
                            · refine a_cons ?_ ?_
                              · refine s_sub ?_ ?_
                                · exact s_var (i := 6) rfl (.inl rfl)
                                · exact s_var (i := 9) rfl (.inl rfl)
                              · exact a_nil 
                          · exact g_name (i := 11) rfl (.inl rfl)
                          · refine b_cons ?_ ?_
                            · refine st_set (i := 18) rfl (.inl rfl) ?_
                              refine s_c c_eq ?_ ?_
                              · exact s_var (i := 12) rfl (.inl rfl)
                              · exact s_var (i := 10) rfl (.inl rfl)
                            · refine b_one ?_
                              refine st_if ?_ ?_ ?_
                              · refine t_c c_ne ?_ ?_
                                · refine s_call F__law_plain (Nat.le_of_ble_eq_true rfl) rfl T.g__law_plain ?_
                                  refine a_cons ?_ ?_
                                  · refine s_call F__law_both (Nat.le_of_ble_eq_true rfl) rfl T.g__law_both ?_
                                    refine a_cons ?_ ?_
                                    · refine s_tup ?_
                                      refine a_cons ?_ ?_
                                      · exact s_var (i := 6) rfl (.inl rfl)
                                      · refine a_cons ?_ ?_
                                        · exact s_var (i := 7) rfl (.inl rfl)
                                        · exact a_nil 
                                    · refine a_cons ?_ ?_
                                      · refine s_tup ?_
                                        refine a_cons ?_ ?_
                                        · exact s_var (i := 6) rfl (.inl rfl)
                                        · refine a_cons ?_ ?_
                                          · exact s_var (i := 11) rfl (.inl rfl)
                                          · exact a_nil 
                                      · exact a_nil 
                                  · exact a_nil 
                                · refine s_call F__law_plain (Nat.le_of_ble_eq_true rfl) rfl T.g__law_plain ?_
                                  refine a_cons ?_ ?_
                                  · refine s_lst (mk := false) ?_
                                    refine a_cons ?_ ?_
                                    · exact s_var (i := 18) rfl (.inl rfl)
                                    · refine a_cons ?_ ?_
                                      · exact s_var (i := 18) rfl (.inl rfl)
                                      · exact a_nil 
                                  · exact a_nil 
                              · refine b_one ?_
                                refine st_ret ?_
                                exact s_bl 
                              · exact b_nil 
                        · refine b_cons ?_ ?_
                          · refine st_if ?_ ?_ ?_
                            · refine t_w ?_
                              refine w_and ?_ ?_
                              · refine t_w ?_
                                refine w_or ?_ ?_
                                · refine t_c c_eq ?_ ?_
                                  · refine s_mod ?_ ?_
                                    · refine s_cty (cb_int) rfl T.b_int PyProof.Rows.boot_int ?_
                                      refine a_cons ?_ ?_
                                      · refine s_add (mk := false) ?_ ?_
                                        · refine s_mul (mk := false) ?_ ?_
                                          · exact s_var (i := 7) rfl (.inl rfl)
                                          · exact s_var (i := 7) rfl (.inl rfl)
                                        · exact s_int 
                                      · exact a_nil 
                                    · exact s_var (i := 6) rfl (.inl rfl)
                                  · exact s_int 
                                · refine w_or1 ?_
                                  refine t_w ?_
                                  refine w_and ?_ ?_
                                  · refine t_c c_eq ?_ ?_
                                    · refine s_mod ?_ ?_
                                      · refine s_cty (cb_int) rfl T.b_int PyProof.Rows.boot_int ?_
                                        refine a_cons ?_ ?_
                                        · refine s_sub ?_ ?_
                                          · refine s_mul (mk := false) ?_ ?_
                                            · exact s_var (i := 7) rfl (.inl rfl)
                                            · exact s_var (i := 7) rfl (.inl rfl)
                                          · exact s_int 
                                        · exact a_nil 
                                      · exact s_var (i := 6) rfl (.inl rfl)
                                    · exact s_int 
                                  · refine w_and1 ?_
                                    refine t_c c_eq ?_ ?_
                                    · refine s_mod ?_ ?_
                                      · refine s_cty (cb_int) rfl T.b_int PyProof.Rows.boot_int ?_
                                        refine a_cons ?_ ?_
                                        · refine s_mul (mk := false) ?_ ?_
                                          · exact s_int 
                                          · exact s_var (i := 7) rfl (.inl rfl)
                                        · exact a_nil 
                                      · exact s_var (i := 6) rfl (.inl rfl)
                                    · exact s_int 
                              · refine w_and1 ?_
                                refine t_c c_ne ?_ ?_
                                · exact s_var (i := 12) rfl (.inl rfl)
                                · exact s_var (i := 10) rfl (.inl rfl)
                            · refine b_one ?_
                              refine st_ret ?_
                              exact s_bl 
                            · exact b_nil 
                          · refine b_cons ?_ ?_
                            · refine st_asg (own := [13, 14, 15, 16, 17]) ?_ ?_
                              · refine s_call F__law_quotients (Nat.le_of_ble_eq_true rfl) rfl T.g__law_quotients ?_
                                refine a_cons ?_ ?_
                                · exact s_var (i := 0) rfl (.inl rfl)
                                · exact a_nil 
                              · refine g_tup ?_
                                refine gs_cons (own := [13]) (own' := [14, 15, 16, 17]) ?_ ?_
                                · exact g_name (i := 13) rfl (.inl rfl)
                                · refine gs_cons (own := [14]) (own' := [15, 16, 17]) ?_ ?_
                                  · exact g_name (i := 14) rfl (.inl rfl)
                                  · refine gs_cons (own := [15]) (own' := [16, 17]) ?_ ?_
                                    · exact g_name (i := 15) rfl (.inl rfl)
                                    · refine gs_cons (own := [16]) (own' := [17]) ?_ ?_
                                      · exact g_name (i := 16) rfl (.inl rfl)
                                      · refine gs_cons (own := [17]) (own' := []) ?_ ?_
                                        · exact g_name (i := 17) rfl (.inl rfl)
                                        · exact gs_nil 
                            · refine b_cons ?_ ?_
                              · refine st_set (i := 18) rfl (.inl rfl) ?_
                                refine s_and ?_ ?_
                                · refine s_c c_eq ?_ ?_
                                  · exact s_var (i := 13) rfl (.inl rfl)
                                  · exact s_var (i := 6) rfl (.inl rfl)
                                · refine s_one ?_
                                  refine s_c c_eq ?_ ?_
                                  · refine s_call F_least_number (Nat.le_of_ble_eq_true rfl) rfl T.g_least_number ?_
                                    refine a_cons ?_ ?_
                                    · exact s_var (i := 13) rfl (.inl rfl)
                                    · refine a_cons ?_ ?_
                                      · exact s_var (i := 14) rfl (.inl rfl)
                                      · exact a_nil 
                                  · exact s_var (i := 10) rfl (.inl rfl)
                              · refine b_one ?_
                                refine st_ret ?_
                                refine s_c c_eq ?_ ?_
                                · refine s_call F__law_plain (Nat.le_of_ble_eq_true rfl) rfl T.g__law_plain ?_
                                  refine a_cons ?_ ?_
                                  · refine s_call F__law_both (Nat.le_of_ble_eq_true rfl) rfl T.g__law_both ?_
                                    refine a_cons ?_ ?_
                                    · refine s_tup ?_
                                      refine a_cons ?_ ?_
                                      · exact s_var (i := 6) rfl (.inl rfl)
                                      · refine a_cons ?_ ?_
                                        · exact s_var (i := 7) rfl (.inl rfl)
                                        · exact a_nil 
                                    · refine a_cons ?_ ?_
                                      · refine s_tup ?_
                                        refine a_cons ?_ ?_
                                        · exact s_var (i := 13) rfl (.inl rfl)
                                        · refine a_cons ?_ ?_
                                          · exact s_var (i := 14) rfl (.inl rfl)
                                          · exact a_nil 
                                      · exact a_nil 
                                  · exact a_nil 
                                · refine s_call F__law_plain (Nat.le_of_ble_eq_true rfl) rfl T.g__law_plain ?_
                                  refine a_cons ?_ ?_
                                  · refine s_lst (mk := false) ?_
                                    refine a_cons ?_ ?_
                                    · exact s_var (i := 18) rfl (.inl rfl)
                                    · refine a_cons ?_ ?_
                                      · exact s_var (i := 18) rfl (.inl rfl)
                                      · exact a_nil 
                                  · exact a_nil 
    )
theorem sc__law_refusal : FnScope ["way", "error"] ["way"] (defScope s__law_refusal) := ⟨rfl, rfl, rfl, by decide +kernel, rfl, by decide +kernel, by decide +kernel⟩
theorem ok__law_refusal (T : Txt w K mg) (F_reduced_fraction : FnS P w K mg base 3 (He.ga K "reduced_fraction") ["n", "d"] M_reduced_fraction) (F_value_of : FnS P w K mg base 4 (He.ga K "value_of") ["items"] M_value_of) (F_rational_expression : FnS P w K mg base 3 (He.ga K "rational_expression") ["items"] M_rational_expression)  {fd : FuncData} (F : FunD K "_law_refusal" "_law_refusal" (defArgs s__law_refusal) (defBody s__law_refusal) (defScope s__law_refusal) [] [] (He.ga K "_law_refusal") fd) : FnS P w K mg base 5 (He.ga K "_law_refusal") ["way"] M__law_refusal :=
  fnS_of (rc := false) (N := ["way", "error"]) (ps := ["way"]) (k := 4) (m := B__law_refusal) F sc__law_refusal (F.bindsN fun _ _ _ _ _ _ us hl => match us, hl with | [_], _ => rfl) (by
    refine b_cons ?_ ?_
    · refine st_tryAs (i := 1) (tbl := [("InvalidTangle", true)]) rfl rfl rfl T.g_InvalidTangle (by decide) T.xm_InvalidTangle ?_ ?_
      · refine b_one ?_
        refine st_if ?_ ?_ ?_
        · refine t_c c_eq ?_ ?_
          · exact s_var (i := 0) rfl (.inl rfl)
          · exact s_int 
        · refine b_one ?_
          refine st_ex ?_
          refine s_call F_reduced_fraction (Nat.le_of_ble_eq_true rfl) rfl T.g_reduced_fraction ?_
          refine a_cons ?_ ?_
          · exact s_int 
          · refine a_cons ?_ ?_
            · exact s_int 
            · exact a_nil 
        · refine b_one ?_
          refine st_if ?_ ?_ ?_
          · refine t_c c_eq ?_ ?_
            · exact s_var (i := 0) rfl (.inl rfl)
            · exact s_int 
          · refine b_one ?_
            refine st_ex ?_
            refine s_call F_value_of (Nat.le_of_ble_eq_true rfl) rfl T.g_value_of ?_
            refine a_cons ?_ ?_
            · refine s_lst (mk := false) ?_
              exact a_nil 
            · exact a_nil 
          · refine b_one ?_
            refine st_ex ?_
            refine s_call F_rational_expression (Nat.le_of_ble_eq_true rfl) rfl T.g_rational_expression ?_
            refine a_cons ?_ ?_
            · refine s_lst (mk := false) ?_
              exact a_nil 
            · exact a_nil 
      · intro a c d
        refine b_one ?_
        refine st_ret ?_
        refine s_xf ["InvalidTangle"] ?_ T.xf
        exact s_var (i := 1) rfl (.inl rfl)
    · refine b_one ?_
      refine st_ret ?_
      exact s_non 
    )
theorem sc_law : FnScope ["script", "deck", "turn", "n", "d", "items", "passed", "due", "at", "way"] ["script"] (defScope s_law) := ⟨rfl, rfl, rfl, by decide +kernel, rfl, by decide +kernel, by decide +kernel⟩
theorem ok_law (T : Txt w K mg) (F__law_deck : FnS P w K mg base 1 (He.ga K "_law_deck") ["script", "cells", "each"] M__law_deck) (F__law_number : FnS P w K mg base 2 (He.ga K "_law_number") ["deck"] M__law_number) (F__law_reduced : FnS P w K mg base 2 (He.ga K "_law_reduced") ["n", "d"] M__law_reduced) (F_reduced_fraction : FnS P w K mg base 3 (He.ga K "reduced_fraction") ["n", "d"] M_reduced_fraction) (F__law_plain : FnS P w K mg base 45 (He.ga K "_law_plain") ["value"] M__law_plain) (F__law_terms_right : FnS P w K mg base 46 (He.ga K "_law_terms_right") ["p", "q"] M__law_terms_right) (F__law_take : FnS P w K mg base 1 (He.ga K "_law_take") ["deck", "many"] M__law_take) (F_value_of : FnS P w K mg base 4 (He.ga K "value_of") ["items"] M_value_of) (F__law_value : FnS P w K mg base 3 (He.ga K "_law_value") ["items"] M__law_value) (F_rational_expression : FnS P w K mg base 3 (He.ga K "rational_expression") ["items"] M_rational_expression) (F__law_nested : FnS P w K mg base 14 (He.ga K "_law_nested") ["items"] M__law_nested) (F__law_numbers_right : FnS P w K mg base 46 (He.ga K "_law_numbers_right") ["deck"] M__law_numbers_right) (F__law_refusal : FnS P w K mg base 5 (He.ga K "_law_refusal") ["way"] M__law_refusal)  {fd : FuncData} (F : FunD K "law" "law" (defArgs s_law) (defBody s_law) (defScope s_law) [] [] (He.ga K "law") fd) : FnOk P w K mg base CX0 47 (He.ga K "law") fd ["script"] (fun vs H Q _ => spM K 1 M_law vs H Q E0) :=
  law_of (N := ["script", "deck", "turn", "n", "d", "items", "passed", "due", "at", "way"]) (ps := ["script"]) (k := 46) (m := B_law) F sc_law (by
    refine b_cons ?_ ?_
    · refine st_set (i := 1) rfl (.inr rfl) ?_
      refine s_call F__law_deck (Nat.le_of_ble_eq_true rfl) rfl T.g__law_deck ?_
      refine a_cons ?_ ?_
      · exact s_var (i := 0) rfl (.inl rfl)
      · refine a_cons ?_ ?_
        · exact s_int 
        · refine a_cons ?_ ?_
          · exact s_int 
          · exact a_nil 
    · refine b_cons ?_ ?_
      · refine st_for (own := [2]) ?_ ?_ ?_
        · refine i_rng1 rfl T.b_range ?_
          refine a_cons ?_ ?_
          · exact s_int 
          · exact a_nil 
        · exact g_name (i := 2) rfl (.inl rfl)
        · refine b_cons ?_ ?_
          · refine st_set (i := 3) rfl (.inl rfl) ?_
            refine s_call F__law_number (Nat.le_of_ble_eq_true rfl) rfl T.g__law_number ?_
            refine a_cons ?_ ?_
            · exact s_var (i := 1) rfl (.inr (.inl rfl))
            · exact a_nil 
          · refine b_cons ?_ ?_
            · refine st_set (i := 4) rfl (.inl rfl) ?_
              refine s_call F__law_number (Nat.le_of_ble_eq_true rfl) rfl T.g__law_number ?_
              refine a_cons ?_ ?_
              · exact s_var (i := 1) rfl (.inr (.inl rfl))
              · exact a_nil 
            · refine b_cons ?_ ?_
              · refine st_if ?_ ?_ ?_
                · refine t_w ?_
                  refine w_or ?_ ?_
                  · refine t_c c_ne ?_ ?_
                    · exact s_var (i := 3) rfl (.inl rfl)
                    · exact s_int 
                  · refine w_or1 ?_
                    refine t_c c_ne ?_ ?_
                    · exact s_var (i := 4) rfl (.inl rfl)
                    · exact s_int 
                · refine b_cons ?_ ?_
                  · refine st_set (i := 7) rfl (.inl rfl) ?_
                    refine s_call F__law_reduced (Nat.le_of_ble_eq_true rfl) rfl T.g__law_reduced ?_
                    refine a_cons ?_ ?_
                    · exact s_var (i := 3) rfl (.inl rfl)
                    · refine a_cons ?_ ?_
                      · exact s_var (i := 4) rfl (.inl rfl)
                      · exact a_nil 
                  · refine b_one ?_
                    refine st_if ?_ ?_ ?_
                    · refine t_w ?_
                      refine w_or ?_ ?_
                      · refine t_c c_ne ?_ ?_
                        · refine s_call F__law_plain (Nat.le_of_ble_eq_true rfl) rfl T.g__law_plain ?_
                          refine a_cons ?_ ?_
                          · refine s_call F_reduced_fraction (Nat.le_of_ble_eq_true rfl) rfl T.g_reduced_fraction ?_
                            refine a_cons ?_ ?_
                            · exact s_var (i := 3) rfl (.inl rfl)
                            · refine a_cons ?_ ?_
                              · exact s_var (i := 4) rfl (.inl rfl)
                              · exact a_nil 
                          · exact a_nil 
                        · refine s_call F__law_plain (Nat.le_of_ble_eq_true rfl) rfl T.g__law_plain ?_
                          refine a_cons ?_ ?_
                          · exact s_var (i := 7) rfl (.inl rfl)
                          · exact a_nil 
                      · refine w_or1 ?_
                        refine t_not ?_
                        refine t_tru ?_
                        refine s_call F__law_terms_right (Nat.le_of_ble_eq_true rfl) rfl T.g__law_terms_right ?_
                        refine a_cons ?_ ?_
                        · refine s_ix ?_ ?_
                          · exact s_var (i := 7) rfl (.inl rfl)
                          · exact s_int 
                        · refine a_cons ?_ ?_
                          · refine s_ix ?_ ?_
                            · exact s_var (i := 7) rfl (.inl rfl)
                            · exact s_int 
                          · exact a_nil 
                    · refine b_one ?_
                      refine st_ret ?_
                      exact s_bl 
                    · exact b_nil 
                · exact b_nil 
              · refine b_cons ?_ ?_
                · refine st_setLc (mk := false) (i := 5) (own := [("at", 8)]) (gown := [8]) rfl rfl rfl rfl (by decide +kernel) ?_ (by kernel_rfl) ?_ (by decide) ?_ ?_
                  · refine i_rng1 rfl T.b_range ?_
                    refine a_cons ?_ ?_
                    · refine s_add (mk := false) ?_ ?_
                      · exact s_int 
                      · refine s_call F__law_take (Nat.le_of_ble_eq_true rfl) rfl T.g__law_take ?_
                        refine a_cons ?_ ?_
                        · exact s_var (i := 1) rfl (.inr (.inl rfl))
                        · refine a_cons ?_ ?_
                          · exact s_int 
                          · exact a_nil 
                    · exact a_nil 
                  · exact g_name (i := 8) rfl (.inl rfl)
                  · exact ts_nil 
                  · refine s_sub ?_ ?_
                    · refine s_call F__law_take (Nat.le_of_ble_eq_true rfl) rfl T.g__law_take ?_
                      refine a_cons ?_ ?_
                      · exact s_var (i := 1) rfl (.inr (.inl rfl))
                      · refine a_cons ?_ ?_
                        · exact s_int 
                        · exact a_nil 
                    · exact s_int 
                · refine b_cons ?_ ?_
                  · refine st_if ?_ ?_ ?_
                    · refine t_c c_eq ?_ ?_
                      · refine s_call F__law_take (Nat.le_of_ble_eq_true rfl) rfl T.g__law_take ?_
                        refine a_cons ?_ ?_
                        · exact s_var (i := 1) rfl (.inr (.inl rfl))
                        · refine a_cons ?_ ?_
                          · exact s_int 
                          · exact a_nil 
                      · exact s_int 
                    · refine b_one ?_
                      refine st_setLc (mk := false) (i := 5) (own := [("at", 8)]) (gown := [8]) rfl rfl rfl rfl (by decide +kernel) ?_ (by kernel_rfl) ?_ (by decide) ?_ ?_
                      · refine i_rng1 rfl T.b_range ?_
                        refine a_cons ?_ ?_
                        · refine s_add (mk := false) ?_ ?_
                          · exact s_int 
                          · refine s_call F__law_take (Nat.le_of_ble_eq_true rfl) rfl T.g__law_take ?_
                            refine a_cons ?_ ?_
                            · exact s_var (i := 1) rfl (.inr (.inl rfl))
                            · refine a_cons ?_ ?_
                              · exact s_int 
                              · exact a_nil 
                        · exact a_nil 
                      · exact g_name (i := 8) rfl (.inl rfl)
                      · exact ts_nil 
                      · refine s_call F__law_number (Nat.le_of_ble_eq_true rfl) rfl T.g__law_number ?_
                        refine a_cons ?_ ?_
                        · exact s_var (i := 1) rfl (.inr (.inl rfl))
                        · exact a_nil 
                    · exact b_nil 
                  · refine b_cons ?_ ?_
                    · refine st_set (i := 6) rfl (.inl rfl) ?_
                      refine s_cty (cb_list (mk := false)) rfl T.b_list PyProof.Rows.boot_list ?_
                      refine a_cons ?_ ?_
                      · exact s_var (i := 5) rfl (.inl rfl)
                      · exact a_nil 
                    · refine b_cons ?_ ?_
                      · refine st_if ?_ ?_ ?_
                        · refine t_c c_ne ?_ ?_
                          · refine s_call F__law_plain (Nat.le_of_ble_eq_true rfl) rfl T.g__law_plain ?_
                            refine a_cons ?_ ?_
                            · refine s_call F_value_of (Nat.le_of_ble_eq_true rfl) rfl T.g_value_of ?_
                              refine a_cons ?_ ?_
                              · exact s_var (i := 6) rfl (.inl rfl)
                              · exact a_nil 
                            · exact a_nil 
                          · refine s_call F__law_plain (Nat.le_of_ble_eq_true rfl) rfl T.g__law_plain ?_
                            refine a_cons ?_ ?_
                            · refine s_call F__law_value (Nat.le_of_ble_eq_true rfl) rfl T.g__law_value ?_
                              refine a_cons ?_ ?_
                              · exact s_var (i := 5) rfl (.inl rfl)
                              · exact a_nil 
                            · exact a_nil 
                        · refine b_one ?_
                          refine st_ret ?_
                          exact s_bl 
                        · exact b_nil 
                      · refine b_one ?_
                        refine st_if ?_ ?_ ?_
                        · refine t_w ?_
                          refine w_or ?_ ?_
                          · refine t_c c_ne ?_ ?_
                            · refine s_call F__law_plain (Nat.le_of_ble_eq_true rfl) rfl T.g__law_plain ?_
                              refine a_cons ?_ ?_
                              · refine s_call F_rational_expression (Nat.le_of_ble_eq_true rfl) rfl T.g_rational_expression ?_
                                refine a_cons ?_ ?_
                                · exact s_var (i := 6) rfl (.inl rfl)
                                · exact a_nil 
                              · exact a_nil 
                            · refine s_call F__law_plain (Nat.le_of_ble_eq_true rfl) rfl T.g__law_plain ?_
                              refine a_cons ?_ ?_
                              · refine s_call F__law_nested (Nat.le_of_ble_eq_true rfl) rfl T.g__law_nested ?_
                                refine a_cons ?_ ?_
                                · exact s_var (i := 5) rfl (.inl rfl)
                                · exact a_nil 
                              · exact a_nil 
                          · refine w_or1 ?_
                            refine t_c c_ne ?_ ?_
                            · exact s_var (i := 6) rfl (.inl rfl)
                            · exact s_var (i := 5) rfl (.inl rfl)
                        · refine b_one ?_
                          refine st_ret ?_
                          exact s_bl 
                        · exact b_nil 
      · refine b_cons ?_ ?_
        · refine st_if ?_ ?_ ?_
          · refine t_not ?_
            refine t_tru ?_
            refine s_call F__law_numbers_right (Nat.le_of_ble_eq_true rfl) rfl T.g__law_numbers_right ?_
            refine a_cons ?_ ?_
            · exact s_var (i := 1) rfl (.inr (.inl rfl))
            · exact a_nil 
          · refine b_one ?_
            refine st_ret ?_
            exact s_bl 
          · exact b_nil 
        · refine b_one ?_
          refine st_ret ?_
          refine s_c c_eq ?_ ?_
          · refine s_lc (mk := false) (own := [("way", 9)]) (gown := [9]) ?_ (by kernel_rfl) ?_ (by decide) ?_ ?_
            · refine i_rng1 rfl T.b_range ?_
              refine a_cons ?_ ?_
              · exact s_int 
              · exact a_nil 
            · exact g_name (i := 9) rfl (.inl rfl)
            · exact ts_nil 
            · refine s_call F__law_refusal (Nat.le_of_ble_eq_true rfl) rfl T.g__law_refusal ?_
              refine a_cons ?_ ?_
              · exact s_var (i := 9) rfl (.inl rfl)
              · exact a_nil 
          · refine s_lst (mk := false) ?_
            refine a_cons ?_ ?_
            · exact s_str 
            · refine a_cons ?_ ?_
              · exact s_str 
              · refine a_cons ?_ ?_
                · exact s_str 
                · exact a_nil 
    )
end
end Gk20

set_option Elab.async false
set_option linter.all false
set_option maxRecDepth 100000
set_option maxHeartbeats 0
namespace Gk20
open PySem PySem.Spec L2 SL
open PyProof.Rows hiding St
def d__law_deck : He.DefD := ⟨("_law_deck", none), "_law_deck", "_law_deck", defArgs s__law_deck, defBody s__law_deck, defScope s__law_deck, [], []⟩
def d__law_take : He.DefD := ⟨("_law_take", none), "_law_take", "_law_take", defArgs s__law_take, defBody s__law_take, defScope s__law_take, [], []⟩
def d__law_number : He.DefD := ⟨("_law_number", none), "_law_number", "_law_number", defArgs s__law_number, defBody s__law_number, defScope s__law_number, [], []⟩
def d__law_divisor : He.DefD := ⟨("_law_divisor", none), "_law_divisor", "_law_divisor", defArgs s__law_divisor, defBody s__law_divisor, defScope s__law_divisor, [], []⟩
def d__law_reduced : He.DefD := ⟨("_law_reduced", none), "_law_reduced", "_law_reduced", defArgs s__law_reduced, defBody s__law_reduced, defScope s__law_reduced, [], []⟩
def d_reduced_fraction : He.DefD := ⟨("reduced_fraction", none), "reduced_fraction", "reduced_fraction", defArgs s_reduced_fraction, defBody s_reduced_fraction, defScope s_reduced_fraction, [], []⟩
def d__law_plain : He.DefD := ⟨("_law_plain", none), "_law_plain", "_law_plain", defArgs s__law_plain, defBody s__law_plain, defScope s__law_plain, [], []⟩
def d_terms_of : He.DefD := ⟨("terms_of", none), "terms_of", "terms_of", defArgs s_terms_of, defBody s_terms_of, defScope s_terms_of, [], []⟩
def d__law_value : He.DefD := ⟨("_law_value", none), "_law_value", "_law_value", defArgs s__law_value, defBody s__law_value, defScope s__law_value, [], []⟩
def d_value_of : He.DefD := ⟨("value_of", none), "value_of", "value_of", defArgs s_value_of, defBody s_value_of, defScope s_value_of, [], []⟩
def d__law_terms_right : He.DefD := ⟨("_law_terms_right", none), "_law_terms_right", "_law_terms_right", defArgs s__law_terms_right, defBody s__law_terms_right, defScope s__law_terms_right, [], []⟩
def d_rational_expression : He.DefD := ⟨("rational_expression", none), "rational_expression", "rational_expression", defArgs s_rational_expression, defBody s_rational_expression, defScope s_rational_expression, [], []⟩
def d__law_nested : He.DefD := ⟨("_law_nested", none), "_law_nested", "_law_nested", defArgs s__law_nested, defBody s__law_nested, defScope s__law_nested, [], []⟩
def d__law_quotients : He.DefD := ⟨("_law_quotients", none), "_law_quotients", "_law_quotients", defArgs s__law_quotients, defBody s__law_quotients, defScope s__law_quotients, [], []⟩
def d__law_inverse : He.DefD := ⟨("_law_inverse", none), "_law_inverse", "_law_inverse", defArgs s__law_inverse, defBody s__law_inverse, defScope s__law_inverse, [], []⟩
def d_check_bridge : He.DefD := ⟨("check_bridge", none), "check_bridge", "check_bridge", defArgs s_check_bridge, defBody s_check_bridge, defScope s_check_bridge, [], []⟩
def d_inverse_number : He.DefD := ⟨("inverse_number", none), "inverse_number", "inverse_number", defArgs s_inverse_number, defBody s_inverse_number, defScope s_inverse_number, [], []⟩
def d_least_number : He.DefD := ⟨("least_number", none), "least_number", "least_number", defArgs s_least_number, defBody s_least_number, defScope s_least_number, [], []⟩
def d_same_two_bridge : He.DefD := ⟨("same_two_bridge", none), "same_two_bridge", "same_two_bridge", defArgs s_same_two_bridge, defBody s_same_two_bridge, defScope s_same_two_bridge, [], []⟩
def d__law_both : He.DefD := ⟨("_law_both", none), "_law_both", "_law_both", defArgs s__law_both, defBody s__law_both, defScope s__law_both, [], []⟩
def d__law_numbers_right : He.DefD := ⟨("_law_numbers_right", none), "_law_numbers_right", "_law_numbers_right", defArgs s__law_numbers_right, defBody s__law_numbers_right, defScope s__law_numbers_right, [], []⟩
def d__law_refusal : He.DefD := ⟨("_law_refusal", none), "_law_refusal", "_law_refusal", defArgs s__law_refusal, defBody s__law_refusal, defScope s__law_refusal, [], []⟩
def d_law : He.DefD := ⟨("law", none), "law", "law", defArgs s_law, defBody s_law, defScope s_law, [], []⟩
def d_InvalidTangle : He.DefD := ⟨("InvalidTangle", some "__init__"), "__init__", "InvalidTangle.__init__", defArgs (meth s_InvalidTangle 0), defBody (meth s_InvalidTangle 0), defScope (meth s_InvalidTangle 0), [], []⟩
def fnl : List He.DefD := [d__law_deck, d__law_take, d__law_number, d__law_divisor, d__law_reduced, d_reduced_fraction, d__law_plain, d_terms_of, d__law_value, d_value_of, d__law_terms_right, d_rational_expression, d__law_nested, d__law_quotients, d__law_inverse, d_check_bridge, d_inverse_number, d_least_number, d_same_two_bridge, d__law_both, d__law_numbers_right, d__law_refusal, d_law, d_InvalidTangle]
def fbl : List Fb := [.oex "InvalidTangle", .ini "InvalidTangle", .kbase "KnotError", .xf "InvalidTangle", .bfn "gcd" "math.gcd"]
def tbl : List He.Tab := []
def fal : List He.Fa := [.free "abs", .free "bool", .free "int", .free "isinstance", .free "len", .free "list", .free "min", .free "range", .free "str", .free "tuple", .glo "_law_deck", .glo "_law_take", .glo "_law_number", .glo "_law_divisor", .glo "_law_reduced", .glo "reduced_fraction", .glo "_law_plain", .glo "terms_of", .glo "_law_value", .glo "value_of", .glo "_law_terms_right", .glo "rational_expression", .glo "_law_nested", .glo "_law_quotients", .glo "_law_inverse", .glo "check_bridge", .glo "inverse_number", .glo "least_number", .glo "same_two_bridge", .glo "_law_both", .glo "_law_numbers_right", .glo "_law_refusal", .glo "law", .glo "KnotError", .glo "InvalidTangle", .noat "InvalidTangle" "what", .exm "InvalidTangle" "InvalidTangle" true]
abbrev R : PySem.W.OpenRow := PySem.W.OpenLaw.row PySem.Challenge.rw_knotwork_k20_fractions_and_numbers
abbrev hk : PySem.W.Hook := hookS 5 fal fnl tbl fbl
def ob (s : PySem.W.SharedT) : AlS := obsS 5 fal fnl tbl fbl (HandSHeadRun.getT s)
theorem ob_eq (s : PySem.W.SharedT) : ob s = hk.obs s.abs := obsS_eq (HandSHeadRun.getT_eq s)
def loose : List Str := ["reduced_fraction", "value_of", "terms_of", "rational_expression", "check_bridge", "inverse_number", "least_number", "same_two_bridge", "_law_deck", "_law_take", "_law_plain", "_law_divisor", "_law_reduced", "_law_value", "_law_nested", "_law_refusal", "_law_number", "_law_terms_right", "_law_quotients", "_law_inverse", "_law_both", "_law_numbers_right", "KnotError", "InvalidTangle", "gcd"]
theorem runH (w : World) : HandSHeadRun.RunEqI R (PySem.W.view R.prog [0, 29]) hk ob 24600 loose w :=
  PySem.W.byRow2 "special-get-raises" (P := fun w => HandSHeadRun.RunEqI R (PySem.W.view R.prog [0, 29]) hk ob 24600 loose w) (fun w => by
    unfold HandSHeadRun.RunEqI
    kernel_rfl) (fun w => by
    unfold HandSHeadRun.RunEqI
    kernel_rfl) w
theorem facts {P : Program} {w : World} {K : PySem.W.Frag} {h : Heap} {mg : Str → Option Value} {f : Addr} (X : K.In h) (G : h.Ns mainGlobals mg) (hfa : mg ("law" : Str) = some (.ref f)) (c : SaysS fal fnl tbl fbl w K) :
    ∃ fd : FuncData, (∀ (s : Shared) (v : Value), BindsTo s fd ⟨[v], []⟩ [("script", v)]) ∧ ∀ base : Heap, K.In base → base.Ns mainGlobals mg → FnOk P w K mg base CX0 47 f fd ["script"] (fun vs H Q _ => spM K 1 M_law vs H Q E0) := by
  have T : Txt w K mg := {
    b_abs := He.free_ok X G (c.fact 0 (f := .free "abs") rfl),
    b_bool := He.free_ok X G (c.fact 1 (f := .free "bool") rfl),
    b_int := He.free_ok X G (c.fact 2 (f := .free "int") rfl),
    b_isinstance := He.free_ok X G (c.fact 3 (f := .free "isinstance") rfl),
    b_len := He.free_ok X G (c.fact 4 (f := .free "len") rfl),
    b_list := He.free_ok X G (c.fact 5 (f := .free "list") rfl),
    b_min := He.free_ok X G (c.fact 6 (f := .free "min") rfl),
    b_range := He.free_ok X G (c.fact 7 (f := .free "range") rfl),
    b_str := He.free_ok X G (c.fact 8 (f := .free "str") rfl),
    b_tuple := He.free_ok X G (c.fact 9 (f := .free "tuple") rfl),
    g__law_deck := He.glo_ok X G (c.fact 10 (f := .glo "_law_deck") rfl),
    g__law_take := He.glo_ok X G (c.fact 11 (f := .glo "_law_take") rfl),
    g__law_number := He.glo_ok X G (c.fact 12 (f := .glo "_law_number") rfl),
    g__law_divisor := He.glo_ok X G (c.fact 13 (f := .glo "_law_divisor") rfl),
    g__law_reduced := He.glo_ok X G (c.fact 14 (f := .glo "_law_reduced") rfl),
    g_reduced_fraction := He.glo_ok X G (c.fact 15 (f := .glo "reduced_fraction") rfl),
    g__law_plain := He.glo_ok X G (c.fact 16 (f := .glo "_law_plain") rfl),
    g_terms_of := He.glo_ok X G (c.fact 17 (f := .glo "terms_of") rfl),
    g__law_value := He.glo_ok X G (c.fact 18 (f := .glo "_law_value") rfl),
    g_value_of := He.glo_ok X G (c.fact 19 (f := .glo "value_of") rfl),
    g__law_terms_right := He.glo_ok X G (c.fact 20 (f := .glo "_law_terms_right") rfl),
    g_rational_expression := He.glo_ok X G (c.fact 21 (f := .glo "rational_expression") rfl),
    g__law_nested := He.glo_ok X G (c.fact 22 (f := .glo "_law_nested") rfl),
    g__law_quotients := He.glo_ok X G (c.fact 23 (f := .glo "_law_quotients") rfl),
    g__law_inverse := He.glo_ok X G (c.fact 24 (f := .glo "_law_inverse") rfl),
    g_check_bridge := He.glo_ok X G (c.fact 25 (f := .glo "check_bridge") rfl),
    g_inverse_number := He.glo_ok X G (c.fact 26 (f := .glo "inverse_number") rfl),
    g_least_number := He.glo_ok X G (c.fact 27 (f := .glo "least_number") rfl),
    g_same_two_bridge := He.glo_ok X G (c.fact 28 (f := .glo "same_two_bridge") rfl),
    g__law_both := He.glo_ok X G (c.fact 29 (f := .glo "_law_both") rfl),
    g__law_numbers_right := He.glo_ok X G (c.fact 30 (f := .glo "_law_numbers_right") rfl),
    g__law_refusal := He.glo_ok X G (c.fact 31 (f := .glo "_law_refusal") rfl),
    g_law := He.glo_ok X G (c.fact 32 (f := .glo "law") rfl),
    g_KnotError := He.glo_ok X G (c.fact 33 (f := .glo "KnotError") rfl),
    g_InvalidTangle := He.glo_ok X G (c.fact 34 (f := .glo "InvalidTangle") rfl),
    f_gcd := bfn_ok X G (c.fbs 4 (f := .bfn "gcd" "math.gcd") rfl),
    xm_InvalidTangle := by
      intro p hp
      simp only [List.mem_cons, List.not_mem_nil, or_false] at hp
      subst hp
      · exact He.exm_ok (c.fact 36 (f := .exm "InvalidTangle" "InvalidTangle" true) rfl),
    xf := by
      intro p hp
      simp only [List.mem_cons, List.not_mem_nil, or_false] at hp
      subst hp
      · exact ⟨xf_ok (c.fbs 3 (f := .xf "InvalidTangle") rfl), He.noat_ok (c.fact 35 (f := .noat "InvalidTangle" "what") rfl)⟩
  }
  obtain ⟨fd__law_deck, D__law_deck⟩ := c.def_ 0 (d := d__law_deck) rfl
  obtain ⟨fd__law_take, D__law_take⟩ := c.def_ 1 (d := d__law_take) rfl
  obtain ⟨fd__law_number, D__law_number⟩ := c.def_ 2 (d := d__law_number) rfl
  obtain ⟨fd__law_divisor, D__law_divisor⟩ := c.def_ 3 (d := d__law_divisor) rfl
  obtain ⟨fd__law_reduced, D__law_reduced⟩ := c.def_ 4 (d := d__law_reduced) rfl
  obtain ⟨fd_reduced_fraction, D_reduced_fraction⟩ := c.def_ 5 (d := d_reduced_fraction) rfl
  obtain ⟨fd__law_plain, D__law_plain⟩ := c.def_ 6 (d := d__law_plain) rfl
  obtain ⟨fd_terms_of, D_terms_of⟩ := c.def_ 7 (d := d_terms_of) rfl
  obtain ⟨fd__law_value, D__law_value⟩ := c.def_ 8 (d := d__law_value) rfl
  obtain ⟨fd_value_of, D_value_of⟩ := c.def_ 9 (d := d_value_of) rfl
  obtain ⟨fd__law_terms_right, D__law_terms_right⟩ := c.def_ 10 (d := d__law_terms_right) rfl
  obtain ⟨fd_rational_expression, D_rational_expression⟩ := c.def_ 11 (d := d_rational_expression) rfl
  obtain ⟨fd__law_nested, D__law_nested⟩ := c.def_ 12 (d := d__law_nested) rfl
  obtain ⟨fd__law_quotients, D__law_quotients⟩ := c.def_ 13 (d := d__law_quotients) rfl
  obtain ⟨fd__law_inverse, D__law_inverse⟩ := c.def_ 14 (d := d__law_inverse) rfl
  obtain ⟨fd_check_bridge, D_check_bridge⟩ := c.def_ 15 (d := d_check_bridge) rfl
  obtain ⟨fd_inverse_number, D_inverse_number⟩ := c.def_ 16 (d := d_inverse_number) rfl
  obtain ⟨fd_least_number, D_least_number⟩ := c.def_ 17 (d := d_least_number) rfl
  obtain ⟨fd_same_two_bridge, D_same_two_bridge⟩ := c.def_ 18 (d := d_same_two_bridge) rfl
  obtain ⟨fd__law_both, D__law_both⟩ := c.def_ 19 (d := d__law_both) rfl
  obtain ⟨fd__law_numbers_right, D__law_numbers_right⟩ := c.def_ 20 (d := d__law_numbers_right) rfl
  obtain ⟨fd__law_refusal, D__law_refusal⟩ := c.def_ 21 (d := d__law_refusal) rfl
  obtain ⟨fd_law, D_law⟩ := c.def_ 22 (d := d_law) rfl
  obtain ⟨fd_InvalidTangle, D_InvalidTangle⟩ := c.def_ 23 (d := d_InvalidTangle) rfl
  have e := hfa.symm.trans T.g_law
  cases e
  have b := FunD.bindsA (ps := ["script"]) D_law fun _ _ _ _ _ _ us hl => match us, hl with | [_], _ => rfl
  refine ⟨fd_law, fun s v => b s [v] rfl, fun base _ _ => ?_⟩
  have X_InvalidTangle : KExc P w K mg base (He.ga K "InvalidTangle") := kexc_of (B := He.ga K "KnotError") (bn := "KnotError") (lit := "invalid tangle: ") D_InvalidTangle ⟨rfl, rfl, rfl, by decide +kernel, rfl, by decide +kernel, by decide +kernel⟩ (D_InvalidTangle.bindsN fun _ _ _ _ _ _ us hl => match us, hl with | [_, _], _ => rfl) (oex_ok (c.fbs 0 (f := .oex "InvalidTangle") rfl)) (He.noat_ok (c.fact 35 (f := .noat "InvalidTangle" "what") rfl)) (ini_ok (c.fbs 1 (f := .ini "InvalidTangle") rfl)).1 (ini_ok (c.fbs 1 (f := .ini "InvalidTangle") rfl)).2 (kbase_ok (c.fbs 2 (f := .kbase "KnotError") rfl)) T.g_KnotError rfl (.inl rfl) (.inl rfl) (by decide) (by decide)
  have F__law_deck := ok__law_deck (P := P) (w := w) (base := base) T  D__law_deck
  have F__law_take := ok__law_take (P := P) (w := w) (base := base) T  D__law_take
  have F__law_number := ok__law_number (P := P) (w := w) (base := base) T F__law_take D__law_number
  have F__law_divisor := ok__law_divisor (P := P) (w := w) (base := base) T  D__law_divisor
  have F__law_reduced := ok__law_reduced (P := P) (w := w) (base := base) T F__law_divisor D__law_reduced
  have F_reduced_fraction := ok_reduced_fraction (P := P) (w := w) (base := base) T X_InvalidTangle D_reduced_fraction
  have F__law_plain := ok__law_plain (P := P) (w := w) (base := base) T  D__law_plain
  have F_terms_of := ok_terms_of (P := P) (w := w) (base := base) T  D_terms_of
  have F__law_value := ok__law_value (P := P) (w := w) (base := base) T F__law_reduced D__law_value
  have F_value_of := ok_value_of (P := P) (w := w) (base := base) T F_reduced_fraction X_InvalidTangle D_value_of
  have F__law_terms_right := ok__law_terms_right (P := P) (w := w) (base := base) T F_terms_of F__law_plain F__law_value F_value_of D__law_terms_right
  have F_rational_expression := ok_rational_expression (P := P) (w := w) (base := base) T X_InvalidTangle D_rational_expression
  have F__law_nested := ok__law_nested (P := P) (w := w) (base := base) T  D__law_nested
  have F__law_quotients := ok__law_quotients (P := P) (w := w) (base := base) T F__law_take D__law_quotients
  have F__law_inverse := ok__law_inverse (P := P) (w := w) (base := base) T  D__law_inverse
  have F_check_bridge := ok_check_bridge (P := P) (w := w) (base := base) T X_InvalidTangle D_check_bridge
  have F_inverse_number := ok_inverse_number (P := P) (w := w) (base := base) T  D_inverse_number
  have F_least_number := ok_least_number (P := P) (w := w) (base := base) T F_check_bridge F_inverse_number D_least_number
  have F_same_two_bridge := ok_same_two_bridge (P := P) (w := w) (base := base) T F_least_number D_same_two_bridge
  have F__law_both := ok__law_both (P := P) (w := w) (base := base) T F_same_two_bridge D__law_both
  have F__law_numbers_right := ok__law_numbers_right (P := P) (w := w) (base := base) T F__law_quotients F__law_take F__law_inverse F_least_number F__law_plain F__law_both D__law_numbers_right
  have F__law_refusal := ok__law_refusal (P := P) (w := w) (base := base) T F_reduced_fraction F_value_of F_rational_expression D__law_refusal
  exact ok_law T F__law_deck F__law_number F__law_reduced F_reduced_fraction F__law_plain F__law_terms_right F__law_take F_value_of F__law_value F_rational_expression F__law_nested F__law_numbers_right F__law_refusal D_law
theorem holds_of (hlaw : ∀ ns : List Int, ns.length ≤ 63 → ∃ st, M_law [.slst (ns.map A.int)] [] = .ok (.bl true) st) : PySem.Challenge.rw_knotwork_k20_fractions_and_numbers.Holds := by
  open PySem.W PySem.Calls in
  w_on; o_law
  refine HandSHeadRun.head_imp (r := PySem.W.OpenLaw.row PySem.Challenge.rw_knotwork_k20_fractions_and_numbers) (q := PySem.W.view (PySem.W.OpenLaw.row PySem.Challenge.rw_knotwork_k20_fractions_and_numbers).prog [0, 29]) (H := hk) (ob := ob) (M := 24600) (loose := loose) (d := HandSHeadRun.topDef (PySem.W.OpenLaw.row PySem.Challenge.rw_knotwork_k20_fractions_and_numbers).prog 29) (kwd := []) ob_eq
    runH (by kernel_rfl) (by kernel_rfl) (by kernel_rfl) (by rfl) (by first | assumption | decide +kernel) (by decide +kernel) ⟨rfl, rfl, rfl, rfl, rfl, by decide +kernel⟩ ?hw ?hc
  case hw => w_witness2
  case hc =>
    refine L2.walk_ofE (l := PySem.Challenge.rw_knotwork_k20_fractions_and_numbers) (n := 63) (k := 47) (x := "script") (CX := L2.CX0) rfl (by decide) (by kernel_rfl) ⟨rfl, by decide, by decide⟩ ?F (fun _ _ _ _ z => z)
    intro w mg fa h Y G hmg0
    obtain ⟨K, KX, c⟩ := Y
    have hmg : mg ("law" : PySem.Str) = some (.ref fa) := by
      have e : (HandSHeadRun.topDef (PySem.W.OpenLaw.row PySem.Challenge.rw_knotwork_k20_fractions_and_numbers).prog 29).name = ("law" : PySem.Str) := by kernel_rfl
      rw [← e]
      exact hmg0
    obtain ⟨fd, hb, hF⟩ := facts (P := (PySem.Challenge.rw_knotwork_k20_fractions_and_numbers).prog) (w := w) KX G hmg c
    exact ⟨K, fd, fun vs H Q _ => spM K 1 M_law vs H Q E0, KX, hb, fun H a ns hl _ hS => law_sp hS (hlaw ns hl), hF⟩
end Gk20

set_option Elab.async false
set_option linter.all false
set_option maxRecDepth 100000
set_option maxHeartbeats 4000000
namespace Gk20
open PySem PySem.Spec L2 SL
open PyProof.Rows hiding St
/-! the draws -/
abbrev li (l : List Int) : C := .lst (l.map A.int)
theorem set_get {α : Type} {l : List α} {c : Nat} {x : α} (h : l[c]? = some x) : l.set c x = l := by
  apply List.ext_getElem?
  intro i
  by_cases e : c = i
  · subst e; rw [List.getElem?_set_self (List.getElem?_eq_some_iff.mp h).1, h]
  · rw [List.getElem?_set_ne e]
theorem take_spec {st : Store} {c : Nat} {ds : List Int} {n : Int} (h : st[c]? = some (li ds)) (hn : 0 < n) : ∃ d ds', 0 ≤ d ∧ d < n ∧ M__law_take [.cell c, .int n] st = .ok (.int d) (st.set c (li ds')) := by
  have hfin : ∀ (a : Int) (l : List Int), finA false st.length st (.int a) (st.set c (li l)) = .ok (.int a) (st.set c (li l)) := fun a l => by
    have := finA_set (rc := false) (st := st) (a := .int a) (l := []) (c := c) (k := li l) (by simp [A.bel]) (by intro c h; cases h) (by simp [C.bel])
    simpa using this
  rcases List.eq_nil_or_concat ds with rfl | ⟨ds0, d, rfl⟩
  · refine ⟨0, [], by omega, hn, ?_⟩
    have h' : st[c]? = some (.lst []) := h
    have e := hfin 0 []
    rw [set_get h] at e
    rw [set_get h]
    simp [M__law_take, fnM, B__law_take, lenA_cell h', fin, e]
  · have h' : st[c]? = some (.lst (ds0.map A.int ++ [.int d])) := by rw [h]; simp [li]
    refine ⟨d.fmod n, ds0, ?_, ?_, ?_⟩
    · rw [Int.fmod_eq_emod_of_nonneg _ (by omega)]; exact Int.emod_nonneg _ (by omega)
    · rw [Int.fmod_eq_emod_of_nonneg _ (by omega)]; exact Int.emod_lt_of_pos _ hn
    · have hne : ¬ ((ds0.length : Int) + 1 = 0) := by omega
      simp [M__law_take, fnM, B__law_take, lenA_cell h', popM_c h', tyVA_cell h', modOp_ii (show n ≠ 0 by omega), fin, hne, hfin]
/-- deck built: some list of ints -/
structure DeckI (ns : List Int) (cells each : Nat) (i : Nat) (e : AEnv) (s : Store) : Prop where
  ex : ∃ (seed : Int) (ds : List Int) (x5 x6 x7 x8 : Option A), e = [some (.slst (ns.map A.int)), some (.int cells), some (.int each), some (.cell 0), some (.int seed), x5, x6, x7, x8] ∧ s = [li ds] ∧ 0 ≤ seed ∧ seed < 2147483748 ∧ ds.length = i
theorem small_mul {a b : Int} (h : a.natAbs < 2 ^ 200) (h' : b.natAbs < 2 ^ 200) : CMulW a b := wide_mul h h' (by decide) (by decide) (by decide)
theorem loop1 (ns : List Int) (cells each k : Nat) (hk : k + each < sizeLine) (seed rest : Int) (ds : List Int) (hd : ds.length = k) (x5 x6 x8 : Option A) (hs0 : 0 ≤ seed) (hs1 : seed < 2147483748) :
    ∃ e s, forL none (rgA 0 each) (gN 8) L1__law_deck (rgA 0 each) [some (.slst (ns.map A.int)), some (.int cells), some (.int each), some (.cell 0), some (.int seed), x5, x6, some (.int rest), x8] [li ds] = .nx e s ∧ DeckI ns cells each (k + each) e s := by
  have h := for_inv (all := rgA 0 each) (g := gN 8) (body := L1__law_deck) (xs := rgA 0 each) (fun i e s => ∃ (r : Int) (ds : List Int) (x8 : Option A), e = [some (.slst (ns.map A.int)), some (.int cells), some (.int each), some (.cell 0), some (.int seed), x5, x6, some (.int r), x8] ∧ s = [li ds] ∧ ds.length = k + i)
    (env := [some (.slst (ns.map A.int)), some (.int cells), some (.int each), some (.cell 0), some (.int seed), x5, x6, some (.int rest), x8]) (st := [li ds]) ⟨rest, ds, x8, rfl, rfl, by omega⟩ ?_
  · obtain ⟨e, s, h1, r, ds', x8', rfl, rfl, h2⟩ := h
    rw [rgA_length] at h2
    exact ⟨_, _, h1, seed, ds', _, _, _, _, rfl, rfl, hs0, hs1, by omega⟩
  · rintro i x e s hx ⟨r, ds', x8', rfl, rfl, hl⟩
    obtain ⟨hi, rfl⟩ := rgA_get hx
    have hc : ([li ds'] : Store)[0]? = some (.lst (ds'.map A.int)) := rfl
    have hlt : (ds'.map A.int).length < sizeLine := by rw [List.length_map]; omega
    refine ⟨_, rfl, ?_⟩
    simp [L1__law_deck, tyVA_cell hc, appendM_c hc hlt, modOp_ii (show (1000003 : Int) ≠ 0 by decide), fdivOp_ii (show CDivN r 1000003 from ⟨by decide, by decide⟩)]
    exact ⟨ds' ++ [r.fmod 1000003], by simp [li], by simp; omega⟩
theorem loop2 (ns : List Int) (cells each k : Nat) (hk : k + each < sizeLine) (seed : Int) (ds : List Int) (hd : ds.length = k) (x5 x6 x7 x8 : Option A) (hs0 : 0 ≤ seed) (hs1 : seed < 2147483748) :
    ∃ e s, forL none (rgA 0 each) (gN 8) L2__law_deck (rgA 0 each) [some (.slst (ns.map A.int)), some (.int cells), some (.int each), some (.cell 0), some (.int seed), x5, x6, x7, x8] [li ds] = .nx e s ∧ DeckI ns cells each (k + each) e s := by
  have h := for_inv (all := rgA 0 each) (g := gN 8) (body := L2__law_deck) (xs := rgA 0 each) (fun i e s => DeckI ns cells each (k + i) e s)
    (env := [some (.slst (ns.map A.int)), some (.int cells), some (.int each), some (.cell 0), some (.int seed), x5, x6, x7, x8]) (st := [li ds]) ⟨seed, ds, _, _, _, _, rfl, rfl, hs0, hs1, by omega⟩ ?_
  · obtain ⟨e, s, h1, h2⟩ := h
    rw [rgA_length] at h2
    exact ⟨e, s, h1, by simpa using h2⟩
  · rintro i x e s hx ⟨seed', ds', _, _, _, _, rfl, rfl, h0, h1, hl⟩
    obtain ⟨hi, rfl⟩ := rgA_get hx
    have hc : ([li ds'] : Store)[0]? = some (.lst (ds'.map A.int)) := rfl
    have hlt : (ds'.map A.int).length < sizeLine := by rw [List.length_map]; omega
    have hmul : CMulW seed' 69621 := small_mul (by omega) (by decide)
    refine ⟨_, rfl, ?_⟩
    have hs : ∀ y : Int, 0 ≤ y.fmod 2147483629 ∧ y.fmod 2147483629 < 2147483748 := fun y => by
      rw [Int.fmod_eq_emod_of_nonneg _ (by decide)]
      have := Int.emod_lt_of_pos y (show (0 : Int) < 2147483629 by decide)
      exact ⟨Int.emod_nonneg _ (by decide), by omega⟩
    simp [L2__law_deck, tyVA_cell hc, appendM_c hc hlt, mulOp_ii hmul, modOp_ii (show (1000003 : Int) ≠ 0 by decide), modOp_ii (show (2147483629 : Int) ≠ 0 by decide), fdivOp_ii (show CDivN _ 5 from ⟨by decide, by decide⟩)]
    exact ⟨_, ds' ++ [(((seed' * 69621 + (i : Int) + 1).fmod 2147483629).fdiv 5).fmod 1000003], _, _, _, _, rfl, by simp [li], (hs _).1, (hs _).2, by simp; omega⟩
theorem key_spec {ns : List Int} {cells each i : Nat} {seed : Int} {ds : List Int} {x7 x8 : Option A} (hb : i * each + each < sizeLine) (he : -(2 ^ 62) ≤ (each : Int) ∧ (each : Int) < 2 ^ 62) (hl : ds.length = i * each) (h0 : 0 ≤ seed) (h1 : seed < 2147483748) :
    ∀ cell : Int, NxP ((sSeq (sAsg (gN 7) (eCB (one1 absA) (aCons (eVar 6) aNil)))
      (sIf (tOf (eBin geOp (eVar 7) (eBin powOp (eC (.int 10)) (eC (.int 30))))) (sFor (mRng1 (aCons (eVar 2) aNil)) (gN 8) L1__law_deck) (sSeq (sAsg (gN 4) (eBin modOp (eCB (one1 intA) (aCons (eBin (addOp false) (eBin (addOp false) (eBin (addOp false) (eBin (mulOp false) (eVar 4) (eC (.int 48271))) (eBin (mulOp false) (eC (.int 2)) (eVar 7))) (eCB (one1 intA) (aCons (eBin ltOp (eVar 6) (eC (.int 0))) aNil))) (eVar 5)) aNil)) (eC (.int 2147483647))))
      (sFor (mRng1 (aCons (eVar 2) aNil)) (gN 8) L2__law_deck)))) [some (.slst (ns.map A.int)), some (.int cells), some (.int each), some (.cell 0), some (.int seed), some (.int (i : Int)), some (.int cell), x7, x8] [li ds]) (DeckI ns cells each (i * each + each)) := by
      have hr : ∀ (e : AEnv) (s : Store), e[2]? = some (some (.int each)) → mRng1 (aCons (eVar 2) aNil) e s = .ok (rgA 0 each, none) s := fun e s he' => mRng1_ap (by simp [he']) he.1 he.2
      intro cell
      generalize hrest : (if cell < 0 then -cell else cell) = rest
      have hr0 : 0 ≤ rest := by split at hrest <;> omega
      have hpow : ((10 : Int) ^ (30 : Int).toNat) = 1000000000000000000000000000000 := by decide
      by_cases hbig : (1000000000000000000000000000000 : Int) ≤ rest
      · obtain ⟨e, s, h2, h3⟩ := loop1 ns cells each (i * each) hb seed rest ds hl (some (.int (i : Int))) (some (.int cell)) x8 h0 h1
        simp [powOp_ii (show CPow 10 30 from ⟨by decide, by decide, by decide⟩), hrest, hpow, hbig, hr, h2, h3]
      · have hm1 : CMulW seed 48271 := small_mul (by omega) (by decide)
        have hm2 : CMulW 2 rest := small_mul (by decide) (by omega)
        have hs : ∀ y : Int, 0 ≤ y.fmod 2147483647 ∧ y.fmod 2147483647 < 2147483748 := fun y => by
          rw [Int.fmod_eq_emod_of_nonneg _ (by decide)]
          have := Int.emod_lt_of_pos y (show (0 : Int) < 2147483647 by decide)
          exact ⟨Int.emod_nonneg _ (by decide), by omega⟩
        have h2 : ∀ y : Int, ∃ e s, forL none (rgA 0 each) (gN 8) L2__law_deck (rgA 0 each) [some (.slst (ns.map A.int)), some (.int cells), some (.int each), some (.cell 0), some (.int (y.fmod 2147483647)), some (.int (i : Int)), some (.int cell), some (.int rest), x8] [li ds] = .nx e s ∧ DeckI ns cells each (i * each + each) e s :=
          fun y => loop2 ns cells each (i * each) hb _ ds hl _ _ _ _ (hs y).1 (hs y).2
        simp [powOp_ii (show CPow 10 30 from ⟨by decide, by decide, by decide⟩), hrest, hpow, hbig, hr, mulOp_ii hm1, mulOp_ii hm2, modOp_ii (show (2147483647 : Int) ≠ 0 by decide)]
        obtain ⟨e, s, h3, h4⟩ := h2 (seed * 48271 + 2 * rest + (if cell < 0 then 1 else 0) + (i : Int))
        rw [h3]
        exact h4
theorem deck_spec {ns : List Int} (hns : ns.length ≤ 63) (cells each : Nat) (hk : cells * each < 100000) (hc : cells < 1000) : ∃ ds : List Int, ds.length = cells * each ∧ M__law_deck [.slst (ns.map A.int), .int cells, .int each] [] = .ok (.cell 0) [li ds] := by
  have hsz : sizeLine = 16777216 := sizeLine_eq
  have h := for_inv (all := rgA 0 cells) (g := gN 5) (body := L3__law_deck) (xs := rgA 0 cells) (fun i e s => DeckI ns cells each (i * each) e s)
    (env := [some (.slst (ns.map A.int)), some (.int cells), some (.int each), some (.cell 0), some (.int (7 + (ns.length : Int))), none, none, none, none]) (st := [li []]) ⟨_, [], _, _, _, _, rfl, rfl, by omega, by omega, by simp⟩ ?_
  · obtain ⟨e, s, h1, seed, ds, x5, x6, x7, x8, rfl, rfl, _, _, hl⟩ := h
    rw [rgA_length] at hl
    refine ⟨ds.reverse, by simpa using hl, ?_⟩
    have hc1 : -(2 ^ 62) ≤ (cells : Int) ∧ (cells : Int) < 2 ^ 62 := by omega
    have hcc : ([li ds] : Store)[0]? = some (.lst (ds.map A.int)) := rfl
    have hr : mRng1 (aCons (eVar 1) aNil) [some (.slst (ns.map A.int)), some (.int cells), some (.int each), some (.cell 0), some (.int (7 + (ns.length : Int))), none, none, none, none] [li []] = .ok (rgA 0 cells, none) [li []] :=
      mRng1_ap (by simp) hc1.1 hc1.2
    simp only [li, List.map_nil] at hr h1
    have hbody : B__law_deck [some (.slst (ns.map A.int)), some (.int cells), some (.int each), none, none, none, none, none, none] [] = .rt (.cell 0) [li ds.reverse] := by
      simp [B__law_deck, hr, h1, tyVA_cell hcc, reverseM_c hcc, li]
    exact fnM_rt rfl hbody (finA_cell (st := []) (l := [li ds.reverse]) (Nat.zero_le _) rfl rfl (bel_ints _ _))
  · rintro i x e s hx ⟨seed, ds, x5, x6, x7, x8, rfl, rfl, h0, h1, hl⟩
    obtain ⟨hi, rfl⟩ := rgA_get hx
    have hb : i * each + each < sizeLine := by
      have : i * each + each = (i + 1) * each := by rw [Nat.succ_mul]
      have h2 : (i + 1) * each ≤ cells * each := Nat.mul_le_mul_right _ (by omega)
      omega
    have he : -(2 ^ 62) ≤ (each : Int) ∧ (each : Int) < 2 ^ 62 := by
      have : each ≤ cells * each := Nat.le_mul_of_pos_left _ (by omega)
      omega
    refine ⟨_, rfl, ?_⟩
    rw [Nat.succ_mul]
    have hr : ∀ (e : AEnv) (s : Store), e[2]? = some (some (.int each)) → mRng1 (aCons (eVar 2) aNil) e s = .ok (rgA 0 each, none) s := fun e s he' => mRng1_ap (by simp [he']) he.1 he.2
    have key := key_spec hb he hl h0 h1 (ns := ns) (cells := cells) (x7 := x7) (x8 := x8)
    by_cases hlen : (i : Int) < (ns.length : Int)
    · have hv : (ns.map A.int)[i]? = some (.int (ns[i]'(by omega))) := by
        rw [List.getElem?_map, List.getElem?_eq_getElem (by omega)]; rfl
      have hix : ixOp (.slst (ns.map A.int)) (.int (i : Int)) [li ds] = some (.int (ns[i]'(by omega)), [li ds]) := ixOp_at (xs := ns.map A.int) rfl (atI_of (by omega) (by simpa using hv))
      have k := key (ns[i]'(by omega))
      simp [L3__law_deck, hlen, hix]
      simp at k
      exact k
    · have k := key 0
      simp [L3__law_deck, hlen]
      simp at k
      exact k
end Gk20

set_option Elab.async false
set_option linter.all false
set_option maxRecDepth 100000
set_option maxHeartbeats 4000000
namespace Gk20
open PySem PySem.Spec L2 SL
open PyProof.Rows hiding St
theorem sz : sizeLine = 16777216 := sizeLine_eq
theorem rng1 {ms : AEnv → Store → Res (List A)} {env : AEnv} {st : Store} {n : Nat} (hn : n < 10000) (h : ms env st = .ok [.int (n : Int)] st) : mRng1 ms env st = .ok (((List.range n).map fun i => ((i : Nat) : Int)).map A.int, none) st := by
  rw [mRng1_ap h (by omega) (by omega), rgA_ints]
/-! plain -/
theorem plain_int {st : Store} {k : Nat} {i : Int} : M__law_plain_ (k + 1) [.int i] st = .ok (.lst [.bl false, .int i]) st := by
  have hz := sz
  have hb : B__law_plain (M__law_plain_ k) [some (.int i), none] st = .rt (.lst [.bl false, .int i]) st := by
    have h1 : isiTys "int" [.ty "tuple", .ty "list"] = some false := by decide
    have h2 : isiTys "int" [.ty "int", .ty "str"] = some true := by decide
    have h3 : isiB (.int i) (.ty "bool") st = some (.bl false, st) := by simp only [isiB, isiA, tyName]; rw [show kitB "int" "bool" = some false by decide]; rfl
    have h4 : isiB (.int i) (.ty "str") st = some (.bl false, st) := by simp only [isiB, isiA, tyName]; rw [show kitB "int" "str" = some false by decide]; rfl
    have h5 : isNOp false (.int i) .non st = some (.bl false, st) := rfl
    simp [B__law_plain, tyName, h1, h2, h3, h4, h5, hz]
  exact fnM_rt rfl hb (fin_pure0 (by simp [A.bel, belowL]) (by intro c h; cases h))
theorem plain_seq {st : Store} {k : Nat} {a : A} {xs : List A} (f : A → A) (b : Bool) (ha : (a = .tup xs ∧ b = false) ∨ (a = .lst xs ∧ b = true)) (hl : xs.length < 10000) (hbel : ∀ x ∈ xs, (f x).bel st.length = true)
    (h : ∀ x ∈ xs, M__law_plain_ k [x] st = .ok (f x) st) : M__law_plain_ (k + 1) [a] st = .ok (.lst (.bl b :: xs.map f)) st := by
  have hz := sz
  have hsq : seqR a st = some xs ∧ srcOf a xs = none := by rcases ha with ⟨rfl, _⟩ | ⟨rfl, _⟩ <;> exact ⟨rfl, rfl⟩
  have hb : B__law_plain (M__law_plain_ k) [some a, none] st = .rt (.lst (.bl b :: xs.map f)) st := by
    have h1 : ((tyName a st).bind fun n => (isiTys n [.ty "tuple", .ty "list"]).map fun b => (A.bl b, st)) = some (.bl true, st) := by
      rcases ha with ⟨rfl, _⟩ | ⟨rfl, _⟩
      · have : isiTys "tuple" [.ty "tuple", .ty "list"] = some true := by decide
        simp [tyName, this]
      · have : isiTys "list" [.ty "tuple", .ty "list"] = some true := by decide
        simp [tyName, this]
    have h2 : isiB a (.ty "list") st = some (.bl b, st) := by
      rcases ha with ⟨rfl, rfl⟩ | ⟨rfl, rfl⟩ <;> simp only [isiB, isiA, tyName]
      · rw [show kitB "tuple" "list" = some false by decide]; rfl
      · rw [show kitB "list" "list" = some true by decide]; rfl
    have hc := lcL_map (all := xs) (g := gN 1) (me := e1__law_plain (M__law_plain_ k)) (mt := tYesM) (env0 := [some a, none]) (st := st) (fun _ => true) f xs [] (fun x hx => ⟨[some a, some x], rfl, by simp, fun _ => by simp [e1__law_plain, h x hx]⟩) (by simp; omega)
    rw [filT] at hc
    have e1 : eLc false (mSeq (eVar 0)) (gN 1) [1] tYesM (e1__law_plain (M__law_plain_ k)) [some a, none] st = .ok (.lst (xs.map f)) st := by
      simp [hsq.1, hsq.2]
      simp at hc
      rw [hc]; rfl
    have e2 : addOp false (.lst [.bl b]) (.lst (xs.map f)) st = some (.lst (.bl b :: xs.map f), st) := by
      have hq : addL false (.lst [.bl b]) (.lst (xs.map f)) st = some (.lst (.bl b :: xs.map f), st) := by
        simp only [addL, lstH]
        rw [if_pos (by simp; omega)]; rfl
      simp [addOp, addI, addS, iiOp, hq]
    have e0 : eIsiT (eVar 0) (aCons (eC (.ty "tuple")) (aCons (eC (.ty "list")) aNil)) [some a, none] st = .ok (.bl true) st := by
      simp only [eIsiT_ap, eVar_ap, List.getElem?_cons_zero, Res.bind_ok, aCons_ap, eC_ap, aNil_ap]
      rw [if_pos (by simp [hz]), h1]; rfl
    simp only [B__law_plain, sSeq_ap, sIf_ap, tTru_ap, e0, Res.bind_ok, truA_b, Res.toS_ok, if_true, sRet_ap, eBin_ap, eLst_ap, aCons_ap, eCB_ap, eVar_ap, List.getElem?_cons_zero, eC_ap, aNil_ap, two2_ap, h2, Res.of_some, List.length_cons, List.length_nil, newL_f, e1]
    rw [if_pos (by omega)]
    simp only [Res.bind_ok, e1, e2, Res.of_some, Res.toS_ok, SRes.bind_rt]
  refine fnM_rt rfl hb (fin_pure0 ?_ (by intro c h; cases h))
  simp only [A.bel, belowL, Bool.true_and]
  exact belowL_all fun x hx => by obtain ⟨y, hy, rfl⟩ := List.mem_map.mp hx; exact hbel y hy
abbrev plI : A → A := fun a => .lst [.bl false, a]
theorem plI_bel {n : Nat} {i : Int} : (plI (.int i)).bel n = true := by simp [A.bel, belowL]
theorem plI_dt {st : Store} {n : Nat} {i : Int} : Dt st (n + 1) (plI (.int i)) := dt_lst (by intro x hx; simp at hx; rcases hx with rfl | rfl <;> first | exact dt_bl | exact dt_int)
theorem plain_ti {st : Store} {k : Nat} {l : List Int} (hl : l.length < 10000) : M__law_plain_ (k + 2) [ti l] st = .ok (.lst (.bl false :: (l.map A.int).map plI)) st :=
  plain_seq plI false (.inl ⟨rfl, rfl⟩) (by simpa using hl) (fun x hx => by obtain ⟨i, _, rfl⟩ := List.mem_map.mp hx; exact plI_bel) (fun x hx => by obtain ⟨i, _, rfl⟩ := List.mem_map.mp hx; exact plain_int)
theorem plain_lI {st : Store} {k : Nat} {l : List Int} (hl : l.length < 10000) : M__law_plain_ (k + 2) [lI l] st = .ok (.lst (.bl true :: (l.map A.int).map plI)) st :=
  plain_seq plI true (.inr ⟨rfl, rfl⟩) (by simpa using hl) (fun x hx => by obtain ⟨i, _, rfl⟩ := List.mem_map.mp hx; exact plI_bel) (fun x hx => by obtain ⟨i, _, rfl⟩ := List.mem_map.mp hx; exact plain_int)
theorem plain_str {st : Store} {k : Nat} {x : Str} : M__law_plain_ (k + 1) [.str x] st = .ok (.lst [.bl true, .str x]) st := by
  have hz := sz
  have hb : B__law_plain (M__law_plain_ k) [some (.str x), none] st = .rt (.lst [.bl true, .str x]) st := by
    have h1 : isiTys "str" [.ty "tuple", .ty "list"] = some false := by decide
    have h2 : isiTys "str" [.ty "int", .ty "str"] = some true := by decide
    have h3 : isiB (.str x) (.ty "bool") st = some (.bl false, st) := by simp only [isiB, isiA, tyName]; rw [show kitB "str" "bool" = some false by decide]; rfl
    have h4 : isiB (.str x) (.ty "str") st = some (.bl true, st) := by simp only [isiB, isiA, tyName]; rw [show kitB "str" "str" = some true by decide]; rfl
    have h5 : isNOp false (.str x) .non st = some (.bl false, st) := rfl
    simp [B__law_plain, tyName, h1, h2, h3, h4, h5, hz]
  exact fnM_rt rfl hb (fin_pure0 (by simp [A.bel, belowL]) (by intro c h; cases h))
def blS (b : Bool) : Str := if b then "True" else "False"
theorem plain_bl {st : Store} {k : Nat} {b : Bool} : M__law_plain_ (k + 1) [.bl b] st = .ok (.str (blS b)) st := by
  have hz := sz
  have hb : B__law_plain (M__law_plain_ k) [some (.bl b), none] st = .rt (.str (blS b)) st := by
    have h1 : isiTys "bool" [.ty "tuple", .ty "list"] = some false := by decide
    have h3 : isiB (.bl b) (.ty "bool") st = some (.bl true, st) := by simp only [isiB, isiA, tyName]; rw [show kitB "bool" "bool" = some true by decide]; rfl
    have h5 : isNOp false (.bl b) .non st = some (.bl false, st) := rfl
    have h6 : isNOp true (.bl b) .non st = some (.bl true, st) := rfl
    have h7 : isNOp false (.bl b) (.bl true) st = some (.bl (decide (b = true)), st) := rfl
    have i1 := @ixOp_at st [.str "None", .str "False", .str "True"] (.lst [.str "None", .str "False", .str "True"]) 1 _ rfl (atI_of (by omega) rfl)
    have i2 := @ixOp_at st [.str "None", .str "False", .str "True"] (.lst [.str "None", .str "False", .str "True"]) 2 _ rfl (atI_of (by omega) rfl)
    cases b
    · simp [B__law_plain, tyName, h1, h3, h5, h6, h7, hz, i1, blS]
    · simp [B__law_plain, tyName, h1, h3, h5, h6, h7, hz, i2, blS]
  exact fnM_rt rfl hb (fin_pure0 (by simp [A.bel]) (by intro c h; cases h))

/-! plain data of a few levels -/
inductive PD : Nat → A → Prop
  | int (d : Nat) (i : Int) : PD d (.int i)
  | bl (d : Nat) (b : Bool) : PD d (.bl b)
  | str (d : Nat) (x : Str) (h : PyData.strOk x = true) : PD d (.str x)
  | lst (d : Nat) (xs : List A) (hl : xs.length < 10000) (h : ∀ x ∈ xs, PD d x) : PD (d + 1) (.lst xs)
  | tup (d : Nat) (xs : List A) (hl : xs.length < 10000) (h : ∀ x ∈ xs, PD d x) : PD (d + 1) (.tup xs)
theorem blS_dt {st : Store} {n : Nat} {b : Bool} : Dt st n (.str (blS b)) := by
  cases b
  · exact dt_str (by simp only [PyData.canLay0]; decide +kernel)
  · exact dt_str (by simp only [PyData.canLay0]; decide +kernel)
theorem plain_pd {st : Store} : ∀ (d : Nat) (a : A), PD d a → ∀ k, ∃ r, M__law_plain_ (k + d + 1) [a] st = .ok r st ∧ (r.bel st.length = true ∧ ∀ c, r ≠ .cell c) ∧ ∀ m, Dt st (m + d + 1) r := by
  have seq : ∀ (d : Nat) (xs : List A) (a : A) (b : Bool), ((a = .tup xs ∧ b = false) ∨ (a = .lst xs ∧ b = true)) → xs.length < 10000 → (∀ x ∈ xs, ∀ k, ∃ r, M__law_plain_ (k + d + 1) [x] st = .ok r st ∧ (r.bel st.length = true ∧ ∀ c, r ≠ .cell c) ∧ ∀ m, Dt st (m + d + 1) r) →
      ∀ k, ∃ r, M__law_plain_ (k + (d + 1) + 1) [a] st = .ok r st ∧ (r.bel st.length = true ∧ ∀ c, r ≠ .cell c) ∧ ∀ m, Dt st (m + (d + 1) + 1) r := by
    intro d xs a b ha hl ih k
    classical
    let f : A → A := fun x => if hx : x ∈ xs then Classical.choose (ih x hx k) else x
    have hf : ∀ x ∈ xs, M__law_plain_ (k + d + 1) [x] st = .ok (f x) st ∧ ((f x).bel st.length = true ∧ ∀ c, f x ≠ .cell c) ∧ ∀ m, Dt st (m + d + 1) (f x) := fun x hx => by
      have : f x = Classical.choose (ih x hx k) := dif_pos hx
      rw [this]; exact Classical.choose_spec (ih x hx k)
    refine ⟨_, plain_seq f b ha hl (fun x hx => (hf x hx).2.1.1) (fun x hx => (hf x hx).1), ⟨bel_lst fun x hx => ?_, by intro c h; cases h⟩, fun m => dt_lst (n := m + d + 1) fun x hx => ?_⟩
    · rw [List.mem_cons] at hx
      rcases hx with rfl | hx
      · simp [A.bel]
      · obtain ⟨y, hy, rfl⟩ := List.mem_map.mp hx; exact (hf y hy).2.1.1
    · rw [List.mem_cons] at hx
      rcases hx with rfl | hx
      · exact dt_bl
      · obtain ⟨y, hy, rfl⟩ := List.mem_map.mp hx; exact (hf y hy).2.2 m
  intro d a h
  induction h with
  | int d i => exact fun k => ⟨_, plain_int, ⟨by simp [A.bel, belowL], by intro c h; cases h⟩, fun m => dt_lst fun x hx => by
      simp only [List.mem_cons, List.not_mem_nil, or_false] at hx
      rcases hx with rfl | rfl
      · exact dt_bl
      · exact dt_int⟩
  | bl d b => exact fun k => ⟨_, plain_bl, ⟨by simp [A.bel], by intro c h; cases h⟩, fun m => blS_dt⟩
  | str d x h => exact fun k => ⟨_, plain_str, ⟨by simp [A.bel, belowL], by intro c h; cases h⟩, fun m => dt_lst fun y hy => by
      simp only [List.mem_cons, List.not_mem_nil, or_false] at hy
      rcases hy with rfl | rfl
      · exact dt_bl
      · exact dt_str (by simp only [PyData.canLay0]; exact h)⟩
  | lst d xs hl h ih => exact seq d xs _ true (.inr ⟨rfl, rfl⟩) hl ih
  | tup d xs hl h ih => exact seq d xs _ false (.inl ⟨rfl, rfl⟩) hl ih
theorem plainQ {st : Store} {d : Nat} {a : A} (h : PD d a) (hd : d ≤ 44) : ∃ r, M__law_plain [a] st = .ok r st ∧ eqOp r r st = some (.bl true, st) ∧ neOp r r st = some (.bl false, st) ∧ r.bel st.length = true ∧ ∀ c, r ≠ .cell c := by
  obtain ⟨r, h1, hb, h3⟩ := plain_pd (st := st) d a h (44 - d)
  rw [show 44 - d + d + 1 = 45 by omega] at h1
  have h4 := h3 (49 - d)
  rw [show 49 - d + d + 1 = 50 by omega] at h4
  exact ⟨r, h1, eqOp_same h4, neOp_same h4, hb⟩
theorem pd_lI {d : Nat} {l : List Int} (h : l.length < 10000) : PD (d + 1) (lI l) := .lst d _ (by simpa using h) fun x hx => by obtain ⟨i, _, rfl⟩ := List.mem_map.mp hx; exact .int d i
theorem pd_ti {d : Nat} {l : List Int} (h : l.length < 10000) : PD (d + 1) (ti l) := .tup d _ (by simpa using h) fun x hx => by obtain ⟨i, _, rfl⟩ := List.mem_map.mp hx; exact .int d i
end Gk20

set_option Elab.async false
set_option linter.all false
set_option maxRecDepth 100000
set_option maxHeartbeats 4000000
namespace Gk20
open PySem PySem.Spec L2 SL
open PyProof.Rows hiding St
theorem ixs {st : Store} {k : Int} {l : List A} {v : A} (h0 : 0 ≤ k) (h : l[k.toNat]? = some v) : ixOp (.lst l) (.int k) st = some (v, st) := ixOp_at rfl (atI_of h0 h)
theorem ixt {st : Store} {k : Int} {l : List A} {v : A} (h0 : 0 ≤ k) (h : l[k.toNat]? = some v) : ixOp (.tup l) (.int k) st = some (v, st) := ixOp_at rfl (atI_of h0 h)
theorem addI_l {st : Store} {a b : List Int} (h : a.length + b.length < 1000000) : addOp false (.lst (a.map A.int)) (.lst (b.map A.int)) st = some (.lst ((a ++ b).map A.int), st) := by
  have hz := sz
  rw [addOp_l (by simp; omega), List.map_append]
theorem slt {st : Store} {w : List Int} {k : Int} (h0 : 0 ≤ k) (h1 : k ≤ w.length) : slOp false (.lst (w.map A.int)) none (some k) st = some (.lst ((w.take k.toNat).map A.int), st) := by
  rw [sl_take h0 (by simpa using h1), List.map_take]
theorem sld {st : Store} {w : List Int} {k : Int} (h0 : 0 ≤ k) (h1 : k ≤ w.length) : slOp false (.lst (w.map A.int)) (some k) none st = some (.lst ((w.drop k.toNat).map A.int), st) := by
  rw [sl_drop h0 (by simpa using h1), List.map_drop]
def ab (i : Int) : Int := if i < 0 then -i else i
theorem absA_ab {i : Int} {st : Store} : absA (.int i) st = some (.int (ab i), st) := rfl
theorem bel_str {n : Nat} {x : Str} : (A.str x).bel n = true := by simp [A.bel]
theorem tkA {st : Store} {l : List C} {c : Nat} {ds : List Int} {n : Int} (h : c < st.length) (hn : 0 < n) : ∃ d ds', 0 ≤ d ∧ d < n ∧ M__law_take [.cell c, .int n] (st.set c (li ds) ++ l) = .ok (.int d) (st.set c (li ds') ++ l) := by
  have h0 : (st.set c (li ds) ++ l)[c]? = some (li ds) := by
    rw [List.getElem?_append_left (by simpa using h), List.getElem?_set_self h]
  obtain ⟨d, ds', h1, h2, h3⟩ := take_spec h0 hn
  refine ⟨d, ds', h1, h2, ?_⟩
  rw [h3, List.set_append_left _ _ (by simpa using h), List.set_set]
theorem tk0 {st : Store} {c : Nat} {ds : List Int} {n : Int} (h : c < st.length) (hn : 0 < n) : ∃ d ds', 0 ≤ d ∧ d < n ∧ M__law_take [.cell c, .int n] (st.set c (li ds)) = .ok (.int d) (st.set c (li ds')) := by
  have := tkA (l := []) (ds := ds) h hn
  simpa using this
theorem fin_set {st : Store} {c : Nat} {ds : List Int} {a : A} {l : List C} (h : a.bel st.length = true) (hc : ∀ c, a ≠ .cell c) : finA false st.length st a (st.set c (li ds) ++ l) = .ok a (st.set c (li ds)) :=
  finA_set h hc (bel_ints _ _)
theorem fin_set0 {st : Store} {c : Nat} {ds : List Int} {a : A} (h : a.bel st.length = true) (hc : ∀ c, a ≠ .cell c) : finA false st.length st a (st.set c (li ds)) = .ok a (st.set c (li ds)) := by
  have := fin_set (l := []) (st := st) (c := c) (ds := ds) h hc
  simpa using this
theorem neg_ix {st : Store} {a : A} {w : List Int} {k : Nat} (hs : seqR a st = some (w.map A.int)) (h : k < w.length) : ixOp a (.int (-((k : Int) + 1))) st = some (.int (w.getD (w.length - 1 - k) 0), st) := by
  refine ixOp_at hs ?_
  unfold atI ixN
  rw [List.length_map, if_neg (by omega), if_pos (by omega)]
  show (w.map A.int)[_]? = _
  rw [show (-((k : Int) + 1) + (w.length : Int)).toNat = w.length - 1 - k by omega]
  exact get_getD (by omega)
theorem small_mulI {a b : Int} (h : a.natAbs < 2 ^ 20) (h' : b.natAbs < 2 ^ 20) : CMulW a b := wide_mul h h' (by decide) (by decide) (by decide)
theorem finA_lstW {st s : Store} {n : Nat} {zs : List A} (hn : st.length ≤ n) (h : s[n]? = some (.lst zs)) (hb : belowL st.length zs = true) (hok : okS st.length st s) : finA false st.length st (.cell n) s = .ok (.lst zs) (s.take st.length) := by
  have hnb : A.bel st.length (.cell n) = false := by simp [A.bel]; omega
  have e2 : ∀ (k : Nat) (ys : List A) (s : Store), belowL st.length ys = true → frzL (frzA st.length k) ys s = some (ys, s) := by
    intro k ys
    induction ys with
    | nil => intro s _; rfl
    | cons y ys ih =>
      intro s hb
      rw [belowL, Bool.and_eq_true] at hb
      unfold frzL
      have e : frzA st.length k y s = some (y, s) := by cases k <;> (unfold frzA; rw [if_pos hb.1])
      rw [e]
      dsimp only
      rw [ih s hb.2]
  have e : frzA st.length 8 (.cell n) s = some (.lst zs, s.set n .dead) := by
    unfold frzA
    rw [if_neg (by rw [hnb]; decide)]
    dsimp only
    rw [h]
    dsimp only
    rw [e2 _ _ _ hb]
    rfl
  have hok' : okS st.length st (s.set n .dead) := fun i hi => by
    rw [List.getElem?_set_ne (by omega)]; exact hok i hi
  unfold finA
  dsimp only
  rw [e]
  dsimp only
  rw [if_pos ⟨by simp only [A.bel]; exact hb, hok'⟩]
  congr 1
  rw [List.take_set_of_le (by omega)]
/-- a new list of numbers goes out, the draws having moved on -/
theorem fin_draw {st : Store} {c : Nat} {ds ds' zs : List Int} {l : List C} {n : Nat} (hn : st.length ≤ n) (h : (st.set c (li ds') ++ l)[n]? = some (li zs)) : finA false (st.set c (li ds)).length (st.set c (li ds)) (.cell n) (st.set c (li ds') ++ l) = .ok (lI zs) (st.set c (li ds')) := by
  have hok : okS (st.set c (li ds)).length (st.set c (li ds)) (st.set c (li ds') ++ l) := by
    have := okS_set (st := st.set c (li ds)) (c := c) (k := li ds') (l := l) (bel_ints _ _)
    rwa [List.set_set] at this
  rw [finA_lstW (zs := zs.map A.int) (by simpa using hn) h (bel_ints _ _) hok]
  congr 1
  have : (st.set c (li ds)).length = (st.set c (li ds')).length := by simp
  rw [this, List.take_left]
/-- a value without cells goes out, the draws having moved on -/
theorem fin_draw0 {st : Store} {c : Nat} {ds ds' : List Int} {a : A} (h : a.bel st.length = true) (hc : ∀ c, a ≠ .cell c) : finA false (st.set c (li ds)).length (st.set c (li ds)) a (st.set c (li ds')) = .ok a (st.set c (li ds')) := by
  have := finA_set (rc := false) (st := st.set c (li ds)) (a := a) (l := []) (c := c) (k := li ds') (by simpa using h) hc (bel_ints _ _)
  simpa using this
theorem rng1' {ms : AEnv → Store → Res (List A)} {env : AEnv} {st st' : Store} {n : Nat} (hn : n < 10000) (h : ms env st = .ok [.int (n : Int)] st') : mRng1 ms env st = .ok (((List.range n).map fun i => ((i : Nat) : Int)).map A.int, none) st' := by
  simp only [mRng1, h, Res.bind_ok]; rw [if_pos ⟨by omega, by omega⟩, rgA_ints]
theorem rng_get {q i : Nat} {a : A} (h : (((List.range q).map fun i => ((i : Nat) : Int)).map A.int)[i]? = some a) : i < q ∧ a = .int (i : Int) := by
  rw [List.getElem?_map, List.getElem?_map] at h
  by_cases hj : i < q
  · rw [List.getElem?_range hj] at h; cases h; exact ⟨hj, rfl⟩
  · rw [List.getElem?_eq_none (by simp; omega)] at h; cases h
end Gk20

set_option Elab.async false
set_option linter.all false
set_option maxRecDepth 100000
set_option maxHeartbeats 4000000
/-! fractions in lowest terms, Euclid's way -/
namespace F20
/-! Euclid's steps -/
def eu : Nat → Nat → Nat → Nat × Nat
  | 0, a, b => (a, b)
  | k + 1, a, b => if b = 0 then (a, b) else eu k b (a % b)
def fp : Nat → Nat × Nat
  | 0 => (1, 1)
  | k + 1 => ((fp k).2, (fp k).1 + (fp k).2)
theorem eu_fib : ∀ (k a b : Nat), (eu k a b).2 ≠ 0 → (fp k).1 ≤ b ∧ (b ≤ a → (fp k).2 ≤ a)
  | 0, a, b, h => by
    have h : b ≠ 0 := h
    exact ⟨by show 1 ≤ b; omega, fun hb => by show 1 ≤ a; omega⟩
  | k + 1, a, b, h => by
    unfold eu at h
    by_cases hb : b = 0
    · rw [if_pos hb] at h; exact absurd hb h
    · rw [if_neg hb] at h
      obtain ⟨h1, h2⟩ := eu_fib k b (a % b) h
      have hlt : a % b < b := Nat.mod_lt _ (by omega)
      have h3 := h2 (by omega)
      refine ⟨h3, fun hab => ?_⟩
      show (fp k).1 + (fp k).2 ≤ a
      have h4 := Nat.div_add_mod a b
      have h5 : 1 ≤ a / b := (Nat.one_le_div_iff (by omega)).mpr hab
      have h6 : b * 1 ≤ b * (a / b) := Nat.mul_le_mul_left _ h5
      omega
theorem fib400 : 2 ^ 240 ≤ (fp 400).1 := by decide +kernel
theorem eu_gcd : ∀ (k a b : Nat), Nat.gcd (eu k a b).1 (eu k a b).2 = Nat.gcd a b
  | 0, a, b => rfl
  | k + 1, a, b => by
    unfold eu
    split
    · rfl
    · rw [eu_gcd k, Nat.gcd_comm b, ← Nat.gcd_rec b a, Nat.gcd_comm]
theorem eu_end {a b : Nat} (hb : b < 2 ^ 240) : (eu 400 a b).2 = 0 ∧ (eu 400 a b).1 = Nat.gcd a b := by
  have h : (eu 400 a b).2 = 0 := by
    by_cases h : (eu 400 a b).2 = 0
    · exact h
    · have := (eu_fib 400 a b h).1
      have := fib400
      omega
  refine ⟨h, ?_⟩
  have := eu_gcd 400 a b
  rwa [h, Nat.gcd_zero_right] at this
/-! lowest terms -/
def com (n d : Int) : Int := if d < 0 ∨ (d = 0 ∧ n < 0) then -(Nat.gcd n.natAbs d.natAbs : Int) else (Nat.gcd n.natAbs d.natAbs : Int)
def red (n d : Int) : Int × Int := (n.fdiv (com n d), d.fdiv (com n d))
structure Norm (k l : Int) : Prop where
  g : Int.gcd k l = 1
  n : 0 ≤ l
  z : l = 0 → k = 1
theorem com_ne {n d : Int} (h : n ≠ 0 ∨ d ≠ 0) : com n d ≠ 0 := by
  have : Nat.gcd n.natAbs d.natAbs ≠ 0 := fun e => by
    rw [Nat.gcd_eq_zero_iff] at e
    omega
  unfold com; split <;> omega
theorem com_le {n d : Int} : (com n d).natAbs = Nat.gcd n.natAbs d.natAbs := by unfold com; split <;> omega
theorem gcd_mul (c k l : Int) : Int.gcd (c * k) (c * l) = c.natAbs * Int.gcd k l := Int.gcd_mul_left ..
theorem red_ok {n d : Int} (h : n ≠ 0 ∨ d ≠ 0) : ∃ k l, n = com n d * k ∧ d = com n d * l ∧ red n d = (k, l) ∧ Norm k l := by
  have hc := com_ne h
  have hdn : com n d ∣ n := by
    rw [← Int.natAbs_dvd_natAbs, com_le]; exact Nat.gcd_dvd_left _ _
  have hdd : com n d ∣ d := by
    rw [← Int.natAbs_dvd_natAbs, com_le]; exact Nat.gcd_dvd_right _ _
  obtain ⟨k, hk⟩ := hdn
  obtain ⟨l, hl⟩ := hdd
  have e1 : n.fdiv (com n d) = k := by
    conv => lhs; lhs; rw [hk]
    exact Int.mul_fdiv_cancel_left _ hc
  have e2 : d.fdiv (com n d) = l := by
    conv => lhs; lhs; rw [hl]
    exact Int.mul_fdiv_cancel_left _ hc
  have hg : Int.gcd n d = (com n d).natAbs * Int.gcd k l := by
    have h := gcd_mul (com n d) k l
    rwa [← hk, ← hl] at h
  have hgc : (com n d).natAbs = Int.gcd n d := com_le
  have hg1 : Int.gcd k l = 1 := by
    rw [hgc] at hg
    have hp : 0 < Int.gcd n d := by rw [← hgc]; omega
    exact Nat.eq_of_mul_eq_mul_left hp (by omega)
  refine ⟨k, l, hk, hl, by unfold red; rw [e1, e2], hg1, ?_, ?_⟩
  · by_cases hd : d < 0
    · have hcn : com n d < 0 := by
        have : com n d = -(Nat.gcd n.natAbs d.natAbs : Int) := if_pos (.inl hd)
        omega
      by_cases hl0 : 0 ≤ l
      · exact hl0
      · have : 0 < com n d * l := Int.mul_pos_of_neg_of_neg hcn (by omega)
        omega
    · by_cases hd0 : d = 0
      · have : l = 0 := by
          rw [hd0] at hl
          rcases Int.mul_eq_zero.mp hl.symm with h | h
          · rw [hd0] at hc; exact absurd h hc
          · exact h
        omega
      · have hcp : 0 < com n d := by
          have : com n d = (Nat.gcd n.natAbs d.natAbs : Int) := if_neg (by omega)
          omega
        by_cases hl0 : 0 ≤ l
        · exact hl0
        · have : com n d * l < 0 := Int.mul_neg_of_pos_of_neg hcp (by omega)
          omega
  · intro hl0
    have hd0 : d = 0 := by rw [hl, hl0, Int.mul_zero]
    rw [hl0] at hg1
    have hk1 : k.natAbs = 1 := by simpa using hg1
    by_cases hn : n < 0
    · have hcn : com n d < 0 := by
        have : com n d = -(Nat.gcd n.natAbs d.natAbs : Int) := if_pos (.inr ⟨hd0, hn⟩)
        omega
      by_cases hk0 : k = 1
      · exact hk0
      · have : k = -1 := by omega
        rw [this] at hk; omega
    · have hcp : 0 < com n d := by
        have : com n d = (Nat.gcd n.natAbs d.natAbs : Int) := if_neg (by omega)
        omega
      by_cases hk0 : k = 1
      · exact hk0
      · have : k = -1 := by omega
        rw [this] at hk; omega
theorem norm_uniq {c c' k l k' l' : Int} (h : Norm k l) (h' : Norm k' l') (hc : c ≠ 0) (hc' : c' ≠ 0) (e1 : c * k = c' * k') (e2 : c * l = c' * l') : k = k' ∧ l = l' := by
  have g1 := gcd_mul c k l
  have g2 := gcd_mul c' k' l'
  rw [h.g, Nat.mul_one] at g1
  rw [h'.g, Nat.mul_one, ← e1, ← e2, g1] at g2
  rcases Int.natAbs_eq_natAbs_iff.mp g2 with e | e
  · subst e
    exact ⟨Int.eq_of_mul_eq_mul_left hc e1, Int.eq_of_mul_eq_mul_left hc e2⟩
  · have e1' : c' * (-k) = c' * k' := by rw [← e1, e, Int.neg_mul, Int.mul_neg]
    have e2' : c' * (-l) = c' * l' := by rw [← e2, e, Int.neg_mul, Int.mul_neg]
    have k1 := Int.eq_of_mul_eq_mul_left hc' e1'
    have l1 := Int.eq_of_mul_eq_mul_left hc' e2'
    have hl := h.n
    have hl' := h'.n
    have z1 := h.z (by omega)
    have z2 := h'.z (by omega)
    omega
/-- the same ratio, the same lowest terms -/
theorem red_of {c k l n d : Int} (h : Norm k l) (hc : c ≠ 0) (e1 : n = c * k) (e2 : d = c * l) : red n d = (k, l) := by
  have hnd : n ≠ 0 ∨ d ≠ 0 := by
    by_cases hl : l = 0
    · left; rw [e1, h.z hl, Int.mul_one]; exact hc
    · right; rw [e2]; exact Int.mul_ne_zero hc hl
  obtain ⟨k', l', a1, a2, a3, a4⟩ := red_ok hnd
  obtain ⟨rfl, rfl⟩ := norm_uniq h a4 hc (com_ne hnd) (by rw [← e1]; exact a1) (by rw [← e2]; exact a2)
  exact a3
theorem red_scale {c n d : Int} (hc : c ≠ 0) (h : n ≠ 0 ∨ d ≠ 0) : red (c * n) (c * d) = red n d := by
  obtain ⟨k, l, a1, a2, a3, a4⟩ := red_ok h
  rw [a3]
  exact red_of (c := c * com n d) a4 (Int.mul_ne_zero hc (com_ne h)) (by rw [Int.mul_assoc, ← a1]) (by rw [Int.mul_assoc, ← a2])
/-! values of lists -/
def stp (v : Int × Int) (t : Int) : Int × Int := (v.2 + t * v.1, v.1)
def fw (l : List Int) (v : Int × Int) : Int × Int := l.foldl stp v
theorem fw_snoc (l : List Int) (t : Int) (v : Int × Int) : fw (l ++ [t]) v = stp (fw l v) t := by simp [fw]
theorem stp_ne {v : Int × Int} {t : Int} (h : v.1 ≠ 0 ∨ v.2 ≠ 0) : (stp v t).1 ≠ 0 ∨ (stp v t).2 ≠ 0 := by
  by_cases h1 : v.1 = 0
  · left
    show v.2 + t * v.1 ≠ 0
    rw [h1, Int.mul_zero]
    rcases h with h | h
    · exact absurd h1 h
    · omega
  · right; exact h1
theorem fw_ne (l : List Int) {v : Int × Int} (h : v.1 ≠ 0 ∨ v.2 ≠ 0) : (fw l v).1 ≠ 0 ∨ (fw l v).2 ≠ 0 := by
  induction l generalizing v with
  | nil => exact h
  | cons t l ih => exact ih (stp_ne h)
/-- the law's step on lowest terms -/
def lst (v : Int × Int) (t : Int) : Int × Int := if v.1 = 0 then (1, 0) else if v.2 = 0 then (t, 1) else red (t * v.1 + v.2) v.1
theorem norm1 {t : Int} : Norm t 1 := ⟨by simp [Int.gcd], by omega, by omega⟩
theorem lst_red {v : Int × Int} {t : Int} (h : v.1 ≠ 0 ∨ v.2 ≠ 0) : lst (red v.1 v.2) t = red (stp v t).1 (stp v t).2 := by
  obtain ⟨k, l, a1, a2, a3, a4⟩ := red_ok h
  have hc := com_ne h
  rw [a3]
  generalize com v.1 v.2 = C at a1 a2 hc
  have e1 : (stp v t).1 = C * (t * k + l) := by
    show v.2 + t * v.1 = _
    rw [a1, a2, Int.mul_add, Int.mul_left_comm t C k, Int.add_comm]
  have e2 : (stp v t).2 = C * k := a1
  unfold lst
  by_cases hk : k = 0
  · have hl : l = 1 := by
      have g := a4.g
      have n := a4.n
      rw [hk] at g
      have : l.natAbs = 1 := by simpa using g
      omega
    rw [if_pos hk]
    exact (red_of (c := C) (k := 1) (l := 0) ⟨by simp, by omega, fun _ => rfl⟩ hc (by rw [e1, hk, hl]; omega) (by rw [e2, hk])).symm
  · rw [if_neg hk]
    by_cases hl : l = 0
    · rw [if_pos hl]
      have hk1 := a4.z hl
      exact (red_of (c := C) (k := t) (l := 1) norm1 hc (by rw [e1, hk1, hl]; congr 1; omega) (by rw [e2, hk1])).symm
    · rw [if_neg hl, e1, e2, red_scale hc (.inr hk)]
end F20

set_option Elab.async false
set_option linter.all false
set_option maxRecDepth 100000
set_option maxHeartbeats 4000000
namespace F20
inductive Eu : Int → Int → List Int → Prop
  | nil (p : Int) : Eu p 0 []
  | cons {p q : Int} {l : List Int} (h : 0 < q) (r : Eu q (p.fmod q) l) : Eu p q (p.fdiv q :: l)
theorem eu_nil {p q : Int} (h : Eu p q []) : q = 0 := by cases h; rfl
theorem fm_nn {p q : Int} (h : 0 < q) : 0 ≤ p.fmod q ∧ p.fmod q < q := by
  rw [Int.fmod_eq_emod_of_nonneg _ (by omega)]
  exact ⟨Int.emod_nonneg _ (by omega), Int.emod_lt_of_pos _ h⟩
theorem fm_def (p q : Int) : q * p.fdiv q + p.fmod q = p := Int.mul_fdiv_add_fmod p q
theorem eu_ex : ∀ (n : Nat) (p q : Int), 0 ≤ q → q.toNat ≤ n → ∃ l, Eu p q l
  | 0, p, q, h, hn => by
    have : q = 0 := by omega
    subst this; exact ⟨[], .nil p⟩
  | n + 1, p, q, h, hn => by
    by_cases h0 : q = 0
    · subst h0; exact ⟨[], .nil p⟩
    · have hq : 0 < q := by omega
      have := fm_nn (p := p) hq
      obtain ⟨l, hl⟩ := eu_ex n q (p.fmod q) (by omega) (by omega)
      exact ⟨_, .cons hq hl⟩
theorem fp_mono (k : Nat) : (fp k).1 ≤ (fp k).2 ∧ 1 ≤ (fp k).1 := by
  induction k with
  | zero => exact ⟨Nat.le_refl _, Nat.le_refl _⟩
  | succ k ih =>
    show (fp k).2 ≤ (fp k).1 + (fp k).2 ∧ 1 ≤ (fp k).2
    omega
theorem fp_le {k j : Nat} (h : k ≤ j) : (fp k).1 ≤ (fp j).1 := by
  induction h with
  | refl => exact Nat.le_refl _
  | @step m h ih =>
    have := (fp_mono m).1
    show (fp k).1 ≤ (fp m).2
    omega
/-- so few steps -/
theorem eu_len {p q : Int} {l : List Int} (h : Eu p q l) : l ≠ [] → ((fp (l.length - 1)).1 : Int) ≤ q ∧ (q ≤ p → ((fp (l.length - 1)).2 : Int) ≤ p) := by
  induction h with
  | nil p => intro h; exact absurd rfl h
  | @cons p q l hq r ih =>
    intro _
    have hm := fm_nn (p := p) hq
    by_cases hl : l = []
    · subst hl
      exact ⟨by show ((1 : Nat) : Int) ≤ q; omega, fun hqp => by show ((1 : Nat) : Int) ≤ p; omega⟩
    · obtain ⟨h1, h2⟩ := ih hl
      obtain ⟨m, hm2⟩ : ∃ m, l.length = m + 1 := ⟨l.length - 1, by have := List.length_pos_iff.mpr hl; omega⟩
      rw [List.length_cons, hm2, show m + 1 + 1 - 1 = m + 1 by omega]
      rw [hm2, show m + 1 - 1 = m by omega] at h1 h2
      refine ⟨h2 (by omega), fun hqp => ?_⟩
      show (((fp m).1 + (fp m).2 : Nat) : Int) ≤ p
      have h3 := h2 (by omega)
      have h4 := fm_def p q
      have h5 : 1 ≤ p.fdiv q := by
        rw [Int.fdiv_eq_ediv_of_nonneg _ (by omega)]
        exact (Int.le_ediv_iff_mul_le hq).mpr (by omega)
      have h6 : q * 1 ≤ q * p.fdiv q := Int.mul_le_mul_of_nonneg_left h5 (by omega)
      omega
theorem eu_400 {p q : Int} {l : List Int} (h : Eu p q l) (hq : q < 2 ^ 240) : l.length ≤ 400 := by
  by_cases hl : l.length ≤ 400
  · exact hl
  · have h1 := (eu_len h (by intro e; subst e; exact hl (by simp))).1
    have h2 := fp_le (k := 400) (j := l.length - 1) (by omega)
    have h3 := fib400
    have h4 : ((2 ^ 240 : Nat) : Int) ≤ ((fp (l.length - 1)).1 : Int) := by omega
    have h5 : ((2 ^ 240 : Nat) : Int) = 2 ^ 240 := by norm_cast
    omega
theorem gcd_fm (p q : Int) : Int.gcd q (p.fmod q) = Int.gcd p q := by
  have h := fm_def p q
  rw [Int.gcd_comm p q]
  conv => rhs; rw [← h]
  exact (Int.gcd_mul_left_add_right ..).symm
/-- the terms give the fraction back -/
theorem eu_val {p q : Int} {l : List Int} (h : Eu p q l) : 0 < q → Int.gcd p q = 1 → ∃ a T, l.reverse = a :: T ∧ fw T (a, 1) = (p, q) ∧ ∀ i, i < T.length → 0 ≤ (fw (T.take i) (a, 1)).1 ∧ (fw (T.take i) (a, 1)).1 ≤ q := by
  induction h with
  | nil p => intro h; omega
  | @cons p q l hq r ih =>
    intro _ hg
    have hm := fm_nn (p := p) hq
    by_cases h0 : p.fmod q = 0
    · rw [h0] at r
      cases r with
      | cons h _ => omega
      | nil =>
        have hg2 := gcd_fm p q
        rw [h0, hg] at hg2
        have hq1 : q = 1 := by
          have : q.natAbs = 1 := by simpa using hg2
          omega
        subst hq1
        refine ⟨p.fdiv 1, [], rfl, ?_, fun i hi => by cases hi⟩
        show (p.fdiv 1, (1 : Int)) = (p, 1)
        rw [Int.fdiv_one]
    · obtain ⟨a, T, e1, e2, e3⟩ := ih (by omega) (by rw [gcd_fm, hg])
      refine ⟨a, T ++ [p.fdiv q], by rw [List.reverse_cons, e1]; rfl, ?_, fun i hi => ?_⟩
      · rw [fw_snoc, e2]
        show (p.fmod q + p.fdiv q * q, q) = (p, q)
        have := fm_def p q
        rw [Int.mul_comm, Int.add_comm, this]
      · rw [List.length_append, List.length_singleton] at hi
        by_cases hi2 : i < T.length
        · rw [List.take_append_of_le_length (by omega)]
          have := e3 i hi2
          omega
        · have : i = T.length := by omega
          rw [this, List.take_append_of_le_length (by omega), List.take_length, e2]
          exact ⟨by show 0 ≤ q; omega, Int.le_refl _⟩
/-- the terms behind the first are at least 1, the last of them 2 -/
theorem eu_pos {p q : Int} {l : List Int} (h : Eu p q l) : q < p → (∀ t ∈ l, 1 ≤ t) ∧ ∀ a T, l.reverse = a :: T → 2 ≤ a := by
  induction h with
  | nil p => exact fun _ => ⟨(by intro t ht; cases ht), (by intro a T e; cases e)⟩
  | @cons p q l hq r ih =>
    intro hlt
    have hm := fm_nn (p := p) hq
    obtain ⟨h1, h2⟩ := ih (by omega)
    have hd : p.fdiv q = p / q := Int.fdiv_eq_ediv_of_nonneg _ (by omega)
    have h5 : 1 ≤ p.fdiv q := by
      rw [hd]
      exact (Int.le_ediv_iff_mul_le hq).mpr (by omega)
    refine ⟨fun t ht => ?_, fun a T e => ?_⟩
    · rcases List.mem_cons.mp ht with rfl | ht
      · exact h5
      · exact h1 t ht
    · by_cases hl : l = []
      · subst hl
        have e : [p.fdiv q] = a :: T := e
        cases e
        have h8 := eu_nil r
        have h6 := fm_def p q
        by_cases h7 : p.fdiv q = 1
        · rw [h7] at h6; omega
        · omega
      · obtain ⟨b, l', hb⟩ : ∃ b l', l.reverse = b :: l' := by
          cases e2 : l.reverse with
          | nil => exact absurd (List.reverse_eq_nil_iff.mp e2) hl
          | cons b l' => exact ⟨b, l', rfl⟩
        rw [List.reverse_cons, hb] at e
        cases e
        exact h2 _ _ hb
/-! inverses modulo p -/
def iv : List Int → Int → Int → Int
  | [], b, _ => b
  | t :: l, b, w => iv l w (b - t * w)
theorem iv_ok {p q : Int} {f s : Int} {l : List Int} (h : Eu f s l) : ∀ b w : Int, 0 ≤ f → p ∣ b * q - f → p ∣ w * q - s → p ∣ iv l b w * q - (Int.gcd f s : Int) := by
  induction h with
  | nil f =>
    intro b w hf h1 h2
    show p ∣ b * q - _
    rw [Int.gcd_zero_right, Int.natAbs_of_nonneg hf]
    exact h1
  | @cons f s l hs r ih =>
    intro b w hf h1 h2
    show p ∣ iv l w (b - f.fdiv s * w) * q - _
    rw [← gcd_fm f s]
    refine ih w _ (by omega) h2 ?_
    have e : (b - f.fdiv s * w) * q - f.fmod s = (b * q - f) - f.fdiv s * (w * q - s) := by
      have h3 := fm_def f s
      have h4 : f.fdiv s * w * q = f.fdiv s * (w * q) := Int.mul_assoc ..
      have h5 : f.fdiv s * s = s * f.fdiv s := Int.mul_comm ..
      rw [Int.sub_mul, h4, Int.mul_sub, h5]
      omega
    rw [e]
    exact Int.dvd_sub h1 (Int.dvd_trans h2 (Int.dvd_mul_left _ _))
def Sz (P f s b w : Int) : Prop := ((0 ≤ b ∧ w ≤ 0) ∨ (b ≤ 0 ∧ 0 ≤ w)) ∧ f * w.natAbs + s * b.natAbs ≤ P
theorem sz_step {P f s b w : Int} (h : Sz P f s b w) (hs : 0 < s) (hf : 0 ≤ f) : Sz P s (f.fmod s) w (b - f.fdiv s * w) := by
  obtain ⟨h1, h2⟩ := h
  have ht : 0 ≤ f.fdiv s := by
    rw [Int.fdiv_eq_ediv_of_nonneg _ (by omega)]
    exact Int.ediv_nonneg hf (by omega)
  have h3 := fm_def f s
  generalize f.fdiv s = t at *
  generalize f.fmod s = r at *
  subst h3
  have hx : ((b - t * w).natAbs : Int) = b.natAbs + t * w.natAbs := by
    rcases h1 with ⟨h1, h4⟩ | ⟨h1, h4⟩
    · have : 0 ≤ t * -w := Int.mul_nonneg ht (by omega)
      rw [Int.mul_neg] at this
      have e : (w.natAbs : Int) = -w := by omega
      rw [e, Int.mul_neg]
      omega
    · have : 0 ≤ t * w := Int.mul_nonneg ht h4
      have e : (w.natAbs : Int) = w := by omega
      rw [e]
      omega
  refine ⟨?_, ?_⟩
  · rcases h1 with ⟨h1, h4⟩ | ⟨h1, h4⟩
    · have : 0 ≤ t * -w := Int.mul_nonneg ht (by omega)
      rw [Int.mul_neg] at this
      right; omega
    · have : 0 ≤ t * w := Int.mul_nonneg ht h4
      left; omega
  · rw [hx, Int.mul_add]
    rw [Int.add_mul] at h2
    have : s * (t * (w.natAbs : Int)) = s * t * (w.natAbs : Int) := (Int.mul_assoc ..).symm
    omega
/-- the inverse is one modulo p -/
theorem inv_uniq {p q x y : Int} (hx : p ∣ x * q - 1) (hy : p ∣ y * q - 1) : p ∣ x - y := by
  have e : x - y = x * -(y * q - 1) + y * (x * q - 1) := by
    rw [Int.mul_neg, Int.mul_sub, Int.mul_sub, ← Int.mul_assoc, ← Int.mul_assoc, Int.mul_comm x y]
    omega
  rw [e]
  exact Int.dvd_add (Int.dvd_trans (Int.dvd_neg.mpr hy) (Int.dvd_mul_left _ _)) (Int.dvd_trans hx (Int.dvd_mul_left _ _))
end F20

set_option Elab.async false
set_option linter.all false
set_option maxRecDepth 100000
set_option maxHeartbeats 4000000
namespace F20
theorem eu_succ : ∀ (k a b : Nat), eu (k + 1) a b = if (eu k a b).2 = 0 then eu k a b else ((eu k a b).2, (eu k a b).1 % (eu k a b).2)
  | 0, a, b => rfl
  | k + 1, a, b => by
    by_cases hb : b = 0
    · have h : ∀ j, eu j a b = (a, b) := fun j => by cases j with
        | zero => rfl
        | succ j => unfold eu; rw [if_pos hb]
      rw [h, h, if_pos hb]
    · have h : ∀ j, eu (j + 1) a b = eu j b (a % b) := fun j => by
        conv => lhs; unfold eu
        rw [if_neg hb]
      rw [h, h]
      exact eu_succ k b (a % b)
end F20
namespace Gk20
open PySem PySem.Spec L2 SL F20
open PyProof.Rows hiding St
abbrev pr (v : Int × Int) : A := .tup [.int v.1, .int v.2]
theorem mulW {a b : Int} {i j : Nat} (h : a.natAbs < 2 ^ i) (h' : b.natAbs < 2 ^ j) (hi : 0 < i) (hj : 0 < j) (hs : i + j ≤ 1000000) : CMulW a b := wide_mul h h' hi hj hs
section
variable {st : Store} {n d : Int}
theorem fdivL {m k : Int} {j : Nat} (h : k ≠ 0) (hk : k.natAbs < 2 ^ j) (hj : 0 < j) (h9 : j ≤ 9000) : fdivOp (.int m) (.int k) st = some (.int (m.fdiv k), st) :=
  fdivOp_L h (Nat.lt_of_lt_of_le (PySem.Flt.log2_lt_of hj hk) h9)
theorem ab_nat {x : Int} : ab x = (x.natAbs : Int) := by unfold ab; split <;> omega
theorem div_sp (hd : d.natAbs < 2 ^ 240) : M__law_divisor [.int n, .int d] st = .ok (.int (Nat.gcd n.natAbs d.natAbs : Nat)) st := by
  have hz := sz
  generalize ha : n.natAbs = a
  generalize hb : d.natAbs = b at hd ⊢
  have h := forL_post (src := none) (all := ((List.range 400).map fun (j : Nat) => (j : Int)).map A.int) (g := gN 2) (body := L1__law_divisor) (P := ⟨fun e s => s = st ∧ ∃ x1 x2 x3, e = [some (.int (Nat.gcd a b : Nat)), x1, x2, x3], fun _ _ => False, fun _ _ => False, fun _ _ => False, fun _ _ _ => False⟩)
    (fun i e s => s = st ∧ ∃ x2 x3, e = [some (.int ((eu i a b).1 : Nat)), some (.int ((eu i a b).2 : Nat)), x2, x3]) (fun _ _ _ _ => trivial) (((List.range 400).map fun (j : Nat) => (j : Int)).map A.int) 0 [some (.int (a : Nat)), some (.int (b : Nat)), none, none] st ⟨rfl, none, none, rfl⟩
    (fun i x e s hx hi => by
      rw [Nat.zero_add] at hi ⊢
      obtain ⟨rfl, x2, x3, rfl⟩ := hi
      refine ⟨_, rfl, ?_⟩
      by_cases h0 : (eu i a b).2 = 0
      · have h0' : ((eu i a b).2 : Int) = 0 := by omega
        have hg := eu_gcd i a b
        rw [h0, Nat.gcd_zero_right] at hg
        have hbd : L1__law_divisor [some (.int ((eu i a b).1 : Nat)), some (.int ((eu i a b).2 : Nat)), some x, x3] s = .bk [some (.int ((eu i a b).1 : Nat)), some (.int ((eu i a b).2 : Nat)), some x, x3] s := by
          simp only [L1__law_divisor, sSeq_ap, sAsg_ap, sEx_ap, sRet_ap, sRetN_ap, sNil_ap, sIf_ap, sFor_ap, sSub_ap, sRaise_ap, mkWhat_ap, eVar_ap, eC_ap, eBin_ap, eUn_ap, eTup_ap, eLst_ap, eCB_ap, eCall_ap, eM_ap, eIf_ap, eAndV_ap, eOrV_ap, eNotV_ap, eChain_ap, eSl_ap, oNone_ap, oSome_ap, eXf_ap, aNil_ap, aCons_ap, tOf_ap, tTru_ap, tAndM_ap, tOrM_ap, tNotM_ap, tYesM_ap, asB_bl, truA_b, Res.bind_ok, Res.bind_exc, Res.toS_ok, Res.toS_exc, Res.of_some, SRes.bind_nx, SRes.bind_rt, SRes.bind_exc, SRes.bind_ct, SRes.bind_bk, gN_ap, List.getElem?_cons_zero, List.getElem?_cons_succ, List.set_cons_zero, List.set_cons_succ, one1_ap, two2_ap, newL_f, newL_t, addOp_ii, subOp_ii, negOp_i, ltOp_ii, leOp_ii, gtOp_ii, geOp_ii, eqOp_ii, neOp_ii, eqOp_ss, neOp_ss, intA_i, intA_b, maxA_ii, minA_ii, lenA_lst, lenA_tup, lenA_slst, listA_lst, listA_tup, listA_slst, tupleA_lst, tupleA_tup, List.length_map, List.length_cons, List.length_nil, Bool.not_true, Bool.not_false, Bool.false_eq_true, if_true, if_false, Nat.zero_add, Nat.reduceAdd, decide_eq_true h0', sBk_ap, SRes.bind_bk]
        simp only [List.set_cons_succ, List.set_cons_zero, hbd]
        exact ⟨rfl, _, _, _, by rw [hg]⟩
      · have h0' : ¬ ((eu i a b).2 : Int) = 0 := by omega
        have hbd : L1__law_divisor [some (.int ((eu i a b).1 : Nat)), some (.int ((eu i a b).2 : Nat)), some x, x3] s = .nx [some (.int ((eu i a b).2 : Nat)), some (.int (((eu i a b).1 : Int).fmod ((eu i a b).2 : Int))), some x, some (.int (((eu i a b).1 : Int).fmod ((eu i a b).2 : Int)))] s := by
          simp only [L1__law_divisor, sSeq_ap, sAsg_ap, sEx_ap, sRet_ap, sRetN_ap, sNil_ap, sIf_ap, sFor_ap, sSub_ap, sRaise_ap, mkWhat_ap, eVar_ap, eC_ap, eBin_ap, eUn_ap, eTup_ap, eLst_ap, eCB_ap, eCall_ap, eM_ap, eIf_ap, eAndV_ap, eOrV_ap, eNotV_ap, eChain_ap, eSl_ap, oNone_ap, oSome_ap, eXf_ap, aNil_ap, aCons_ap, tOf_ap, tTru_ap, tAndM_ap, tOrM_ap, tNotM_ap, tYesM_ap, asB_bl, truA_b, Res.bind_ok, Res.bind_exc, Res.toS_ok, Res.toS_exc, Res.of_some, SRes.bind_nx, SRes.bind_rt, SRes.bind_exc, SRes.bind_ct, SRes.bind_bk, gN_ap, List.getElem?_cons_zero, List.getElem?_cons_succ, List.set_cons_zero, List.set_cons_succ, one1_ap, two2_ap, newL_f, newL_t, addOp_ii, subOp_ii, negOp_i, ltOp_ii, leOp_ii, gtOp_ii, geOp_ii, eqOp_ii, neOp_ii, eqOp_ss, neOp_ss, intA_i, intA_b, maxA_ii, minA_ii, lenA_lst, lenA_tup, lenA_slst, listA_lst, listA_tup, listA_slst, tupleA_lst, tupleA_tup, List.length_map, List.length_cons, List.length_nil, Bool.not_true, Bool.not_false, Bool.false_eq_true, if_true, if_false, Nat.zero_add, Nat.reduceAdd, decide_eq_false h0', modOp_ii h0']
        simp only [List.set_cons_succ, List.set_cons_zero, hbd]
        refine ⟨rfl, some x, some (.int (((eu i a b).1 : Int).fmod ((eu i a b).2 : Int))), ?_⟩
        rw [eu_succ, if_neg h0]
        have : ((eu i a b).1 : Int).fmod ((eu i a b).2 : Int) = (((eu i a b).1 % (eu i a b).2 : Nat) : Int) := by
          rw [Int.fmod_eq_emod_of_nonneg _ (by omega)]; rfl
        rw [this])
    (fun e s h => by
      rw [Nat.zero_add] at h
      obtain ⟨rfl, x2, x3, rfl⟩ := h
      rw [List.length_map, List.length_map, List.length_range]
      have := (eu_end (a := a) hd).2
      exact ⟨rfl, _, _, _, by rw [this]⟩)
  have er : mRng1 (aCons (eC (.int 400)) aNil) [some (.int (a : Nat)), some (.int (b : Nat)), none, none] st = .ok (((List.range 400).map fun (j : Nat) => (j : Int)).map A.int, none) st := rng1 (by omega) (by simp)
  have eA : absA (.int n) st = some (.int (a : Nat), st) := by rw [absA_ab, ab_nat, ha]
  have eB : absA (.int d) st = some (.int (b : Nat), st) := by rw [absA_ab, ab_nat, hb]
  cases e : forL none (((List.range 400).map fun (j : Nat) => (j : Int)).map A.int) (gN 2) L1__law_divisor (((List.range 400).map fun (j : Nat) => (j : Int)).map A.int) [some (.int (a : Nat)), some (.int (b : Nat)), none, none] st with
  | nx e' s =>
    rw [e] at h
    obtain ⟨rfl, x1, x2, x3, rfl⟩ := h
    refine fnM_rt rfl (st' := s) ?_ fin_int0
    show B__law_divisor [some (.int n), some (.int d), none, none] s = _
    simp only [B__law_divisor, sSeq_ap, sAsg_ap, sEx_ap, sRet_ap, sRetN_ap, sNil_ap, sIf_ap, sFor_ap, sSub_ap, sRaise_ap, mkWhat_ap, eVar_ap, eC_ap, eBin_ap, eUn_ap, eTup_ap, eLst_ap, eCB_ap, eCall_ap, eM_ap, eIf_ap, eAndV_ap, eOrV_ap, eNotV_ap, eChain_ap, eSl_ap, oNone_ap, oSome_ap, eXf_ap, aNil_ap, aCons_ap, tOf_ap, tTru_ap, tAndM_ap, tOrM_ap, tNotM_ap, tYesM_ap, asB_bl, truA_b, Res.bind_ok, Res.bind_exc, Res.toS_ok, Res.toS_exc, Res.of_some, SRes.bind_nx, SRes.bind_rt, SRes.bind_exc, SRes.bind_ct, SRes.bind_bk, gN_ap, List.getElem?_cons_zero, List.getElem?_cons_succ, List.set_cons_zero, List.set_cons_succ, one1_ap, two2_ap, newL_f, newL_t, addOp_ii, subOp_ii, negOp_i, ltOp_ii, leOp_ii, gtOp_ii, geOp_ii, eqOp_ii, neOp_ii, eqOp_ss, neOp_ss, intA_i, intA_b, maxA_ii, minA_ii, lenA_lst, lenA_tup, lenA_slst, listA_lst, listA_tup, listA_slst, tupleA_lst, tupleA_tup, List.length_map, List.length_cons, List.length_nil, Bool.not_true, Bool.not_false, Bool.false_eq_true, if_true, if_false, Nat.zero_add, Nat.reduceAdd, eA, eB, er, e]
  | _ => rw [e] at h; exact h.elim
theorem bel_pr {k : Nat} {v : Int × Int} : (pr v).bel k = true := by simp [A.bel, belowL]
theorem redL_sp (h : n ≠ 0 ∨ d ≠ 0) (hn : n.natAbs < 2 ^ 2000) (hd : d.natAbs < 2 ^ 240) : M__law_reduced [.int n, .int d] st = .ok (pr (red n d)) st := by
  have hz := sz
  have l2' : (2 : Nat) ≤ sizeLine := by omega
  have dv := @div_sp st n d hd
  have hc := com_ne h
  have hlt : (com n d).natAbs < 2 ^ 2000 := by
    rw [com_le]
    by_cases h0 : d = 0
    · rw [h0, Int.natAbs_zero, Nat.gcd_zero_right]; exact hn
    · have := Nat.gcd_le_right n.natAbs (show 0 < d.natAbs by omega)
      exact Nat.lt_of_le_of_lt this (Nat.lt_of_lt_of_le hd (Nat.pow_le_pow_right (by omega) (by omega)))
  have f1 := @fdivL st n (com n d) 2000 hc hlt (by omega) (by omega)
  have f2 := @fdivL st d (com n d) 2000 hc hlt (by omega) (by omega)
  refine fnM_rt rfl (a := pr (red n d)) (st' := st) ?_ (fin_pure0 bel_pr (by intro c h; cases h))
  show B__law_reduced [some (.int n), some (.int d), none] st = _
  by_cases h1 : d < 0
  · have e : com n d = -(Nat.gcd n.natAbs d.natAbs : Int) := if_pos (.inl h1)
    rw [e] at f1 f2
    have er : red n d = (n.fdiv (-(Nat.gcd n.natAbs d.natAbs : Int)), d.fdiv (-(Nat.gcd n.natAbs d.natAbs : Int))) := by unfold red; rw [e]
    simp only [B__law_reduced, sSeq_ap, sAsg_ap, sEx_ap, sRet_ap, sRetN_ap, sNil_ap, sIf_ap, sFor_ap, sSub_ap, sRaise_ap, mkWhat_ap, eVar_ap, eC_ap, eBin_ap, eUn_ap, eTup_ap, eLst_ap, eCB_ap, eCall_ap, eM_ap, eIf_ap, eAndV_ap, eOrV_ap, eNotV_ap, eChain_ap, eSl_ap, oNone_ap, oSome_ap, eXf_ap, aNil_ap, aCons_ap, tOf_ap, tTru_ap, tAndM_ap, tOrM_ap, tNotM_ap, tYesM_ap, asB_bl, truA_b, Res.bind_ok, Res.bind_exc, Res.toS_ok, Res.toS_exc, Res.of_some, SRes.bind_nx, SRes.bind_rt, SRes.bind_exc, SRes.bind_ct, SRes.bind_bk, gN_ap, List.getElem?_cons_zero, List.getElem?_cons_succ, List.set_cons_zero, List.set_cons_succ, one1_ap, two2_ap, newL_f, newL_t, addOp_ii, subOp_ii, negOp_i, ltOp_ii, leOp_ii, gtOp_ii, geOp_ii, eqOp_ii, neOp_ii, eqOp_ss, neOp_ss, intA_i, intA_b, maxA_ii, minA_ii, lenA_lst, lenA_tup, lenA_slst, listA_lst, listA_tup, listA_slst, tupleA_lst, tupleA_tup, List.length_map, List.length_cons, List.length_nil, Bool.not_true, Bool.not_false, Bool.false_eq_true, if_true, if_false, Nat.zero_add, Nat.reduceAdd, dv, decide_eq_true h1, f1, f2, l2', er]
  · by_cases h2 : d = 0
    · by_cases h3 : n < 0
      · have e : com n d = -(Nat.gcd n.natAbs d.natAbs : Int) := if_pos (.inr ⟨h2, h3⟩)
        rw [e] at f1 f2
        have er : red n d = (n.fdiv (-(Nat.gcd n.natAbs d.natAbs : Int)), d.fdiv (-(Nat.gcd n.natAbs d.natAbs : Int))) := by unfold red; rw [e]
        simp only [B__law_reduced, sSeq_ap, sAsg_ap, sEx_ap, sRet_ap, sRetN_ap, sNil_ap, sIf_ap, sFor_ap, sSub_ap, sRaise_ap, mkWhat_ap, eVar_ap, eC_ap, eBin_ap, eUn_ap, eTup_ap, eLst_ap, eCB_ap, eCall_ap, eM_ap, eIf_ap, eAndV_ap, eOrV_ap, eNotV_ap, eChain_ap, eSl_ap, oNone_ap, oSome_ap, eXf_ap, aNil_ap, aCons_ap, tOf_ap, tTru_ap, tAndM_ap, tOrM_ap, tNotM_ap, tYesM_ap, asB_bl, truA_b, Res.bind_ok, Res.bind_exc, Res.toS_ok, Res.toS_exc, Res.of_some, SRes.bind_nx, SRes.bind_rt, SRes.bind_exc, SRes.bind_ct, SRes.bind_bk, gN_ap, List.getElem?_cons_zero, List.getElem?_cons_succ, List.set_cons_zero, List.set_cons_succ, one1_ap, two2_ap, newL_f, newL_t, addOp_ii, subOp_ii, negOp_i, ltOp_ii, leOp_ii, gtOp_ii, geOp_ii, eqOp_ii, neOp_ii, eqOp_ss, neOp_ss, intA_i, intA_b, maxA_ii, minA_ii, lenA_lst, lenA_tup, lenA_slst, listA_lst, listA_tup, listA_slst, tupleA_lst, tupleA_tup, List.length_map, List.length_cons, List.length_nil, Bool.not_true, Bool.not_false, Bool.false_eq_true, if_true, if_false, Nat.zero_add, Nat.reduceAdd, dv, decide_eq_false h1, decide_eq_true h2, decide_eq_true h3, f1, f2, l2', er]
      · have e : com n d = (Nat.gcd n.natAbs d.natAbs : Int) := if_neg (by omega)
        rw [e] at f1 f2
        have er : red n d = (n.fdiv (Nat.gcd n.natAbs d.natAbs : Int), d.fdiv (Nat.gcd n.natAbs d.natAbs : Int)) := by unfold red; rw [e]
        simp only [B__law_reduced, sSeq_ap, sAsg_ap, sEx_ap, sRet_ap, sRetN_ap, sNil_ap, sIf_ap, sFor_ap, sSub_ap, sRaise_ap, mkWhat_ap, eVar_ap, eC_ap, eBin_ap, eUn_ap, eTup_ap, eLst_ap, eCB_ap, eCall_ap, eM_ap, eIf_ap, eAndV_ap, eOrV_ap, eNotV_ap, eChain_ap, eSl_ap, oNone_ap, oSome_ap, eXf_ap, aNil_ap, aCons_ap, tOf_ap, tTru_ap, tAndM_ap, tOrM_ap, tNotM_ap, tYesM_ap, asB_bl, truA_b, Res.bind_ok, Res.bind_exc, Res.toS_ok, Res.toS_exc, Res.of_some, SRes.bind_nx, SRes.bind_rt, SRes.bind_exc, SRes.bind_ct, SRes.bind_bk, gN_ap, List.getElem?_cons_zero, List.getElem?_cons_succ, List.set_cons_zero, List.set_cons_succ, one1_ap, two2_ap, newL_f, newL_t, addOp_ii, subOp_ii, negOp_i, ltOp_ii, leOp_ii, gtOp_ii, geOp_ii, eqOp_ii, neOp_ii, eqOp_ss, neOp_ss, intA_i, intA_b, maxA_ii, minA_ii, lenA_lst, lenA_tup, lenA_slst, listA_lst, listA_tup, listA_slst, tupleA_lst, tupleA_tup, List.length_map, List.length_cons, List.length_nil, Bool.not_true, Bool.not_false, Bool.false_eq_true, if_true, if_false, Nat.zero_add, Nat.reduceAdd, dv, decide_eq_false h1, decide_eq_true h2, decide_eq_false h3, f1, f2, l2', er]
    · have e : com n d = (Nat.gcd n.natAbs d.natAbs : Int) := if_neg (by omega)
      rw [e] at f1 f2
      have er : red n d = (n.fdiv (Nat.gcd n.natAbs d.natAbs : Int), d.fdiv (Nat.gcd n.natAbs d.natAbs : Int)) := by unfold red; rw [e]
      simp only [B__law_reduced, sSeq_ap, sAsg_ap, sEx_ap, sRet_ap, sRetN_ap, sNil_ap, sIf_ap, sFor_ap, sSub_ap, sRaise_ap, mkWhat_ap, eVar_ap, eC_ap, eBin_ap, eUn_ap, eTup_ap, eLst_ap, eCB_ap, eCall_ap, eM_ap, eIf_ap, eAndV_ap, eOrV_ap, eNotV_ap, eChain_ap, eSl_ap, oNone_ap, oSome_ap, eXf_ap, aNil_ap, aCons_ap, tOf_ap, tTru_ap, tAndM_ap, tOrM_ap, tNotM_ap, tYesM_ap, asB_bl, truA_b, Res.bind_ok, Res.bind_exc, Res.toS_ok, Res.toS_exc, Res.of_some, SRes.bind_nx, SRes.bind_rt, SRes.bind_exc, SRes.bind_ct, SRes.bind_bk, gN_ap, List.getElem?_cons_zero, List.getElem?_cons_succ, List.set_cons_zero, List.set_cons_succ, one1_ap, two2_ap, newL_f, newL_t, addOp_ii, subOp_ii, negOp_i, ltOp_ii, leOp_ii, gtOp_ii, geOp_ii, eqOp_ii, neOp_ii, eqOp_ss, neOp_ss, intA_i, intA_b, maxA_ii, minA_ii, lenA_lst, lenA_tup, lenA_slst, listA_lst, listA_tup, listA_slst, tupleA_lst, tupleA_tup, List.length_map, List.length_cons, List.length_nil, Bool.not_true, Bool.not_false, Bool.false_eq_true, if_true, if_false, Nat.zero_add, Nat.reduceAdd, dv, decide_eq_false h1, decide_eq_false h2, f1, f2, l2', er]
theorem redP_sp (h : n ≠ 0 ∨ d ≠ 0) (hn : n.natAbs < 2 ^ 2000) (hd : d.natAbs < 2 ^ 2000) : M_reduced_fraction [.int n, .int d] st = .ok (pr (red n d)) st := by
  have hz := sz
  have l2' : (2 : Nat) ≤ sizeLine := by omega
  have hc := com_ne h
  have hlt : (com n d).natAbs < 2 ^ 2000 := by
    rw [com_le]
    by_cases h0 : d = 0
    · rw [h0, Int.natAbs_zero, Nat.gcd_zero_right]; exact hn
    · exact Nat.lt_of_le_of_lt (Nat.gcd_le_right n.natAbs (show 0 < d.natAbs by omega)) hd
  have f1 := @fdivL st n (com n d) 2000 hc hlt (by omega) (by omega)
  have f2 := @fdivL st d (com n d) 2000 hc hlt (by omega) (by omega)
  refine fnM_rt rfl (a := pr (red n d)) (st' := st) ?_ (fin_pure0 bel_pr (by intro c h; cases h))
  show B_reduced_fraction [some (.int n), some (.int d), none] st = _
  have key : ∀ R : MS, (sSeq (sIf (tAndM (tOf (eBin eqOp (eVar 0) (eC (.int 0)))) (tOf (eBin eqOp (eVar 1) (eC (.int 0))))) (sRaise (mkWhat "InvalidTangle" (eC (.str "fraction")))) sNil) R) [some (.int n), some (.int d), none] st = R [some (.int n), some (.int d), none] st := fun R => by
    by_cases hn0 : n = 0
    · have hd0 : ¬ d = 0 := by omega
      simp only [sSeq_ap, sAsg_ap, sEx_ap, sRet_ap, sRetN_ap, sNil_ap, sIf_ap, sFor_ap, sSub_ap, sRaise_ap, mkWhat_ap, eVar_ap, eC_ap, eBin_ap, eUn_ap, eTup_ap, eLst_ap, eCB_ap, eCall_ap, eM_ap, eIf_ap, eAndV_ap, eOrV_ap, eNotV_ap, eChain_ap, eSl_ap, oNone_ap, oSome_ap, eXf_ap, aNil_ap, aCons_ap, tOf_ap, tTru_ap, tAndM_ap, tOrM_ap, tNotM_ap, tYesM_ap, asB_bl, truA_b, Res.bind_ok, Res.bind_exc, Res.toS_ok, Res.toS_exc, Res.of_some, SRes.bind_nx, SRes.bind_rt, SRes.bind_exc, SRes.bind_ct, SRes.bind_bk, gN_ap, List.getElem?_cons_zero, List.getElem?_cons_succ, List.set_cons_zero, List.set_cons_succ, one1_ap, two2_ap, newL_f, newL_t, addOp_ii, subOp_ii, negOp_i, ltOp_ii, leOp_ii, gtOp_ii, geOp_ii, eqOp_ii, neOp_ii, eqOp_ss, neOp_ss, intA_i, intA_b, maxA_ii, minA_ii, lenA_lst, lenA_tup, lenA_slst, listA_lst, listA_tup, listA_slst, tupleA_lst, tupleA_tup, List.length_map, List.length_cons, List.length_nil, Bool.not_true, Bool.not_false, Bool.false_eq_true, if_true, if_false, Nat.zero_add, Nat.reduceAdd, decide_eq_true hn0, decide_eq_false hd0]
    · simp only [sSeq_ap, sAsg_ap, sEx_ap, sRet_ap, sRetN_ap, sNil_ap, sIf_ap, sFor_ap, sSub_ap, sRaise_ap, mkWhat_ap, eVar_ap, eC_ap, eBin_ap, eUn_ap, eTup_ap, eLst_ap, eCB_ap, eCall_ap, eM_ap, eIf_ap, eAndV_ap, eOrV_ap, eNotV_ap, eChain_ap, eSl_ap, oNone_ap, oSome_ap, eXf_ap, aNil_ap, aCons_ap, tOf_ap, tTru_ap, tAndM_ap, tOrM_ap, tNotM_ap, tYesM_ap, asB_bl, truA_b, Res.bind_ok, Res.bind_exc, Res.toS_ok, Res.toS_exc, Res.of_some, SRes.bind_nx, SRes.bind_rt, SRes.bind_exc, SRes.bind_ct, SRes.bind_bk, gN_ap, List.getElem?_cons_zero, List.getElem?_cons_succ, List.set_cons_zero, List.set_cons_succ, one1_ap, two2_ap, newL_f, newL_t, addOp_ii, subOp_ii, negOp_i, ltOp_ii, leOp_ii, gtOp_ii, geOp_ii, eqOp_ii, neOp_ii, eqOp_ss, neOp_ss, intA_i, intA_b, maxA_ii, minA_ii, lenA_lst, lenA_tup, lenA_slst, listA_lst, listA_tup, listA_slst, tupleA_lst, tupleA_tup, List.length_map, List.length_cons, List.length_nil, Bool.not_true, Bool.not_false, Bool.false_eq_true, if_true, if_false, Nat.zero_add, Nat.reduceAdd, decide_eq_false hn0]
  unfold B_reduced_fraction
  rw [key]
  by_cases h1 : d < 0
  · have e : com n d = -(Nat.gcd n.natAbs d.natAbs : Int) := if_pos (.inl h1)
    rw [e] at f1 f2
    have er : red n d = (n.fdiv (-(Nat.gcd n.natAbs d.natAbs : Int)), d.fdiv (-(Nat.gcd n.natAbs d.natAbs : Int))) := by unfold red; rw [e]
    simp only [sSeq_ap, sAsg_ap, sEx_ap, sRet_ap, sRetN_ap, sNil_ap, sIf_ap, sFor_ap, sSub_ap, sRaise_ap, mkWhat_ap, eVar_ap, eC_ap, eBin_ap, eUn_ap, eTup_ap, eLst_ap, eCB_ap, eCall_ap, eM_ap, eIf_ap, eAndV_ap, eOrV_ap, eNotV_ap, eChain_ap, eSl_ap, oNone_ap, oSome_ap, eXf_ap, aNil_ap, aCons_ap, tOf_ap, tTru_ap, tAndM_ap, tOrM_ap, tNotM_ap, tYesM_ap, asB_bl, truA_b, Res.bind_ok, Res.bind_exc, Res.toS_ok, Res.toS_exc, Res.of_some, SRes.bind_nx, SRes.bind_rt, SRes.bind_exc, SRes.bind_ct, SRes.bind_bk, gN_ap, List.getElem?_cons_zero, List.getElem?_cons_succ, List.set_cons_zero, List.set_cons_succ, one1_ap, two2_ap, newL_f, newL_t, addOp_ii, subOp_ii, negOp_i, ltOp_ii, leOp_ii, gtOp_ii, geOp_ii, eqOp_ii, neOp_ii, eqOp_ss, neOp_ss, intA_i, intA_b, maxA_ii, minA_ii, lenA_lst, lenA_tup, lenA_slst, listA_lst, listA_tup, listA_slst, tupleA_lst, tupleA_tup, List.length_map, List.length_cons, List.length_nil, Bool.not_true, Bool.not_false, Bool.false_eq_true, if_true, if_false, Nat.zero_add, Nat.reduceAdd, gcdA_ii, decide_eq_true h1, f1, f2, l2', er]
  · by_cases h2 : d = 0
    · by_cases h3 : n < 0
      · have e : com n d = -(Nat.gcd n.natAbs d.natAbs : Int) := if_pos (.inr ⟨h2, h3⟩)
        rw [e] at f1 f2
        have er : red n d = (n.fdiv (-(Nat.gcd n.natAbs d.natAbs : Int)), d.fdiv (-(Nat.gcd n.natAbs d.natAbs : Int))) := by unfold red; rw [e]
        simp only [sSeq_ap, sAsg_ap, sEx_ap, sRet_ap, sRetN_ap, sNil_ap, sIf_ap, sFor_ap, sSub_ap, sRaise_ap, mkWhat_ap, eVar_ap, eC_ap, eBin_ap, eUn_ap, eTup_ap, eLst_ap, eCB_ap, eCall_ap, eM_ap, eIf_ap, eAndV_ap, eOrV_ap, eNotV_ap, eChain_ap, eSl_ap, oNone_ap, oSome_ap, eXf_ap, aNil_ap, aCons_ap, tOf_ap, tTru_ap, tAndM_ap, tOrM_ap, tNotM_ap, tYesM_ap, asB_bl, truA_b, Res.bind_ok, Res.bind_exc, Res.toS_ok, Res.toS_exc, Res.of_some, SRes.bind_nx, SRes.bind_rt, SRes.bind_exc, SRes.bind_ct, SRes.bind_bk, gN_ap, List.getElem?_cons_zero, List.getElem?_cons_succ, List.set_cons_zero, List.set_cons_succ, one1_ap, two2_ap, newL_f, newL_t, addOp_ii, subOp_ii, negOp_i, ltOp_ii, leOp_ii, gtOp_ii, geOp_ii, eqOp_ii, neOp_ii, eqOp_ss, neOp_ss, intA_i, intA_b, maxA_ii, minA_ii, lenA_lst, lenA_tup, lenA_slst, listA_lst, listA_tup, listA_slst, tupleA_lst, tupleA_tup, List.length_map, List.length_cons, List.length_nil, Bool.not_true, Bool.not_false, Bool.false_eq_true, if_true, if_false, Nat.zero_add, Nat.reduceAdd, gcdA_ii, decide_eq_false h1, decide_eq_true h2, decide_eq_true h3, f1, f2, l2', er]
      · have e : com n d = (Nat.gcd n.natAbs d.natAbs : Int) := if_neg (by omega)
        rw [e] at f1 f2
        have er : red n d = (n.fdiv (Nat.gcd n.natAbs d.natAbs : Int), d.fdiv (Nat.gcd n.natAbs d.natAbs : Int)) := by unfold red; rw [e]
        simp only [sSeq_ap, sAsg_ap, sEx_ap, sRet_ap, sRetN_ap, sNil_ap, sIf_ap, sFor_ap, sSub_ap, sRaise_ap, mkWhat_ap, eVar_ap, eC_ap, eBin_ap, eUn_ap, eTup_ap, eLst_ap, eCB_ap, eCall_ap, eM_ap, eIf_ap, eAndV_ap, eOrV_ap, eNotV_ap, eChain_ap, eSl_ap, oNone_ap, oSome_ap, eXf_ap, aNil_ap, aCons_ap, tOf_ap, tTru_ap, tAndM_ap, tOrM_ap, tNotM_ap, tYesM_ap, asB_bl, truA_b, Res.bind_ok, Res.bind_exc, Res.toS_ok, Res.toS_exc, Res.of_some, SRes.bind_nx, SRes.bind_rt, SRes.bind_exc, SRes.bind_ct, SRes.bind_bk, gN_ap, List.getElem?_cons_zero, List.getElem?_cons_succ, List.set_cons_zero, List.set_cons_succ, one1_ap, two2_ap, newL_f, newL_t, addOp_ii, subOp_ii, negOp_i, ltOp_ii, leOp_ii, gtOp_ii, geOp_ii, eqOp_ii, neOp_ii, eqOp_ss, neOp_ss, intA_i, intA_b, maxA_ii, minA_ii, lenA_lst, lenA_tup, lenA_slst, listA_lst, listA_tup, listA_slst, tupleA_lst, tupleA_tup, List.length_map, List.length_cons, List.length_nil, Bool.not_true, Bool.not_false, Bool.false_eq_true, if_true, if_false, Nat.zero_add, Nat.reduceAdd, gcdA_ii, decide_eq_false h1, decide_eq_true h2, decide_eq_false h3, f1, f2, l2', er]
    · have e : com n d = (Nat.gcd n.natAbs d.natAbs : Int) := if_neg (by omega)
      rw [e] at f1 f2
      have er : red n d = (n.fdiv (Nat.gcd n.natAbs d.natAbs : Int), d.fdiv (Nat.gcd n.natAbs d.natAbs : Int)) := by unfold red; rw [e]
      simp only [sSeq_ap, sAsg_ap, sEx_ap, sRet_ap, sRetN_ap, sNil_ap, sIf_ap, sFor_ap, sSub_ap, sRaise_ap, mkWhat_ap, eVar_ap, eC_ap, eBin_ap, eUn_ap, eTup_ap, eLst_ap, eCB_ap, eCall_ap, eM_ap, eIf_ap, eAndV_ap, eOrV_ap, eNotV_ap, eChain_ap, eSl_ap, oNone_ap, oSome_ap, eXf_ap, aNil_ap, aCons_ap, tOf_ap, tTru_ap, tAndM_ap, tOrM_ap, tNotM_ap, tYesM_ap, asB_bl, truA_b, Res.bind_ok, Res.bind_exc, Res.toS_ok, Res.toS_exc, Res.of_some, SRes.bind_nx, SRes.bind_rt, SRes.bind_exc, SRes.bind_ct, SRes.bind_bk, gN_ap, List.getElem?_cons_zero, List.getElem?_cons_succ, List.set_cons_zero, List.set_cons_succ, one1_ap, two2_ap, newL_f, newL_t, addOp_ii, subOp_ii, negOp_i, ltOp_ii, leOp_ii, gtOp_ii, geOp_ii, eqOp_ii, neOp_ii, eqOp_ss, neOp_ss, intA_i, intA_b, maxA_ii, minA_ii, lenA_lst, lenA_tup, lenA_slst, listA_lst, listA_tup, listA_slst, tupleA_lst, tupleA_tup, List.length_map, List.length_cons, List.length_nil, Bool.not_true, Bool.not_false, Bool.false_eq_true, if_true, if_false, Nat.zero_add, Nat.reduceAdd, gcdA_ii, decide_eq_false h1, decide_eq_false h2, f1, f2, l2', er]
end
end Gk20

set_option Elab.async false
set_option linter.all false
set_option maxRecDepth 100000
set_option maxHeartbeats 4000000
set_option exponentiation.threshold 3000
namespace Gk20
open PySem PySem.Spec L2 SL F20
open PyProof.Rows hiding St
structure Its (a : Int) (T : List Int) : Prop where
  pre : ∀ i, i < T.length → (fw (T.take i) (a, 1)).1.natAbs < 2 ^ 240
  fin : (fw T (a, 1)).1.natAbs < 2 ^ 1000
  itm : ∀ t ∈ T, t.natAbs < 2 ^ 240
  len : T.length < 1000
theorem Its.sec {a : Int} {T : List Int} (h : Its a T) : ∀ i, i ≤ T.length → (fw (T.take i) (a, 1)).2.natAbs < 2 ^ 240
  | 0, _ => by show (1 : Int).natAbs < _; decide
  | i + 1, hi => by
    have e : T.take (i + 1) = T.take i ++ [T[i]] := by rw [List.take_add_one, List.getElem?_eq_getElem (by omega)]; rfl
    rw [e, fw_snoc]
    exact h.pre i (by omega)
theorem Its.all {a : Int} {T : List Int} (h : Its a T) {i : Nat} (hi : i ≤ T.length) : (fw (T.take i) (a, 1)).1.natAbs < 2 ^ 1000 := by
  by_cases hl : i < T.length
  · exact Nat.lt_of_lt_of_le (h.pre i hl) (Nat.pow_le_pow_right (by omega) (by omega))
  · rw [show i = T.length by omega, List.take_length]; exact h.fin
theorem pair_ne {a : Int} : ((a, (1 : Int)) : Int × Int).1 ≠ 0 ∨ ((a, (1 : Int)) : Int × Int).2 ≠ 0 := .inr (by show (1 : Int) ≠ 0; decide)
theorem red_start {a : Int} : red a 1 = (a, 1) := red_of (c := 1) norm1 (by decide) (by omega) (by omega)
theorem red_le {n d k l : Int} (h : n ≠ 0 ∨ d ≠ 0) (e : red n d = (k, l)) : k.natAbs ≤ n.natAbs ∧ l.natAbs ≤ d.natAbs := by
  obtain ⟨k', l', a1, a2, a3, a4⟩ := red_ok h
  rw [e] at a3
  cases a3
  have hc := com_ne h
  have hcp : 1 ≤ (com n d).natAbs := by omega
  constructor
  · conv => rhs; rw [a1]
    rw [Int.natAbs_mul]
    exact Nat.le_mul_of_pos_left _ hcp
  · conv => rhs; rw [a2]
    rw [Int.natAbs_mul]
    exact Nat.le_mul_of_pos_left _ hcp
section
variable {st : Store} {a : Int} {T : List Int}
theorem drop1 : slOp false (.lst ((a :: T).map A.int)) (some 1) none st = some (.lst (T.map A.int), st) := by
  have := @sld st (a :: T) 1 (by omega) (by rw [List.length_cons]; omega)
  exact this
theorem tru_l : truA st (.lst ((a :: T).map A.int)) = some true := by simp [truA, seqR, tupR, lstR, lstH]
theorem natAbs_lt_add {x y : Int} {k : Nat} (hx : x.natAbs < 2 ^ k) (hy : y.natAbs < 2 ^ k) : (x + y).natAbs < 2 ^ (k + 1) := by
  rw [Nat.pow_succ]; omega
theorem natAbs_lt_mul {x y : Int} {i j : Nat} (hx : x.natAbs < 2 ^ i) (hy : y.natAbs < 2 ^ j) : (x * y).natAbs < 2 ^ (i + j) := by
  rw [Int.natAbs_mul, Nat.pow_add]
  exact Nat.mul_lt_mul'' hx hy
theorem valP_sp (h : Its a T) : M_value_of [lI (a :: T)] st = .ok (pr (red (fw T (a, 1)).1 (fw T (a, 1)).2)) st := by
  obtain ⟨e, s, r1, x3, rfl, rfl⟩ := for_inv (all := T.map A.int) (g := gN 3) (body := L1_value_of) (xs := T.map A.int)
    (fun i e s => ∃ x3, e = [some (lI (a :: T)), some (.int (fw (T.take i) (a, 1)).1), some (.int (fw (T.take i) (a, 1)).2), x3] ∧ s = st)
    (env := [some (lI (a :: T)), some (.int a), some (.int 1), none]) (st := st) ⟨none, rfl, rfl⟩ (by
      rintro i x e s hx ⟨x3, rfl, rfl⟩
      rw [List.getElem?_map] at hx
      cases hp : T[i]? with
      | none => rw [hp] at hx; cases hx
      | some t =>
        rw [hp] at hx; cases hx
        have hi : i < T.length := (List.getElem?_eq_some_iff.mp hp).1
        have ht : T.take (i + 1) = T.take i ++ [t] := by rw [List.take_add_one, hp]; rfl
        rw [ht, fw_snoc]
        have mm : CMulW t (fw (T.take i) (a, 1)).1 := mulW (h.itm t (List.mem_of_getElem? hp)) (h.pre i hi) (by omega) (by omega) (by omega)
        refine ⟨_, rfl, ?_⟩
        generalize fw (T.take i) (a, 1) = v at mm
        simp only [L1_value_of, sPar, sSeq_ap, sAsg_ap, sEx_ap, sRet_ap, sRetN_ap, sNil_ap, sIf_ap, sFor_ap, sSub_ap, sRaise_ap, mkWhat_ap, eVar_ap, eC_ap, eBin_ap, eUn_ap, eTup_ap, eLst_ap, eCB_ap, eCall_ap, eM_ap, eIf_ap, eAndV_ap, eOrV_ap, eNotV_ap, eChain_ap, eSl_ap, oNone_ap, oSome_ap, eXf_ap, aNil_ap, aCons_ap, tOf_ap, tTru_ap, tAndM_ap, tOrM_ap, tNotM_ap, tYesM_ap, asB_bl, truA_b, Res.bind_ok, Res.bind_exc, Res.toS_ok, Res.toS_exc, Res.of_some, SRes.bind_nx, SRes.bind_rt, SRes.bind_exc, SRes.bind_ct, SRes.bind_bk, gN_ap, List.getElem?_cons_zero, List.getElem?_cons_succ, List.set_cons_zero, List.set_cons_succ, one1_ap, two2_ap, newL_f, newL_t, addOp_ii, subOp_ii, negOp_i, ltOp_ii, leOp_ii, gtOp_ii, geOp_ii, eqOp_ii, neOp_ii, eqOp_ss, neOp_ss, intA_i, intA_b, maxA_ii, minA_ii, lenA_lst, lenA_tup, lenA_slst, listA_lst, listA_tup, listA_slst, tupleA_lst, tupleA_tup, List.length_map, List.length_cons, List.length_nil, Bool.not_true, Bool.not_false, Bool.false_eq_true, if_true, if_false, Nat.zero_add, Nat.reduceAdd, mulOp_ii mm, NxP_nx]
        exact ⟨_, rfl, trivial⟩)
  rw [List.length_map, List.take_length] at r1
  have hb1 : (fw T (a, 1)).1.natAbs < 2 ^ 2000 := Nat.lt_of_lt_of_le h.fin (Nat.pow_le_pow_right (by omega) (by omega))
  have hb2 : (fw T (a, 1)).2.natAbs < 2 ^ 2000 := by
    have := h.sec T.length (Nat.le_refl _)
    rw [List.take_length] at this
    exact Nat.lt_of_lt_of_le this (Nat.pow_le_pow_right (by omega) (by omega))
  have rd := @redP_sp s (fw T (a, 1)).1 (fw T (a, 1)).2 (fw_ne T pair_ne) hb1 hb2
  refine fnM_rt rfl (a := pr (red (fw T (a, 1)).1 (fw T (a, 1)).2)) (st' := s) ?_ (fin_pure0 bel_pr (by intro c h; cases h))
  show B_value_of [some (lI (a :: T)), none, none, none] s = _
  have i0 : ixOp (.lst ((a :: T).map A.int)) (.int 0) s = some (.int a, s) := ixs (by omega) rfl
  have dr := @drop1 s a T
  have tl := @tru_l s a T
  simp only [B_value_of, tNotM_ap, tTru_ap, sSeq_ap, sAsg_ap, sEx_ap, sRet_ap, sRetN_ap, sNil_ap, sIf_ap, sFor_ap, sSub_ap, sRaise_ap, mkWhat_ap, eVar_ap, eC_ap, eBin_ap, eUn_ap, eTup_ap, eLst_ap, eCB_ap, eCall_ap, eM_ap, eIf_ap, eAndV_ap, eOrV_ap, eNotV_ap, eChain_ap, eSl_ap, oNone_ap, oSome_ap, eXf_ap, aNil_ap, aCons_ap, tOf_ap, tTru_ap, tAndM_ap, tOrM_ap, tNotM_ap, tYesM_ap, asB_bl, truA_b, Res.bind_ok, Res.bind_exc, Res.toS_ok, Res.toS_exc, Res.of_some, SRes.bind_nx, SRes.bind_rt, SRes.bind_exc, SRes.bind_ct, SRes.bind_bk, gN_ap, List.getElem?_cons_zero, List.getElem?_cons_succ, List.set_cons_zero, List.set_cons_succ, one1_ap, two2_ap, newL_f, newL_t, addOp_ii, subOp_ii, negOp_i, ltOp_ii, leOp_ii, gtOp_ii, geOp_ii, eqOp_ii, neOp_ii, eqOp_ss, neOp_ss, intA_i, intA_b, maxA_ii, minA_ii, lenA_lst, lenA_tup, lenA_slst, listA_lst, listA_tup, listA_slst, tupleA_lst, tupleA_tup, List.length_map, List.length_cons, List.length_nil, Bool.not_true, Bool.not_false, Bool.false_eq_true, if_true, if_false, Nat.zero_add, Nat.reduceAdd, tl, sPar, i0, mSeq_ap, dr, seqR_lst, srcOf_lst, r1, rd]
theorem valL_sp (h : Its a T) : M__law_value [lI (a :: T)] st = .ok (pr (red (fw T (a, 1)).1 (fw T (a, 1)).2)) st := by
  have hz := sz
  have l2' : (2 : Nat) ≤ sizeLine := by omega
  obtain ⟨e, s, r1, x3, rfl, rfl⟩ := for_inv (all := T.map A.int) (g := gN 2) (body := L1__law_value) (xs := T.map A.int)
    (fun i e s => ∃ x2, e = [some (lI (a :: T)), some (pr (red (fw (T.take i) (a, 1)).1 (fw (T.take i) (a, 1)).2)), x2] ∧ s = st)
    (env := [some (lI (a :: T)), some (.tup [.int a, .int 1]), none]) (st := st) ⟨none, by
      show _ = [some (lI (a :: T)), some (pr (red a 1)), none]
      rw [red_start], rfl⟩ (by
      rintro i x e s hx ⟨x2, rfl, rfl⟩
      rw [List.getElem?_map] at hx
      cases hp : T[i]? with
      | none => rw [hp] at hx; cases hx
      | some t =>
        rw [hp] at hx; cases hx
        have hi : i < T.length := (List.getElem?_eq_some_iff.mp hp).1
        have ht : T.take (i + 1) = T.take i ++ [t] := by rw [List.take_add_one, hp]; rfl
        have hne := fw_ne (T.take i) (@pair_ne a)
        rw [ht, fw_snoc, ← lst_red hne]
        have b1 := h.pre i hi
        have b2 := h.sec i (by omega)
        have b3 := h.itm t (List.mem_of_getElem? hp)
        generalize fw (T.take i) (a, 1) = v at hne b1 b2
        obtain ⟨k, l, -, -, hkl, -⟩ := red_ok hne
        obtain ⟨hk, hl⟩ := red_le hne hkl
        rw [hkl]
        have i0 : ixOp (.tup [.int k, .int l]) (.int 0) s = some (.int k, s) := ixt (by omega) rfl
        have i1 : ixOp (.tup [.int k, .int l]) (.int 1) s = some (.int l, s) := ixt (by omega) rfl
        refine ⟨_, rfl, ?_⟩
        show NxP (L1__law_value [some (lI (a :: T)), some (.tup [.int k, .int l]), some (.int t)] s) _
        unfold lst
        by_cases hk0 : k = 0
        · rw [if_pos hk0]
          simp only [L1__law_value, sSeq_ap, sAsg_ap, sEx_ap, sRet_ap, sRetN_ap, sNil_ap, sIf_ap, sFor_ap, sSub_ap, sRaise_ap, mkWhat_ap, eVar_ap, eC_ap, eBin_ap, eUn_ap, eTup_ap, eLst_ap, eCB_ap, eCall_ap, eM_ap, eIf_ap, eAndV_ap, eOrV_ap, eNotV_ap, eChain_ap, eSl_ap, oNone_ap, oSome_ap, eXf_ap, aNil_ap, aCons_ap, tOf_ap, tTru_ap, tAndM_ap, tOrM_ap, tNotM_ap, tYesM_ap, asB_bl, truA_b, Res.bind_ok, Res.bind_exc, Res.toS_ok, Res.toS_exc, Res.of_some, SRes.bind_nx, SRes.bind_rt, SRes.bind_exc, SRes.bind_ct, SRes.bind_bk, gN_ap, List.getElem?_cons_zero, List.getElem?_cons_succ, List.set_cons_zero, List.set_cons_succ, one1_ap, two2_ap, newL_f, newL_t, addOp_ii, subOp_ii, negOp_i, ltOp_ii, leOp_ii, gtOp_ii, geOp_ii, eqOp_ii, neOp_ii, eqOp_ss, neOp_ss, intA_i, intA_b, maxA_ii, minA_ii, lenA_lst, lenA_tup, lenA_slst, listA_lst, listA_tup, listA_slst, tupleA_lst, tupleA_tup, List.length_map, List.length_cons, List.length_nil, Bool.not_true, Bool.not_false, Bool.false_eq_true, if_true, if_false, Nat.zero_add, Nat.reduceAdd, i0, decide_eq_true hk0, l2', NxP_nx]
          exact ⟨_, rfl, trivial⟩
        · rw [if_neg hk0]
          by_cases hl0 : l = 0
          · rw [if_pos hl0]
            simp only [L1__law_value, sSeq_ap, sAsg_ap, sEx_ap, sRet_ap, sRetN_ap, sNil_ap, sIf_ap, sFor_ap, sSub_ap, sRaise_ap, mkWhat_ap, eVar_ap, eC_ap, eBin_ap, eUn_ap, eTup_ap, eLst_ap, eCB_ap, eCall_ap, eM_ap, eIf_ap, eAndV_ap, eOrV_ap, eNotV_ap, eChain_ap, eSl_ap, oNone_ap, oSome_ap, eXf_ap, aNil_ap, aCons_ap, tOf_ap, tTru_ap, tAndM_ap, tOrM_ap, tNotM_ap, tYesM_ap, asB_bl, truA_b, Res.bind_ok, Res.bind_exc, Res.toS_ok, Res.toS_exc, Res.of_some, SRes.bind_nx, SRes.bind_rt, SRes.bind_exc, SRes.bind_ct, SRes.bind_bk, gN_ap, List.getElem?_cons_zero, List.getElem?_cons_succ, List.set_cons_zero, List.set_cons_succ, one1_ap, two2_ap, newL_f, newL_t, addOp_ii, subOp_ii, negOp_i, ltOp_ii, leOp_ii, gtOp_ii, geOp_ii, eqOp_ii, neOp_ii, eqOp_ss, neOp_ss, intA_i, intA_b, maxA_ii, minA_ii, lenA_lst, lenA_tup, lenA_slst, listA_lst, listA_tup, listA_slst, tupleA_lst, tupleA_tup, List.length_map, List.length_cons, List.length_nil, Bool.not_true, Bool.not_false, Bool.false_eq_true, if_true, if_false, Nat.zero_add, Nat.reduceAdd, i0, decide_eq_false hk0, i1, decide_eq_true hl0, l2', NxP_nx]
            exact ⟨_, rfl, trivial⟩
          · rw [if_neg hl0]
            have c1 : k.natAbs < 2 ^ 240 := by omega
            have c2 : l.natAbs < 2 ^ 480 := Nat.lt_of_le_of_lt hl (Nat.lt_of_lt_of_le b2 (Nat.pow_le_pow_right (by omega) (by omega)))
            have mm : CMulW t k := mulW b3 c1 (by omega) (by omega) (by omega)
            have c3 : (t * k + l).natAbs < 2 ^ 2000 := Nat.lt_of_lt_of_le (natAbs_lt_add (k := 480) (natAbs_lt_mul (i := 240) (j := 240) b3 c1) c2) (Nat.pow_le_pow_right (by omega) (by omega))
            have rd := @redL_sp s (t * k + l) k (.inr hk0) c3 c1
            simp only [L1__law_value, sSeq_ap, sAsg_ap, sEx_ap, sRet_ap, sRetN_ap, sNil_ap, sIf_ap, sFor_ap, sSub_ap, sRaise_ap, mkWhat_ap, eVar_ap, eC_ap, eBin_ap, eUn_ap, eTup_ap, eLst_ap, eCB_ap, eCall_ap, eM_ap, eIf_ap, eAndV_ap, eOrV_ap, eNotV_ap, eChain_ap, eSl_ap, oNone_ap, oSome_ap, eXf_ap, aNil_ap, aCons_ap, tOf_ap, tTru_ap, tAndM_ap, tOrM_ap, tNotM_ap, tYesM_ap, asB_bl, truA_b, Res.bind_ok, Res.bind_exc, Res.toS_ok, Res.toS_exc, Res.of_some, SRes.bind_nx, SRes.bind_rt, SRes.bind_exc, SRes.bind_ct, SRes.bind_bk, gN_ap, List.getElem?_cons_zero, List.getElem?_cons_succ, List.set_cons_zero, List.set_cons_succ, one1_ap, two2_ap, newL_f, newL_t, addOp_ii, subOp_ii, negOp_i, ltOp_ii, leOp_ii, gtOp_ii, geOp_ii, eqOp_ii, neOp_ii, eqOp_ss, neOp_ss, intA_i, intA_b, maxA_ii, minA_ii, lenA_lst, lenA_tup, lenA_slst, listA_lst, listA_tup, listA_slst, tupleA_lst, tupleA_tup, List.length_map, List.length_cons, List.length_nil, Bool.not_true, Bool.not_false, Bool.false_eq_true, if_true, if_false, Nat.zero_add, Nat.reduceAdd, i0, decide_eq_false hk0, i1, decide_eq_false hl0, mulOp_ii mm, rd, NxP_nx]
            exact ⟨_, rfl, trivial⟩)
  rw [List.length_map, List.take_length] at r1
  refine fnM_rt rfl (a := pr (red (fw T (a, 1)).1 (fw T (a, 1)).2)) (st' := s) ?_ (fin_pure0 bel_pr (by intro c h; cases h))
  show B__law_value [some (lI (a :: T)), none, none] s = _
  have i0 : ixOp (.lst ((a :: T).map A.int)) (.int 0) s = some (.int a, s) := ixs (by omega) rfl
  have dr := @drop1 s a T
  simp only [B__law_value, sSeq_ap, sAsg_ap, sEx_ap, sRet_ap, sRetN_ap, sNil_ap, sIf_ap, sFor_ap, sSub_ap, sRaise_ap, mkWhat_ap, eVar_ap, eC_ap, eBin_ap, eUn_ap, eTup_ap, eLst_ap, eCB_ap, eCall_ap, eM_ap, eIf_ap, eAndV_ap, eOrV_ap, eNotV_ap, eChain_ap, eSl_ap, oNone_ap, oSome_ap, eXf_ap, aNil_ap, aCons_ap, tOf_ap, tTru_ap, tAndM_ap, tOrM_ap, tNotM_ap, tYesM_ap, asB_bl, truA_b, Res.bind_ok, Res.bind_exc, Res.toS_ok, Res.toS_exc, Res.of_some, SRes.bind_nx, SRes.bind_rt, SRes.bind_exc, SRes.bind_ct, SRes.bind_bk, gN_ap, List.getElem?_cons_zero, List.getElem?_cons_succ, List.set_cons_zero, List.set_cons_succ, one1_ap, two2_ap, newL_f, newL_t, addOp_ii, subOp_ii, negOp_i, ltOp_ii, leOp_ii, gtOp_ii, geOp_ii, eqOp_ii, neOp_ii, eqOp_ss, neOp_ss, intA_i, intA_b, maxA_ii, minA_ii, lenA_lst, lenA_tup, lenA_slst, listA_lst, listA_tup, listA_slst, tupleA_lst, tupleA_tup, List.length_map, List.length_cons, List.length_nil, Bool.not_true, Bool.not_false, Bool.false_eq_true, if_true, if_false, Nat.zero_add, Nat.reduceAdd, i0, l2', mSeq_ap, dr, seqR_lst, srcOf_lst, r1]
/-! the terms -/
theorem terms_loop : ∀ {p q : Int} {l : List Int}, Eu p q l → q < 2 ^ 240 → ∀ (L : List Int) (k : Nat), l.length < k → L.length + l.length < 10000 →
    ∃ p', whL p1_terms_of W2_terms_of k [some (.int p), some (.int q), some (.cell st.length)] (st ++ [li L]) = .nx [some (.int p'), some (.int 0), some (.cell st.length)] (st ++ [li (L ++ l)]) := by
  intro p q l h
  induction h with
  | nil p =>
    intro hq L k hk hL
    obtain ⟨k, rfl⟩ : ∃ j, k = j + 1 := ⟨k - 1, by omega⟩
    refine ⟨p, ?_⟩
    rw [whL]
    simp only [p1_terms_of, sSeq_ap, sAsg_ap, sEx_ap, sRet_ap, sRetN_ap, sNil_ap, sIf_ap, sFor_ap, sSub_ap, sRaise_ap, mkWhat_ap, eVar_ap, eC_ap, eBin_ap, eUn_ap, eTup_ap, eLst_ap, eCB_ap, eCall_ap, eM_ap, eIf_ap, eAndV_ap, eOrV_ap, eNotV_ap, eChain_ap, eSl_ap, oNone_ap, oSome_ap, eXf_ap, aNil_ap, aCons_ap, tOf_ap, tTru_ap, tAndM_ap, tOrM_ap, tNotM_ap, tYesM_ap, asB_bl, truA_b, Res.bind_ok, Res.bind_exc, Res.toS_ok, Res.toS_exc, Res.of_some, SRes.bind_nx, SRes.bind_rt, SRes.bind_exc, SRes.bind_ct, SRes.bind_bk, gN_ap, List.getElem?_cons_zero, List.getElem?_cons_succ, List.set_cons_zero, List.set_cons_succ, one1_ap, two2_ap, newL_f, newL_t, addOp_ii, subOp_ii, negOp_i, ltOp_ii, leOp_ii, gtOp_ii, geOp_ii, eqOp_ii, neOp_ii, eqOp_ss, neOp_ss, intA_i, intA_b, maxA_ii, minA_ii, lenA_lst, lenA_tup, lenA_slst, listA_lst, listA_tup, listA_slst, tupleA_lst, tupleA_tup, List.length_map, List.length_cons, List.length_nil, Bool.not_true, Bool.not_false, Bool.false_eq_true, if_true, if_false, Nat.zero_add, Nat.reduceAdd, decide_true, List.append_nil]
  | @cons p q l hq0 r ih =>
    intro hq L k hk hL
    have hz := sz
    rw [List.length_cons] at hk hL
    obtain ⟨k, rfl⟩ : ∃ j, k = j + 1 := ⟨k - 1, by omega⟩
    have hm := fm_nn (p := p) hq0
    obtain ⟨p', e⟩ := ih (by omega) (L ++ [p.fdiv q]) k (by omega) (by simp; omega)
    refine ⟨p', ?_⟩
    have hqn : ¬ q = 0 := by omega
    have hqa : q.natAbs < 2 ^ 240 := by omega
    have hc : (st ++ [li L])[st.length]? = some (li L) := get_app_len rfl
    have ty := tyVA_cell hc
    have ap := appendM_li (v := p.fdiv q) hc (by omega)
    have hset : ∀ x : C, (st ++ [li L]).set st.length x = st ++ [x] := fun x => by rw [List.set_append_right _ _ (Nat.le_refl _), Nat.sub_self]; rfl
    rw [hset] at ap
    have fd := @fdivL (st ++ [li L]) p q 240 hqn hqa (by omega) (by omega)
    rw [List.append_assoc] at e
    rw [whL]
    simp only [p1_terms_of, W2_terms_of, sPar, sSeq_ap, sAsg_ap, sEx_ap, sRet_ap, sRetN_ap, sNil_ap, sIf_ap, sFor_ap, sSub_ap, sRaise_ap, mkWhat_ap, eVar_ap, eC_ap, eBin_ap, eUn_ap, eTup_ap, eLst_ap, eCB_ap, eCall_ap, eM_ap, eIf_ap, eAndV_ap, eOrV_ap, eNotV_ap, eChain_ap, eSl_ap, oNone_ap, oSome_ap, eXf_ap, aNil_ap, aCons_ap, tOf_ap, tTru_ap, tAndM_ap, tOrM_ap, tNotM_ap, tYesM_ap, asB_bl, truA_b, Res.bind_ok, Res.bind_exc, Res.toS_ok, Res.toS_exc, Res.of_some, SRes.bind_nx, SRes.bind_rt, SRes.bind_exc, SRes.bind_ct, SRes.bind_bk, gN_ap, List.getElem?_cons_zero, List.getElem?_cons_succ, List.set_cons_zero, List.set_cons_succ, one1_ap, two2_ap, newL_f, newL_t, addOp_ii, subOp_ii, negOp_i, ltOp_ii, leOp_ii, gtOp_ii, geOp_ii, eqOp_ii, neOp_ii, eqOp_ss, neOp_ss, intA_i, intA_b, maxA_ii, minA_ii, lenA_lst, lenA_tup, lenA_slst, listA_lst, listA_tup, listA_slst, tupleA_lst, tupleA_tup, List.length_map, List.length_cons, List.length_nil, Bool.not_true, Bool.not_false, Bool.false_eq_true, if_true, if_false, Nat.zero_add, Nat.reduceAdd, decide_eq_false hqn, ty, fd, ap, modOp_ii hqn]
    exact e
theorem terms_sp {p q : Int} {l : List Int} (h : Eu p q l) (h0 : 0 < q) (hq : q < 2 ^ 240) : M_terms_of [.int p, .int q] st = .ok (lI l.reverse) st := by
  have hz := sz
  have l0 : (0 : Nat) ≤ sizeLine := by omega
  have hl := eu_400 h hq
  have hqn : ¬ q = 0 := by omega
  obtain ⟨p', e⟩ := terms_loop (st := st) h hq [] fuelW (by unfold fuelW; omega) (by simp; omega)
  rw [List.nil_append] at e
  have hc : (st ++ [li l])[st.length]? = some (.lst (l.map A.int)) := get_app_len rfl
  have ty := tyVA_cell hc
  have rv := reverseM_c hc
  have hset : ∀ x : C, (st ++ [li l]).set st.length x = st ++ [x] := fun x => by rw [List.set_append_right _ _ (Nat.le_refl _), Nat.sub_self]; rfl
  rw [hset, ← List.map_reverse] at rv
  refine fnM_rt rfl (a := .cell st.length) (st' := st ++ [li l.reverse]) ?_ (fin_lIc (Nat.le_refl _) (get_app_len rfl))
  show B_terms_of [some (.int p), some (.int q), none] st = _
  simp only [li, List.map_nil] at e
  simp only [B_terms_of, sSeq_ap, sAsg_ap, sEx_ap, sRet_ap, sRetN_ap, sNil_ap, sIf_ap, sFor_ap, sSub_ap, sRaise_ap, mkWhat_ap, eVar_ap, eC_ap, eBin_ap, eUn_ap, eTup_ap, eLst_ap, eCB_ap, eCall_ap, eM_ap, eIf_ap, eAndV_ap, eOrV_ap, eNotV_ap, eChain_ap, eSl_ap, oNone_ap, oSome_ap, eXf_ap, aNil_ap, aCons_ap, tOf_ap, tTru_ap, tAndM_ap, tOrM_ap, tNotM_ap, tYesM_ap, asB_bl, truA_b, Res.bind_ok, Res.bind_exc, Res.toS_ok, Res.toS_exc, Res.of_some, SRes.bind_nx, SRes.bind_rt, SRes.bind_exc, SRes.bind_ct, SRes.bind_bk, gN_ap, List.getElem?_cons_zero, List.getElem?_cons_succ, List.set_cons_zero, List.set_cons_succ, one1_ap, two2_ap, newL_f, newL_t, addOp_ii, subOp_ii, negOp_i, ltOp_ii, leOp_ii, gtOp_ii, geOp_ii, eqOp_ii, neOp_ii, eqOp_ss, neOp_ss, intA_i, intA_b, maxA_ii, minA_ii, lenA_lst, lenA_tup, lenA_slst, listA_lst, listA_tup, listA_slst, tupleA_lst, tupleA_tup, List.length_map, List.length_cons, List.length_nil, Bool.not_true, Bool.not_false, Bool.false_eq_true, if_true, if_false, Nat.zero_add, Nat.reduceAdd, decide_eq_false hqn, l0, sWhile, e, ty, rv]
end
end Gk20

set_option Elab.async false
set_option linter.all false
set_option maxRecDepth 100000
set_option maxHeartbeats 4000000
set_option exponentiation.threshold 3000
namespace F20
theorem eu_bnd {p q : Int} {l : List Int} (h : Eu p q l) : ∀ B : Nat, p.natAbs ≤ B → q.natAbs ≤ B → ∀ t ∈ l, t.natAbs ≤ B := by
  induction h with
  | nil p => intro B _ _ t ht; cases ht
  | @cons p q l hq r ih =>
    intro B h1 h2 t ht
    have hm := fm_nn (p := p) hq
    rcases List.mem_cons.mp ht with rfl | ht
    · rw [Int.fdiv_eq_ediv_of_nonneg _ (by omega)]
      exact Nat.le_trans (Int.natAbs_ediv_le_natAbs _ _) h1
    · exact ih B h2 (by omega) t ht
end F20
namespace Gk20
open PySem PySem.Spec L2 SL F20
open PyProof.Rows hiding St
theorem sl_init {st : Store} {l : List Int} (hl : 1 ≤ l.length) : slOp false (.lst (l.map A.int)) none (some (-1)) st = some (.lst ((l.take (l.length - 1)).map A.int), st) := by
  have e : cutA (l.map A.int) none (some (-1)) = (l.take (l.length - 1)).map A.int := by
    unfold cutA
    have h : HT.sIx (l.map A.int).length (l.map A.int).length (some (-1)) = l.length - 1 := by
      simp only [HT.sIx]
      rw [if_pos (by decide), List.length_map]; omega
    rw [HT.sIx_none, h, List.drop_zero, Nat.sub_zero, List.map_take]
  show (lstR (.lst (l.map A.int)) st).map (fun ys => newL false (cutA ys none (some (-1))) st) = _
  simp [lstR, lstH, e]
section
variable {st : Store} {a : Int} {T : List Int}
theorem dt_pr {n : Nat} {v : Int × Int} : Dt st (n + 1) (pr v) := dt_tup fun x hx => by
  simp only [List.mem_cons, List.not_mem_nil, or_false] at hx
  rcases hx with rfl | rfl <;> exact dt_int
theorem pd_pr {n : Nat} {v : Int × Int} : PD (n + 1) (pr v) := .tup n _ (by simp) fun x hx => by
  simp only [List.mem_cons, List.not_mem_nil, or_false] at hx
  rcases hx with rfl | rfl
  · exact .int n _
  · exact .int n _
theorem terms0 {p : Int} : M_terms_of [.int p, .int 0] st = .ok (lI [0, 0]) st := by
  have hz := sz
  have l2' : (2 : Nat) ≤ sizeLine := by omega
  refine fnM_rt rfl (a := lI [0, 0]) (st' := st) ?_ fin_lI0
  show B_terms_of [some (.int p), some (.int 0), none] st = _
  simp only [B_terms_of, sSeq_ap, sAsg_ap, sEx_ap, sRet_ap, sRetN_ap, sNil_ap, sIf_ap, sFor_ap, sSub_ap, sRaise_ap, mkWhat_ap, eVar_ap, eC_ap, eBin_ap, eUn_ap, eTup_ap, eLst_ap, eCB_ap, eCall_ap, eM_ap, eIf_ap, eAndV_ap, eOrV_ap, eNotV_ap, eChain_ap, eSl_ap, oNone_ap, oSome_ap, eXf_ap, aNil_ap, aCons_ap, tOf_ap, tTru_ap, tAndM_ap, tOrM_ap, tNotM_ap, tYesM_ap, asB_bl, truA_b, Res.bind_ok, Res.bind_exc, Res.toS_ok, Res.toS_exc, Res.of_some, SRes.bind_nx, SRes.bind_rt, SRes.bind_exc, SRes.bind_ct, SRes.bind_bk, gN_ap, List.getElem?_cons_zero, List.getElem?_cons_succ, List.set_cons_zero, List.set_cons_succ, one1_ap, two2_ap, newL_f, newL_t, addOp_ii, subOp_ii, negOp_i, ltOp_ii, leOp_ii, gtOp_ii, geOp_ii, eqOp_ii, neOp_ii, eqOp_ss, neOp_ss, intA_i, intA_b, maxA_ii, minA_ii, lenA_lst, lenA_tup, lenA_slst, listA_lst, listA_tup, listA_slst, tupleA_lst, tupleA_tup, List.length_map, List.length_cons, List.length_nil, Bool.not_true, Bool.not_false, Bool.false_eq_true, if_true, if_false, Nat.zero_add, Nat.reduceAdd, decide_true, l2']; rfl
theorem isl {l : List A} : isiB (.lst l) (.ty "list") st = some (.bl true, st) := by simp only [isiB, isiA, tyName]; rw [show kitB "list" "list" = some true by decide]; rfl
theorem right_sp {p q : Int} (N : Norm p q) (hp : p.natAbs < 2 ^ 100) (hq : q < 2 ^ 100) : M__law_terms_right [.int p, .int q] st = .ok (.bl true) st := by
  have hz := sz
  have l2' : (2 : Nat) ≤ sizeLine := by omega
  refine fnM_rt rfl (st' := st) ?_ fin_bl0
  show B__law_terms_right [some (.int p), some (.int q), none, none] st = _
  by_cases h0 : q = 0
  · subst h0
    obtain ⟨r, h1, h2, h3, -, -⟩ := plainQ (st := st) (d := 1) (a := lI [0, 0]) (pd_lI (by simp)) (by omega)
    have h1' : M__law_plain [.lst [.int 0, .int 0]] st = .ok r st := h1
    have t0 : M_terms_of [.int p, .int 0] st = .ok (.lst [.int 0, .int 0]) st := terms0
    simp only [B__law_terms_right, sSeq_ap, sAsg_ap, sEx_ap, sRet_ap, sRetN_ap, sNil_ap, sIf_ap, sFor_ap, sSub_ap, sRaise_ap, mkWhat_ap, eVar_ap, eC_ap, eBin_ap, eUn_ap, eTup_ap, eLst_ap, eCB_ap, eCall_ap, eM_ap, eIf_ap, eAndV_ap, eOrV_ap, eNotV_ap, eChain_ap, eSl_ap, oNone_ap, oSome_ap, eXf_ap, aNil_ap, aCons_ap, tOf_ap, tTru_ap, tAndM_ap, tOrM_ap, tNotM_ap, tYesM_ap, asB_bl, truA_b, Res.bind_ok, Res.bind_exc, Res.toS_ok, Res.toS_exc, Res.of_some, SRes.bind_nx, SRes.bind_rt, SRes.bind_exc, SRes.bind_ct, SRes.bind_bk, gN_ap, List.getElem?_cons_zero, List.getElem?_cons_succ, List.set_cons_zero, List.set_cons_succ, one1_ap, two2_ap, newL_f, newL_t, addOp_ii, subOp_ii, negOp_i, ltOp_ii, leOp_ii, gtOp_ii, geOp_ii, eqOp_ii, neOp_ii, eqOp_ss, neOp_ss, intA_i, intA_b, maxA_ii, minA_ii, lenA_lst, lenA_tup, lenA_slst, listA_lst, listA_tup, listA_slst, tupleA_lst, tupleA_tup, List.length_map, List.length_cons, List.length_nil, Bool.not_true, Bool.not_false, Bool.false_eq_true, if_true, if_false, Nat.zero_add, Nat.reduceAdd, t0, decide_true, h1', l2', h2]
  · have hq0 : 0 < q := by have := N.n; omega
    obtain ⟨l, hE⟩ := eu_ex q.toNat p q (by omega) (Nat.le_refl _)
    have hl := eu_400 hE (by omega)
    obtain ⟨a, T, e1, e2, e3⟩ := eu_val hE hq0 N.g
    have ts := @terms_sp st p q l hE hq0 (by omega)
    have lenT : T.length + 1 = l.length := by
      have := congrArg List.length e1
      rw [List.length_reverse, List.length_cons] at this
      omega
    have its : Its a T := ⟨fun i hi => by have := e3 i hi; omega, by rw [e2]; exact Nat.lt_of_lt_of_le hp (Nat.pow_le_pow_right (by omega) (by omega)), fun t ht => by
      have := eu_bnd hE (2 ^ 100) (by omega) (by omega) t (List.mem_reverse.mp (by rw [e1]; simp [ht]))
      exact Nat.lt_of_le_of_lt this (Nat.pow_lt_pow_right (by omega) (by omega)), by omega⟩
    have vL := @valL_sp st a T its
    have vP := @valP_sp st a T its
    have hr : red p q = (p, q) := red_of (c := 1) N (by decide) (by omega) (by omega)
    rw [e2] at vL vP
    have vL : M__law_value [lI (a :: T)] st = .ok (pr (p, q)) st := by rw [vL]; show Res.ok (pr (red p q)) st = _; rw [hr]
    have vP : M_value_of [lI (a :: T)] st = .ok (pr (p, q)) st := by rw [vP]; show Res.ok (pr (red p q)) st = _; rw [hr]
    have eqp : eqOp (pr (p, q)) (pr (p, q)) st = some (.bl true, st) := eqOp_same dt_pr
    obtain ⟨r, h1, h2, h3, -, -⟩ := plainQ (st := st) (d := 1) (a := pr (p, q)) pd_pr (by omega)
    have fd := @fdivL st p q 240 (by omega) (by omega) (by omega) (by omega)
    -- the last term, the terms ahead of it
    cases hE with
    | nil => omega
    | @cons _ _ l' _ r' =>
      have hm := fm_nn (p := p) hq0
      obtain ⟨g1, g2⟩ := eu_pos r' (by omega)
      rw [List.reverse_cons] at e1 ts
      have last : ixOp (.lst ((l'.reverse ++ [p.fdiv q]).map A.int)) (.int (-1)) st = some (.int (p.fdiv q), st) := by
        have h := @neg_ix st (.lst ((l'.reverse ++ [p.fdiv q]).map A.int)) (l'.reverse ++ [p.fdiv q]) 0 rfl (by simp)
        have hv : (l'.reverse ++ [p.fdiv q]).getD ((l'.reverse ++ [p.fdiv q]).length - 1 - 0) 0 = p.fdiv q := by simp
        rw [hv] at h
        exact h
      have init : slOp false (.lst ((l'.reverse ++ [p.fdiv q]).map A.int)) none (some (-1)) st = some (.lst (l'.reverse.map A.int), st) := by
        have := @sl_init st (l'.reverse ++ [p.fdiv q]) (by simp)
        rw [this]
        congr 3
        rw [List.length_append, List.length_singleton, Nat.add_sub_cancel, List.take_left]
      have hcmp : eLc false (mSeq (eSl false (eVar 2) oNone (oSome (eUn negOp (eC (.int 1)))))) (gN 3) [3] t1__law_terms_right e2__law_terms_right [some (.int p), some (.int q), some (lI (l'.reverse ++ [p.fdiv q])), none] st = .ok (.lst []) st := by
        have e := eLc_ints (mk := false) (mi := mSeq (eSl false (eVar 2) oNone (oSome (eUn negOp (eC (.int 1)))))) (i := 3) (own := [3]) (p := t1__law_terms_right) (ma := e2__law_terms_right) (env := [some (.int p), some (.int q), some (lI (l'.reverse ++ [p.fdiv q])), none]) (st := st) (xs := l'.reverse) (fun x => decide (x < 1)) (fun x => x) (by
          simp only [mSeq_ap, sSeq_ap, sAsg_ap, sEx_ap, sRet_ap, sRetN_ap, sNil_ap, sIf_ap, sFor_ap, sSub_ap, sRaise_ap, mkWhat_ap, eVar_ap, eC_ap, eBin_ap, eUn_ap, eTup_ap, eLst_ap, eCB_ap, eCall_ap, eM_ap, eIf_ap, eAndV_ap, eOrV_ap, eNotV_ap, eChain_ap, eSl_ap, oNone_ap, oSome_ap, eXf_ap, aNil_ap, aCons_ap, tOf_ap, tTru_ap, tAndM_ap, tOrM_ap, tNotM_ap, tYesM_ap, asB_bl, truA_b, Res.bind_ok, Res.bind_exc, Res.toS_ok, Res.toS_exc, Res.of_some, SRes.bind_nx, SRes.bind_rt, SRes.bind_exc, SRes.bind_ct, SRes.bind_bk, gN_ap, List.getElem?_cons_zero, List.getElem?_cons_succ, List.set_cons_zero, List.set_cons_succ, one1_ap, two2_ap, newL_f, newL_t, addOp_ii, subOp_ii, negOp_i, ltOp_ii, leOp_ii, gtOp_ii, geOp_ii, eqOp_ii, neOp_ii, eqOp_ss, neOp_ss, intA_i, intA_b, maxA_ii, minA_ii, lenA_lst, lenA_tup, lenA_slst, listA_lst, listA_tup, listA_slst, tupleA_lst, tupleA_tup, List.length_map, List.length_cons, List.length_nil, Bool.not_true, Bool.not_false, Bool.false_eq_true, if_true, if_false, Nat.zero_add, Nat.reduceAdd, init, seqR_lst, srcOf_lst]) (by rw [List.length_reverse]; rw [List.length_cons] at hl; omega) (fun x hx => by
          show t1__law_terms_right [some (.int p), some (.int q), some (lI (l'.reverse ++ [p.fdiv q])), some (.int x)] st = _ ∧ (_ → e2__law_terms_right [some (.int p), some (.int q), some (lI (l'.reverse ++ [p.fdiv q])), some (.int x)] st = _)
          exact ⟨by simp only [t1__law_terms_right, sSeq_ap, sAsg_ap, sEx_ap, sRet_ap, sRetN_ap, sNil_ap, sIf_ap, sFor_ap, sSub_ap, sRaise_ap, mkWhat_ap, eVar_ap, eC_ap, eBin_ap, eUn_ap, eTup_ap, eLst_ap, eCB_ap, eCall_ap, eM_ap, eIf_ap, eAndV_ap, eOrV_ap, eNotV_ap, eChain_ap, eSl_ap, oNone_ap, oSome_ap, eXf_ap, aNil_ap, aCons_ap, tOf_ap, tTru_ap, tAndM_ap, tOrM_ap, tNotM_ap, tYesM_ap, asB_bl, truA_b, Res.bind_ok, Res.bind_exc, Res.toS_ok, Res.toS_exc, Res.of_some, SRes.bind_nx, SRes.bind_rt, SRes.bind_exc, SRes.bind_ct, SRes.bind_bk, gN_ap, List.getElem?_cons_zero, List.getElem?_cons_succ, List.set_cons_zero, List.set_cons_succ, one1_ap, two2_ap, newL_f, newL_t, addOp_ii, subOp_ii, negOp_i, ltOp_ii, leOp_ii, gtOp_ii, geOp_ii, eqOp_ii, neOp_ii, eqOp_ss, neOp_ss, intA_i, intA_b, maxA_ii, minA_ii, lenA_lst, lenA_tup, lenA_slst, listA_lst, listA_tup, listA_slst, tupleA_lst, tupleA_tup, List.length_map, List.length_cons, List.length_nil, Bool.not_true, Bool.not_false, Bool.false_eq_true, if_true, if_false, Nat.zero_add, Nat.reduceAdd], fun _ => by simp only [e2__law_terms_right, sSeq_ap, sAsg_ap, sEx_ap, sRet_ap, sRetN_ap, sNil_ap, sIf_ap, sFor_ap, sSub_ap, sRaise_ap, mkWhat_ap, eVar_ap, eC_ap, eBin_ap, eUn_ap, eTup_ap, eLst_ap, eCB_ap, eCall_ap, eM_ap, eIf_ap, eAndV_ap, eOrV_ap, eNotV_ap, eChain_ap, eSl_ap, oNone_ap, oSome_ap, eXf_ap, aNil_ap, aCons_ap, tOf_ap, tTru_ap, tAndM_ap, tOrM_ap, tNotM_ap, tYesM_ap, asB_bl, truA_b, Res.bind_ok, Res.bind_exc, Res.toS_ok, Res.toS_exc, Res.of_some, SRes.bind_nx, SRes.bind_rt, SRes.bind_exc, SRes.bind_ct, SRes.bind_bk, gN_ap, List.getElem?_cons_zero, List.getElem?_cons_succ, List.set_cons_zero, List.set_cons_succ, one1_ap, two2_ap, newL_f, newL_t, addOp_ii, subOp_ii, negOp_i, ltOp_ii, leOp_ii, gtOp_ii, geOp_ii, eqOp_ii, neOp_ii, eqOp_ss, neOp_ss, intA_i, intA_b, maxA_ii, minA_ii, lenA_lst, lenA_tup, lenA_slst, listA_lst, listA_tup, listA_slst, tupleA_lst, tupleA_tup, List.length_map, List.length_cons, List.length_nil, Bool.not_true, Bool.not_false, Bool.false_eq_true, if_true, if_false, Nat.zero_add, Nat.reduceAdd]⟩)
        rw [e]
        have : l'.reverse.filter (fun x => decide (x < 1)) = [] := List.filter_eq_nil_iff.mpr fun x hx => by
          have := g1 x (List.mem_reverse.mp hx)
          simp; omega
        rw [this]; rfl
      have first : ixOp (.lst ((l'.reverse ++ [p.fdiv q]).map A.int)) (.int 0) st = some (.int a, st) := by rw [e1]; exact ixs (by omega) rfl
      have vL2 : M__law_value [.lst ((l'.reverse ++ [p.fdiv q]).map A.int)] st = .ok (pr (p, q)) st := by rw [e1]; exact vL
      have vP2 : M_value_of [.lst ((l'.reverse ++ [p.fdiv q]).map A.int)] st = .ok (pr (p, q)) st := by rw [e1]; exact vP
      have len0 : ¬ (((l'.reverse ++ [p.fdiv q]).length : Nat) : Int) = 0 := by simp; omega
      have len00 : ¬ (((0 : Nat) : Int) > 0) := by omega
      have d1 : decide (p.fdiv q = p.fdiv q) = true := decide_eq_true rfl
      by_cases hlen : (((l'.reverse ++ [p.fdiv q]).length : Nat) : Int) > 1
      · have ha : ¬ a = 1 := by
          cases hb : l'.reverse with
          | nil => rw [hb] at hlen; simp at hlen
          | cons b U =>
            have := g2 b U hb
            rw [hb] at e1
            have e1 : b :: (U ++ [p.fdiv q]) = a :: T := e1
            cases e1
            omega
        simp only [B__law_terms_right, tTru_ap, tNotM_ap, sSeq_ap, sAsg_ap, sEx_ap, sRet_ap, sRetN_ap, sNil_ap, sIf_ap, sFor_ap, sSub_ap, sRaise_ap, mkWhat_ap, eVar_ap, eC_ap, eBin_ap, eUn_ap, eTup_ap, eLst_ap, eCB_ap, eCall_ap, eM_ap, eIf_ap, eAndV_ap, eOrV_ap, eNotV_ap, eChain_ap, eSl_ap, oNone_ap, oSome_ap, eXf_ap, aNil_ap, aCons_ap, tOf_ap, tTru_ap, tAndM_ap, tOrM_ap, tNotM_ap, tYesM_ap, asB_bl, truA_b, Res.bind_ok, Res.bind_exc, Res.toS_ok, Res.toS_exc, Res.of_some, SRes.bind_nx, SRes.bind_rt, SRes.bind_exc, SRes.bind_ct, SRes.bind_bk, gN_ap, List.getElem?_cons_zero, List.getElem?_cons_succ, List.set_cons_zero, List.set_cons_succ, one1_ap, two2_ap, newL_f, newL_t, addOp_ii, subOp_ii, negOp_i, ltOp_ii, leOp_ii, gtOp_ii, geOp_ii, eqOp_ii, neOp_ii, eqOp_ss, neOp_ss, intA_i, intA_b, maxA_ii, minA_ii, lenA_lst, lenA_tup, lenA_slst, listA_lst, listA_tup, listA_slst, tupleA_lst, tupleA_tup, List.length_map, List.length_cons, List.length_nil, Bool.not_true, Bool.not_false, Bool.false_eq_true, if_true, if_false, Nat.zero_add, Nat.reduceAdd, ts, decide_eq_false h0, isl, decide_eq_false len0, last, fd, decide_true, hcmp, decide_eq_false len00, decide_eq_true hlen, first, decide_eq_false ha, vL2, l2', eqp, vP2, h1, h2]
      · simp only [B__law_terms_right, tTru_ap, tNotM_ap, sSeq_ap, sAsg_ap, sEx_ap, sRet_ap, sRetN_ap, sNil_ap, sIf_ap, sFor_ap, sSub_ap, sRaise_ap, mkWhat_ap, eVar_ap, eC_ap, eBin_ap, eUn_ap, eTup_ap, eLst_ap, eCB_ap, eCall_ap, eM_ap, eIf_ap, eAndV_ap, eOrV_ap, eNotV_ap, eChain_ap, eSl_ap, oNone_ap, oSome_ap, eXf_ap, aNil_ap, aCons_ap, tOf_ap, tTru_ap, tAndM_ap, tOrM_ap, tNotM_ap, tYesM_ap, asB_bl, truA_b, Res.bind_ok, Res.bind_exc, Res.toS_ok, Res.toS_exc, Res.of_some, SRes.bind_nx, SRes.bind_rt, SRes.bind_exc, SRes.bind_ct, SRes.bind_bk, gN_ap, List.getElem?_cons_zero, List.getElem?_cons_succ, List.set_cons_zero, List.set_cons_succ, one1_ap, two2_ap, newL_f, newL_t, addOp_ii, subOp_ii, negOp_i, ltOp_ii, leOp_ii, gtOp_ii, geOp_ii, eqOp_ii, neOp_ii, eqOp_ss, neOp_ss, intA_i, intA_b, maxA_ii, minA_ii, lenA_lst, lenA_tup, lenA_slst, listA_lst, listA_tup, listA_slst, tupleA_lst, tupleA_tup, List.length_map, List.length_cons, List.length_nil, Bool.not_true, Bool.not_false, Bool.false_eq_true, if_true, if_false, Nat.zero_add, Nat.reduceAdd, ts, decide_eq_false h0, isl, decide_eq_false len0, last, fd, decide_true, hcmp, decide_eq_false len00, decide_eq_false hlen, vL2, l2', eqp, vP2, h1, h2]
/-! draws -/
theorem num_sp {c : Nat} {ds : List Int} (hc : c < st.length) : ∃ x ds', x.natAbs < 2 ^ 59 ∧ M__law_number [.cell c] (st.set c (li ds)) = .ok (.int x) (st.set c (li ds')) := by
  have hz := sz
  have l4' : (4 : Nat) ≤ sizeLine := by omega
  obtain ⟨d1, ds1, p1, p2, t1⟩ := tk0 (ds := ds) (n := 41) hc (by omega)
  obtain ⟨d2, ds2, p3, p4, t2⟩ := tk0 (ds := ds1) (n := 1000003) hc (by omega)
  obtain ⟨d3, ds3, p5, p6, t3⟩ := tk0 (ds := ds2) (n := 1000) hc (by omega)
  obtain ⟨d4, ds4, p7, p8, t4⟩ := tk0 (ds := ds3) (n := 4) hc (by omega)
  have pw : ∀ s : Store, powOp (.int 10) (.int 12) s = some (.int 1000000000000, s) := fun s => by
    rw [powOp_ii (show CPow 10 12 from ⟨by decide, by decide, by decide⟩)]; rfl
  have mm : CMulW (d2 - 500000) 1000000000000 := mulW (i := 20) (j := 40) (by omega) (by decide) (by omega) (by omega) (by omega)
  obtain ⟨x, hx, e⟩ : ∃ x : Int, x.natAbs < 2 ^ 59 ∧ ∀ s, ixOp (.lst [.int (d1 - 20), .int (d1 - 20), .int ((d2 - 500000) * 1000000000000 + d3), .int 0]) (.int d4) s = some (.int x, s) := by
    rcases (by omega : d4 = 0 ∨ d4 = 1 ∨ d4 = 2 ∨ d4 = 3) with rfl | rfl | rfl | rfl
    · exact ⟨_, by omega, fun s => ixs (by omega) rfl⟩
    · exact ⟨_, by omega, fun s => ixs (by omega) rfl⟩
    · exact ⟨_, by omega, fun s => ixs (by omega) rfl⟩
    · exact ⟨_, by decide, fun s => ixs (by omega) rfl⟩
  refine ⟨x, ds4, hx, fnM_rt rfl (a := .int x) (st' := st.set c (li ds4)) ?_ (fin_draw0 bel_int (by intro c h; cases h))⟩
  show B__law_number [some (.cell c), none, none] (st.set c (li ds)) = _
  simp only [B__law_number, sSeq_ap, sAsg_ap, sEx_ap, sRet_ap, sRetN_ap, sNil_ap, sIf_ap, sFor_ap, sSub_ap, sRaise_ap, mkWhat_ap, eVar_ap, eC_ap, eBin_ap, eUn_ap, eTup_ap, eLst_ap, eCB_ap, eCall_ap, eM_ap, eIf_ap, eAndV_ap, eOrV_ap, eNotV_ap, eChain_ap, eSl_ap, oNone_ap, oSome_ap, eXf_ap, aNil_ap, aCons_ap, tOf_ap, tTru_ap, tAndM_ap, tOrM_ap, tNotM_ap, tYesM_ap, asB_bl, truA_b, Res.bind_ok, Res.bind_exc, Res.toS_ok, Res.toS_exc, Res.of_some, SRes.bind_nx, SRes.bind_rt, SRes.bind_exc, SRes.bind_ct, SRes.bind_bk, gN_ap, List.getElem?_cons_zero, List.getElem?_cons_succ, List.set_cons_zero, List.set_cons_succ, one1_ap, two2_ap, newL_f, newL_t, addOp_ii, subOp_ii, negOp_i, ltOp_ii, leOp_ii, gtOp_ii, geOp_ii, eqOp_ii, neOp_ii, eqOp_ss, neOp_ss, intA_i, intA_b, maxA_ii, minA_ii, lenA_lst, lenA_tup, lenA_slst, listA_lst, listA_tup, listA_slst, tupleA_lst, tupleA_tup, List.length_map, List.length_cons, List.length_nil, Bool.not_true, Bool.not_false, Bool.false_eq_true, if_true, if_false, Nat.zero_add, Nat.reduceAdd, t1, t2, pw, mulOp_ii mm, t3, l4', t4, e]
theorem lcL_draw {all : List A} {i : Nat} {me : AEnv → Store → Res A} {env0 : AEnv} (S : List Int → Store) (P : Int → Prop) : ∀ (xs acc : List A) (ds : List Int), acc.length + xs.length < 10000 → (∀ x ∈ xs, ∀ ds, ∃ v ds', P v ∧ me (env0.set i (some x)) (S ds) = .ok (.int v) (S ds')) →
    ∃ (vs : List Int) (ds' : List Int), vs.length = xs.length ∧ (∀ v ∈ vs, P v) ∧ lcL none all (gN i) tYesM me env0 xs acc (S ds) = .ok (acc ++ vs.map A.int) (S ds')
  | [], acc, ds, _, _ => ⟨[], ds, rfl, (by intro v hv; cases hv), by rw [lcL, if_pos (show srcOk none all (S ds) from trivial)]; simp⟩
  | x :: xs, acc, ds, hl, h => by
    have hz := sz
    rw [List.length_cons] at hl
    obtain ⟨v, ds1, hv, e⟩ := h x (by simp) ds
    obtain ⟨vs, ds2, h1, h2, h3⟩ := lcL_draw S P xs (acc ++ [.int v]) ds1 (by simp; omega) (fun y hy => h y (by simp [hy]))
    refine ⟨v :: vs, ds2, by simp [h1], fun y hy => ?_, ?_⟩
    · rcases List.mem_cons.mp hy with rfl | hy
      · exact hv
      · exact h2 y hy
    · rw [lcL, if_pos (show srcOk none all (S ds) from trivial)]
      simp only [gN_ap, tYesM_ap, noX_ok, Res.bind_ok, if_true, e]
      rw [if_pos (by omega), h3]
      simp
end
end Gk20

set_option Elab.async false
set_option linter.all false
set_option maxRecDepth 100000
set_option maxHeartbeats 4000000
set_option exponentiation.threshold 3000
namespace Gk20
open PySem PySem.Spec L2 SL F20
open PyProof.Rows hiding St
section
variable {st : Store} {a : Int} {T : List Int}
/-! the expressions -/
def nx1 (e : A) (t : Int) : A := .tup [.str "sum", .tup [.str "mirror", .tup [.str "turn", e]], .tup [.str "integer", .int t]]
def Rx (a : Int) (T : List Int) : A := T.foldl nx1 (.tup [.str "integer", .int a])
theorem R_snoc (a : Int) (T : List Int) (t : Int) : Rx a (T ++ [t]) = nx1 (Rx a T) t := by simp [Rx]
theorem R_rev (T : List Int) : T = [] ∨ ∃ U t, T = U ++ [t] := by
  rcases List.eq_nil_or_concat T with h | ⟨U, t, h⟩
  · exact .inl h
  · exact .inr ⟨U, t, by rw [h, List.concat_eq_append]⟩
theorem R_tup (a : Int) (T : List Int) : ∃ xs, Rx a T = .tup xs := by
  rcases R_rev T with rfl | ⟨U, t, rfl⟩
  · exact ⟨_, rfl⟩
  · rw [R_snoc]; exact ⟨_, rfl⟩
theorem sk1 : PyData.strOk "sum" = true := by decide +kernel
theorem sk2 : PyData.strOk "mirror" = true := by decide +kernel
theorem sk3 : PyData.strOk "turn" = true := by decide +kernel
theorem sk4 : PyData.strOk "integer" = true := by decide +kernel
theorem pd2 {d : Nat} {x y : A} (hx : PD d x) (hy : PD d y) : PD (d + 1) (.tup [x, y]) := .tup d _ (by simp) fun z hz => by
  simp only [List.mem_cons, List.not_mem_nil, or_false] at hz
  rcases hz with rfl | rfl
  · exact hx
  · exact hy
theorem R_pd : ∀ (n : Nat) (T : List Int), T.length = n → PD (3 * n + 1) (Rx a T) ∧ ∀ k, (Rx a T).bel k = true
  | 0, T, h => by
    have : T = [] := List.eq_nil_of_length_eq_zero h
    subst this
    exact ⟨pd2 (.str 0 _ sk4) (.int 0 a), fun k => by simp [Rx, A.bel, belowL]⟩
  | n + 1, T, h => by
    rcases R_rev T with rfl | ⟨U, t, rfl⟩
    · cases h
    · rw [R_snoc]
      obtain ⟨h1, h2⟩ := R_pd n U (by simpa using h)
      refine ⟨?_, fun k => by simp [nx1, A.bel, belowL, h2 k]⟩
      have e1 : PD (3 * n + 2) (.tup [.str "turn", Rx a U]) := pd2 (.str _ _ sk3) h1
      have e2 : PD (3 * n + 3) (.tup [.str "mirror", .tup [.str "turn", Rx a U]]) := pd2 (.str _ _ sk2) e1
      have e3 : PD (3 * n + 3) (.tup [.str "integer", .int t]) := pd2 (.str _ _ sk4) (.int _ t)
      show PD (3 * n + 4) (nx1 (Rx a U) t)
      exact .tup (3 * n + 3) _ (by simp) fun z hz => by
        simp only [List.mem_cons, List.not_mem_nil, or_false] at hz
        rcases hz with rfl | rfl | rfl
        · exact .str _ _ sk1
        · exact e2
        · exact e3
theorem R_nc (a : Int) (T : List Int) : ∀ c, Rx a T ≠ .cell c := fun c h => by
  obtain ⟨xs, e⟩ := R_tup a T
  rw [e] at h; cases h
theorem rat_sp : M_rational_expression [lI (a :: T)] st = .ok (Rx a T) st := by
  have hz := sz
  have l2' : (2 : Nat) ≤ sizeLine := by omega
  have l3' : (3 : Nat) ≤ sizeLine := by omega
  obtain ⟨e, s, r1, x2, rfl, rfl⟩ := for_inv (all := T.map A.int) (g := gN 2) (body := L1_rational_expression) (xs := T.map A.int)
    (fun i e s => ∃ x2, e = [some (lI (a :: T)), some (Rx a (T.take i)), x2] ∧ s = st)
    (env := [some (lI (a :: T)), some (.tup [.str "integer", .int a]), none]) (st := st) ⟨none, rfl, rfl⟩ (by
      rintro i x e s hx ⟨x2, rfl, rfl⟩
      rw [List.getElem?_map] at hx
      cases hp : T[i]? with
      | none => rw [hp] at hx; cases hx
      | some t =>
        rw [hp] at hx; cases hx
        have ht : T.take (i + 1) = T.take i ++ [t] := by rw [List.take_add_one, hp]; rfl
        rw [ht, R_snoc]
        refine ⟨_, rfl, ?_⟩
        simp only [L1_rational_expression, sSeq_ap, sAsg_ap, sEx_ap, sRet_ap, sRetN_ap, sNil_ap, sIf_ap, sFor_ap, sSub_ap, sRaise_ap, mkWhat_ap, eVar_ap, eC_ap, eBin_ap, eUn_ap, eTup_ap, eLst_ap, eCB_ap, eCall_ap, eM_ap, eIf_ap, eAndV_ap, eOrV_ap, eNotV_ap, eChain_ap, eSl_ap, oNone_ap, oSome_ap, eXf_ap, aNil_ap, aCons_ap, tOf_ap, tTru_ap, tAndM_ap, tOrM_ap, tNotM_ap, tYesM_ap, asB_bl, truA_b, Res.bind_ok, Res.bind_exc, Res.toS_ok, Res.toS_exc, Res.of_some, SRes.bind_nx, SRes.bind_rt, SRes.bind_exc, SRes.bind_ct, SRes.bind_bk, gN_ap, List.getElem?_cons_zero, List.getElem?_cons_succ, List.set_cons_zero, List.set_cons_succ, one1_ap, two2_ap, newL_f, newL_t, addOp_ii, subOp_ii, negOp_i, ltOp_ii, leOp_ii, gtOp_ii, geOp_ii, eqOp_ii, neOp_ii, eqOp_ss, neOp_ss, intA_i, intA_b, maxA_ii, minA_ii, lenA_lst, lenA_tup, lenA_slst, listA_lst, listA_tup, listA_slst, tupleA_lst, tupleA_tup, List.length_map, List.length_cons, List.length_nil, Bool.not_true, Bool.not_false, Bool.false_eq_true, if_true, if_false, Nat.zero_add, Nat.reduceAdd, l2', l3', NxP_nx]
        exact ⟨_, rfl, trivial⟩)
  rw [List.length_map, List.take_length] at r1
  refine fnM_rt rfl (a := Rx a T) (st' := s) ?_ (fin_pure0 ((R_pd T.length T rfl).2 _) (R_nc a T))
  show B_rational_expression [some (lI (a :: T)), none, none] s = _
  have i0 : ixOp (.lst ((a :: T).map A.int)) (.int 0) s = some (.int a, s) := ixs (by omega) rfl
  have dr := @drop1 s a T
  have tl := @tru_l s a T
  simp only [B_rational_expression, tNotM_ap, tTru_ap, sSeq_ap, sAsg_ap, sEx_ap, sRet_ap, sRetN_ap, sNil_ap, sIf_ap, sFor_ap, sSub_ap, sRaise_ap, mkWhat_ap, eVar_ap, eC_ap, eBin_ap, eUn_ap, eTup_ap, eLst_ap, eCB_ap, eCall_ap, eM_ap, eIf_ap, eAndV_ap, eOrV_ap, eNotV_ap, eChain_ap, eSl_ap, oNone_ap, oSome_ap, eXf_ap, aNil_ap, aCons_ap, tOf_ap, tTru_ap, tAndM_ap, tOrM_ap, tNotM_ap, tYesM_ap, asB_bl, truA_b, Res.bind_ok, Res.bind_exc, Res.toS_ok, Res.toS_exc, Res.of_some, SRes.bind_nx, SRes.bind_rt, SRes.bind_exc, SRes.bind_ct, SRes.bind_bk, gN_ap, List.getElem?_cons_zero, List.getElem?_cons_succ, List.set_cons_zero, List.set_cons_succ, one1_ap, two2_ap, newL_f, newL_t, addOp_ii, subOp_ii, negOp_i, ltOp_ii, leOp_ii, gtOp_ii, geOp_ii, eqOp_ii, neOp_ii, eqOp_ss, neOp_ss, intA_i, intA_b, maxA_ii, minA_ii, lenA_lst, lenA_tup, lenA_slst, listA_lst, listA_tup, listA_slst, tupleA_lst, tupleA_tup, List.length_map, List.length_cons, List.length_nil, Bool.not_true, Bool.not_false, Bool.false_eq_true, if_true, if_false, Nat.zero_add, Nat.reduceAdd, tl, i0, l2', mSeq_ap, dr, seqR_lst, srcOf_lst, r1]
theorem nest_sp : ∀ (n k : Nat) (T : List Int), T.length = n → n < k → n < 1000 → M__law_nested_ k [lI (a :: T)] st = .ok (Rx a T) st
  | 0, k, T, h, hk, _ => by
    have hz := sz
    have l2' : (2 : Nat) ≤ sizeLine := by omega
    obtain ⟨k, rfl⟩ : ∃ j, k = j + 1 := ⟨k - 1, by omega⟩
    have : T = [] := List.eq_nil_of_length_eq_zero h
    subst this
    refine fnM_rt rfl (a := Rx a []) (st' := st) ?_ (fin_pure0 ((R_pd 0 [] rfl).2 _) (R_nc a []))
    show B__law_nested (M__law_nested_ k) [some (lI [a]), none] st = _
    have i0 : ixOp (.lst ([a].map A.int)) (.int (-1)) st = some (.int a, st) := neg_ix (k := 0) (w := [a]) rfl (by simp)
    have d1 : decide ((((0 + 1 : Nat)) : Int) = 1) = true := rfl
    have d2 : decide (((1 : Nat) : Int) = 1) = true := rfl
    simp only [B__law_nested, sSeq_ap, sAsg_ap, sEx_ap, sRet_ap, sRetN_ap, sNil_ap, sIf_ap, sFor_ap, sSub_ap, sRaise_ap, mkWhat_ap, eVar_ap, eC_ap, eBin_ap, eUn_ap, eTup_ap, eLst_ap, eCB_ap, eCall_ap, eM_ap, eIf_ap, eAndV_ap, eOrV_ap, eNotV_ap, eChain_ap, eSl_ap, oNone_ap, oSome_ap, eXf_ap, aNil_ap, aCons_ap, tOf_ap, tTru_ap, tAndM_ap, tOrM_ap, tNotM_ap, tYesM_ap, asB_bl, truA_b, Res.bind_ok, Res.bind_exc, Res.toS_ok, Res.toS_exc, Res.of_some, SRes.bind_nx, SRes.bind_rt, SRes.bind_exc, SRes.bind_ct, SRes.bind_bk, gN_ap, List.getElem?_cons_zero, List.getElem?_cons_succ, List.set_cons_zero, List.set_cons_succ, one1_ap, two2_ap, newL_f, newL_t, addOp_ii, subOp_ii, negOp_i, ltOp_ii, leOp_ii, gtOp_ii, geOp_ii, eqOp_ii, neOp_ii, eqOp_ss, neOp_ss, intA_i, intA_b, maxA_ii, minA_ii, lenA_lst, lenA_tup, lenA_slst, listA_lst, listA_tup, listA_slst, tupleA_lst, tupleA_tup, List.length_map, List.length_cons, List.length_nil, Bool.not_true, Bool.not_false, Bool.false_eq_true, if_true, if_false, Nat.zero_add, Nat.reduceAdd, i0, l2', d1, d2]
    rfl
  | n + 1, k, T, h, hk, hn => by
    have hz := sz
    have l2' : (2 : Nat) ≤ sizeLine := by omega
    have l3' : (3 : Nat) ≤ sizeLine := by omega
    obtain ⟨k, rfl⟩ : ∃ j, k = j + 1 := ⟨k - 1, by omega⟩
    rcases R_rev T with rfl | ⟨U, t, rfl⟩
    · cases h
    · have hU : U.length = n := by simpa using h
      have ih := nest_sp n k U hU (by omega) (by omega)
      rw [R_snoc]
      refine fnM_rt rfl (a := nx1 (Rx a U) t) (st' := st) ?_ (fin_pure0 (by have := (R_pd (a := a) (n + 1) (U ++ [t]) h).2 st.length; rwa [R_snoc] at this) (by intro c h; cases h))
      show B__law_nested (M__law_nested_ k) [some (lI (a :: (U ++ [t]))), none] st = _
      have i0 : ixOp (.lst ((a :: (U ++ [t])).map A.int)) (.int (-1)) st = some (.int t, st) := by
        have h := @neg_ix st (.lst ((a :: (U ++ [t])).map A.int)) (a :: (U ++ [t])) 0 rfl (by simp)
        have hv : (a :: (U ++ [t])).getD ((a :: (U ++ [t])).length - 1 - 0) 0 = t := by simp
        rw [hv] at h
        exact h
      have s1 : slOp false (.lst ((a :: (U ++ [t])).map A.int)) none (some (-1)) st = some (.lst ((a :: U).map A.int), st) := by
        have h := @sl_init st (a :: (U ++ [t])) (by simp)
        have hv : (a :: (U ++ [t])).take ((a :: (U ++ [t])).length - 1) = a :: U := by
          rw [← List.cons_append, List.length_append, List.length_singleton, Nat.add_sub_cancel, List.take_left]
        rw [hv] at h
        exact h
      have hl : ¬ (((a :: (U ++ [t])).length : Nat) : Int) = 1 := by simp; omega
      have hl2 : ¬ ((((U ++ [t]).length + 1 : Nat)) : Int) = 1 := by simp; omega
      simp only [B__law_nested, sSeq_ap, sAsg_ap, sEx_ap, sRet_ap, sRetN_ap, sNil_ap, sIf_ap, sFor_ap, sSub_ap, sRaise_ap, mkWhat_ap, eVar_ap, eC_ap, eBin_ap, eUn_ap, eTup_ap, eLst_ap, eCB_ap, eCall_ap, eM_ap, eIf_ap, eAndV_ap, eOrV_ap, eNotV_ap, eChain_ap, eSl_ap, oNone_ap, oSome_ap, eXf_ap, aNil_ap, aCons_ap, tOf_ap, tTru_ap, tAndM_ap, tOrM_ap, tNotM_ap, tYesM_ap, asB_bl, truA_b, Res.bind_ok, Res.bind_exc, Res.toS_ok, Res.toS_exc, Res.of_some, SRes.bind_nx, SRes.bind_rt, SRes.bind_exc, SRes.bind_ct, SRes.bind_bk, gN_ap, List.getElem?_cons_zero, List.getElem?_cons_succ, List.set_cons_zero, List.set_cons_succ, one1_ap, two2_ap, newL_f, newL_t, addOp_ii, subOp_ii, negOp_i, ltOp_ii, leOp_ii, gtOp_ii, geOp_ii, eqOp_ii, neOp_ii, eqOp_ss, neOp_ss, intA_i, intA_b, maxA_ii, minA_ii, lenA_lst, lenA_tup, lenA_slst, listA_lst, listA_tup, listA_slst, tupleA_lst, tupleA_tup, List.length_map, List.length_cons, List.length_nil, Bool.not_true, Bool.not_false, Bool.false_eq_true, if_true, if_false, Nat.zero_add, Nat.reduceAdd, i0, l2', decide_eq_false hl2, s1, ih, l3']
      rfl
/-! the quotients -/
theorem pw4 {s : Store} : powOp (.int 10) (.int 4) s = some (.int 10000, s) := by
  rw [powOp_ii (show CPow 10 4 from ⟨by decide, by decide, by decide⟩)]; rfl
theorem g2 {env : AEnv} {x y : A} {i j : Nat} : gT 2 (gsCons (gN i) (gsCons (gN j) gsNil)) (.tup [x, y]) env = some ((env.set i (some x)).set j (some y)) := rfl
structure Qt (n d m e : Int) (B : Int) : Prop where
  n1 : 1 ≤ n ∧ n ≤ B
  d1 : 0 ≤ d ∧ d ≤ B
  m1 : 0 ≤ m ∧ m ≤ B
  e1 : 0 ≤ e ∧ e ≤ B
  det : n * e - m * d = 1 ∨ n * e - m * d = -1
theorem qt_step {n d m e B t : Int} (h : Qt n d m e B) (ht : 1 ≤ t ∧ t ≤ 10000) : Qt (t * n + d) n (t * m + e) m (16384 * B) := by
  obtain ⟨hn, hd, hm, he, hdet⟩ := h
  have b1 : 1 * n ≤ t * n := Int.mul_le_mul_of_nonneg_right ht.1 (by omega)
  have b2 : t * n ≤ 10000 * n := Int.mul_le_mul_of_nonneg_right ht.2 (by omega)
  have b3 : 0 ≤ t * m := Int.mul_nonneg (by omega) hm.1
  have b4 : t * m ≤ 10000 * m := Int.mul_le_mul_of_nonneg_right ht.2 hm.1
  refine ⟨by omega, by omega, by omega, by omega, ?_⟩
  have e1 : (t * n + d) * m - (t * m + e) * n = -(n * e - m * d) := by
    rw [Int.add_mul, Int.add_mul, Int.mul_assoc, Int.mul_assoc, Int.mul_comm n m, Int.mul_comm d m, Int.mul_comm e n]
    omega
  rw [e1]
  omega
theorem quo_sp {c : Nat} {ds : List Int} (hc : c < st.length) : ∃ (n d m e k : Int) (ds' : List Int), Qt n d m e (2 ^ 182) ∧ M__law_quotients [.cell c] (st.set c (li ds)) = .ok (.tup [.int n, .int d, .int m, .int e, .int k]) (st.set c (li ds')) := by
  have hz := sz
  have l2' : (2 : Nat) ≤ sizeLine := by omega
  have l3' : (3 : Nat) ≤ sizeLine := by omega
  have l5' : (5 : Nat) ≤ sizeLine := by omega
  obtain ⟨k, ds1, p1, p2, t1⟩ := tk0 (ds := ds) (n := 14) hc (by omega)
  obtain ⟨e, s, r1, n, d, m, e', ds', x6, x7, rfl, rfl, hq⟩ := for_inv (all := ((List.range k.toNat).map fun (j : Nat) => (j : Int)).map A.int) (g := gN 6) (body := L1__law_quotients) (xs := ((List.range k.toNat).map fun (j : Nat) => (j : Int)).map A.int)
    (fun i e s => ∃ (n d m e' : Int) (ds : List Int) (x6 x7 : Option A), e = [some (.cell c), some (.int n), some (.int d), some (.int m), some (.int e'), some (.int k), x6, x7] ∧ s = st.set c (li ds) ∧ Qt n d m e' (16384 ^ i))
    (env := [some (.cell c), some (.int 1), some (.int 0), some (.int 0), some (.int 1), some (.int k), none, none]) (st := st.set c (li ds1)) ⟨1, 0, 0, 1, ds1, _, _, rfl, rfl, ⟨by decide, by decide, by decide, by decide, by decide⟩⟩ (by
      rintro i a e s hx ⟨n, d, m, e', ds, x6, x7, rfl, rfl, hq⟩
      obtain ⟨hi, rfl⟩ := rng_get hx
      obtain ⟨d1, ds1, q1, q2, t1⟩ := tk0 (ds := ds) (n := 3) hc (by omega)
      obtain ⟨d2, ds2, q3, q4, t2⟩ := tk0 (ds := ds1) (n := 9) hc (by omega)
      obtain ⟨d3, ds3, q5, q6, t3⟩ := tk0 (ds := ds2) (n := 10000) hc (by omega)
      obtain ⟨d4, ds4, q7, q8, t4⟩ := tk0 (ds := ds3) (n := 3) hc (by omega)
      obtain ⟨t, ht, et⟩ : ∃ t : Int, (0 ≤ t ∧ t ≤ 9999) ∧ ∀ s, ixOp (.lst [.int d1, .int d2, .int d3]) (.int d4) s = some (.int t, s) := by
        rcases (by omega : d4 = 0 ∨ d4 = 1 ∨ d4 = 2) with rfl | rfl | rfl
        · exact ⟨_, by omega, fun s => ixs (by omega) rfl⟩
        · exact ⟨_, by omega, fun s => ixs (by omega) rfl⟩
        · exact ⟨_, by omega, fun s => ixs (by omega) rfl⟩
      have hB : (16384 : Int) ^ i ≤ 2 ^ 182 := by
        have h1 : (16384 : Nat) ^ i ≤ 16384 ^ 13 := Nat.pow_le_pow_right (by omega) (by omega)
        have h2 : (16384 : Nat) ^ 13 = 2 ^ 182 := by decide
        have h3 : (((16384 : Nat) ^ i : Nat) : Int) ≤ ((2 ^ 182 : Nat) : Int) := by omega
        have h4 : (((16384 : Nat) ^ i : Nat) : Int) = (16384 : Int) ^ i := by norm_cast
        have h5 : ((2 ^ 182 : Nat) : Int) = 2 ^ 182 := by norm_cast
        omega
      have hq2 := qt_step (t := 1 + t) hq (by omega)
      have m1 : CMulW (1 + t) n := mulW (i := 20) (j := 200) (by omega) (by have := hq.n1; omega) (by omega) (by omega) (by omega)
      have m2 : CMulW (1 + t) m := mulW (i := 20) (j := 200) (by omega) (by have := hq.m1; omega) (by omega) (by omega) (by omega)
      refine ⟨_, rfl, ?_⟩
      simp only [L1__law_quotients, sSeq_ap, sAsg_ap, sEx_ap, sRet_ap, sRetN_ap, sNil_ap, sIf_ap, sFor_ap, sSub_ap, sRaise_ap, mkWhat_ap, eVar_ap, eC_ap, eBin_ap, eUn_ap, eTup_ap, eLst_ap, eCB_ap, eCall_ap, eM_ap, eIf_ap, eAndV_ap, eOrV_ap, eNotV_ap, eChain_ap, eSl_ap, oNone_ap, oSome_ap, eXf_ap, aNil_ap, aCons_ap, tOf_ap, tTru_ap, tAndM_ap, tOrM_ap, tNotM_ap, tYesM_ap, asB_bl, truA_b, Res.bind_ok, Res.bind_exc, Res.toS_ok, Res.toS_exc, Res.of_some, SRes.bind_nx, SRes.bind_rt, SRes.bind_exc, SRes.bind_ct, SRes.bind_bk, gN_ap, List.getElem?_cons_zero, List.getElem?_cons_succ, List.set_cons_zero, List.set_cons_succ, one1_ap, two2_ap, newL_f, newL_t, addOp_ii, subOp_ii, negOp_i, ltOp_ii, leOp_ii, gtOp_ii, geOp_ii, eqOp_ii, neOp_ii, eqOp_ss, neOp_ss, intA_i, intA_b, maxA_ii, minA_ii, lenA_lst, lenA_tup, lenA_slst, listA_lst, listA_tup, listA_slst, tupleA_lst, tupleA_tup, List.length_map, List.length_cons, List.length_nil, Bool.not_true, Bool.not_false, Bool.false_eq_true, if_true, if_false, Nat.zero_add, Nat.reduceAdd, sPar_ap, t1, t2, pw4, t3, l3', t4, et, mulOp_ii m1, mulOp_ii m2, NxP_nx]
      exact ⟨_, _, _, _, _, _, _, rfl, rfl, by rw [show (16384 : Int) ^ (i + 1) = 16384 * 16384 ^ i by rw [Int.pow_succ, Int.mul_comm]]; exact hq2⟩)
  rw [List.length_map, List.length_map, List.length_range] at hq
  refine ⟨n, d, m, e', k, ds', ?_, ?_⟩
  · have hB : (16384 : Int) ^ k.toNat ≤ 2 ^ 182 := by
      have h1 : (16384 : Nat) ^ k.toNat ≤ 16384 ^ 13 := Nat.pow_le_pow_right (by omega) (by omega)
      have h2 : (16384 : Nat) ^ 13 = 2 ^ 182 := by decide
      have h3 : (((16384 : Nat) ^ k.toNat : Nat) : Int) ≤ ((2 ^ 182 : Nat) : Int) := by omega
      have h4 : (((16384 : Nat) ^ k.toNat : Nat) : Int) = (16384 : Int) ^ k.toNat := by norm_cast
      have h5 : ((2 ^ 182 : Nat) : Int) = 2 ^ 182 := by norm_cast
      omega
    obtain ⟨a1, a2, a3, a4, a5⟩ := hq
    exact ⟨by omega, by omega, by omega, by omega, a5⟩
  · refine fnM_rt rfl (a := .tup [.int n, .int d, .int m, .int e', .int k]) (st' := st.set c (li ds')) ?_ (fin_draw0 (by simp [A.bel, belowL]) (by intro c h; cases h))
    show B__law_quotients [some (.cell c), none, none, none, none, none, none, none] (st.set c (li ds)) = _
    have er : mRng1 (aCons (eVar 5) aNil) [some (.cell c), some (.int 1), some (.int 0), some (.int 0), some (.int 1), some (.int k), none, none] (st.set c (li ds1)) = .ok (((List.range k.toNat).map fun (j : Nat) => (j : Int)).map A.int, none) (st.set c (li ds1)) := by
      refine rng1' (by omega) ?_
      simp only [sSeq_ap, sAsg_ap, sEx_ap, sRet_ap, sRetN_ap, sNil_ap, sIf_ap, sFor_ap, sSub_ap, sRaise_ap, mkWhat_ap, eVar_ap, eC_ap, eBin_ap, eUn_ap, eTup_ap, eLst_ap, eCB_ap, eCall_ap, eM_ap, eIf_ap, eAndV_ap, eOrV_ap, eNotV_ap, eChain_ap, eSl_ap, oNone_ap, oSome_ap, eXf_ap, aNil_ap, aCons_ap, tOf_ap, tTru_ap, tAndM_ap, tOrM_ap, tNotM_ap, tYesM_ap, asB_bl, truA_b, Res.bind_ok, Res.bind_exc, Res.toS_ok, Res.toS_exc, Res.of_some, SRes.bind_nx, SRes.bind_rt, SRes.bind_exc, SRes.bind_ct, SRes.bind_bk, gN_ap, List.getElem?_cons_zero, List.getElem?_cons_succ, List.set_cons_zero, List.set_cons_succ, one1_ap, two2_ap, newL_f, newL_t, addOp_ii, subOp_ii, negOp_i, ltOp_ii, leOp_ii, gtOp_ii, geOp_ii, eqOp_ii, neOp_ii, eqOp_ss, neOp_ss, intA_i, intA_b, maxA_ii, minA_ii, lenA_lst, lenA_tup, lenA_slst, listA_lst, listA_tup, listA_slst, tupleA_lst, tupleA_tup, List.length_map, List.length_cons, List.length_nil, Bool.not_true, Bool.not_false, Bool.false_eq_true, if_true, if_false, Nat.zero_add, Nat.reduceAdd]
      rw [show ((k.toNat : Nat) : Int) = k by omega]
    simp only [B__law_quotients, sSeq_ap, sAsg_ap, sEx_ap, sRet_ap, sRetN_ap, sNil_ap, sIf_ap, sFor_ap, sSub_ap, sRaise_ap, mkWhat_ap, eVar_ap, eC_ap, eBin_ap, eUn_ap, eTup_ap, eLst_ap, eCB_ap, eCall_ap, eM_ap, eIf_ap, eAndV_ap, eOrV_ap, eNotV_ap, eChain_ap, eSl_ap, oNone_ap, oSome_ap, eXf_ap, aNil_ap, aCons_ap, tOf_ap, tTru_ap, tAndM_ap, tOrM_ap, tNotM_ap, tYesM_ap, asB_bl, truA_b, Res.bind_ok, Res.bind_exc, Res.toS_ok, Res.toS_exc, Res.of_some, SRes.bind_nx, SRes.bind_rt, SRes.bind_exc, SRes.bind_ct, SRes.bind_bk, gN_ap, List.getElem?_cons_zero, List.getElem?_cons_succ, List.set_cons_zero, List.set_cons_succ, one1_ap, two2_ap, newL_f, newL_t, addOp_ii, subOp_ii, negOp_i, ltOp_ii, leOp_ii, gtOp_ii, geOp_ii, eqOp_ii, neOp_ii, eqOp_ss, neOp_ss, intA_i, intA_b, maxA_ii, minA_ii, lenA_lst, lenA_tup, lenA_slst, listA_lst, listA_tup, listA_slst, tupleA_lst, tupleA_tup, List.length_map, List.length_cons, List.length_nil, Bool.not_true, Bool.not_false, Bool.false_eq_true, if_true, if_false, Nat.zero_add, Nat.reduceAdd, g2, l2', t1, er, r1, l5']
end
end Gk20

set_option Elab.async false
set_option linter.all false
set_option maxRecDepth 100000
set_option maxHeartbeats 4000000
set_option exponentiation.threshold 3000
namespace F20
theorem fm_self {a p : Int} (h : 0 ≤ a ∧ a < p) : a.fmod p = a := by
  rw [Int.fmod_eq_emod_of_nonneg _ (by omega)]; exact Int.emod_eq_of_lt h.1 h.2
theorem fm_congr {a b p : Int} (hp : 0 < p) (h : p ∣ a - b) : a.fmod p = b.fmod p := by
  rw [Int.fmod_eq_emod_of_nonneg _ (by omega), Int.fmod_eq_emod_of_nonneg _ (by omega)]
  exact Int.emod_eq_emod_iff_emod_sub_eq_zero.mpr (Int.emod_eq_zero_of_dvd h)
theorem dvd_fm {a p : Int} (hp : 0 < p) : p ∣ a - a.fmod p := by
  have h := fm_def a p
  exact ⟨a.fdiv p, by omega⟩
theorem fm_zero {a p : Int} (hp : 0 < p) : a.fmod p = 0 ↔ p ∣ a := by
  rw [Int.fmod_eq_emod_of_nonneg _ (by omega)]
  exact ⟨Int.dvd_of_emod_eq_zero, Int.emod_eq_zero_of_dvd⟩
theorem gcd1 {p q x : Int} (h : p ∣ x * q - 1) : Int.gcd p q = 1 := by
  have h1 : ((Int.gcd p q : Nat) : Int) ∣ x * q - 1 := Int.dvd_trans (Int.gcd_dvd_left ..) h
  have h2 : ((Int.gcd p q : Nat) : Int) ∣ x * q := Int.dvd_trans (Int.gcd_dvd_right ..) (Int.dvd_mul_left _ _)
  have h3 : ((Int.gcd p q : Nat) : Int) ∣ 1 := by
    have := Int.dvd_sub h2 h1
    rwa [show x * q - (x * q - 1) = 1 by omega] at this
  have h4 := Int.natAbs_dvd_natAbs.mpr h3
  simpa using h4
def mn (i j : Int) : Int := if j < i then j else i
theorem mn_comm {i j : Int} : mn i j = mn j i := by unfold mn; split <;> split <;> omega
/-- the least number of a fraction, x its inverse -/
def ln (p q x : Int) : Int := mn (q.fmod p) (x.fmod p)
end F20
namespace Gk20
open PySem PySem.Spec L2 SL F20
open PyProof.Rows hiding St
section
variable {st : Store} {p q x : Int}
theorem inv_loop {P : Int} (hP : P < 2 ^ 240) : ∀ {f s : Int} {l : List Int}, Eu f s l → 0 < f → f ≤ P → s ≤ P → ∀ (b w : Int) (k : Nat) (x6 : Option A), l.length < k → Sz P f s b w →
    ∃ f' y5 y6, whL p1_inverse_number W2_inverse_number k [some (.int p), some (.int q), some (.int f), some (.int s), some (.int b), some (.int w), x6] st = .nx [some (.int p), some (.int q), some (.int f'), some (.int 0), some (.int (iv l b w)), y5, y6] st := by
  intro f s l h
  induction h with
  | nil f =>
    intro hf hfP hsP b w k x6 hk hS
    obtain ⟨k, rfl⟩ : ∃ j, k = j + 1 := ⟨k - 1, by omega⟩
    refine ⟨f, some (.int w), x6, ?_⟩
    rw [whL]
    simp only [p1_inverse_number, sSeq_ap, sAsg_ap, sEx_ap, sRet_ap, sRetN_ap, sNil_ap, sIf_ap, sFor_ap, sSub_ap, sRaise_ap, mkWhat_ap, eVar_ap, eC_ap, eBin_ap, eUn_ap, eTup_ap, eLst_ap, eCB_ap, eCall_ap, eM_ap, eIf_ap, eAndV_ap, eOrV_ap, eNotV_ap, eChain_ap, eSl_ap, oNone_ap, oSome_ap, eXf_ap, aNil_ap, aCons_ap, tOf_ap, tTru_ap, tAndM_ap, tOrM_ap, tNotM_ap, tYesM_ap, asB_bl, truA_b, Res.bind_ok, Res.bind_exc, Res.toS_ok, Res.toS_exc, Res.of_some, SRes.bind_nx, SRes.bind_rt, SRes.bind_exc, SRes.bind_ct, SRes.bind_bk, gN_ap, List.getElem?_cons_zero, List.getElem?_cons_succ, List.set_cons_zero, List.set_cons_succ, one1_ap, two2_ap, newL_f, newL_t, addOp_ii, subOp_ii, negOp_i, ltOp_ii, leOp_ii, gtOp_ii, geOp_ii, eqOp_ii, neOp_ii, eqOp_ss, neOp_ss, intA_i, intA_b, maxA_ii, minA_ii, lenA_lst, lenA_tup, lenA_slst, listA_lst, listA_tup, listA_slst, tupleA_lst, tupleA_tup, List.length_map, List.length_cons, List.length_nil, Bool.not_true, Bool.not_false, Bool.false_eq_true, if_true, if_false, Nat.zero_add, Nat.reduceAdd, decide_true]
    rfl
  | @cons f s l hs r ih =>
    intro hf hfP hsP b w k x6 hk hS
    rw [List.length_cons] at hk
    obtain ⟨k, rfl⟩ : ∃ j, k = j + 1 := ⟨k - 1, by omega⟩
    have hm := fm_nn (p := f) hs
    obtain ⟨f', y5, y6, e⟩ := ih hs hsP (by omega) w (b - f.fdiv s * w) k (some (.int (f.fdiv s))) (by omega) (sz_step hS hs (by omega))
    refine ⟨f', y5, y6, ?_⟩
    have hsn : ¬ s = 0 := by omega
    have hd : f.fdiv s = f / s := Int.fdiv_eq_ediv_of_nonneg _ (by omega)
    have ht : (f.fdiv s).natAbs < 2 ^ 240 := by
      rw [hd]
      have := Int.natAbs_ediv_le_natAbs f s
      omega
    have hw : w.natAbs < 2 ^ 240 := by
      have h2 := hS.2
      have h3 : 0 ≤ s * (b.natAbs : Int) := Int.mul_nonneg (by omega) (by omega)
      have h4 : 1 * (w.natAbs : Int) ≤ f * (w.natAbs : Int) := Int.mul_le_mul_of_nonneg_right (by omega) (by omega)
      omega
    have fd := @fdivL st f s 240 hsn (by omega) (by omega) (by omega)
    have m1 : CMulW (f.fdiv s) s := mulW ht (j := 240) (by omega) (by omega) (by omega) (by omega)
    have m2 : CMulW (f.fdiv s) w := mulW ht hw (by omega) (by omega) (by omega)
    have hsub : f - f.fdiv s * s = f.fmod s := by
      have := fm_def f s
      rw [Int.mul_comm]
      omega
    rw [whL]
    simp only [p1_inverse_number, W2_inverse_number, sPar_ap, sSeq_ap, sAsg_ap, sEx_ap, sRet_ap, sRetN_ap, sNil_ap, sIf_ap, sFor_ap, sSub_ap, sRaise_ap, mkWhat_ap, eVar_ap, eC_ap, eBin_ap, eUn_ap, eTup_ap, eLst_ap, eCB_ap, eCall_ap, eM_ap, eIf_ap, eAndV_ap, eOrV_ap, eNotV_ap, eChain_ap, eSl_ap, oNone_ap, oSome_ap, eXf_ap, aNil_ap, aCons_ap, tOf_ap, tTru_ap, tAndM_ap, tOrM_ap, tNotM_ap, tYesM_ap, asB_bl, truA_b, Res.bind_ok, Res.bind_exc, Res.toS_ok, Res.toS_exc, Res.of_some, SRes.bind_nx, SRes.bind_rt, SRes.bind_exc, SRes.bind_ct, SRes.bind_bk, gN_ap, List.getElem?_cons_zero, List.getElem?_cons_succ, List.set_cons_zero, List.set_cons_succ, one1_ap, two2_ap, newL_f, newL_t, addOp_ii, subOp_ii, negOp_i, ltOp_ii, leOp_ii, gtOp_ii, geOp_ii, eqOp_ii, neOp_ii, eqOp_ss, neOp_ss, intA_i, intA_b, maxA_ii, minA_ii, lenA_lst, lenA_tup, lenA_slst, listA_lst, listA_tup, listA_slst, tupleA_lst, tupleA_tup, List.length_map, List.length_cons, List.length_nil, Bool.not_true, Bool.not_false, Bool.false_eq_true, if_true, if_false, Nat.zero_add, Nat.reduceAdd, decide_eq_false hsn, fd, mulOp_ii m1, mulOp_ii m2, hsub]
    exact e
theorem inv_sp (hp : 1 ≤ p) (hP : p < 2 ^ 200) (hx : p ∣ x * q - 1) : M_inverse_number [.int p, .int q] st = .ok (.int (x.fmod p)) st := by
  have hp0 : 0 < p := by omega
  have hm := fm_nn (p := q) hp0
  have h1m : (1 : Int).fmod p = if p = 1 then 0 else 1 := by
    by_cases h : p = 1
    · rw [if_pos h, h]; rfl
    · rw [if_neg h]; exact fm_self (by omega)
  obtain ⟨l, hE⟩ := eu_ex (q.fmod p).toNat p (q.fmod p) hm.1 (Nat.le_refl _)
  have hS : Sz p p (q.fmod p) 0 ((1 : Int).fmod p) := by
    refine ⟨.inr ⟨by omega, by rw [h1m]; split <;> omega⟩, ?_⟩
    rw [h1m]
    split
    · simp; omega
    · simp
  obtain ⟨f', y5, y6, e⟩ := inv_loop (st := st) (p := p) (q := q) (P := p) (by omega) hE hp0 (Int.le_refl _) (by omega) 0 ((1 : Int).fmod p) fuelW none (by have := eu_400 hE (by omega); unfold fuelW; omega) hS
  have hd := iv_ok (p := p) (q := q) hE 0 ((1 : Int).fmod p) (by omega) (by rw [Int.zero_mul, Int.zero_sub]; exact Int.dvd_neg.mpr (Int.dvd_refl p)) (by
    have a1 := dvd_fm (a := 1) hp0
    have a2 := dvd_fm (a := q) hp0
    have e : (1 : Int).fmod p * q - q.fmod p = (q - q.fmod p) - (1 - (1 : Int).fmod p) * q := by rw [Int.sub_mul]; omega
    rw [e]
    exact Int.dvd_sub a2 (Int.dvd_trans a1 (Int.dvd_mul_right _ _)))
  have hg : Int.gcd p (q.fmod p) = 1 := by
    have h1 := gcd1 hx
    have h2 : p ∣ q - q.fmod p := dvd_fm hp0
    obtain ⟨c, hc⟩ := h2
    have e : q = p * c + q.fmod p := by omega
    rw [e, Int.gcd_comm, Int.gcd_mul_left_add_left] at h1
    rw [Int.gcd_comm]; exact h1
  rw [hg] at hd
  have hu := inv_uniq hd hx
  have hf := fm_congr hp0 hu
  have hpn : ¬ p = 0 := by omega
  refine fnM_rt rfl (a := .int (x.fmod p)) (st' := st) ?_ fin_int0
  show B_inverse_number [some (.int p), some (.int q), none, none, none, none, none] st = _
  simp only [B_inverse_number, sPar_ap, sSeq_ap, sAsg_ap, sEx_ap, sRet_ap, sRetN_ap, sNil_ap, sIf_ap, sFor_ap, sSub_ap, sRaise_ap, mkWhat_ap, eVar_ap, eC_ap, eBin_ap, eUn_ap, eTup_ap, eLst_ap, eCB_ap, eCall_ap, eM_ap, eIf_ap, eAndV_ap, eOrV_ap, eNotV_ap, eChain_ap, eSl_ap, oNone_ap, oSome_ap, eXf_ap, aNil_ap, aCons_ap, tOf_ap, tTru_ap, tAndM_ap, tOrM_ap, tNotM_ap, tYesM_ap, asB_bl, truA_b, Res.bind_ok, Res.bind_exc, Res.toS_ok, Res.toS_exc, Res.of_some, SRes.bind_nx, SRes.bind_rt, SRes.bind_exc, SRes.bind_ct, SRes.bind_bk, gN_ap, List.getElem?_cons_zero, List.getElem?_cons_succ, List.set_cons_zero, List.set_cons_succ, one1_ap, two2_ap, newL_f, newL_t, addOp_ii, subOp_ii, negOp_i, ltOp_ii, leOp_ii, gtOp_ii, geOp_ii, eqOp_ii, neOp_ii, eqOp_ss, neOp_ss, intA_i, intA_b, maxA_ii, minA_ii, lenA_lst, lenA_tup, lenA_slst, listA_lst, listA_tup, listA_slst, tupleA_lst, tupleA_tup, List.length_map, List.length_cons, List.length_nil, Bool.not_true, Bool.not_false, Bool.false_eq_true, if_true, if_false, Nat.zero_add, Nat.reduceAdd, modOp_ii hpn, sWhile, e, hf]
theorem check_sp (hp : 1 ≤ p) (hg : Int.gcd p q = 1) : M_check_bridge [.int p, .int q] st = .ok .non st := by
  have hp1 : ¬ p < 1 := by omega
  have hg' : ((Nat.gcd p.natAbs q.natAbs : Nat) : Int) = 1 := by
    have : Nat.gcd p.natAbs q.natAbs = 1 := hg
    rw [this]; rfl
  refine fnM_nx rfl (e := [some (.int p), some (.int q)]) (st' := st) ?_ (fin_pure0 (by simp [A.bel]) (by intro c h; cases h))
  show B_check_bridge [some (.int p), some (.int q)] st = _
  simp only [B_check_bridge, sSeq_ap, sAsg_ap, sEx_ap, sRet_ap, sRetN_ap, sNil_ap, sIf_ap, sFor_ap, sSub_ap, sRaise_ap, mkWhat_ap, eVar_ap, eC_ap, eBin_ap, eUn_ap, eTup_ap, eLst_ap, eCB_ap, eCall_ap, eM_ap, eIf_ap, eAndV_ap, eOrV_ap, eNotV_ap, eChain_ap, eSl_ap, oNone_ap, oSome_ap, eXf_ap, aNil_ap, aCons_ap, tOf_ap, tTru_ap, tAndM_ap, tOrM_ap, tNotM_ap, tYesM_ap, asB_bl, truA_b, Res.bind_ok, Res.bind_exc, Res.toS_ok, Res.toS_exc, Res.of_some, SRes.bind_nx, SRes.bind_rt, SRes.bind_exc, SRes.bind_ct, SRes.bind_bk, gN_ap, List.getElem?_cons_zero, List.getElem?_cons_succ, List.set_cons_zero, List.set_cons_succ, one1_ap, two2_ap, newL_f, newL_t, addOp_ii, subOp_ii, negOp_i, ltOp_ii, leOp_ii, gtOp_ii, geOp_ii, eqOp_ii, neOp_ii, eqOp_ss, neOp_ss, intA_i, intA_b, maxA_ii, minA_ii, lenA_lst, lenA_tup, lenA_slst, listA_lst, listA_tup, listA_slst, tupleA_lst, tupleA_tup, List.length_map, List.length_cons, List.length_nil, Bool.not_true, Bool.not_false, Bool.false_eq_true, if_true, if_false, Nat.zero_add, Nat.reduceAdd, gcdA_ii, decide_eq_false hp1, hg', decide_true]
theorem least_sp (hp : 1 ≤ p) (hP : p < 2 ^ 200) (hx : p ∣ x * q - 1) : M_least_number [.int p, .int q] st = .ok (.int (ln p q x)) st := by
  have hpn : ¬ p = 0 := by omega
  have c1 := @check_sp st p q hp (gcd1 hx)
  have c2 := @inv_sp st p q x hp hP hx
  refine fnM_rt rfl (a := .int (ln p q x)) (st' := st) ?_ fin_int0
  show B_least_number [some (.int p), some (.int q)] st = _
  simp only [B_least_number, sSeq_ap, sAsg_ap, sEx_ap, sRet_ap, sRetN_ap, sNil_ap, sIf_ap, sFor_ap, sSub_ap, sRaise_ap, mkWhat_ap, eVar_ap, eC_ap, eBin_ap, eUn_ap, eTup_ap, eLst_ap, eCB_ap, eCall_ap, eM_ap, eIf_ap, eAndV_ap, eOrV_ap, eNotV_ap, eChain_ap, eSl_ap, oNone_ap, oSome_ap, eXf_ap, aNil_ap, aCons_ap, tOf_ap, tTru_ap, tAndM_ap, tOrM_ap, tNotM_ap, tYesM_ap, asB_bl, truA_b, Res.bind_ok, Res.bind_exc, Res.toS_ok, Res.toS_exc, Res.of_some, SRes.bind_nx, SRes.bind_rt, SRes.bind_exc, SRes.bind_ct, SRes.bind_bk, gN_ap, List.getElem?_cons_zero, List.getElem?_cons_succ, List.set_cons_zero, List.set_cons_succ, one1_ap, two2_ap, newL_f, newL_t, addOp_ii, subOp_ii, negOp_i, ltOp_ii, leOp_ii, gtOp_ii, geOp_ii, eqOp_ii, neOp_ii, eqOp_ss, neOp_ss, intA_i, intA_b, maxA_ii, minA_ii, lenA_lst, lenA_tup, lenA_slst, listA_lst, listA_tup, listA_slst, tupleA_lst, tupleA_tup, List.length_map, List.length_cons, List.length_nil, Bool.not_true, Bool.not_false, Bool.false_eq_true, if_true, if_false, Nat.zero_add, Nat.reduceAdd, c1, modOp_ii hpn, c2]
  rfl
theorem same_sp {r s y : Int} (hp : 1 ≤ p) (hP : p < 2 ^ 200) (hx : p ∣ x * q - 1) (hr : 1 ≤ r) (hR : r < 2 ^ 200) (hy : r ∣ y * s - 1) :
    M_same_two_bridge [.tup [.int p, .int q], .tup [.int r, .int s]] st = .ok (.bl (decide (p = r) && decide (ln p q x = ln r s y))) st := by
  have hz := sz
  have l2' : (2 : Nat) ≤ sizeLine := by omega
  have e1 := @least_sp st p q x hp hP hx
  have e2 := @least_sp st r s y hr hR hy
  have i0 := @ixt st 0 [.int p, .int q] _ (by omega) rfl
  have i1 := @ixt st 1 [.int p, .int q] _ (by omega) rfl
  have j0 := @ixt st 0 [.int r, .int s] _ (by omega) rfl
  have j1 := @ixt st 1 [.int r, .int s] _ (by omega) rfl
  have k0 := @ixt st 0 [.int (ln p q x), .int (ln r s y)] _ (by omega) rfl
  have k1 := @ixt st 1 [.int (ln p q x), .int (ln r s y)] _ (by omega) rfl
  refine fnM_rt rfl (a := .bl (decide (p = r) && decide (ln p q x = ln r s y))) (st' := st) ?_ fin_bl0
  show B_same_two_bridge [some (.tup [.int p, .int q]), some (.tup [.int r, .int s]), none] st = _
  by_cases h : p = r
  · have : (decide (p = r) && decide (ln p q x = ln r s y)) = decide (ln p q x = ln r s y) := by rw [decide_eq_true h]; rfl
    rw [this]
    simp only [B_same_two_bridge, sSeq_ap, sAsg_ap, sEx_ap, sRet_ap, sRetN_ap, sNil_ap, sIf_ap, sFor_ap, sSub_ap, sRaise_ap, mkWhat_ap, eVar_ap, eC_ap, eBin_ap, eUn_ap, eTup_ap, eLst_ap, eCB_ap, eCall_ap, eM_ap, eIf_ap, eAndV_ap, eOrV_ap, eNotV_ap, eChain_ap, eSl_ap, oNone_ap, oSome_ap, eXf_ap, aNil_ap, aCons_ap, tOf_ap, tTru_ap, tAndM_ap, tOrM_ap, tNotM_ap, tYesM_ap, asB_bl, truA_b, Res.bind_ok, Res.bind_exc, Res.toS_ok, Res.toS_exc, Res.of_some, SRes.bind_nx, SRes.bind_rt, SRes.bind_exc, SRes.bind_ct, SRes.bind_bk, gN_ap, List.getElem?_cons_zero, List.getElem?_cons_succ, List.set_cons_zero, List.set_cons_succ, one1_ap, two2_ap, newL_f, newL_t, addOp_ii, subOp_ii, negOp_i, ltOp_ii, leOp_ii, gtOp_ii, geOp_ii, eqOp_ii, neOp_ii, eqOp_ss, neOp_ss, intA_i, intA_b, maxA_ii, minA_ii, lenA_lst, lenA_tup, lenA_slst, listA_lst, listA_tup, listA_slst, tupleA_lst, tupleA_tup, List.length_map, List.length_cons, List.length_nil, Bool.not_true, Bool.not_false, Bool.false_eq_true, if_true, if_false, Nat.zero_add, Nat.reduceAdd, i0, i1, j0, j1, e1, e2, l2', decide_eq_true h, k0, k1]
  · have : (decide (p = r) && decide (ln p q x = ln r s y)) = false := by rw [decide_eq_false h]; rfl
    rw [this]
    simp only [B_same_two_bridge, sSeq_ap, sAsg_ap, sEx_ap, sRet_ap, sRetN_ap, sNil_ap, sIf_ap, sFor_ap, sSub_ap, sRaise_ap, mkWhat_ap, eVar_ap, eC_ap, eBin_ap, eUn_ap, eTup_ap, eLst_ap, eCB_ap, eCall_ap, eM_ap, eIf_ap, eAndV_ap, eOrV_ap, eNotV_ap, eChain_ap, eSl_ap, oNone_ap, oSome_ap, eXf_ap, aNil_ap, aCons_ap, tOf_ap, tTru_ap, tAndM_ap, tOrM_ap, tNotM_ap, tYesM_ap, asB_bl, truA_b, Res.bind_ok, Res.bind_exc, Res.toS_ok, Res.toS_exc, Res.of_some, SRes.bind_nx, SRes.bind_rt, SRes.bind_exc, SRes.bind_ct, SRes.bind_bk, gN_ap, List.getElem?_cons_zero, List.getElem?_cons_succ, List.set_cons_zero, List.set_cons_succ, one1_ap, two2_ap, newL_f, newL_t, addOp_ii, subOp_ii, negOp_i, ltOp_ii, leOp_ii, gtOp_ii, geOp_ii, eqOp_ii, neOp_ii, eqOp_ss, neOp_ss, intA_i, intA_b, maxA_ii, minA_ii, lenA_lst, lenA_tup, lenA_slst, listA_lst, listA_tup, listA_slst, tupleA_lst, tupleA_tup, List.length_map, List.length_cons, List.length_nil, Bool.not_true, Bool.not_false, Bool.false_eq_true, if_true, if_false, Nat.zero_add, Nat.reduceAdd, i0, i1, j0, j1, e1, e2, l2', decide_eq_false h, k0, k1]
theorem both_sp {r s y : Int} (hp : 1 ≤ p) (hP : p < 2 ^ 200) (hx : p ∣ x * q - 1) (hr : 1 ≤ r) (hR : r < 2 ^ 200) (hy : r ∣ y * s - 1) :
    M__law_both [.tup [.int p, .int q], .tup [.int r, .int s]] st = .ok (.lst [.bl (decide (p = r) && decide (ln p q x = ln r s y)), .bl (decide (p = r) && decide (ln p q x = ln r s y))]) st := by
  have hz := sz
  have l2' : (2 : Nat) ≤ sizeLine := by omega
  have e1 := @same_sp st p q x r s y hp hP hx hr hR hy
  have e2 := @same_sp st r s y p q x hr hR hy hp hP hx
  have e3 : (decide (r = p) && decide (ln r s y = ln p q x)) = (decide (p = r) && decide (ln p q x = ln r s y)) := by
    rw [decide_eq_decide.mpr (@eq_comm _ r p), decide_eq_decide.mpr (@eq_comm _ (ln r s y) (ln p q x))]
  rw [e3] at e2
  refine fnM_rt rfl (a := .lst [.bl (decide (p = r) && decide (ln p q x = ln r s y)), .bl (decide (p = r) && decide (ln p q x = ln r s y))]) (st' := st) ?_ (fin_pure0 (by simp [A.bel, belowL]) (by intro c h; cases h))
  show B__law_both [some (.tup [.int p, .int q]), some (.tup [.int r, .int s])] st = _
  simp only [B__law_both, sSeq_ap, sAsg_ap, sEx_ap, sRet_ap, sRetN_ap, sNil_ap, sIf_ap, sFor_ap, sSub_ap, sRaise_ap, mkWhat_ap, eVar_ap, eC_ap, eBin_ap, eUn_ap, eTup_ap, eLst_ap, eCB_ap, eCall_ap, eM_ap, eIf_ap, eAndV_ap, eOrV_ap, eNotV_ap, eChain_ap, eSl_ap, oNone_ap, oSome_ap, eXf_ap, aNil_ap, aCons_ap, tOf_ap, tTru_ap, tAndM_ap, tOrM_ap, tNotM_ap, tYesM_ap, asB_bl, truA_b, Res.bind_ok, Res.bind_exc, Res.toS_ok, Res.toS_exc, Res.of_some, SRes.bind_nx, SRes.bind_rt, SRes.bind_exc, SRes.bind_ct, SRes.bind_bk, gN_ap, List.getElem?_cons_zero, List.getElem?_cons_succ, List.set_cons_zero, List.set_cons_succ, one1_ap, two2_ap, newL_f, newL_t, addOp_ii, subOp_ii, negOp_i, ltOp_ii, leOp_ii, gtOp_ii, geOp_ii, eqOp_ii, neOp_ii, eqOp_ss, neOp_ss, intA_i, intA_b, maxA_ii, minA_ii, lenA_lst, lenA_tup, lenA_slst, listA_lst, listA_tup, listA_slst, tupleA_lst, tupleA_tup, List.length_map, List.length_cons, List.length_nil, Bool.not_true, Bool.not_false, Bool.false_eq_true, if_true, if_false, Nat.zero_add, Nat.reduceAdd, e1, e2, l2']
/-! the law's own search -/
theorem linv_loop (hp : 0 < p) {all : List A} : ∀ (xs : List Int) (x2 x3 : Option A), (∀ x ∈ xs, x.natAbs < 2 ^ 200) → q.natAbs < 2 ^ 200 →
    (∃ e, forL none all (gN 3) L1__law_inverse (xs.map A.int) [some (.int p), some (.int q), x2, x3] st = .nx e st) ∨ ∃ x, p ∣ x * q - 1 ∧ forL none all (gN 3) L1__law_inverse (xs.map A.int) [some (.int p), some (.int q), x2, x3] st = .rt (.int (x.fmod p)) st
  | [], x2, x3, _, _ => .inl ⟨_, by rw [List.map_nil, forL, if_pos (show srcOk none all st from trivial)]⟩
  | x :: xs, x2, x3, hb, hq => by
    have hpn : ¬ p = 0 := by omega
    have mm : CMulW x q := mulW (hb x (by simp)) hq (by omega) (by omega) (by omega)
    have step : forL none all (gN 3) L1__law_inverse ((x :: xs).map A.int) [some (.int p), some (.int q), x2, x3] st = (match L1__law_inverse [some (.int p), some (.int q), x2, some (.int x)] st with
      | .nx e s => forL none all (gN 3) L1__law_inverse (xs.map A.int) e s
      | .ct e s => forL none all (gN 3) L1__law_inverse (xs.map A.int) e s
      | .bk e s => .nx e s
      | r => r) := by
      rw [List.map_cons, forL, if_pos (show srcOk none all st from trivial)]; rfl
    rw [step]
    by_cases h : (x * q - 1).fmod p = 0
    · have hb : L1__law_inverse [some (.int p), some (.int q), x2, some (.int x)] st = .rt (.int (x.fmod p)) st := by
        simp only [L1__law_inverse, sSeq_ap, sAsg_ap, sEx_ap, sRet_ap, sRetN_ap, sNil_ap, sIf_ap, sFor_ap, sSub_ap, sRaise_ap, mkWhat_ap, eVar_ap, eC_ap, eBin_ap, eUn_ap, eTup_ap, eLst_ap, eCB_ap, eCall_ap, eM_ap, eIf_ap, eAndV_ap, eOrV_ap, eNotV_ap, eChain_ap, eSl_ap, oNone_ap, oSome_ap, eXf_ap, aNil_ap, aCons_ap, tOf_ap, tTru_ap, tAndM_ap, tOrM_ap, tNotM_ap, tYesM_ap, asB_bl, truA_b, Res.bind_ok, Res.bind_exc, Res.toS_ok, Res.toS_exc, Res.of_some, SRes.bind_nx, SRes.bind_rt, SRes.bind_exc, SRes.bind_ct, SRes.bind_bk, gN_ap, List.getElem?_cons_zero, List.getElem?_cons_succ, List.set_cons_zero, List.set_cons_succ, one1_ap, two2_ap, newL_f, newL_t, addOp_ii, subOp_ii, negOp_i, ltOp_ii, leOp_ii, gtOp_ii, geOp_ii, eqOp_ii, neOp_ii, eqOp_ss, neOp_ss, intA_i, intA_b, maxA_ii, minA_ii, lenA_lst, lenA_tup, lenA_slst, listA_lst, listA_tup, listA_slst, tupleA_lst, tupleA_tup, List.length_map, List.length_cons, List.length_nil, Bool.not_true, Bool.not_false, Bool.false_eq_true, if_true, if_false, Nat.zero_add, Nat.reduceAdd, mulOp_ii mm, modOp_ii hpn, decide_eq_true h]
      rw [hb]
      exact .inr ⟨x, (fm_zero hp).mp h, rfl⟩
    · have hb2 : L1__law_inverse [some (.int p), some (.int q), x2, some (.int x)] st = .nx [some (.int p), some (.int q), x2, some (.int x)] st := by
        simp only [L1__law_inverse, sSeq_ap, sAsg_ap, sEx_ap, sRet_ap, sRetN_ap, sNil_ap, sIf_ap, sFor_ap, sSub_ap, sRaise_ap, mkWhat_ap, eVar_ap, eC_ap, eBin_ap, eUn_ap, eTup_ap, eLst_ap, eCB_ap, eCall_ap, eM_ap, eIf_ap, eAndV_ap, eOrV_ap, eNotV_ap, eChain_ap, eSl_ap, oNone_ap, oSome_ap, eXf_ap, aNil_ap, aCons_ap, tOf_ap, tTru_ap, tAndM_ap, tOrM_ap, tNotM_ap, tYesM_ap, asB_bl, truA_b, Res.bind_ok, Res.bind_exc, Res.toS_ok, Res.toS_exc, Res.of_some, SRes.bind_nx, SRes.bind_rt, SRes.bind_exc, SRes.bind_ct, SRes.bind_bk, gN_ap, List.getElem?_cons_zero, List.getElem?_cons_succ, List.set_cons_zero, List.set_cons_succ, one1_ap, two2_ap, newL_f, newL_t, addOp_ii, subOp_ii, negOp_i, ltOp_ii, leOp_ii, gtOp_ii, geOp_ii, eqOp_ii, neOp_ii, eqOp_ss, neOp_ss, intA_i, intA_b, maxA_ii, minA_ii, lenA_lst, lenA_tup, lenA_slst, listA_lst, listA_tup, listA_slst, tupleA_lst, tupleA_tup, List.length_map, List.length_cons, List.length_nil, Bool.not_true, Bool.not_false, Bool.false_eq_true, if_true, if_false, Nat.zero_add, Nat.reduceAdd, mulOp_ii mm, modOp_ii hpn, decide_eq_false h]
      rw [hb2]
      exact linv_loop hp xs x2 _ (fun y hy => hb y (by simp [hy])) hq
theorem linv_sp (hp : 0 < p) (xs : List Int) (hb : ∀ x ∈ xs, x.natAbs < 2 ^ 200) (hq : q.natAbs < 2 ^ 200) : M__law_inverse [.int p, .int q, lI xs] st = .ok .non st ∨ ∃ x, p ∣ x * q - 1 ∧ M__law_inverse [.int p, .int q, lI xs] st = .ok (.int (x.fmod p)) st := by
  rcases linv_loop (st := st) hp (all := xs.map A.int) xs (some (lI xs)) none hb hq with ⟨e, h⟩ | ⟨x, hx, h⟩
  · left
    refine fnM_rt rfl (a := .non) (st' := st) ?_ (fin_pure0 (by simp [A.bel]) (by intro c h; cases h))
    show B__law_inverse [some (.int p), some (.int q), some (lI xs), none] st = _
    simp only [B__law_inverse, sSeq_ap, sAsg_ap, sEx_ap, sRet_ap, sRetN_ap, sNil_ap, sIf_ap, sFor_ap, sSub_ap, sRaise_ap, mkWhat_ap, eVar_ap, eC_ap, eBin_ap, eUn_ap, eTup_ap, eLst_ap, eCB_ap, eCall_ap, eM_ap, eIf_ap, eAndV_ap, eOrV_ap, eNotV_ap, eChain_ap, eSl_ap, oNone_ap, oSome_ap, eXf_ap, aNil_ap, aCons_ap, tOf_ap, tTru_ap, tAndM_ap, tOrM_ap, tNotM_ap, tYesM_ap, asB_bl, truA_b, Res.bind_ok, Res.bind_exc, Res.toS_ok, Res.toS_exc, Res.of_some, SRes.bind_nx, SRes.bind_rt, SRes.bind_exc, SRes.bind_ct, SRes.bind_bk, gN_ap, List.getElem?_cons_zero, List.getElem?_cons_succ, List.set_cons_zero, List.set_cons_succ, one1_ap, two2_ap, newL_f, newL_t, addOp_ii, subOp_ii, negOp_i, ltOp_ii, leOp_ii, gtOp_ii, geOp_ii, eqOp_ii, neOp_ii, eqOp_ss, neOp_ss, intA_i, intA_b, maxA_ii, minA_ii, lenA_lst, lenA_tup, lenA_slst, listA_lst, listA_tup, listA_slst, tupleA_lst, tupleA_tup, List.length_map, List.length_cons, List.length_nil, Bool.not_true, Bool.not_false, Bool.false_eq_true, if_true, if_false, Nat.zero_add, Nat.reduceAdd, mSeq_ap, seqR_lst, srcOf_lst, h]
  · right
    refine ⟨x, hx, fnM_rt rfl (a := .int (x.fmod p)) (st' := st) ?_ fin_int0⟩
    show B__law_inverse [some (.int p), some (.int q), some (lI xs), none] st = _
    simp only [B__law_inverse, sSeq_ap, sAsg_ap, sEx_ap, sRet_ap, sRetN_ap, sNil_ap, sIf_ap, sFor_ap, sSub_ap, sRaise_ap, mkWhat_ap, eVar_ap, eC_ap, eBin_ap, eUn_ap, eTup_ap, eLst_ap, eCB_ap, eCall_ap, eM_ap, eIf_ap, eAndV_ap, eOrV_ap, eNotV_ap, eChain_ap, eSl_ap, oNone_ap, oSome_ap, eXf_ap, aNil_ap, aCons_ap, tOf_ap, tTru_ap, tAndM_ap, tOrM_ap, tNotM_ap, tYesM_ap, asB_bl, truA_b, Res.bind_ok, Res.bind_exc, Res.toS_ok, Res.toS_exc, Res.of_some, SRes.bind_nx, SRes.bind_rt, SRes.bind_exc, SRes.bind_ct, SRes.bind_bk, gN_ap, List.getElem?_cons_zero, List.getElem?_cons_succ, List.set_cons_zero, List.set_cons_succ, one1_ap, two2_ap, newL_f, newL_t, addOp_ii, subOp_ii, negOp_i, ltOp_ii, leOp_ii, gtOp_ii, geOp_ii, eqOp_ii, neOp_ii, eqOp_ss, neOp_ss, intA_i, intA_b, maxA_ii, minA_ii, lenA_lst, lenA_tup, lenA_slst, listA_lst, listA_tup, listA_slst, tupleA_lst, tupleA_tup, List.length_map, List.length_cons, List.length_nil, Bool.not_true, Bool.not_false, Bool.false_eq_true, if_true, if_false, Nat.zero_add, Nat.reduceAdd, mSeq_ap, seqR_lst, srcOf_lst, h]
end
end Gk20

set_option Elab.async false
set_option linter.all false
set_option maxRecDepth 100000
set_option maxHeartbeats 4000000
set_option exponentiation.threshold 3000
namespace Gk20
open PySem PySem.Spec L2 SL F20
open PyProof.Rows hiding St
theorem g5 {env : AEnv} {a b c d e : A} {i j k l m : Nat} : gT 5 (gsCons (gN i) (gsCons (gN j) (gsCons (gN k) (gsCons (gN l) (gsCons (gN m) gsNil))))) (.tup [a, b, c, d, e]) env = some (((((env.set i (some a)).set j (some b)).set k (some c)).set l (some d)).set m (some e)) := rfl
theorem hmn {i j : Int} : (if j < i then j else i) = mn i j := rfl
theorem pd_bb {b c : Bool} : PD 1 (.lst [.bl b, .bl c]) := .lst 0 _ (by simp) fun x hx => by
  simp only [List.mem_cons, List.not_mem_nil, or_false] at hx
  rcases hx with rfl | rfl
  · exact .bl 0 _
  · exact .bl 0 _
section
variable {st : Store} {p q x : Int}
theorem dvd_alg {p a b c : Int} (h : p ∣ a) (e : b = a + p * c) : p ∣ b := by rw [e]; exact Int.dvd_add h (Int.dvd_mul_right _ _)
structure Nb (p q I L M : Int) : Prop where
  p1 : 1 ≤ p
  pB : p < 2 ^ 190
  qB : q.natAbs < 2 ^ 190
  I0 : 0 ≤ I ∧ I < p
  iv : p ∣ I * q - 1
  vi : p ∣ q * I - 1
  L1 : ln p q I = L
  L2 : ln p I q = L
  L3 : mn (q.fmod p) I = L
  M1 : mn ((-q).fmod p) ((-I).fmod p) = M
theorem Nb.oth {p q I L M : Int} (h : Nb p q I L M) : ∀ o ∈ [q + p, q - 3 * p, I, I - p], ∃ y, p ∣ y * o - 1 ∧ ln p o y = L := by
  have hp : 0 < p := by have := h.p1; omega
  intro o ho
  simp only [List.mem_cons, List.not_mem_nil, or_false] at ho
  rcases ho with rfl | rfl | rfl | rfl
  · refine ⟨I, dvd_alg (c := I) h.iv (by rw [Int.mul_add, Int.mul_comm p I]; omega), ?_⟩
    rw [← h.L1]
    unfold ln
    rw [fm_congr hp (show p ∣ (q + p) - q from ⟨1, by omega⟩)]
  · refine ⟨I, dvd_alg (c := -3 * I) h.iv (by
      rw [Int.mul_sub, show I * (3 * p) = p * (3 * I) by rw [Int.mul_left_comm, Int.mul_comm I p, Int.mul_left_comm], show p * (-3 * I) = -(p * (3 * I)) by rw [Int.neg_mul, Int.mul_neg]]; omega), ?_⟩
    rw [← h.L1]
    unfold ln
    rw [fm_congr hp (show p ∣ (q - 3 * p) - q from ⟨-3, by omega⟩)]
  · exact ⟨q, h.vi, h.L2⟩
  · refine ⟨q, dvd_alg (c := -q) h.vi (by rw [Int.mul_sub, Int.mul_neg, Int.mul_comm q p]; omega), ?_⟩
    rw [← h.L2]
    unfold ln
    rw [fm_congr hp (show p ∣ (I - p) - I from ⟨-1, by omega⟩)]
theorem Nb.mir {p q I L M : Int} (h : Nb p q I L M) : ∀ o ∈ [-q, p - I], ∃ y, p ∣ y * o - 1 ∧ ln p o y = M := by
  have hp : 0 < p := by have := h.p1; omega
  intro o ho
  simp only [List.mem_cons, List.not_mem_nil, or_false] at ho
  rcases ho with rfl | rfl
  · exact ⟨-I, by rw [Int.neg_mul_neg]; exact h.iv, h.M1⟩
  · refine ⟨-q, dvd_alg (c := -q) h.vi (by rw [Int.mul_sub, Int.neg_mul, Int.neg_mul, Int.mul_neg, Int.mul_comm q p]; omega), ?_⟩
    rw [← h.M1]
    unfold ln
    rw [fm_congr hp (show p ∣ (p - I) - -I from ⟨1, by omega⟩), mn_comm]
theorem Nb.amp {p q I L M : Int} (h : Nb p q I L M) (hc : (q * q + 1).fmod p = 0 ∨ ((q * q - 1).fmod p = 0 ∧ (2 * q).fmod p = 0)) : M = L := by
  have hp : 0 < p := by have := h.p1; omega
  rw [← h.L3, ← h.M1]
  rcases hc with hc | ⟨hc1, hc2⟩
  · have h1 := (fm_zero hp).mp hc
    have h2 : p ∣ -q * q - 1 := by
      have := Int.dvd_neg.mpr h1
      rwa [show -(q * q + 1) = -q * q - 1 by rw [Int.neg_mul]; omega] at this
    have h3 := inv_uniq h.iv h2
    have h4 : I = (-q).fmod p := by rw [← fm_congr hp h3, fm_self h.I0]
    have h5 : (-I).fmod p = q.fmod p := fm_congr hp (by
      have := Int.dvd_neg.mpr h3
      rwa [show -(I - -q) = -I - q by omega] at this)
    rw [h5, ← h4, mn_comm]
  · have h1 := (fm_zero hp).mp hc1
    have h2 := (fm_zero hp).mp hc2
    have h3 := inv_uniq h.iv h1
    have h4 : I = q.fmod p := by rw [← fm_congr hp h3, fm_self h.I0]
    have h5 : (-q).fmod p = q.fmod p := fm_congr hp (by
      have := Int.dvd_neg.mpr h2
      rwa [show -(2 * q) = -q - q by omega] at this)
    have h6 : (-I).fmod p = q.fmod p := by
      rw [← h5]
      exact fm_congr hp (by
        have := Int.dvd_neg.mpr h3
        rwa [show -(I - q) = -I - -q by omega] at this)
    rw [h5, h6, ← h4]
theorem oth_loop {I L M : Int} (h : Nb p q I L M) {x0 x1 x2 x3 x4 x5 x8 x9 x10 x12 x13 x14 x15 x16 x17 x18 : Option A} : ∃ y11, forL none ([q + p, q - 3 * p, I, I - p].map A.int) (gN 11) L1__law_numbers_right ([q + p, q - 3 * p, I, I - p].map A.int) [x0, x1, x2, x3, x4, x5, some (.int p), some (.int q), x8, x9, x10, none, x12, x13, x14, x15, x16, x17, x18] st = .nx [x0, x1, x2, x3, x4, x5, some (.int p), some (.int q), x8, x9, x10, y11, x12, x13, x14, x15, x16, x17, x18] st := by
  have hz := sz
  have l2' : (2 : Nat) ≤ sizeLine := by omega
  obtain ⟨e, s, r1, y11, rfl, rfl⟩ := for_inv (all := [q + p, q - 3 * p, I, I - p].map A.int) (g := gN 11) (body := L1__law_numbers_right) (xs := [q + p, q - 3 * p, I, I - p].map A.int)
    (fun i e s => ∃ y11, e = [x0, x1, x2, x3, x4, x5, some (.int p), some (.int q), x8, x9, x10, y11, x12, x13, x14, x15, x16, x17, x18] ∧ s = st)
    (env := [x0, x1, x2, x3, x4, x5, some (.int p), some (.int q), x8, x9, x10, none, x12, x13, x14, x15, x16, x17, x18]) (st := st) ⟨none, rfl, rfl⟩ (by
      rintro i a e s hx ⟨y11, rfl, rfl⟩
      rw [List.getElem?_map] at hx
      cases hp : [q + p, q - 3 * p, I, I - p][i]? with
      | none => rw [hp] at hx; cases hx
      | some o =>
        rw [hp] at hx; cases hx
        obtain ⟨y, hy, hL⟩ := h.oth o (List.mem_of_getElem? hp)
        have hpB : p < 2 ^ 200 := by have := h.pB; omega
        have b := @both_sp s p q I p o y h.p1 hpB h.iv h.p1 hpB hy
        have e1 : (decide (p = p) && decide (ln p q I = ln p o y)) = true := by rw [h.L1, hL]; simp
        rw [e1] at b
        obtain ⟨r, g1, g2, g3, -, -⟩ := plainQ (st := s) (@pd_bb true true) (by omega)
        refine ⟨_, rfl, ?_⟩
        simp only [L1__law_numbers_right, sSeq_ap, sAsg_ap, sEx_ap, sRet_ap, sRetN_ap, sNil_ap, sIf_ap, sFor_ap, sSub_ap, sRaise_ap, mkWhat_ap, eVar_ap, eC_ap, eBin_ap, eUn_ap, eTup_ap, eLst_ap, eCB_ap, eCall_ap, eM_ap, eIf_ap, eAndV_ap, eOrV_ap, eNotV_ap, eChain_ap, eSl_ap, oNone_ap, oSome_ap, eXf_ap, aNil_ap, aCons_ap, tOf_ap, tTru_ap, tAndM_ap, tOrM_ap, tNotM_ap, tYesM_ap, asB_bl, truA_b, Res.bind_ok, Res.bind_exc, Res.toS_ok, Res.toS_exc, Res.of_some, SRes.bind_nx, SRes.bind_rt, SRes.bind_exc, SRes.bind_ct, SRes.bind_bk, gN_ap, List.getElem?_cons_zero, List.getElem?_cons_succ, List.set_cons_zero, List.set_cons_succ, one1_ap, two2_ap, newL_f, newL_t, addOp_ii, subOp_ii, negOp_i, ltOp_ii, leOp_ii, gtOp_ii, geOp_ii, eqOp_ii, neOp_ii, eqOp_ss, neOp_ss, intA_i, intA_b, maxA_ii, minA_ii, lenA_lst, lenA_tup, lenA_slst, listA_lst, listA_tup, listA_slst, tupleA_lst, tupleA_tup, List.length_map, List.length_cons, List.length_nil, Bool.not_true, Bool.not_false, Bool.false_eq_true, if_true, if_false, Nat.zero_add, Nat.reduceAdd, l2', b, g1, g3, NxP_nx]
        exact ⟨_, rfl, trivial⟩)
  exact ⟨y11, r1⟩
theorem mir_loop {I L M : Int} (h : Nb p q I L M) {x0 x1 x2 x3 x4 x5 x8 x9 x11 x13 x14 x15 x16 x17 x18 : Option A} : ∃ y11 y18, forL none ([-q, p - I].map A.int) (gN 11) L2__law_numbers_right ([-q, p - I].map A.int) [x0, x1, x2, x3, x4, x5, some (.int p), some (.int q), x8, x9, some (.int L), x11, some (.int M), x13, x14, x15, x16, x17, x18] st = .nx [x0, x1, x2, x3, x4, x5, some (.int p), some (.int q), x8, x9, some (.int L), y11, some (.int M), x13, x14, x15, x16, x17, y18] st := by
  have hz := sz
  have l2' : (2 : Nat) ≤ sizeLine := by omega
  obtain ⟨e, s, r1, y11, y18, rfl, rfl⟩ := for_inv (all := [-q, p - I].map A.int) (g := gN 11) (body := L2__law_numbers_right) (xs := [-q, p - I].map A.int)
    (fun i e s => ∃ y11 y18, e = [x0, x1, x2, x3, x4, x5, some (.int p), some (.int q), x8, x9, some (.int L), y11, some (.int M), x13, x14, x15, x16, x17, y18] ∧ s = st)
    (env := [x0, x1, x2, x3, x4, x5, some (.int p), some (.int q), x8, x9, some (.int L), x11, some (.int M), x13, x14, x15, x16, x17, x18]) (st := st) ⟨_, _, rfl, rfl⟩ (by
      rintro i a e s hx ⟨y11, y18, rfl, rfl⟩
      rw [List.getElem?_map] at hx
      cases hp : [-q, p - I][i]? with
      | none => rw [hp] at hx; cases hx
      | some o =>
        rw [hp] at hx; cases hx
        obtain ⟨y, hy, hM⟩ := h.mir o (List.mem_of_getElem? hp)
        have hpB : p < 2 ^ 200 := by have := h.pB; omega
        have b := @both_sp s p q I p o y h.p1 hpB h.iv h.p1 hpB hy
        have e1 : (decide (p = p) && decide (ln p q I = ln p o y)) = decide (M = L) := by
          rw [h.L1, hM, decide_eq_true rfl, Bool.true_and]; exact decide_eq_decide.mpr eq_comm
        rw [e1] at b
        obtain ⟨r, g1, g2, g3, -, -⟩ := plainQ (st := s) (@pd_bb (decide (M = L)) (decide (M = L))) (by omega)
        refine ⟨_, rfl, ?_⟩
        simp only [L2__law_numbers_right, sSeq_ap, sAsg_ap, sEx_ap, sRet_ap, sRetN_ap, sNil_ap, sIf_ap, sFor_ap, sSub_ap, sRaise_ap, mkWhat_ap, eVar_ap, eC_ap, eBin_ap, eUn_ap, eTup_ap, eLst_ap, eCB_ap, eCall_ap, eM_ap, eIf_ap, eAndV_ap, eOrV_ap, eNotV_ap, eChain_ap, eSl_ap, oNone_ap, oSome_ap, eXf_ap, aNil_ap, aCons_ap, tOf_ap, tTru_ap, tAndM_ap, tOrM_ap, tNotM_ap, tYesM_ap, asB_bl, truA_b, Res.bind_ok, Res.bind_exc, Res.toS_ok, Res.toS_exc, Res.of_some, SRes.bind_nx, SRes.bind_rt, SRes.bind_exc, SRes.bind_ct, SRes.bind_bk, gN_ap, List.getElem?_cons_zero, List.getElem?_cons_succ, List.set_cons_zero, List.set_cons_succ, one1_ap, two2_ap, newL_f, newL_t, addOp_ii, subOp_ii, negOp_i, ltOp_ii, leOp_ii, gtOp_ii, geOp_ii, eqOp_ii, neOp_ii, eqOp_ss, neOp_ss, intA_i, intA_b, maxA_ii, minA_ii, lenA_lst, lenA_tup, lenA_slst, listA_lst, listA_tup, listA_slst, tupleA_lst, tupleA_tup, List.length_map, List.length_cons, List.length_nil, Bool.not_true, Bool.not_false, Bool.false_eq_true, if_true, if_false, Nat.zero_add, Nat.reduceAdd, l2', b, g1, g3, NxP_nx]
        exact ⟨_, _, rfl, trivial⟩)
  exact ⟨y11, y18, r1⟩
theorem numbers_sp {c : Nat} {ds : List Int} (hc : c < st.length) : ∃ ds', M__law_numbers_right [.cell c] (st.set c (li ds)) = .ok (.bl true) (st.set c (li ds')) := by
  have hz := sz
  have l2' : (2 : Nat) ≤ sizeLine := by omega
  have l4' : (4 : Nat) ≤ sizeLine := by omega
  have l5' : (5 : Nat) ≤ sizeLine := by omega
  obtain ⟨n, d, m, e, k, ds1, Q, t1⟩ := quo_sp (st := st) (ds := ds) hc
  obtain ⟨d2, ds2, p1, p2, t2⟩ := tk0 (ds := ds1) (n := 4) hc (by omega)
  obtain ⟨d3, ds3, p3, p4, t3⟩ := tk0 (ds := ds2) (n := 5) hc (by omega)
  obtain ⟨r, s, t, u, k2, ds4, Q2, t4⟩ := quo_sp (st := st) (ds := ds3) hc
  obtain ⟨hn, hd, hm, he, -⟩ := Q
  obtain ⟨q0, hq0, eq⟩ : ∃ q0 : Int, q0.natAbs ≤ 2 ^ 182 ∧ ∀ s, ixOp (.lst [.int d, .int m, .int (-d), .int (-m)]) (.int d2) s = some (.int q0, s) := by
    rcases (by omega : d2 = 0 ∨ d2 = 1 ∨ d2 = 2 ∨ d2 = 3) with rfl | rfl | rfl | rfl
    · exact ⟨_, by omega, fun s => ixs (by omega) rfl⟩
    · exact ⟨_, by omega, fun s => ixs (by omega) rfl⟩
    · exact ⟨_, by omega, fun s => ixs (by omega) rfl⟩
    · exact ⟨_, by omega, fun s => ixs (by omega) rfl⟩
  have m1 : CMulW n (d3 - 2) := mulW (i := 200) (j := 3) (by omega) (by omega) (by omega) (by omega) (by omega)
  have hqB : (q0 + n * (d3 - 2)).natAbs < 2 ^ 190 := by
    rcases (by omega : d3 - 2 = -2 ∨ d3 - 2 = -1 ∨ d3 - 2 = 0 ∨ d3 - 2 = 1 ∨ d3 - 2 = 2) with h | h | h | h | h <;> rw [h] <;> omega
  generalize hq : q0 + n * (d3 - 2) = q at hqB
  have fin : ∀ ds' : List Int, B__law_numbers_right [some (.cell c), none, none, none, none, none, none, none, none, none, none, none, none, none, none, none, none, none, none] (st.set c (li ds)) = .rt (.bl true) (st.set c (li ds')) → ∃ ds', M__law_numbers_right [.cell c] (st.set c (li ds)) = .ok (.bl true) (st.set c (li ds')) := fun ds' hb =>
    ⟨ds', fnM_rt rfl hb (fin_draw0 (by simp [A.bel]) (by intro c h; cases h))⟩
  have five : (.lst [.int d, .int m, .int (-d), .int (-m), .int 1] : A) = lI [d, m, -d, -m, 1] := rfl
  rcases @linv_sp (st.set c (li ds3)) n q (by omega) [d, m, -d, -m, 1] (by
      intro x hx
      simp only [List.mem_cons, List.not_mem_nil, or_false] at hx
      rcases hx with rfl | rfl | rfl | rfl | rfl <;> omega) (by omega) with iN | ⟨x, hx, iS⟩
  · refine fin ds3 ?_
    have isN : isNOp false .non .non (st.set c (li ds3)) = some (.bl true, st.set c (li ds3)) := rfl
    simp only [B__law_numbers_right, sSeq_ap, sAsg_ap, sEx_ap, sRet_ap, sRetN_ap, sNil_ap, sIf_ap, sFor_ap, sSub_ap, sRaise_ap, mkWhat_ap, eVar_ap, eC_ap, eBin_ap, eUn_ap, eTup_ap, eLst_ap, eCB_ap, eCall_ap, eM_ap, eIf_ap, eAndV_ap, eOrV_ap, eNotV_ap, eChain_ap, eSl_ap, oNone_ap, oSome_ap, eXf_ap, aNil_ap, aCons_ap, tOf_ap, tTru_ap, tAndM_ap, tOrM_ap, tNotM_ap, tYesM_ap, asB_bl, truA_b, Res.bind_ok, Res.bind_exc, Res.toS_ok, Res.toS_exc, Res.of_some, SRes.bind_nx, SRes.bind_rt, SRes.bind_exc, SRes.bind_ct, SRes.bind_bk, gN_ap, List.getElem?_cons_zero, List.getElem?_cons_succ, List.set_cons_zero, List.set_cons_succ, one1_ap, two2_ap, newL_f, newL_t, addOp_ii, subOp_ii, negOp_i, ltOp_ii, leOp_ii, gtOp_ii, geOp_ii, eqOp_ii, neOp_ii, eqOp_ss, neOp_ss, intA_i, intA_b, maxA_ii, minA_ii, lenA_lst, lenA_tup, lenA_slst, listA_lst, listA_tup, listA_slst, tupleA_lst, tupleA_tup, List.length_map, List.length_cons, List.length_nil, Bool.not_true, Bool.not_false, Bool.false_eq_true, if_true, if_false, Nat.zero_add, Nat.reduceAdd, t1, g5, l4', t2, eq, t3, mulOp_ii m1, hq, l5', five, iN, isN]
  · refine fin ds4 ?_
    have hp : 0 < n := by omega
    have hnn : ¬ n = 0 := by omega
    have hI := fm_nn (p := x) hp
    have h1 : n ∣ x.fmod n * q - 1 := by
      have a1 := dvd_fm (a := x) hp
      have e1 : x.fmod n * q - 1 = (x * q - 1) - (x - x.fmod n) * q := by rw [Int.sub_mul]; omega
      rw [e1]
      exact Int.dvd_sub hx (Int.dvd_trans a1 (Int.dvd_mul_right _ _))
    generalize hIx : x.fmod n = I at iS hI h1
    have h2 : n ∣ q * I - 1 := by rw [Int.mul_comm]; exact h1
    obtain ⟨L, hL⟩ : ∃ L, mn (q.fmod n) I = L := ⟨_, rfl⟩
    obtain ⟨M, hM⟩ : ∃ M, mn ((-q).fmod n) ((-I).fmod n) = M := ⟨_, rfl⟩
    have N : Nb n q I L M := ⟨by omega, by omega, by omega, hI, h1, h2, by unfold ln; rw [fm_self hI]; exact hL, by unfold ln; rw [fm_self hI, mn_comm]; exact hL, hL, hM⟩
    have hB : n < 2 ^ 200 := by omega
    have isS : isNOp false (.int I) .non (st.set c (li ds3)) = some (.bl false, st.set c (li ds3)) := rfl
    have le1 := fun st => @least_sp st n q I (by omega) hB h1
    have le2 := fun st => @least_sp st n I q (by omega) hB h2
    rw [N.L1] at le1
    rw [N.L2] at le2
    obtain ⟨r1, a1, a2, a3, -, -⟩ := plainQ (st := st.set c (li ds3)) (PD.int 0 L) (by omega)
    have m3 : CMulW 3 n := mulW (i := 3) (j := 200) (by decide) (by omega) (by omega) (by omega) (by omega)
    obtain ⟨y11, lp1⟩ := oth_loop (st := st.set c (li ds3)) N (x0 := some (.cell c)) (x1 := some (.int n)) (x2 := some (.int d)) (x3 := some (.int m)) (x4 := some (.int e)) (x5 := some (.int k)) (x8 := some (lI [d, m, -d, -m, 1])) (x9 := some (.int I)) (x10 := some (.int L)) (x12 := none) (x13 := none) (x14 := none) (x15 := none) (x16 := none) (x17 := none) (x18 := none)
    have four : ([.int (q + n), .int (q - 3 * n), .int I, .int (I - n)] : List A) = [q + n, q - 3 * n, I, I - n].map A.int := rfl
    obtain ⟨z11, z18, lp2⟩ := mir_loop (st := st.set c (li ds3)) N (x0 := some (.cell c)) (x1 := some (.int n)) (x2 := some (.int d)) (x3 := some (.int m)) (x4 := some (.int e)) (x5 := some (.int k)) (x8 := some (lI [d, m, -d, -m, 1])) (x9 := some (.int I)) (x11 := y11) (x13 := none) (x14 := none) (x15 := none) (x16 := none) (x17 := none) (x18 := none)
    have two : ([.int (-q), .int (n - I)] : List A) = [-q, n - I].map A.int := rfl
    have mq : CMulW q q := mulW hqB hqB (by omega) (by omega) (by omega)
    have m2q : CMulW 2 q := mulW (i := 3) (by decide) hqB (by omega) (by omega) (by omega)
    have cond : ∀ (x0 x1 x2 x3 x4 x5 x8 x9 x11 x13 x14 x15 x16 x17 x18 : Option A) (st : Store), tAndM (tOrM (tOf (eBin eqOp (eBin modOp (eCB (one1 intA) (aCons (eBin (addOp false) (eBin (mulOp false) (eVar 7) (eVar 7)) (eC (.int 1))) aNil)) (eVar 6)) (eC (.int 0)))) (tAndM (tOf (eBin eqOp (eBin modOp (eCB (one1 intA) (aCons (eBin subOp (eBin (mulOp false) (eVar 7) (eVar 7)) (eC (.int 1))) aNil)) (eVar 6)) (eC (.int 0)))) (tOf (eBin eqOp (eBin modOp (eCB (one1 intA) (aCons (eBin (mulOp false) (eC (.int 2)) (eVar 7)) aNil)) (eVar 6)) (eC (.int 0)))))) (tOf (eBin neOp (eVar 12) (eVar 10)))
        [x0, x1, x2, x3, x4, x5, some (.int n), some (.int q), x8, x9, some (.int L), x11, some (.int M), x13, x14, x15, x16, x17, x18] st = .ok false st := by
      intro x0 x1 x2 x3 x4 x5 x8 x9 x11 x13 x14 x15 x16 x17 x18 st
      by_cases c1 : (q * q + 1).fmod n = 0
      · have hml := N.amp (.inl c1)
        simp only [sSeq_ap, sAsg_ap, sEx_ap, sRet_ap, sRetN_ap, sNil_ap, sIf_ap, sFor_ap, sSub_ap, sRaise_ap, mkWhat_ap, eVar_ap, eC_ap, eBin_ap, eUn_ap, eTup_ap, eLst_ap, eCB_ap, eCall_ap, eM_ap, eIf_ap, eAndV_ap, eOrV_ap, eNotV_ap, eChain_ap, eSl_ap, oNone_ap, oSome_ap, eXf_ap, aNil_ap, aCons_ap, tOf_ap, tTru_ap, tAndM_ap, tOrM_ap, tNotM_ap, tYesM_ap, asB_bl, truA_b, Res.bind_ok, Res.bind_exc, Res.toS_ok, Res.toS_exc, Res.of_some, SRes.bind_nx, SRes.bind_rt, SRes.bind_exc, SRes.bind_ct, SRes.bind_bk, gN_ap, List.getElem?_cons_zero, List.getElem?_cons_succ, List.set_cons_zero, List.set_cons_succ, one1_ap, two2_ap, newL_f, newL_t, addOp_ii, subOp_ii, negOp_i, ltOp_ii, leOp_ii, gtOp_ii, geOp_ii, eqOp_ii, neOp_ii, eqOp_ss, neOp_ss, intA_i, intA_b, maxA_ii, minA_ii, lenA_lst, lenA_tup, lenA_slst, listA_lst, listA_tup, listA_slst, tupleA_lst, tupleA_tup, List.length_map, List.length_cons, List.length_nil, Bool.not_true, Bool.not_false, Bool.false_eq_true, if_true, if_false, Nat.zero_add, Nat.reduceAdd, mulOp_ii mq, modOp_ii hnn, decide_eq_true c1, decide_eq_true hml]
      · by_cases c2 : (q * q - 1).fmod n = 0
        · by_cases c3 : (2 * q).fmod n = 0
          · have hml := N.amp (.inr ⟨c2, c3⟩)
            simp only [sSeq_ap, sAsg_ap, sEx_ap, sRet_ap, sRetN_ap, sNil_ap, sIf_ap, sFor_ap, sSub_ap, sRaise_ap, mkWhat_ap, eVar_ap, eC_ap, eBin_ap, eUn_ap, eTup_ap, eLst_ap, eCB_ap, eCall_ap, eM_ap, eIf_ap, eAndV_ap, eOrV_ap, eNotV_ap, eChain_ap, eSl_ap, oNone_ap, oSome_ap, eXf_ap, aNil_ap, aCons_ap, tOf_ap, tTru_ap, tAndM_ap, tOrM_ap, tNotM_ap, tYesM_ap, asB_bl, truA_b, Res.bind_ok, Res.bind_exc, Res.toS_ok, Res.toS_exc, Res.of_some, SRes.bind_nx, SRes.bind_rt, SRes.bind_exc, SRes.bind_ct, SRes.bind_bk, gN_ap, List.getElem?_cons_zero, List.getElem?_cons_succ, List.set_cons_zero, List.set_cons_succ, one1_ap, two2_ap, newL_f, newL_t, addOp_ii, subOp_ii, negOp_i, ltOp_ii, leOp_ii, gtOp_ii, geOp_ii, eqOp_ii, neOp_ii, eqOp_ss, neOp_ss, intA_i, intA_b, maxA_ii, minA_ii, lenA_lst, lenA_tup, lenA_slst, listA_lst, listA_tup, listA_slst, tupleA_lst, tupleA_tup, List.length_map, List.length_cons, List.length_nil, Bool.not_true, Bool.not_false, Bool.false_eq_true, if_true, if_false, Nat.zero_add, Nat.reduceAdd, mulOp_ii mq, mulOp_ii m2q, modOp_ii hnn, decide_eq_false c1, decide_eq_true c2, decide_eq_true c3, decide_eq_true hml]
          · simp only [sSeq_ap, sAsg_ap, sEx_ap, sRet_ap, sRetN_ap, sNil_ap, sIf_ap, sFor_ap, sSub_ap, sRaise_ap, mkWhat_ap, eVar_ap, eC_ap, eBin_ap, eUn_ap, eTup_ap, eLst_ap, eCB_ap, eCall_ap, eM_ap, eIf_ap, eAndV_ap, eOrV_ap, eNotV_ap, eChain_ap, eSl_ap, oNone_ap, oSome_ap, eXf_ap, aNil_ap, aCons_ap, tOf_ap, tTru_ap, tAndM_ap, tOrM_ap, tNotM_ap, tYesM_ap, asB_bl, truA_b, Res.bind_ok, Res.bind_exc, Res.toS_ok, Res.toS_exc, Res.of_some, SRes.bind_nx, SRes.bind_rt, SRes.bind_exc, SRes.bind_ct, SRes.bind_bk, gN_ap, List.getElem?_cons_zero, List.getElem?_cons_succ, List.set_cons_zero, List.set_cons_succ, one1_ap, two2_ap, newL_f, newL_t, addOp_ii, subOp_ii, negOp_i, ltOp_ii, leOp_ii, gtOp_ii, geOp_ii, eqOp_ii, neOp_ii, eqOp_ss, neOp_ss, intA_i, intA_b, maxA_ii, minA_ii, lenA_lst, lenA_tup, lenA_slst, listA_lst, listA_tup, listA_slst, tupleA_lst, tupleA_tup, List.length_map, List.length_cons, List.length_nil, Bool.not_true, Bool.not_false, Bool.false_eq_true, if_true, if_false, Nat.zero_add, Nat.reduceAdd, mulOp_ii mq, mulOp_ii m2q, modOp_ii hnn, decide_eq_false c1, decide_eq_true c2, decide_eq_false c3]
        · simp only [sSeq_ap, sAsg_ap, sEx_ap, sRet_ap, sRetN_ap, sNil_ap, sIf_ap, sFor_ap, sSub_ap, sRaise_ap, mkWhat_ap, eVar_ap, eC_ap, eBin_ap, eUn_ap, eTup_ap, eLst_ap, eCB_ap, eCall_ap, eM_ap, eIf_ap, eAndV_ap, eOrV_ap, eNotV_ap, eChain_ap, eSl_ap, oNone_ap, oSome_ap, eXf_ap, aNil_ap, aCons_ap, tOf_ap, tTru_ap, tAndM_ap, tOrM_ap, tNotM_ap, tYesM_ap, asB_bl, truA_b, Res.bind_ok, Res.bind_exc, Res.toS_ok, Res.toS_exc, Res.of_some, SRes.bind_nx, SRes.bind_rt, SRes.bind_exc, SRes.bind_ct, SRes.bind_bk, gN_ap, List.getElem?_cons_zero, List.getElem?_cons_succ, List.set_cons_zero, List.set_cons_succ, one1_ap, two2_ap, newL_f, newL_t, addOp_ii, subOp_ii, negOp_i, ltOp_ii, leOp_ii, gtOp_ii, geOp_ii, eqOp_ii, neOp_ii, eqOp_ss, neOp_ss, intA_i, intA_b, maxA_ii, minA_ii, lenA_lst, lenA_tup, lenA_slst, listA_lst, listA_tup, listA_slst, tupleA_lst, tupleA_tup, List.length_map, List.length_cons, List.length_nil, Bool.not_true, Bool.not_false, Bool.false_eq_true, if_true, if_false, Nat.zero_add, Nat.reduceAdd, mulOp_ii mq, modOp_ii hnn, decide_eq_false c1, decide_eq_false c2]
    obtain ⟨hr, hs, ht, hu, hdet⟩ := Q2
    obtain ⟨y, hy⟩ : ∃ y, r ∣ y * s - 1 := by
      rcases hdet with h | h
      · exact ⟨-t, ⟨-u, by rw [Int.neg_mul, Int.mul_neg]; omega⟩⟩
      · exact ⟨t, ⟨u, by omega⟩⟩
    have hrB : r < 2 ^ 200 := by omega
    have le3 := fun st => @least_sp st r s y (by omega) hrB hy
    have bt := fun st => @both_sp st n q I r s y (by omega) hB h1 (by omega) hrB hy
    rw [N.L1] at bt
    have due : ∀ (x0 x1 x2 x3 x4 x5 x7 x8 x9 x11 x12 x15 x16 x17 x18 : Option A) (st : Store), eAndV (eBin eqOp (eVar 13) (eVar 6)) (eBin eqOp (eCall M_least_number (aCons (eVar 13) (aCons (eVar 14) aNil))) (eVar 10)) [x0, x1, x2, x3, x4, x5, some (.int n), x7, x8, x9, some (.int L), x11, x12, some (.int r), some (.int s), x15, x16, x17, x18] st = .ok (.bl (decide (n = r) && decide (L = ln r s y))) st := by
      intro x0 x1 x2 x3 x4 x5 x7 x8 x9 x11 x12 x15 x16 x17 x18 st
      by_cases h : r = n
      · have e1 : (decide (n = r) && decide (L = ln r s y)) = decide (ln r s y = L) := by rw [decide_eq_true h.symm, Bool.true_and]; exact decide_eq_decide.mpr eq_comm
        rw [e1]
        simp only [sSeq_ap, sAsg_ap, sEx_ap, sRet_ap, sRetN_ap, sNil_ap, sIf_ap, sFor_ap, sSub_ap, sRaise_ap, mkWhat_ap, eVar_ap, eC_ap, eBin_ap, eUn_ap, eTup_ap, eLst_ap, eCB_ap, eCall_ap, eM_ap, eIf_ap, eAndV_ap, eOrV_ap, eNotV_ap, eChain_ap, eSl_ap, oNone_ap, oSome_ap, eXf_ap, aNil_ap, aCons_ap, tOf_ap, tTru_ap, tAndM_ap, tOrM_ap, tNotM_ap, tYesM_ap, asB_bl, truA_b, Res.bind_ok, Res.bind_exc, Res.toS_ok, Res.toS_exc, Res.of_some, SRes.bind_nx, SRes.bind_rt, SRes.bind_exc, SRes.bind_ct, SRes.bind_bk, gN_ap, List.getElem?_cons_zero, List.getElem?_cons_succ, List.set_cons_zero, List.set_cons_succ, one1_ap, two2_ap, newL_f, newL_t, addOp_ii, subOp_ii, negOp_i, ltOp_ii, leOp_ii, gtOp_ii, geOp_ii, eqOp_ii, neOp_ii, eqOp_ss, neOp_ss, intA_i, intA_b, maxA_ii, minA_ii, lenA_lst, lenA_tup, lenA_slst, listA_lst, listA_tup, listA_slst, tupleA_lst, tupleA_tup, List.length_map, List.length_cons, List.length_nil, Bool.not_true, Bool.not_false, Bool.false_eq_true, if_true, if_false, Nat.zero_add, Nat.reduceAdd, decide_eq_true h, le3]
      · have e1 : (decide (n = r) && decide (L = ln r s y)) = false := by rw [decide_eq_false (fun z => h z.symm), Bool.false_and]
        rw [e1]
        simp only [sSeq_ap, sAsg_ap, sEx_ap, sRet_ap, sRetN_ap, sNil_ap, sIf_ap, sFor_ap, sSub_ap, sRaise_ap, mkWhat_ap, eVar_ap, eC_ap, eBin_ap, eUn_ap, eTup_ap, eLst_ap, eCB_ap, eCall_ap, eM_ap, eIf_ap, eAndV_ap, eOrV_ap, eNotV_ap, eChain_ap, eSl_ap, oNone_ap, oSome_ap, eXf_ap, aNil_ap, aCons_ap, tOf_ap, tTru_ap, tAndM_ap, tOrM_ap, tNotM_ap, tYesM_ap, asB_bl, truA_b, Res.bind_ok, Res.bind_exc, Res.toS_ok, Res.toS_exc, Res.of_some, SRes.bind_nx, SRes.bind_rt, SRes.bind_exc, SRes.bind_ct, SRes.bind_bk, gN_ap, List.getElem?_cons_zero, List.getElem?_cons_succ, List.set_cons_zero, List.set_cons_succ, one1_ap, two2_ap, newL_f, newL_t, addOp_ii, subOp_ii, negOp_i, ltOp_ii, leOp_ii, gtOp_ii, geOp_ii, eqOp_ii, neOp_ii, eqOp_ss, neOp_ss, intA_i, intA_b, maxA_ii, minA_ii, lenA_lst, lenA_tup, lenA_slst, listA_lst, listA_tup, listA_slst, tupleA_lst, tupleA_tup, List.length_map, List.length_cons, List.length_nil, Bool.not_true, Bool.not_false, Bool.false_eq_true, if_true, if_false, Nat.zero_add, Nat.reduceAdd, decide_eq_false h]
    obtain ⟨r2, b1, b2, b3, -, -⟩ := plainQ (st := st.set c (li ds4)) (@pd_bb (decide (n = r) && decide (L = ln r s y)) (decide (n = r) && decide (L = ln r s y))) (by omega)
    unfold B__law_numbers_right
    simp only [sSeq_ap]
    simp only [sSeq_ap, sAsg_ap, sIf_ap, sNil_ap, sFor_ap, mSeq_ap, sRet_ap, eVar_ap, eC_ap, eBin_ap, eUn_ap, eTup_ap, eLst_ap, eCB_ap, eCall_ap, aNil_ap, aCons_ap, tOf_ap, tOrM_ap, asB_bl, Res.bind_ok, Res.toS_ok, Res.of_some, SRes.bind_nx, SRes.bind_rt, gN_ap, List.getElem?_cons_zero, List.getElem?_cons_succ, List.set_cons_zero, List.set_cons_succ, one1_ap, two2_ap, newL_f, addOp_ii, subOp_ii, negOp_i, intA_i, minA_ii, List.length_map, List.length_cons, List.length_nil, Nat.zero_add, Nat.reduceAdd, Bool.false_eq_true, if_true, if_false, neOp_ii,
      t1, g5, l4', t2, eq, t3, mulOp_ii m1, hq, l5', five, iS, isS, modOp_ii hnn, hmn, hL, le1, le2, a1, a3, mulOp_ii m3, four, seqR_tup, srcOf_tup, lp1, hM, l2', two, lp2, cond, t4, due, bt, b1, b2]
end
end Gk20

set_option Elab.async false
set_option linter.all false
set_option maxRecDepth 100000
set_option maxHeartbeats 4000000
set_option exponentiation.threshold 3000
namespace F20
/-- how large the values are -/
theorem fw_bnd {k : Nat} {a : Int} : ∀ (n : Nat) (T : List Int), T.length = n → (∀ t ∈ T, t.natAbs < 2 ^ k) → a.natAbs < 2 ^ k → (fw T (a, 1)).1.natAbs < 2 ^ ((k + 1) * (n + 1)) ∧ (fw T (a, 1)).2.natAbs < 2 ^ ((k + 1) * (n + 1))
  | 0, T, h, ht, ha => by
    have : T = [] := List.eq_nil_of_length_eq_zero h
    subst this
    have h1 : 2 ^ k ≤ 2 ^ ((k + 1) * (0 + 1)) := Nat.pow_le_pow_right (by omega) (by omega)
    have h2 : 2 ^ 1 ≤ 2 ^ ((k + 1) * (0 + 1)) := Nat.pow_le_pow_right (by omega) (by omega)
    exact ⟨Nat.lt_of_lt_of_le ha h1, Nat.lt_of_lt_of_le (by show (1 : Nat) < 2 ^ 1; decide) h2⟩
  | n + 1, T, h, ht, ha => by
    rcases List.eq_nil_or_concat T with rfl | ⟨U, t, rfl⟩
    · cases h
    · rw [List.concat_eq_append] at h ht ⊢
      obtain ⟨h1, h2⟩ := fw_bnd n U (by simpa using h) (fun x hx => ht x (by simp [hx])) ha
      have h3 := ht t (by simp)
      rw [fw_snoc]
      have e : (k + 1) * (n + 1 + 1) = (k + (k + 1) * (n + 1)) + 1 := by rw [Nat.mul_succ (k + 1) (n + 1)]; omega
      have h4 : (t * (fw U (a, 1)).1).natAbs < 2 ^ (k + (k + 1) * (n + 1)) := by
        rw [Int.natAbs_mul, Nat.pow_add]
        exact Nat.mul_lt_mul'' h3 h1
      have h5 : (fw U (a, 1)).2.natAbs < 2 ^ (k + (k + 1) * (n + 1)) := Nat.lt_of_lt_of_le h2 (Nat.pow_le_pow_right (by omega) (by omega))
      refine ⟨?_, Nat.lt_of_lt_of_le h1 (Nat.pow_le_pow_right (by omega) (Nat.mul_le_mul_left _ (by omega)))⟩
      show ((fw U (a, 1)).2 + t * (fw U (a, 1)).1).natAbs < _
      rw [e, Nat.pow_succ]
      omega
end F20
namespace Gk20
open PySem PySem.Spec L2 SL F20
open PyProof.Rows hiding St
theorem its_of {k N : Nat} {a : Int} {T : List Int} (hT : T.length ≤ N) (ht : ∀ t ∈ T, t.natAbs < 2 ^ k) (ha : a.natAbs < 2 ^ k) (hk : (k + 1) * N ≤ 240) (hk2 : k < 240) (hN : N < 20) : Its a T where
  pre := fun i hi => by
    have h := (fw_bnd (k := k) (a := a) i (T.take i) (by rw [List.length_take]; omega) (fun t h => ht t (List.mem_of_mem_take h)) ha).1
    refine Nat.lt_of_lt_of_le h (Nat.pow_le_pow_right (by omega) ?_)
    have : (k + 1) * (i + 1) ≤ (k + 1) * N := Nat.mul_le_mul_left _ (by omega)
    omega
  fin := by
    have h := (fw_bnd (k := k) (a := a) T.length T rfl ht ha).1
    refine Nat.lt_of_lt_of_le h (Nat.pow_le_pow_right (by omega) ?_)
    have : (k + 1) * (T.length + 1) ≤ (k + 1) * (N + 1) := Nat.mul_le_mul_left _ (by omega)
    have e : (k + 1) * (N + 1) = (k + 1) * N + (k + 1) := Nat.mul_succ ..
    omega
  itm := fun t h => Nat.lt_of_lt_of_le (ht t h) (Nat.pow_le_pow_right (by omega) (by omega))
  len := by omega
section
variable {st : Store}
theorem ln_f : Str.length "fraction" < 1000 := by decide
theorem ln_i : Str.length "items" < 1000 := by decide
theorem red0 : M_reduced_fraction [.int 0, .int 0] st = .exc ⟨"InvalidTangle", ["what"], [.str "fraction"]⟩ st := by
  have lf := ln_f
  refine fnM_exc0 rfl (e := [some (.int 0), some (.int 0), none]) ?_ rfl
  show B_reduced_fraction [some (.int 0), some (.int 0), none] st = _
  simp only [B_reduced_fraction, sSeq_ap, sAsg_ap, sEx_ap, sRet_ap, sRetN_ap, sNil_ap, sIf_ap, sFor_ap, sSub_ap, sRaise_ap, mkWhat_ap, eVar_ap, eC_ap, eBin_ap, eUn_ap, eTup_ap, eLst_ap, eCB_ap, eCall_ap, eM_ap, eIf_ap, eAndV_ap, eOrV_ap, eNotV_ap, eChain_ap, eSl_ap, oNone_ap, oSome_ap, eXf_ap, aNil_ap, aCons_ap, tOf_ap, tTru_ap, tAndM_ap, tOrM_ap, tNotM_ap, tYesM_ap, asB_bl, truA_b, Res.bind_ok, Res.bind_exc, Res.toS_ok, Res.toS_exc, Res.of_some, SRes.bind_nx, SRes.bind_rt, SRes.bind_exc, SRes.bind_ct, SRes.bind_bk, gN_ap, List.getElem?_cons_zero, List.getElem?_cons_succ, List.set_cons_zero, List.set_cons_succ, one1_ap, two2_ap, newL_f, newL_t, addOp_ii, subOp_ii, negOp_i, ltOp_ii, leOp_ii, gtOp_ii, geOp_ii, eqOp_ii, neOp_ii, eqOp_ss, neOp_ss, intA_i, intA_b, maxA_ii, minA_ii, lenA_lst, lenA_tup, lenA_slst, listA_lst, listA_tup, listA_slst, tupleA_lst, tupleA_tup, List.length_map, List.length_cons, List.length_nil, Bool.not_true, Bool.not_false, Bool.false_eq_true, if_true, if_false, Nat.zero_add, Nat.reduceAdd, decide_true, lf]
theorem val0 : M_value_of [.lst []] st = .exc ⟨"InvalidTangle", ["what"], [.str "items"]⟩ st := by
  have lf := ln_i
  refine fnM_exc0 rfl (e := [some (.lst []), none, none, none]) ?_ rfl
  show B_value_of [some (.lst []), none, none, none] st = _
  have tl : truA st (.lst []) = some false := rfl
  simp only [B_value_of, tNotM_ap, tTru_ap, sSeq_ap, sAsg_ap, sEx_ap, sRet_ap, sRetN_ap, sNil_ap, sIf_ap, sFor_ap, sSub_ap, sRaise_ap, mkWhat_ap, eVar_ap, eC_ap, eBin_ap, eUn_ap, eTup_ap, eLst_ap, eCB_ap, eCall_ap, eM_ap, eIf_ap, eAndV_ap, eOrV_ap, eNotV_ap, eChain_ap, eSl_ap, oNone_ap, oSome_ap, eXf_ap, aNil_ap, aCons_ap, tOf_ap, tTru_ap, tAndM_ap, tOrM_ap, tNotM_ap, tYesM_ap, asB_bl, truA_b, Res.bind_ok, Res.bind_exc, Res.toS_ok, Res.toS_exc, Res.of_some, SRes.bind_nx, SRes.bind_rt, SRes.bind_exc, SRes.bind_ct, SRes.bind_bk, gN_ap, List.getElem?_cons_zero, List.getElem?_cons_succ, List.set_cons_zero, List.set_cons_succ, one1_ap, two2_ap, newL_f, newL_t, addOp_ii, subOp_ii, negOp_i, ltOp_ii, leOp_ii, gtOp_ii, geOp_ii, eqOp_ii, neOp_ii, eqOp_ss, neOp_ss, intA_i, intA_b, maxA_ii, minA_ii, lenA_lst, lenA_tup, lenA_slst, listA_lst, listA_tup, listA_slst, tupleA_lst, tupleA_tup, List.length_map, List.length_cons, List.length_nil, Bool.not_true, Bool.not_false, Bool.false_eq_true, if_true, if_false, Nat.zero_add, Nat.reduceAdd, tl, lf]
theorem rat0 : M_rational_expression [.lst []] st = .exc ⟨"InvalidTangle", ["what"], [.str "items"]⟩ st := by
  have lf := ln_i
  refine fnM_exc0 rfl (e := [some (.lst []), none, none]) ?_ rfl
  show B_rational_expression [some (.lst []), none, none] st = _
  have tl : truA st (.lst []) = some false := rfl
  simp only [B_rational_expression, tNotM_ap, tTru_ap, sSeq_ap, sAsg_ap, sEx_ap, sRet_ap, sRetN_ap, sNil_ap, sIf_ap, sFor_ap, sSub_ap, sRaise_ap, mkWhat_ap, eVar_ap, eC_ap, eBin_ap, eUn_ap, eTup_ap, eLst_ap, eCB_ap, eCall_ap, eM_ap, eIf_ap, eAndV_ap, eOrV_ap, eNotV_ap, eChain_ap, eSl_ap, oNone_ap, oSome_ap, eXf_ap, aNil_ap, aCons_ap, tOf_ap, tTru_ap, tAndM_ap, tOrM_ap, tNotM_ap, tYesM_ap, asB_bl, truA_b, Res.bind_ok, Res.bind_exc, Res.toS_ok, Res.toS_exc, Res.of_some, SRes.bind_nx, SRes.bind_rt, SRes.bind_exc, SRes.bind_ct, SRes.bind_bk, gN_ap, List.getElem?_cons_zero, List.getElem?_cons_succ, List.set_cons_zero, List.set_cons_succ, one1_ap, two2_ap, newL_f, newL_t, addOp_ii, subOp_ii, negOp_i, ltOp_ii, leOp_ii, gtOp_ii, geOp_ii, eqOp_ii, neOp_ii, eqOp_ss, neOp_ss, intA_i, intA_b, maxA_ii, minA_ii, lenA_lst, lenA_tup, lenA_slst, listA_lst, listA_tup, listA_slst, tupleA_lst, tupleA_tup, List.length_map, List.length_cons, List.length_nil, Bool.not_true, Bool.not_false, Bool.false_eq_true, if_true, if_false, Nat.zero_add, Nat.reduceAdd, tl, lf]
theorem memI : ("InvalidTangle" : Str) ∈ (["InvalidTangle"] : List Str) := by simp
theorem lkI : ([("InvalidTangle", true)] : List (Str × Bool)).lookup ("InvalidTangle" : Str) = some true := by decide
theorem wlk {m : Str} : ((["what"] : List Str).zip ([.str m] : List A)).lookup ("what" : Str) = some (A.str m) := by rw [List.zip_cons_cons, List.lookup_cons]; rfl
theorem ref_of {way : Int} {k : Str} (h : Y1__law_refusal [some (.int way), none] st = .exc ⟨"InvalidTangle", ["what"], [.str k]⟩ [some (.int way), none] st) : M__law_refusal [.int way] st = .ok (.str k) st := by
  refine fnM_rt rfl (a := .str k) (st' := st) ?_ (fin_pure0 bel_str (by intro c h; cases h))
  show B__law_refusal [some (.int way), none] st = _
  have ht : sTryAs [("InvalidTangle", true)] 1 Y1__law_refusal X2__law_refusal [some (.int way), none] st = .rt (.str k) st := by
    refine sTryAs_exc (x := ⟨"InvalidTangle", ["what"], [.str k]⟩) (e := [some (.int way), none]) (s := st) h lkI (fun a d => ?_)
    simp only [X2__law_refusal, sSeq_ap, sAsg_ap, sEx_ap, sRet_ap, sRetN_ap, sNil_ap, sIf_ap, sFor_ap, sSub_ap, sRaise_ap, mkWhat_ap, eVar_ap, eC_ap, eBin_ap, eUn_ap, eTup_ap, eLst_ap, eCB_ap, eCall_ap, eM_ap, eIf_ap, eAndV_ap, eOrV_ap, eNotV_ap, eChain_ap, eSl_ap, oNone_ap, oSome_ap, eXf_ap, aNil_ap, aCons_ap, tOf_ap, tTru_ap, tAndM_ap, tOrM_ap, tNotM_ap, tYesM_ap, asB_bl, truA_b, Res.bind_ok, Res.bind_exc, Res.toS_ok, Res.toS_exc, Res.of_some, SRes.bind_nx, SRes.bind_rt, SRes.bind_exc, SRes.bind_ct, SRes.bind_bk, gN_ap, List.getElem?_cons_zero, List.getElem?_cons_succ, List.set_cons_zero, List.set_cons_succ, one1_ap, two2_ap, newL_f, newL_t, addOp_ii, subOp_ii, negOp_i, ltOp_ii, leOp_ii, gtOp_ii, geOp_ii, eqOp_ii, neOp_ii, eqOp_ss, neOp_ss, intA_i, intA_b, maxA_ii, minA_ii, lenA_lst, lenA_tup, lenA_slst, listA_lst, listA_tup, listA_slst, tupleA_lst, tupleA_tup, List.length_map, List.length_cons, List.length_nil, Bool.not_true, Bool.not_false, Bool.false_eq_true, if_true, if_false, Nat.zero_add, Nat.reduceAdd, true_and, memI, if_true, wlk, clr]
  simp only [B__law_refusal, sSeq_ap, sAsg_ap, sEx_ap, sRet_ap, sRetN_ap, sNil_ap, sIf_ap, sFor_ap, sSub_ap, sRaise_ap, mkWhat_ap, eVar_ap, eC_ap, eBin_ap, eUn_ap, eTup_ap, eLst_ap, eCB_ap, eCall_ap, eM_ap, eIf_ap, eAndV_ap, eOrV_ap, eNotV_ap, eChain_ap, eSl_ap, oNone_ap, oSome_ap, eXf_ap, aNil_ap, aCons_ap, tOf_ap, tTru_ap, tAndM_ap, tOrM_ap, tNotM_ap, tYesM_ap, asB_bl, truA_b, Res.bind_ok, Res.bind_exc, Res.toS_ok, Res.toS_exc, Res.of_some, SRes.bind_nx, SRes.bind_rt, SRes.bind_exc, SRes.bind_ct, SRes.bind_bk, gN_ap, List.getElem?_cons_zero, List.getElem?_cons_succ, List.set_cons_zero, List.set_cons_succ, one1_ap, two2_ap, newL_f, newL_t, addOp_ii, subOp_ii, negOp_i, ltOp_ii, leOp_ii, gtOp_ii, geOp_ii, eqOp_ii, neOp_ii, eqOp_ss, neOp_ss, intA_i, intA_b, maxA_ii, minA_ii, lenA_lst, lenA_tup, lenA_slst, listA_lst, listA_tup, listA_slst, tupleA_lst, tupleA_tup, List.length_map, List.length_cons, List.length_nil, Bool.not_true, Bool.not_false, Bool.false_eq_true, if_true, if_false, Nat.zero_add, Nat.reduceAdd, ht]
theorem ref0 : M__law_refusal [.int 0] st = .ok (.str "fraction") st := ref_of (by
  have r := @red0 st
  simp only [Y1__law_refusal, sSeq_ap, sAsg_ap, sEx_ap, sRet_ap, sRetN_ap, sNil_ap, sIf_ap, sFor_ap, sSub_ap, sRaise_ap, mkWhat_ap, eVar_ap, eC_ap, eBin_ap, eUn_ap, eTup_ap, eLst_ap, eCB_ap, eCall_ap, eM_ap, eIf_ap, eAndV_ap, eOrV_ap, eNotV_ap, eChain_ap, eSl_ap, oNone_ap, oSome_ap, eXf_ap, aNil_ap, aCons_ap, tOf_ap, tTru_ap, tAndM_ap, tOrM_ap, tNotM_ap, tYesM_ap, asB_bl, truA_b, Res.bind_ok, Res.bind_exc, Res.toS_ok, Res.toS_exc, Res.of_some, SRes.bind_nx, SRes.bind_rt, SRes.bind_exc, SRes.bind_ct, SRes.bind_bk, gN_ap, List.getElem?_cons_zero, List.getElem?_cons_succ, List.set_cons_zero, List.set_cons_succ, one1_ap, two2_ap, newL_f, newL_t, addOp_ii, subOp_ii, negOp_i, ltOp_ii, leOp_ii, gtOp_ii, geOp_ii, eqOp_ii, neOp_ii, eqOp_ss, neOp_ss, intA_i, intA_b, maxA_ii, minA_ii, lenA_lst, lenA_tup, lenA_slst, listA_lst, listA_tup, listA_slst, tupleA_lst, tupleA_tup, List.length_map, List.length_cons, List.length_nil, Bool.not_true, Bool.not_false, Bool.false_eq_true, if_true, if_false, Nat.zero_add, Nat.reduceAdd, decide_true, r])
theorem ref1 : M__law_refusal [.int 1] st = .ok (.str "items") st := ref_of (by
  have hz := sz
  have l0 : (0 : Nat) ≤ sizeLine := by omega
  have r := @val0 st
  have d1 : decide ((1 : Int) = 0) = false := rfl
  simp only [Y1__law_refusal, sSeq_ap, sAsg_ap, sEx_ap, sRet_ap, sRetN_ap, sNil_ap, sIf_ap, sFor_ap, sSub_ap, sRaise_ap, mkWhat_ap, eVar_ap, eC_ap, eBin_ap, eUn_ap, eTup_ap, eLst_ap, eCB_ap, eCall_ap, eM_ap, eIf_ap, eAndV_ap, eOrV_ap, eNotV_ap, eChain_ap, eSl_ap, oNone_ap, oSome_ap, eXf_ap, aNil_ap, aCons_ap, tOf_ap, tTru_ap, tAndM_ap, tOrM_ap, tNotM_ap, tYesM_ap, asB_bl, truA_b, Res.bind_ok, Res.bind_exc, Res.toS_ok, Res.toS_exc, Res.of_some, SRes.bind_nx, SRes.bind_rt, SRes.bind_exc, SRes.bind_ct, SRes.bind_bk, gN_ap, List.getElem?_cons_zero, List.getElem?_cons_succ, List.set_cons_zero, List.set_cons_succ, one1_ap, two2_ap, newL_f, newL_t, addOp_ii, subOp_ii, negOp_i, ltOp_ii, leOp_ii, gtOp_ii, geOp_ii, eqOp_ii, neOp_ii, eqOp_ss, neOp_ss, intA_i, intA_b, maxA_ii, minA_ii, lenA_lst, lenA_tup, lenA_slst, listA_lst, listA_tup, listA_slst, tupleA_lst, tupleA_tup, List.length_map, List.length_cons, List.length_nil, Bool.not_true, Bool.not_false, Bool.false_eq_true, if_true, if_false, Nat.zero_add, Nat.reduceAdd, decide_true, d1, l0, r])
theorem ref2 : M__law_refusal [.int 2] st = .ok (.str "items") st := ref_of (by
  have hz := sz
  have l0 : (0 : Nat) ≤ sizeLine := by omega
  have r := @rat0 st
  have d1 : decide ((2 : Int) = 0) = false := rfl
  have d2 : decide ((2 : Int) = 1) = false := rfl
  simp only [Y1__law_refusal, sSeq_ap, sAsg_ap, sEx_ap, sRet_ap, sRetN_ap, sNil_ap, sIf_ap, sFor_ap, sSub_ap, sRaise_ap, mkWhat_ap, eVar_ap, eC_ap, eBin_ap, eUn_ap, eTup_ap, eLst_ap, eCB_ap, eCall_ap, eM_ap, eIf_ap, eAndV_ap, eOrV_ap, eNotV_ap, eChain_ap, eSl_ap, oNone_ap, oSome_ap, eXf_ap, aNil_ap, aCons_ap, tOf_ap, tTru_ap, tAndM_ap, tOrM_ap, tNotM_ap, tYesM_ap, asB_bl, truA_b, Res.bind_ok, Res.bind_exc, Res.toS_ok, Res.toS_exc, Res.of_some, SRes.bind_nx, SRes.bind_rt, SRes.bind_exc, SRes.bind_ct, SRes.bind_bk, gN_ap, List.getElem?_cons_zero, List.getElem?_cons_succ, List.set_cons_zero, List.set_cons_succ, one1_ap, two2_ap, newL_f, newL_t, addOp_ii, subOp_ii, negOp_i, ltOp_ii, leOp_ii, gtOp_ii, geOp_ii, eqOp_ii, neOp_ii, eqOp_ss, neOp_ss, intA_i, intA_b, maxA_ii, minA_ii, lenA_lst, lenA_tup, lenA_slst, listA_lst, listA_tup, listA_slst, tupleA_lst, tupleA_tup, List.length_map, List.length_cons, List.length_nil, Bool.not_true, Bool.not_false, Bool.false_eq_true, if_true, if_false, Nat.zero_add, Nat.reduceAdd, decide_true, d1, d2, l0, r])
end
section
variable {ns : List Int} {ds : List Int}
theorem T0 (ds : List Int) (k : Int) (hk : 0 < k) : ∃ d ds', 0 ≤ d ∧ d < k ∧ M__law_take [.cell 0, .int k] [li ds] = .ok (.int d) [li ds'] := by
  obtain ⟨d, ds', h1, h2, h3⟩ := tk0 (st := [li ds]) (c := 0) (ds := ds) (n := k) (by simp) hk
  exact ⟨d, ds', h1, h2, h3⟩
theorem N0 (ds : List Int) : ∃ (x : Int) (ds' : List Int), x.natAbs < 2 ^ 59 ∧ M__law_number [.cell 0] [li ds] = .ok (.int x) [li ds'] := by
  obtain ⟨d, ds', h1, h3⟩ := num_sp (st := [li ds]) (c := 0) (ds := ds) (by simp)
  exact ⟨d, ds', h1, h3⟩
/-- a list is drawn -/
theorem draw_lc {ms : AEnv → Store → Res (List A)} {me : AEnv → Store → Res A} {env : AEnv} {ds ds1 : List Int} {n : Nat} (P : Int → Prop) (hn : n < 1000) (hm : ms env [li ds] = .ok [.int (n : Int)] [li ds1]) (h : ∀ (x : A) (ds : List Int), ∃ (v : Int) (ds' : List Int), P v ∧ me ((wipeA env [8]).set 8 (some x)) [li ds] = .ok (.int v) [li ds']) :
    ∃ (vs : List Int) (ds' : List Int), vs.length = n ∧ (∀ v ∈ vs, P v) ∧ eLc false (mRng1 ms) (gN 8) [8] tYesM me env [li ds] = .ok (lI vs) [li ds'] := by
  obtain ⟨vs, ds2, h1, h2, h3⟩ := lcL_draw (all := ((List.range n).map fun (j : Nat) => (j : Int)).map A.int) (i := 8) (me := me) (env0 := wipeA env [8]) (fun ds => [li ds]) P (((List.range n).map fun (j : Nat) => (j : Int)).map A.int) [] ds1 (by simp; omega) (fun x _ ds => h x ds)
  refine ⟨vs, ds2, by simpa using h1, h2, ?_⟩
  rw [eLc_ap, rng1' (by omega) hm]
  simp only [Res.bind_ok, h3, List.nil_append, newL_f]
end
end Gk20

set_option Elab.async false
set_option linter.all false
set_option maxRecDepth 100000
set_option maxHeartbeats 4000000
set_option exponentiation.threshold 3000
namespace Gk20
open PySem PySem.Spec L2 SL F20
open PyProof.Rows hiding St
section
variable {ns : List Int} {ds : List Int}
def Ok (vs : List Int) : Prop := ∃ a T, vs = a :: T ∧ Its a T ∧ T.length ≤ 11
theorem ok_small {vs : List Int} {n : Nat} (h : vs.length = n) (h1 : 1 ≤ n) (h2 : n ≤ 12) (hv : ∀ v ∈ vs, v.natAbs < 2 ^ 3) : Ok vs := by
  cases vs with
  | nil => simp at h; omega
  | cons a T =>
    rw [List.length_cons] at h
    exact ⟨a, T, rfl, its_of (k := 3) (N := 11) (by omega) (fun t ht => hv t (by simp [ht])) (hv a (by simp)) (by omega) (by omega) (by omega), by omega⟩
theorem ok_great {vs : List Int} {n : Nat} (h : vs.length = n) (h1 : 1 ≤ n) (h2 : n ≤ 5) (hv : ∀ v ∈ vs, v.natAbs < 2 ^ 59) : Ok vs := by
  cases vs with
  | nil => simp at h; omega
  | cons a T =>
    rw [List.length_cons] at h
    exact ⟨a, T, rfl, its_of (k := 59) (N := 4) (by omega) (fun t ht => hv t (by simp [ht])) (hv a (by simp)) (by omega) (by omega) (by omega), by omega⟩
theorem turn (x2 x3 x4 x5 x6 x7 x8 x9 : Option A) : ∃ y3 y4 y5 y6 y7 ds', L3_law [some (.slst (ns.map A.int)), some (.cell 0), x2, x3, x4, x5, x6, x7, x8, x9] [li ds] = .nx [some (.slst (ns.map A.int)), some (.cell 0), x2, y3, y4, y5, y6, y7, x8, x9] [li ds'] := by
  have hz := sz
  obtain ⟨n, ds1, hn, t1⟩ := N0 ds
  obtain ⟨d, ds2, hd, t2⟩ := N0 ds1
  obtain ⟨d3, ds3, p1, p2, t3⟩ := T0 ds2 12 (by omega)
  -- the fraction
  obtain ⟨y7, key1⟩ : ∃ y7, (sIf (tOrM (tOf (eBin neOp (eVar 3) (eC (.int 0)))) (tOf (eBin neOp (eVar 4) (eC (.int 0))))) (sSeq (sAsg (gN 7) (eCall M__law_reduced (aCons (eVar 3) (aCons (eVar 4) aNil))))
      (sIf (tOrM (tOf (eBin neOp (eCall M__law_plain (aCons (eCall M_reduced_fraction (aCons (eVar 3) (aCons (eVar 4) aNil))) aNil)) (eCall M__law_plain (aCons (eVar 7) aNil)))) (tNotM (tTru (eCall M__law_terms_right (aCons (eBin ixOp (eVar 7) (eC (.int 0))) (aCons (eBin ixOp (eVar 7) (eC (.int 1))) aNil)))))) (sRet (eC (.bl false))) sNil)) sNil) [some (.slst (ns.map A.int)), some (.cell 0), x2, some (.int n), some (.int d), x5, x6, x7, x8, x9] [li ds2]
      = .nx [some (.slst (ns.map A.int)), some (.cell 0), x2, some (.int n), some (.int d), x5, x6, y7, x8, x9] [li ds2] := by
    by_cases h : n ≠ 0 ∨ d ≠ 0
    · have hn2 : n.natAbs < 2 ^ 2000 := Nat.lt_of_lt_of_le hn (Nat.pow_le_pow_right (by omega) (by omega))
      have hd1 : d.natAbs < 2 ^ 240 := Nat.lt_of_lt_of_le hd (Nat.pow_le_pow_right (by omega) (by omega))
      have hd2 : d.natAbs < 2 ^ 2000 := Nat.lt_of_lt_of_le hd (Nat.pow_le_pow_right (by omega) (by omega))
      have rl := @redL_sp [li ds2] n d h hn2 hd1
      have rp := @redP_sp [li ds2] n d h hn2 hd2
      obtain ⟨k, l, -, -, hkl, hN⟩ := red_ok h
      obtain ⟨hk, hl⟩ := red_le h hkl
      rw [hkl] at rl rp
      have tr := @right_sp [li ds2] k l hN (by omega) (by have := hN.n; omega)
      obtain ⟨r, g1, g2, g3, -, -⟩ := plainQ (st := [li ds2]) (d := 1) (a := pr (k, l)) pd_pr (by omega)
      have i0 := @ixt [li ds2] 0 [.int k, .int l] _ (by omega) rfl
      have i1 := @ixt [li ds2] 1 [.int k, .int l] _ (by omega) rfl
      refine ⟨some (pr (k, l)), ?_⟩
      by_cases h0 : n = 0
      · have h1 : ¬ d = 0 := by omega
        simp only [sSeq_ap, sAsg_ap, sEx_ap, sRet_ap, sRetN_ap, sNil_ap, sIf_ap, sFor_ap, sSub_ap, sRaise_ap, mkWhat_ap, eVar_ap, eC_ap, eBin_ap, eUn_ap, eTup_ap, eLst_ap, eCB_ap, eCall_ap, eM_ap, eIf_ap, eAndV_ap, eOrV_ap, eNotV_ap, eChain_ap, eSl_ap, oNone_ap, oSome_ap, eXf_ap, aNil_ap, aCons_ap, tOf_ap, tTru_ap, tAndM_ap, tOrM_ap, tNotM_ap, tYesM_ap, asB_bl, truA_b, Res.bind_ok, Res.bind_exc, Res.toS_ok, Res.toS_exc, Res.of_some, SRes.bind_nx, SRes.bind_rt, SRes.bind_exc, SRes.bind_ct, SRes.bind_bk, gN_ap, List.getElem?_cons_zero, List.getElem?_cons_succ, List.set_cons_zero, List.set_cons_succ, one1_ap, two2_ap, newL_f, newL_t, addOp_ii, subOp_ii, negOp_i, ltOp_ii, leOp_ii, gtOp_ii, geOp_ii, eqOp_ii, neOp_ii, eqOp_ss, neOp_ss, intA_i, intA_b, maxA_ii, minA_ii, lenA_lst, lenA_tup, lenA_slst, listA_lst, listA_tup, listA_slst, tupleA_lst, tupleA_tup, List.length_map, List.length_cons, List.length_nil, Bool.not_true, Bool.not_false, Bool.false_eq_true, if_true, if_false, Nat.zero_add, Nat.reduceAdd, tTru_ap, tNotM_ap, decide_eq_true h0, decide_eq_false h1, rl, rp, g1, g3, i0, i1, tr]
      · simp only [sSeq_ap, sAsg_ap, sEx_ap, sRet_ap, sRetN_ap, sNil_ap, sIf_ap, sFor_ap, sSub_ap, sRaise_ap, mkWhat_ap, eVar_ap, eC_ap, eBin_ap, eUn_ap, eTup_ap, eLst_ap, eCB_ap, eCall_ap, eM_ap, eIf_ap, eAndV_ap, eOrV_ap, eNotV_ap, eChain_ap, eSl_ap, oNone_ap, oSome_ap, eXf_ap, aNil_ap, aCons_ap, tOf_ap, tTru_ap, tAndM_ap, tOrM_ap, tNotM_ap, tYesM_ap, asB_bl, truA_b, Res.bind_ok, Res.bind_exc, Res.toS_ok, Res.toS_exc, Res.of_some, SRes.bind_nx, SRes.bind_rt, SRes.bind_exc, SRes.bind_ct, SRes.bind_bk, gN_ap, List.getElem?_cons_zero, List.getElem?_cons_succ, List.set_cons_zero, List.set_cons_succ, one1_ap, two2_ap, newL_f, newL_t, addOp_ii, subOp_ii, negOp_i, ltOp_ii, leOp_ii, gtOp_ii, geOp_ii, eqOp_ii, neOp_ii, eqOp_ss, neOp_ss, intA_i, intA_b, maxA_ii, minA_ii, lenA_lst, lenA_tup, lenA_slst, listA_lst, listA_tup, listA_slst, tupleA_lst, tupleA_tup, List.length_map, List.length_cons, List.length_nil, Bool.not_true, Bool.not_false, Bool.false_eq_true, if_true, if_false, Nat.zero_add, Nat.reduceAdd, tTru_ap, tNotM_ap, decide_eq_false h0, rl, rp, g1, g3, i0, i1, tr]
    · refine ⟨x7, ?_⟩
      have h0 : n = 0 := by omega
      have h1 : d = 0 := by omega
      simp only [sSeq_ap, sAsg_ap, sEx_ap, sRet_ap, sRetN_ap, sNil_ap, sIf_ap, sFor_ap, sSub_ap, sRaise_ap, mkWhat_ap, eVar_ap, eC_ap, eBin_ap, eUn_ap, eTup_ap, eLst_ap, eCB_ap, eCall_ap, eM_ap, eIf_ap, eAndV_ap, eOrV_ap, eNotV_ap, eChain_ap, eSl_ap, oNone_ap, oSome_ap, eXf_ap, aNil_ap, aCons_ap, tOf_ap, tTru_ap, tAndM_ap, tOrM_ap, tNotM_ap, tYesM_ap, asB_bl, truA_b, Res.bind_ok, Res.bind_exc, Res.toS_ok, Res.toS_exc, Res.of_some, SRes.bind_nx, SRes.bind_rt, SRes.bind_exc, SRes.bind_ct, SRes.bind_bk, gN_ap, List.getElem?_cons_zero, List.getElem?_cons_succ, List.set_cons_zero, List.set_cons_succ, one1_ap, two2_ap, newL_f, newL_t, addOp_ii, subOp_ii, negOp_i, ltOp_ii, leOp_ii, gtOp_ii, geOp_ii, eqOp_ii, neOp_ii, eqOp_ss, neOp_ss, intA_i, intA_b, maxA_ii, minA_ii, lenA_lst, lenA_tup, lenA_slst, listA_lst, listA_tup, listA_slst, tupleA_lst, tupleA_tup, List.length_map, List.length_cons, List.length_nil, Bool.not_true, Bool.not_false, Bool.false_eq_true, if_true, if_false, Nat.zero_add, Nat.reduceAdd, decide_eq_true h0, decide_eq_true h1]
  -- the short list
  obtain ⟨vs, ds4, hvl, hv, lc1⟩ := draw_lc (ms := aCons (eBin (addOp false) (eC (.int 1)) (eCall M__law_take (aCons (eVar 1) (aCons (eC (.int 12)) aNil)))) aNil) (me := e1_law) (env := [some (.slst (ns.map A.int)), some (.cell 0), x2, some (.int n), some (.int d), x5, x6, y7, x8, x9]) (ds := ds2) (ds1 := ds3) (n := (1 + d3).toNat) (fun v => v.natAbs < 2 ^ 3) (by omega) (by
      simp only [sSeq_ap, sAsg_ap, sEx_ap, sRet_ap, sRetN_ap, sNil_ap, sIf_ap, sFor_ap, sSub_ap, sRaise_ap, mkWhat_ap, eVar_ap, eC_ap, eBin_ap, eUn_ap, eTup_ap, eLst_ap, eCB_ap, eCall_ap, eM_ap, eIf_ap, eAndV_ap, eOrV_ap, eNotV_ap, eChain_ap, eSl_ap, oNone_ap, oSome_ap, eXf_ap, aNil_ap, aCons_ap, tOf_ap, tTru_ap, tAndM_ap, tOrM_ap, tNotM_ap, tYesM_ap, asB_bl, truA_b, Res.bind_ok, Res.bind_exc, Res.toS_ok, Res.toS_exc, Res.of_some, SRes.bind_nx, SRes.bind_rt, SRes.bind_exc, SRes.bind_ct, SRes.bind_bk, gN_ap, List.getElem?_cons_zero, List.getElem?_cons_succ, List.set_cons_zero, List.set_cons_succ, one1_ap, two2_ap, newL_f, newL_t, addOp_ii, subOp_ii, negOp_i, ltOp_ii, leOp_ii, gtOp_ii, geOp_ii, eqOp_ii, neOp_ii, eqOp_ss, neOp_ss, intA_i, intA_b, maxA_ii, minA_ii, lenA_lst, lenA_tup, lenA_slst, listA_lst, listA_tup, listA_slst, tupleA_lst, tupleA_tup, List.length_map, List.length_cons, List.length_nil, Bool.not_true, Bool.not_false, Bool.false_eq_true, if_true, if_false, Nat.zero_add, Nat.reduceAdd, t3]
      rw [show (((1 + d3).toNat : Nat) : Int) = 1 + d3 by omega]) (fun x ds => by
      obtain ⟨d, ds', q1, q2, t⟩ := T0 ds 9 (by omega)
      refine ⟨d - 4, ds', by omega, ?_⟩
      show e1_law [some (.slst (ns.map A.int)), some (.cell 0), x2, some (.int n), some (.int _), x5, x6, y7, some x, x9] [li ds] = _
      simp only [e1_law, sSeq_ap, sAsg_ap, sEx_ap, sRet_ap, sRetN_ap, sNil_ap, sIf_ap, sFor_ap, sSub_ap, sRaise_ap, mkWhat_ap, eVar_ap, eC_ap, eBin_ap, eUn_ap, eTup_ap, eLst_ap, eCB_ap, eCall_ap, eM_ap, eIf_ap, eAndV_ap, eOrV_ap, eNotV_ap, eChain_ap, eSl_ap, oNone_ap, oSome_ap, eXf_ap, aNil_ap, aCons_ap, tOf_ap, tTru_ap, tAndM_ap, tOrM_ap, tNotM_ap, tYesM_ap, asB_bl, truA_b, Res.bind_ok, Res.bind_exc, Res.toS_ok, Res.toS_exc, Res.of_some, SRes.bind_nx, SRes.bind_rt, SRes.bind_exc, SRes.bind_ct, SRes.bind_bk, gN_ap, List.getElem?_cons_zero, List.getElem?_cons_succ, List.set_cons_zero, List.set_cons_succ, one1_ap, two2_ap, newL_f, newL_t, addOp_ii, subOp_ii, negOp_i, ltOp_ii, leOp_ii, gtOp_ii, geOp_ii, eqOp_ii, neOp_ii, eqOp_ss, neOp_ss, intA_i, intA_b, maxA_ii, minA_ii, lenA_lst, lenA_tup, lenA_slst, listA_lst, listA_tup, listA_slst, tupleA_lst, tupleA_tup, List.length_map, List.length_cons, List.length_nil, Bool.not_true, Bool.not_false, Bool.false_eq_true, if_true, if_false, Nat.zero_add, Nat.reduceAdd, t])
  obtain ⟨d5, ds5, p3, p4, t5⟩ := T0 ds4 3 (by omega)
  obtain ⟨ws, ds6, hws, key2⟩ : ∃ (ws : List Int) (ds6 : List Int), Ok ws ∧ (sIf (tOf (eBin eqOp (eCall M__law_take (aCons (eVar 1) (aCons (eC (.int 3)) aNil))) (eC (.int 0)))) (sAsg (gN 5) (eLc false (mRng1 (aCons (eBin (addOp false) (eC (.int 1)) (eCall M__law_take (aCons (eVar 1) (aCons (eC (.int 5)) aNil)))) aNil)) (gN 8) [8] tYesM e2_law)) sNil) [some (.slst (ns.map A.int)), some (.cell 0), x2, some (.int n), some (.int d), some (lI vs), x6, y7, x8, x9] [li ds4]
      = .nx [some (.slst (ns.map A.int)), some (.cell 0), x2, some (.int n), some (.int d), some (lI ws), x6, y7, x8, x9] [li ds6] := by
    by_cases h : d5 = 0
    · obtain ⟨d6, ds6, p5, p6, t6⟩ := T0 ds5 5 (by omega)
      obtain ⟨ws, ds7, hwl, hw, lc2⟩ := draw_lc (ms := aCons (eBin (addOp false) (eC (.int 1)) (eCall M__law_take (aCons (eVar 1) (aCons (eC (.int 5)) aNil)))) aNil) (me := e2_law) (env := [some (.slst (ns.map A.int)), some (.cell 0), x2, some (.int n), some (.int d), some (lI vs), x6, y7, x8, x9]) (ds := ds5) (ds1 := ds6) (n := (1 + d6).toNat) (fun v => v.natAbs < 2 ^ 59) (by omega) (by
          simp only [sSeq_ap, sAsg_ap, sEx_ap, sRet_ap, sRetN_ap, sNil_ap, sIf_ap, sFor_ap, sSub_ap, sRaise_ap, mkWhat_ap, eVar_ap, eC_ap, eBin_ap, eUn_ap, eTup_ap, eLst_ap, eCB_ap, eCall_ap, eM_ap, eIf_ap, eAndV_ap, eOrV_ap, eNotV_ap, eChain_ap, eSl_ap, oNone_ap, oSome_ap, eXf_ap, aNil_ap, aCons_ap, tOf_ap, tTru_ap, tAndM_ap, tOrM_ap, tNotM_ap, tYesM_ap, asB_bl, truA_b, Res.bind_ok, Res.bind_exc, Res.toS_ok, Res.toS_exc, Res.of_some, SRes.bind_nx, SRes.bind_rt, SRes.bind_exc, SRes.bind_ct, SRes.bind_bk, gN_ap, List.getElem?_cons_zero, List.getElem?_cons_succ, List.set_cons_zero, List.set_cons_succ, one1_ap, two2_ap, newL_f, newL_t, addOp_ii, subOp_ii, negOp_i, ltOp_ii, leOp_ii, gtOp_ii, geOp_ii, eqOp_ii, neOp_ii, eqOp_ss, neOp_ss, intA_i, intA_b, maxA_ii, minA_ii, lenA_lst, lenA_tup, lenA_slst, listA_lst, listA_tup, listA_slst, tupleA_lst, tupleA_tup, List.length_map, List.length_cons, List.length_nil, Bool.not_true, Bool.not_false, Bool.false_eq_true, if_true, if_false, Nat.zero_add, Nat.reduceAdd, t6]
          rw [show (((1 + d6).toNat : Nat) : Int) = 1 + d6 by omega]) (fun x ds => by
          obtain ⟨v, ds', q1, t⟩ := N0 ds
          refine ⟨v, ds', q1, ?_⟩
          show e2_law [some (.slst (ns.map A.int)), some (.cell 0), x2, some (.int n), some (.int _), some (lI vs), x6, y7, some x, x9] [li ds] = _
          simp only [e2_law, sSeq_ap, sAsg_ap, sEx_ap, sRet_ap, sRetN_ap, sNil_ap, sIf_ap, sFor_ap, sSub_ap, sRaise_ap, mkWhat_ap, eVar_ap, eC_ap, eBin_ap, eUn_ap, eTup_ap, eLst_ap, eCB_ap, eCall_ap, eM_ap, eIf_ap, eAndV_ap, eOrV_ap, eNotV_ap, eChain_ap, eSl_ap, oNone_ap, oSome_ap, eXf_ap, aNil_ap, aCons_ap, tOf_ap, tTru_ap, tAndM_ap, tOrM_ap, tNotM_ap, tYesM_ap, asB_bl, truA_b, Res.bind_ok, Res.bind_exc, Res.toS_ok, Res.toS_exc, Res.of_some, SRes.bind_nx, SRes.bind_rt, SRes.bind_exc, SRes.bind_ct, SRes.bind_bk, gN_ap, List.getElem?_cons_zero, List.getElem?_cons_succ, List.set_cons_zero, List.set_cons_succ, one1_ap, two2_ap, newL_f, newL_t, addOp_ii, subOp_ii, negOp_i, ltOp_ii, leOp_ii, gtOp_ii, geOp_ii, eqOp_ii, neOp_ii, eqOp_ss, neOp_ss, intA_i, intA_b, maxA_ii, minA_ii, lenA_lst, lenA_tup, lenA_slst, listA_lst, listA_tup, listA_slst, tupleA_lst, tupleA_tup, List.length_map, List.length_cons, List.length_nil, Bool.not_true, Bool.not_false, Bool.false_eq_true, if_true, if_false, Nat.zero_add, Nat.reduceAdd, t])
      refine ⟨ws, ds7, ok_great hwl (by omega) (by omega) hw, ?_⟩
      simp only [sIf_ap, sAsg_ap, tOf_ap, eBin_ap, eCall_ap, aCons_ap, aNil_ap, eVar_ap, eC_ap, List.getElem?_cons_zero, List.getElem?_cons_succ, Res.bind_ok, t5, eqOp_ii, Res.of_some, asB_bl, Res.toS_ok, decide_eq_true h, if_true, lc2, gN_ap, List.set_cons_zero, List.set_cons_succ]
    · refine ⟨vs, ds5, ok_small hvl (by omega) (by omega) hv, ?_⟩
      simp only [sSeq_ap, sAsg_ap, sEx_ap, sRet_ap, sRetN_ap, sNil_ap, sIf_ap, sFor_ap, sSub_ap, sRaise_ap, mkWhat_ap, eVar_ap, eC_ap, eBin_ap, eUn_ap, eTup_ap, eLst_ap, eCB_ap, eCall_ap, eM_ap, eIf_ap, eAndV_ap, eOrV_ap, eNotV_ap, eChain_ap, eSl_ap, oNone_ap, oSome_ap, eXf_ap, aNil_ap, aCons_ap, tOf_ap, tTru_ap, tAndM_ap, tOrM_ap, tNotM_ap, tYesM_ap, asB_bl, truA_b, Res.bind_ok, Res.bind_exc, Res.toS_ok, Res.toS_exc, Res.of_some, SRes.bind_nx, SRes.bind_rt, SRes.bind_exc, SRes.bind_ct, SRes.bind_bk, gN_ap, List.getElem?_cons_zero, List.getElem?_cons_succ, List.set_cons_zero, List.set_cons_succ, one1_ap, two2_ap, newL_f, newL_t, addOp_ii, subOp_ii, negOp_i, ltOp_ii, leOp_ii, gtOp_ii, geOp_ii, eqOp_ii, neOp_ii, eqOp_ss, neOp_ss, intA_i, intA_b, maxA_ii, minA_ii, lenA_lst, lenA_tup, lenA_slst, listA_lst, listA_tup, listA_slst, tupleA_lst, tupleA_tup, List.length_map, List.length_cons, List.length_nil, Bool.not_true, Bool.not_false, Bool.false_eq_true, if_true, if_false, Nat.zero_add, Nat.reduceAdd, t5, decide_eq_false h]
  obtain ⟨a, T, rfl, hI, hT⟩ := hws
  have vP := @valP_sp [li ds6] a T hI
  have vL := @valL_sp [li ds6] a T hI
  obtain ⟨r, g1, g2, g3, -, -⟩ := plainQ (st := [li ds6]) (d := 1) (a := pr (red (fw T (a, 1)).1 (fw T (a, 1)).2)) pd_pr (by omega)
  have rt := @rat_sp [li ds6] a T
  have ne := @nest_sp [li ds6] a T.length 14 T rfl (by omega) (by omega)
  have ne : M__law_nested [lI (a :: T)] [li ds6] = .ok (Rx a T) [li ds6] := ne
  obtain ⟨r2, k1, k2, k3, -, -⟩ := plainQ (st := [li ds6]) (R_pd (a := a) T.length T rfl).1 (by omega)
  refine ⟨some (.int n), some (.int d), some (lI (a :: T)), some (lI (a :: T)), y7, ds6, ?_⟩
  unfold L3_law
  simp only [sSeq_ap]
  simp only [sSeq_ap, sAsg_ap, eCall_ap, aCons_ap, aNil_ap, eVar_ap, List.getElem?_cons_zero, List.getElem?_cons_succ, Res.bind_ok, t1, t2, Res.toS_ok, gN_ap, List.set_cons_zero, List.set_cons_succ, SRes.bind_nx]
  rw [key1]
  simp only [SRes.bind_nx, sSeq_ap, sAsg_ap, lc1, Res.toS_ok, gN_ap, List.set_cons_zero, List.set_cons_succ]
  rw [key2]
  simp only [SRes.bind_nx, sSeq_ap, sAsg_ap, sEx_ap, sRet_ap, sRetN_ap, sNil_ap, sIf_ap, sFor_ap, sSub_ap, sRaise_ap, mkWhat_ap, eVar_ap, eC_ap, eBin_ap, eUn_ap, eTup_ap, eLst_ap, eCB_ap, eCall_ap, eM_ap, eIf_ap, eAndV_ap, eOrV_ap, eNotV_ap, eChain_ap, eSl_ap, oNone_ap, oSome_ap, eXf_ap, aNil_ap, aCons_ap, tOf_ap, tTru_ap, tAndM_ap, tOrM_ap, tNotM_ap, tYesM_ap, asB_bl, truA_b, Res.bind_ok, Res.bind_exc, Res.toS_ok, Res.toS_exc, Res.of_some, SRes.bind_nx, SRes.bind_rt, SRes.bind_exc, SRes.bind_ct, SRes.bind_bk, gN_ap, List.getElem?_cons_zero, List.getElem?_cons_succ, List.set_cons_zero, List.set_cons_succ, one1_ap, two2_ap, newL_f, newL_t, addOp_ii, subOp_ii, negOp_i, ltOp_ii, leOp_ii, gtOp_ii, geOp_ii, eqOp_ii, neOp_ii, eqOp_ss, neOp_ss, intA_i, intA_b, maxA_ii, minA_ii, lenA_lst, lenA_tup, lenA_slst, listA_lst, listA_tup, listA_slst, tupleA_lst, tupleA_tup, List.length_map, List.length_cons, List.length_nil, Bool.not_true, Bool.not_false, Bool.false_eq_true, if_true, if_false, Nat.zero_add, Nat.reduceAdd, vP, g1, vL, g3, rt, k1, ne, k3, neOp_lI, decide_true]
end
theorem hlaw : ∀ ns : List Int, ns.length ≤ 63 → ∃ st, M_law [.slst (ns.map A.int)] [] = .ok (.bl true) st := by
  intro ns hns
  have hz := sz
  have l3' : (3 : Nat) ≤ sizeLine := by omega
  obtain ⟨ds0, -, hd⟩ := deck_spec hns 50 14 (by omega) (by omega)
  have hd : M__law_deck [.slst (ns.map A.int), .int 50, .int 14] [] = .ok (.cell 0) [li ds0] := hd
  obtain ⟨e, s, lp, x2, x3, x4, x5, x6, x7, ds1, rfl, rfl⟩ := for_inv (all := ((List.range 4).map fun (j : Nat) => (j : Int)).map A.int) (g := gN 2) (body := L3_law) (xs := ((List.range 4).map fun (j : Nat) => (j : Int)).map A.int)
    (fun i e s => ∃ x2 x3 x4 x5 x6 x7 ds, e = [some (.slst (ns.map A.int)), some (.cell 0), x2, x3, x4, x5, x6, x7, none, none] ∧ s = [li ds])
    (env := [some (.slst (ns.map A.int)), some (.cell 0), none, none, none, none, none, none, none, none]) (st := [li ds0]) ⟨_, _, _, _, _, _, ds0, rfl, rfl⟩ (by
      rintro i a e s hx ⟨x2, x3, x4, x5, x6, x7, ds, rfl, rfl⟩
      obtain ⟨y3, y4, y5, y6, y7, ds', h⟩ := turn (ns := ns) (ds := ds) (some a) x3 x4 x5 x6 x7 none none
      refine ⟨_, rfl, ?_⟩
      simp only [List.set_cons_succ, List.set_cons_zero, h, NxP_nx]
      exact ⟨_, _, _, _, _, _, _, rfl, rfl⟩)
  obtain ⟨ds2, nr⟩ := numbers_sp (st := [li ds1]) (c := 0) (ds := ds1) (by simp)
  simp only [List.set_cons_zero] at nr
  have er : mRng1 (aCons (eC (.int 4)) aNil) [some (.slst (ns.map A.int)), some (.cell 0), none, none, none, none, none, none, none, none] [li ds0] = .ok (((List.range 4).map fun (j : Nat) => (j : Int)).map A.int, none) [li ds0] := rng1 (by omega) (by simp)
  have er2 : mRng1 (aCons (eC (.int 3)) aNil) [some (.slst (ns.map A.int)), some (.cell 0), x2, x3, x4, x5, x6, x7, none, none] [li ds2] = .ok (((List.range 3).map fun (j : Nat) => (j : Int)).map A.int, none) [li ds2] := rng1 (by omega) (by simp)
  have lc : eLc false (mRng1 (aCons (eC (.int 3)) aNil)) (gN 9) [9] tYesM e4_law [some (.slst (ns.map A.int)), some (.cell 0), x2, x3, x4, x5, x6, x7, none, none] [li ds2] = .ok (.lst [.str "fraction", .str "items", .str "items"]) [li ds2] := by
    have h := lcL_map (all := ((List.range 3).map fun (j : Nat) => (j : Int)).map A.int) (g := gN 9) (me := e4_law) (mt := tYesM) (env0 := wipeA [some (.slst (ns.map A.int)), some (.cell 0), x2, x3, x4, x5, x6, x7, none, none] [9]) (st := [li ds2]) (fun _ => true) (fun a => match a with | .int i => if i = 0 then .str "fraction" else .str "items" | a => a) (((List.range 3).map fun (j : Nat) => (j : Int)).map A.int) [] (fun x hx => by
      obtain ⟨i, hi, rfl⟩ := List.mem_map.mp hx
      obtain ⟨j, hj, rfl⟩ := List.mem_map.mp hi
      rw [List.mem_range] at hj
      refine ⟨[some (.slst (ns.map A.int)), some (.cell 0), x2, x3, x4, x5, x6, x7, none, some (.int (j : Int))], rfl, rfl, fun _ => ?_⟩
      rcases (by omega : j = 0 ∨ j = 1 ∨ j = 2) with rfl | rfl | rfl
      · have r := @ref0 [li ds2]
        show e4_law [some (.slst (ns.map A.int)), some (.cell 0), x2, x3, x4, x5, x6, x7, none, some (.int 0)] [li ds2] = _
        simp only [e4_law, sSeq_ap, sAsg_ap, sEx_ap, sRet_ap, sRetN_ap, sNil_ap, sIf_ap, sFor_ap, sSub_ap, sRaise_ap, mkWhat_ap, eVar_ap, eC_ap, eBin_ap, eUn_ap, eTup_ap, eLst_ap, eCB_ap, eCall_ap, eM_ap, eIf_ap, eAndV_ap, eOrV_ap, eNotV_ap, eChain_ap, eSl_ap, oNone_ap, oSome_ap, eXf_ap, aNil_ap, aCons_ap, tOf_ap, tTru_ap, tAndM_ap, tOrM_ap, tNotM_ap, tYesM_ap, asB_bl, truA_b, Res.bind_ok, Res.bind_exc, Res.toS_ok, Res.toS_exc, Res.of_some, SRes.bind_nx, SRes.bind_rt, SRes.bind_exc, SRes.bind_ct, SRes.bind_bk, gN_ap, List.getElem?_cons_zero, List.getElem?_cons_succ, List.set_cons_zero, List.set_cons_succ, one1_ap, two2_ap, newL_f, newL_t, addOp_ii, subOp_ii, negOp_i, ltOp_ii, leOp_ii, gtOp_ii, geOp_ii, eqOp_ii, neOp_ii, eqOp_ss, neOp_ss, intA_i, intA_b, maxA_ii, minA_ii, lenA_lst, lenA_tup, lenA_slst, listA_lst, listA_tup, listA_slst, tupleA_lst, tupleA_tup, List.length_map, List.length_cons, List.length_nil, Bool.not_true, Bool.not_false, Bool.false_eq_true, if_true, if_false, Nat.zero_add, Nat.reduceAdd, r]; rfl
      · have r := @ref1 [li ds2]
        show e4_law [some (.slst (ns.map A.int)), some (.cell 0), x2, x3, x4, x5, x6, x7, none, some (.int 1)] [li ds2] = _
        simp only [e4_law, sSeq_ap, sAsg_ap, sEx_ap, sRet_ap, sRetN_ap, sNil_ap, sIf_ap, sFor_ap, sSub_ap, sRaise_ap, mkWhat_ap, eVar_ap, eC_ap, eBin_ap, eUn_ap, eTup_ap, eLst_ap, eCB_ap, eCall_ap, eM_ap, eIf_ap, eAndV_ap, eOrV_ap, eNotV_ap, eChain_ap, eSl_ap, oNone_ap, oSome_ap, eXf_ap, aNil_ap, aCons_ap, tOf_ap, tTru_ap, tAndM_ap, tOrM_ap, tNotM_ap, tYesM_ap, asB_bl, truA_b, Res.bind_ok, Res.bind_exc, Res.toS_ok, Res.toS_exc, Res.of_some, SRes.bind_nx, SRes.bind_rt, SRes.bind_exc, SRes.bind_ct, SRes.bind_bk, gN_ap, List.getElem?_cons_zero, List.getElem?_cons_succ, List.set_cons_zero, List.set_cons_succ, one1_ap, two2_ap, newL_f, newL_t, addOp_ii, subOp_ii, negOp_i, ltOp_ii, leOp_ii, gtOp_ii, geOp_ii, eqOp_ii, neOp_ii, eqOp_ss, neOp_ss, intA_i, intA_b, maxA_ii, minA_ii, lenA_lst, lenA_tup, lenA_slst, listA_lst, listA_tup, listA_slst, tupleA_lst, tupleA_tup, List.length_map, List.length_cons, List.length_nil, Bool.not_true, Bool.not_false, Bool.false_eq_true, if_true, if_false, Nat.zero_add, Nat.reduceAdd, r]; rfl
      · have r := @ref2 [li ds2]
        show e4_law [some (.slst (ns.map A.int)), some (.cell 0), x2, x3, x4, x5, x6, x7, none, some (.int 2)] [li ds2] = _
        simp only [e4_law, sSeq_ap, sAsg_ap, sEx_ap, sRet_ap, sRetN_ap, sNil_ap, sIf_ap, sFor_ap, sSub_ap, sRaise_ap, mkWhat_ap, eVar_ap, eC_ap, eBin_ap, eUn_ap, eTup_ap, eLst_ap, eCB_ap, eCall_ap, eM_ap, eIf_ap, eAndV_ap, eOrV_ap, eNotV_ap, eChain_ap, eSl_ap, oNone_ap, oSome_ap, eXf_ap, aNil_ap, aCons_ap, tOf_ap, tTru_ap, tAndM_ap, tOrM_ap, tNotM_ap, tYesM_ap, asB_bl, truA_b, Res.bind_ok, Res.bind_exc, Res.toS_ok, Res.toS_exc, Res.of_some, SRes.bind_nx, SRes.bind_rt, SRes.bind_exc, SRes.bind_ct, SRes.bind_bk, gN_ap, List.getElem?_cons_zero, List.getElem?_cons_succ, List.set_cons_zero, List.set_cons_succ, one1_ap, two2_ap, newL_f, newL_t, addOp_ii, subOp_ii, negOp_i, ltOp_ii, leOp_ii, gtOp_ii, geOp_ii, eqOp_ii, neOp_ii, eqOp_ss, neOp_ss, intA_i, intA_b, maxA_ii, minA_ii, lenA_lst, lenA_tup, lenA_slst, listA_lst, listA_tup, listA_slst, tupleA_lst, tupleA_tup, List.length_map, List.length_cons, List.length_nil, Bool.not_true, Bool.not_false, Bool.false_eq_true, if_true, if_false, Nat.zero_add, Nat.reduceAdd, r]; rfl) (by simp; omega)
    rw [eLc_ap, er2]
    simp only [Res.bind_ok, h]
    rfl
  have sf : PyData.strOk "fraction" = true := by decide +kernel
  have si : PyData.strOk "items" = true := by decide +kernel
  have eq : eqOp (.lst [.str "fraction", .str "items", .str "items"]) (.lst [.str "fraction", .str "items", .str "items"]) [li ds2] = some (.bl true, [li ds2]) := eqOp_same (dt_lst fun x hx => by
    simp only [List.mem_cons, List.not_mem_nil, or_false] at hx
    rcases hx with rfl | rfl | rfl
    · exact dt_str (by simp only [PyData.canLay0]; exact sf)
    · exact dt_str (by simp only [PyData.canLay0]; exact si)
    · exact dt_str (by simp only [PyData.canLay0]; exact si))
  refine ⟨[], fnM_rt rfl (a := .bl true) (st' := [li ds2]) ?_ (finA_pure (st := []) (l := [li ds2]) (by simp [A.bel]) (by intro c h; cases h))⟩
  show B_law [some (.slst (ns.map A.int)), none, none, none, none, none, none, none, none, none] [] = _
  simp only [B_law, tNotM_ap, tTru_ap, sSeq_ap, sAsg_ap, sEx_ap, sRet_ap, sRetN_ap, sNil_ap, sIf_ap, sFor_ap, sSub_ap, sRaise_ap, mkWhat_ap, eVar_ap, eC_ap, eBin_ap, eUn_ap, eTup_ap, eLst_ap, eCB_ap, eCall_ap, eM_ap, eIf_ap, eAndV_ap, eOrV_ap, eNotV_ap, eChain_ap, eSl_ap, oNone_ap, oSome_ap, eXf_ap, aNil_ap, aCons_ap, tOf_ap, tTru_ap, tAndM_ap, tOrM_ap, tNotM_ap, tYesM_ap, asB_bl, truA_b, Res.bind_ok, Res.bind_exc, Res.toS_ok, Res.toS_exc, Res.of_some, SRes.bind_nx, SRes.bind_rt, SRes.bind_exc, SRes.bind_ct, SRes.bind_bk, gN_ap, List.getElem?_cons_zero, List.getElem?_cons_succ, List.set_cons_zero, List.set_cons_succ, one1_ap, two2_ap, newL_f, newL_t, addOp_ii, subOp_ii, negOp_i, ltOp_ii, leOp_ii, gtOp_ii, geOp_ii, eqOp_ii, neOp_ii, eqOp_ss, neOp_ss, intA_i, intA_b, maxA_ii, minA_ii, lenA_lst, lenA_tup, lenA_slst, listA_lst, listA_tup, listA_slst, tupleA_lst, tupleA_tup, List.length_map, List.length_cons, List.length_nil, Bool.not_true, Bool.not_false, Bool.false_eq_true, if_true, if_false, Nat.zero_add, Nat.reduceAdd, hd, er, lp, nr, lc, l3', eq]
end Gk20


theorem PySem.Challenge.cw_knotwork_k20_fractions_and_numbers_holds : PySem.Challenge.rw_knotwork_k20_fractions_and_numbers.Holds := by
  exact Gk20.holds_of Gk20.hlaw
